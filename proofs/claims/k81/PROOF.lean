import PyProof.Rows.All
import Wide.All
import OpenK.AllK
import Wide.FinOn
import HandS.ForMost
import HandS.Walk
import HandS.Defaults
import HandS.IsInst
import HandS.DictComp
import HandS.DictTup
import HandS.Conv
import HandS.Flow
import HandS.Style
import HandS.Wide
import HandS.WideMore
import HandS.WideBits
import HandS.Zip
import HandS.Small
import HandS.HeadEnd
import HandS.HeadHook1
import HandS.HeadHook2
import HandS.HeadHook3
import HandS.Head0
import HandS.Head1
import HandS.Head2
import HandS.TupAny
import KE.KOpsOwn
import KE.KDictDisplayH
import KE.GoesEnum
import HandS.MakeKwOnly
import PyProof.ReprRoads
import HandS.EndBits
import KE.KeyNested
import HandS.TupLen
import HandS.Property
import KE.GoesZip
import KE.GoesMore
import HandS.Deep
import HandS.DeepEq
import HandS.OwnEq
import HandS.RaiseMore
import PyProof.CallFns
import PyProof.ReprBulk
import PySem.Challenge.RW_fixrest_k81_whole_machines_of_loose_fixe
section
set_option Elab.async false
set_option linter.all false
set_option maxRecDepth 100000
set_option maxHeartbeats 4000000
namespace Fx
open PySem PySem.Spec PyProof.Rows L2

/-! ## the head: facts looked up by a Hook of our own -/
section Head
open He
/-- facts by names, defs, and any further look at the written part -/
def obsC (fa : List Fa) (fn : List DefD) (ex : PySem.W.Frag → Bool) (K : PySem.W.Frag) : AlD :=
  ((fa.all fun f => f.ok K) && ((fn.all fun d => d.ok K) && ex K), fn.map fun d => fnW K d.at_)
def valC (fn : List DefD) : AlD := (true, fn.map DefD.val)
def lookC (n : Nat) (fa : List Fa) (fn : List DefD) (ex : PySem.W.Frag → Bool) (g : Addr → Option Obj) : AlD := obsC fa fn ex (frG g (asD g n))
def hookC (n : Nat) (fa : List Fa) (fn : List DefD) (ex : PySem.W.Frag → Bool) : PySem.W.Hook where
  α := AlD
  obs := fun s => lookC n fa fn ex s.heap.get?
  val := fun _ => valC fn
  says := fun _ h => ∃ K : PySem.W.Frag, K.In h ∧ obsC fa fn ex K = valC fn
  of := fun _ _ e => ⟨_, frG_in, e⟩
  keeps := fun _ _ _ z k => z.elim fun K q => ⟨K, PySem.W.Frag.In.keeps q.1 k, q.2⟩
theorem lookC_eq {n : Nat} {fa : List Fa} {fn : List DefD} {ex : PySem.W.Frag → Bool} {g : Addr → Option Obj} {s : Shared} (h : ∀ a, g a = s.heap.get? a) :
    lookC n fa fn ex g = (hookC n fa fn ex).obs s := by
  obtain rfl : g = s.heap.get? := funext h
  rfl
section
variable {fa : List Fa} {fn : List DefD} {ex : PySem.W.Frag → Bool} {K : PySem.W.Frag}
theorem says_all (c : obsC fa fn ex K = valC fn) : (fa.all fun f => f.ok K) = true ∧ (fn.all fun d => d.ok K) = true ∧ ex K = true := by
  have h1 : ((fa.all fun f => f.ok K) && ((fn.all fun d => d.ok K) && ex K)) = true := congrArg (fun z : AlD => z.1) c
  have h2 := ba h1
  have h3 := ba h2.2
  exact ⟨h2.1, h3.1, h3.2⟩
theorem says_fact (c : obsC fa fn ex K = valC fn) (i : Nat) {f : Fa} (h : fa[i]? = some f := by rfl) : f.ok K = true :=
  List.all_eq_true.mp (says_all c).1 f (List.mem_of_getElem? h)
/-- the function object that stands at an address -/
def fdOf (K : PySem.W.Frag) (f : Addr) : FuncData := match K.lookup f with
  | some ⟨_, _, .func fd, _⟩ => fd
  | _ => PySem.W.fnOf "" "" ⟨[], [], none, [], [], none, []⟩ [] ⟨.function, [], false, false, []⟩ .none .none .none .none none .none .none
theorem fdOf_eq {x qual : Str} {params : Arguments} {body : List Stmt} {scope : Scope} {dvs : List V} {kws : List (Str × V)} {f : Addr} {fd : FuncData} (F : FunD K x qual params body scope dvs kws f fd) : fdOf K f = fd := by
  obtain ⟨oc, od, dV, kV, doc, pm, an, cdv, ct, osl, e, lk, _⟩ := F.ex
  unfold fdOf
  rw [lk]
theorem says_def (c : obsC fa fn ex K = valC fn) (i : Nat) {d : DefD} (h : fn[i]? = some d := by rfl) :
    FunD K d.name d.qual d.params d.body d.scope (d.dvs K) (d.kws K) (fAd K d.at_) (fdOf K (fAd K d.at_)) := by
  have e : fn.map (fun d => fnW K d.at_) = fn.map DefD.val := congrArg (fun z : AlD => z.2) c
  have e2 : (fn.map fun d => fnW K d.at_)[i]? = (fn.map DefD.val)[i]? := by rw [e]
  rw [List.getElem?_map, List.getElem?_map, h] at e2
  obtain ⟨fd, F⟩ := DefD.funD (Option.some.inj e2) (List.all_eq_true.mp (says_all c).2.1 d (List.mem_of_getElem? h))
  rw [fdOf_eq F]
  exact F
end
end Head

/-! ## short words -/
/-- the def found by a path keeps a promise -/
abbrev Ok (P : Program) (w : World) (K : PySem.W.Frag) (mg : Str → Option Value) (base : Heap) (k : Nat) (p : Str × Option Str) (ps : List Str) (sp : Sp) : Prop :=
  FnOk P w K mg base CX0 k (He.fAd K p) (fdOf K (He.fAd K p)) ps sp
abbrev IsFn (K : PySem.W.Frag) (p : Str × Option Str) (x qual : Str) (st : Stmt) (dvs : List V) : Prop :=
  FunD K x qual (defArgs st) (defBody st) (defScope st) dvs [] (He.fAd K p) (fdOf K (He.fAd K p))

/-- all that was tracked, but at W, is as it was -/
def SameX (W : List Addr) (H H' : Hp) : Prop := ∀ b o, b ∉ W → H b = some o → H' b = some o
theorem same_toX {H H' : Hp} (s : Same H H') (W : List Addr) : SameX W H H' := fun b o _ e => s b o e
theorem SameX.refl (W : List Addr) (H : Hp) : SameX W H H := fun _ _ _ e => e
theorem SameX.trans {W : List Addr} {H H1 H2 : Hp} (a : SameX W H H1) (b : SameX W H1 H2) : SameX W H H2 := fun c o h e => b c o h (a c o h e)
theorem SameX.mono {W W' : List Addr} {H H1 : Hp} (a : SameX W H H1) (h : ∀ b ∈ W, b ∈ W') : SameX W' H H1 := fun c o n e => a c o (fun q => n (h c q)) e
theorem SameX.nil {H H1 : Hp} (a : SameX [] H H1) : Same H H1 := fun c o e => a c o (by simp) e
theorem same_new {H : Hp} {a : Addr} {o : HO} (h : H a = none) : Same H (upd H a o) := fun b u e => by rw [upd_ne (ne_of_none e h)]; exact e
theorem same_upd {H H' : Hp} {a : Addr} {o : HO} (s : Same H H') (h : H a = none) : Same H (upd H' a o) := fun b u e => by rw [upd_ne (ne_of_none e h)]; exact s b u e
theorem samex_upd {W : List Addr} {H H' : Hp} {a : Addr} {o : HO} (s : SameX W H H') (h : a ∈ W ∨ H a = none) : SameX W H (upd H' a o) := fun b u n e => by
  have : b ≠ a := by
    rcases h with h | h
    · intro q; subst q; exact n h
    · exact ne_of_none e h
  rw [upd_ne this]; exact s b u n e
theorem same_none {H H' : Hp} (s : Same H H') {a : Addr} (h : H' a = Option.none) : H a = Option.none := Same.free s h

/-- the heap without what may change -/
def hide (W : List Addr) (H : Hp) : Hp := fun b => if b ∈ W then none else H b
theorem hide_sub (W : List Addr) (H : Hp) : Same (hide W H) H := fun b o e => by
  unfold hide at e; split at e
  · cases e
  · exact e
theorem hide_nil (H : Hp) : hide [] H = H := by funext b; unfold hide; simp
theorem hide_samex {W X : List Addr} {H H' : Hp} (s : SameX X H H') (h : ∀ b ∈ X, b ∈ W) : Same (hide W H) (hide W H') := fun b o e => by
  unfold hide at e ⊢; split at e
  · cases e
  · rename_i n; rw [if_neg n]; exact s b o (fun q => n (h b q)) e
theorem hide_same {W : List Addr} {H H' : Hp} (s : Same H H') : Same (hide W H) (hide W H') := hide_samex (same_toX s []) (fun _ h => absurd h (by simp))
theorem hide_more {W W' : List Addr} {H : Hp} (h : ∀ b ∈ W', b ∈ W ∨ H b = none) : Same (hide W H) (hide W' H) := fun b o e => by
  unfold hide at e ⊢; split at e
  · cases e
  · rename_i n
    rw [if_neg]
    · exact e
    · intro q
      rcases h b q with z | z
      · exact n z
      · rw [z] at e; cases e
theorem hide_at {W : List Addr} {H : Hp} {a : Addr} {o : HO} (h : H a = some o) (n : a ∉ W) : hide W H a = some o := by unfold hide; rw [if_neg n]; exact h

/-! ## deep data -/
theorem seq_mono {K : PySem.W.Frag} {H H' : Hp} {a : Addr} {xs : List V} (s : Same H H') (h : SqL K H a xs) : SqL K H' a xs := Same.seq s h
theorem sqt_mono {K : PySem.W.Frag} {H H' : Hp} {a : Addr} {xs : List V} (s : Same H H') (h : SqT K H a xs) : SqT K H' a xs := by
  rcases h with (h | ⟨o, h⟩) | h
  · exact .inl (.inl (s _ _ h))
  · exact .inl (.inr ⟨o, s _ _ h⟩)
  · exact .inr h
mutual
theorem dp_mono {K : PySem.W.Frag} {H H' : Hp} (s : Same H H') : ∀ {d : PyData} {v : V}, Dp K H v d → Dp K H' v d
  | _, _, .non => .non
  | _, _, .bl b => .bl b
  | _, _, .int i => .int i
  | _, _, .str x => .str x
  | _, _, .lst h r => .lst (seq_mono s h) (dpall_mono s r)
  | _, _, .tup h r => .tup (sqt_mono s h) (dpall_mono s r)
theorem dpall_mono {K : PySem.W.Frag} {H H' : Hp} (s : Same H H') : ∀ {ds : List PyData} {vs : List V}, DpAll K H vs ds → DpAll K H' vs ds
  | _, _, .nil => .nil
  | _, _, .cons h r => .cons (dp_mono s h) (dpall_mono s r)
end
end Fx
end

section
set_option Elab.async false
set_option linter.all false
set_option maxRecDepth 100000
set_option maxHeartbeats 4000000
namespace Fx
open PySem PySem.Spec PyProof.Rows L2
section
variable {X : Cx}
theorem pe_globI {x : Str} {n : Int} {pos : Pos} (hg : Gl X x) (hm : ∃ t, X.mg x = some (.int n t)) (hd : (x == ("__debug__" : Str)) = false := by decide) : PE X (.Name x pos) (tC (.int n)) :=
  hm.elim fun t h => pe_glob hg h ⟨t, rfl⟩ hd
theorem pe_globS {x : Str} {z : Str} {pos : Pos} (hg : Gl X x) (hm : ∃ t, X.mg x = some (.str z t)) (hd : (x == ("__debug__" : Str)) = false := by decide) : PE X (.Name x pos) (tC (.str z)) :=
  hm.elim fun t h => pe_glob hg h ⟨t, rfl⟩ hd
end
/-! ### loops over enumerate, zip -/
section
variable {K : PySem.W.Frag} {a b : Addr} {xs ys : List V} {tgs : TGs} {tb : TS} {D : Ends} {σ : L2.St} {H : Hp}
theorem for_enumL (Pv : Nat → L2.St → Hp → Prop) (h0 : Pv 0 σ H) (hG : ∀ i σ H, i ≤ xs.length → Pv i σ H → SqL K H a xs)
    (hs : ∀ i x σ H T, xs[i]? = some x → Pv i σ H → H T = none → tgs [.int (i : Nat), x] σ (upd H T (.tup [.int (i : Nat), x])) fun σ2 H2 => tb { D with nx := Pv (i + 1), ct := Pv (i + 1), bk := D.nx } σ2 H2)
    (hd : ∀ σ H, Pv xs.length σ H → D.nx σ H) :
    ∃ W : Nat → Nat → L2.St → Hp → Prop, (∃ m, W 0 m σ H) ∧ ∀ i m σ H, W i m σ H →
      ((Ite K a).stop i H ∧ D.nx σ H) ∨ ((Ite K a).go i H ∧ ∃ N : L2.St → Hp → Prop, (∀ σ' H', N σ' H' → ∃ m', m' < m ∧ W (i + 1) m' σ' H') ∧ ∀ x H', (Ite K a).yld i H x H' → gTup K 2 tgs x σ H' fun σ2 H2 => tb { D with nx := N, ct := N, bk := D.nx } σ2 H2) :=
  for_it walk_enum Pv h0 hG (fun i v σ H H' hi p y => by
    obtain ⟨T, x, z, rfl, hT, rfl, hx, hz⟩ := y
    cases hx
    exact ⟨T, _, rfl, .inl (.inl upd_same), rfl, hs i z σ H T hz p hT⟩) hd
theorem for_zipLL (Pv : Nat → L2.St → Hp → Prop) (h0 : Pv 0 σ H) (hG : ∀ i σ H, i ≤ min xs.length ys.length → Pv i σ H → SqL K H a xs ∧ SqL K H b ys)
    (hs : ∀ i x y σ H T, xs[i]? = some x → ys[i]? = some y → Pv i σ H → H T = none → tgs [x, y] σ (upd H T (.tup [x, y])) fun σ2 H2 => tb { D with nx := Pv (i + 1), ct := Pv (i + 1), bk := D.nx } σ2 H2)
    (hd : ∀ σ H, Pv (min xs.length ys.length) σ H → D.nx σ H) :
    ∃ W : Nat → Nat → L2.St → Hp → Prop, (∃ m, W 0 m σ H) ∧ ∀ i m σ H, W i m σ H →
      ((Itz K a b).stop i H ∧ D.nx σ H) ∨ ((Itz K a b).go i H ∧ ∃ N : L2.St → Hp → Prop, (∀ σ' H', N σ' H' → ∃ m', m' < m ∧ W (i + 1) m' σ' H') ∧ ∀ x H', (Itz K a b).yld i H x H' → gTup K 2 tgs x σ H' fun σ2 H2 => tb { D with nx := N, ct := N, bk := D.nx } σ2 H2) :=
  for_it (walk_zip rfl) Pv h0 hG (fun i v σ H H' hi p y => by
    obtain ⟨T, x, z, rfl, hT, rfl, hx, hz⟩ := y
    exact ⟨T, _, rfl, .inl (.inl upd_same), rfl, hs i x z σ H T hx hz p hT⟩) hd
end
/-! ### comprehensions over enumerate, zip -/
section
variable {K : PySem.W.Frag} {a b : Addr} {xs ys : List V} {tgs : TGs} {tt : TT} {te : TE} {vs : List Nat} {σ : L2.St} {H1 : Hp} {D : Addr} {Qd : Hp → Prop}
theorem lc_zipLL (Pv : Nat → Hp → Prop) (h0 : Pv 0 (upd H1 D (.lst []))) (hG : ∀ i H, i ≤ min xs.length ys.length → Pv i H → SqL K H a xs ∧ SqL K H b ys)
    (hs : ∀ i x y H T, xs[i]? = some x → ys[i]? = some y → Pv i H → H T = none → tgs [x, y] (wipe σ vs) (upd H T (.tup [x, y])) fun σ2 H2 => wipe σ2 vs = wipe σ vs ∧ tt σ2 H2 fun b H3 =>
      if b = true then te σ2 H3 fun y H4 => ∃ acc, H4 D = some (.lst acc) ∧ acc.length < sizeLine ∧ Pv (i + 1) (upd H4 D (.lst (acc ++ [y]))) else Pv (i + 1) H3) (hd : ∀ H, Pv (min xs.length ys.length) H → Qd H) :
    ∃ W : Nat → Nat → Hp → Prop, (∃ m, W 0 m (upd H1 D (.lst []))) ∧ ∀ i m H, W i m H →
      ((Itz K a b).stop i H ∧ Qd H) ∨ ((Itz K a b).go i H ∧ ∃ Nx : Hp → Prop, (∀ H', Nx H' → ∃ m', m' < m ∧ W (i + 1) m' H') ∧ ∀ x H', (Itz K a b).yld i H x H' → gTup K 2 tgs x (wipe σ vs) H' fun σ2 H2 => wipe σ2 vs = wipe σ vs ∧ tt σ2 H2 fun b H3 =>
        if b = true then te σ2 H3 fun y H4 => ∃ acc, H4 D = some (.lst acc) ∧ acc.length < sizeLine ∧ Nx (upd H4 D (.lst (acc ++ [y]))) else Nx H3) :=
  lc_it (walk_zip rfl) Pv h0 hG (fun i v H H' hi p y => by
    obtain ⟨T, x, z, rfl, hT, rfl, hx, hz⟩ := y
    exact ⟨T, _, rfl, .inl (.inl upd_same), rfl, hs i x z H T hx hz p hT⟩) hd
end
/-! ### small things -/
theorem getElem?_map_some {α β : Type} {f : α → β} {l : List α} {i : Nat} {y : β} (h : (l.map f)[i]? = some y) : ∃ x, l[i]? = some x ∧ y = f x := by
  rw [List.getElem?_map] at h
  cases e : l[i]? with
  | none => rw [e] at h; cases h
  | some x => rw [e] at h; exact ⟨x, rfl, (Option.some.inj h).symm⟩
theorem lt_of_get {α : Type} {l : List α} {i : Nat} {x : α} (h : l[i]? = some x) : i < l.length := (List.getElem?_eq_some_iff.mp h).1
theorem drop_of_get {α : Type} {l : List α} {i : Nat} {x : α} (h : l[i]? = some x) : l.drop i = x :: l.drop (i + 1) := by
  obtain ⟨h1, h2⟩ := List.getElem?_eq_some_iff.mp h
  rw [← h2]; exact List.drop_eq_getElem_cons h1
theorem take_of_get {α : Type} {l : List α} {i : Nat} {x : α} (h : l[i]? = some x) : l.take (i + 1) = l.take i ++ [x] := by
  obtain ⟨h1, h2⟩ := List.getElem?_eq_some_iff.mp h
  rw [← h2]; exact (List.take_append_getElem h1).symm
end Fx
namespace Fx
open PySem PySem.Spec L2
/-! ### flat things in a list -/
theorem inV_str (x : Str) (l : List Str) : inV (.str x) (l.map V.str) = decide (x ∈ l) := by
  induction l with
  | nil => rfl
  | cons y r ih =>
    have h1 : inV (.str x) ((y :: r).map V.str) = ((y == x) || inV (.str x) (r.map V.str)) := rfl
    rw [h1, ih]
    by_cases e : x = y
    · subst e; simp
    · have e' : ¬ y = x := fun q => e q.symm
      simp [e, e']
theorem flat_strs (l : List Str) : (l.map V.str).all flatV = true := by
  rw [List.all_eq_true]; intro v hv; obtain ⟨x, _, rfl⟩ := List.mem_map.mp hv; rfl
theorem atI_of {xs : List V} {i : Int} {j : Nat} {v : V} (hi : i = (j : Int)) (h : xs[j]? = some v) : atI xs i = some v := by subst hi; exact atI_nat h
theorem get_map {α β : Type} {f : α → β} {l : List α} {i : Nat} {x : α} (h : l[i]? = some x) : (l.map f)[i]? = some (f x) := by rw [List.getElem?_map, h]; rfl
theorem get_getD {α : Type} {l : List α} {i : Nat} {d : α} (h : i < l.length) : l[i]? = some (l.getD i d) := by
  rw [List.getD_eq_getElem?_getD, List.getElem?_eq_getElem h]; rfl
end Fx
end

section
set_option Elab.async false
set_option linter.all false
set_option maxRecDepth 100000
set_option maxHeartbeats 4000000
/-! rules whose reading names the written part K outright (a reading within a comprehension must not hang on the block's own context) -/
namespace Fx
open PySem PySem.Spec PyProof.Rows L2
section
variable {X : Cx} {K : PySem.W.Frag} (e : X.K = K)
include e
theorem k_in : OpR X (compareOp .In) (rIn K false) := by subst e; exact op_in_seq
theorem k_notIn : OpR X (compareOp .NotIn) (rIn K true) := by subst e; exact op_notIn_seq
theorem k_eqD (hu : X.A.units + 64 < cLine) : OpR X (compareOp .Eq) (rEqD K) := by subst e; exact op_eqD hu
theorem k_neD (hu : X.A.units + 64 < cLine) : OpR X (compareOp .NotEq) (rNeD K) := by subst e; exact op_neD hu
theorem k_catT : OpR X (binaryOp .Add) (rCatA K) := by subst e; exact op_catA
theorem k_ixL : IxR X (rIxL K) := by subst e; exact ix_list
theorem k_ixT : IxR X (rIxT K) := by subst e; exact ix_tup
theorem k_ixQ : IxR X (rIx K) := by subst e; exact ix_seq
theorem k_slL : SlR X (rSlL K) := by subst e; exact sl_list
theorem k_slT : SlR X (rSlA K) := by subst e; exact sl_tupA
theorem k_len : CallR X (.builtin "len") (fun xs H Q => ∃ p ys, xs = [.ref p] ∧ (SqL K H p ys ∨ SqT K H p ys) ∧ Q (.int ys.length) H) := by subst e; exact call_len_seq
theorem k_lenV : CallR X (.builtin "len") (fun xs H Q => ∃ x n, xs = [x] ∧ LenV K x H n ∧ Q (.int n) H) := by subst e; exact call_len
theorem k_listOf : CallR X (.type "list") (fun xs H Q => ∃ p ys, xs = [.ref p] ∧ (SqL K H p ys ∨ SqT K H p ys) ∧ ∀ l, H l = none → Q (.ref l) (upd H l (.lst ys))) := by subst e; exact call_list_of
theorem k_tupleOf : CallR X (.type "tuple") (fun xs H Q => ∃ p ys, xs = [.ref p] ∧ ((SqL K H p ys ∧ ∀ l, H l = none → Q (.ref l) (upd H l (.tup ys))) ∨ (SqT K H p ys ∧ Q (.ref p) H))) := by subst e; exact call_tuple_of
theorem k_sum (hc : X.calm = true) : CallR X (.builtin "sum") (rSum K) := by subst e; exact cr_sum hc
theorem k_all (hc : X.calm = true) : CallR X (.builtin "all") (rAll K) := by subst e; exact cr_all hc
theorem k_any (hc : X.calm = true) : CallR X (.builtin "any") (rAny K) := by subst e; exact cr_any hc
theorem k_max (hc : X.calm = true) : CallR X (.builtin "max") (rMax K) := by subst e; exact cr_max hc
theorem k_min (hc : X.calm = true) : CallR X (.builtin "min") (rMin K) := by subst e; exact cr_min hc
theorem k_sortedS : CallR X (.builtin "sorted") (rSortedS K) := by subst e; exact cr_sortedS
theorem k_isi : CallR X (.builtin "isinstance") (rIsi K) := by subst e; exact call_isi
theorem k_isiT : CallR X (.builtin "isinstance") (rIsiT K) := by subst e; exact call_isiT
theorem k_join : MtR X "str.join" (fun x xs H Q => ∃ a p, ∃ ys : List Str, x = .str a ∧ xs = [.ref p] ∧ (SqL K H p (ys.map V.str) ∨ SqT K H p (ys.map V.str)) ∧ (ys.map (·.length)).sum + ys.length * a.length ≤ 16777216 ∧ Q (.str (Txt.join a ys)) H) := by subst e; exact mt_join
end
section
variable {X : Cx} {K : PySem.W.Frag} {tg l x : Expr} {tl ta : TE} {f : Str} {pos : Pos}
theorem k_pil (e : X.K = K) (hl : PE X l tl) : PI X tg l (iList K tl) := by subst e; exact pi_list hl
theorem k_pit (e : X.K = K) (hl : PE X l tl) : PI X tg l (iTup K tl) := by subst e; exact pi_tup hl
theorem k_fld (e : X.K = K) (he : PE X x ta) (hb : attributeBase x f X.env (eval x X.env) = eval x X.env) : PE X (.Attribute x f pos) (tFld K ta f) := by subst e; exact pe_fld he hb
theorem k_tup {es : List Expr} {k : Nat} {t : TGs} {n : Nat} (e : X.K = K) (hc : X.calm = true) (h : PGs X es t)
    (hn : (assignEach es X.env).length = n := by rfl) (hs : (assignEach es X.env).findIdx? (·.1) = none := by rfl) : PG X (.Tuple es k pos) (gTup K n t) := by
  subst e; exact pg_tup hc h hn hs
theorem k_pienum {x : Expr} {ta : TA} {p pos tpos : Pos} {elts : List Expr} {kk : Nat} (e : X.K = K) (hg : Gl X "enumerate") (hm : X.mg "enumerate" = none) (ha : PA X [x] ta) (hs : starEach [x] X.env = [(false, eval x X.env)] := by rfl) :
    PI X (.Tuple elts kk tpos) (.Call (.Name "enumerate" p) [x] [] pos) (iEnum K ta) := by subst e; exact pi_enum hg hm ha hs
theorem k_pizip {x x2 : Expr} {ta : TA} {p pos tpos : Pos} {elts : List Expr} {kk : Nat} (e : X.K = K) (hg : Gl X "zip") (hm : X.mg "zip" = none) (ha : PA X [x, x2] ta)
    (hs : starEach [x, x2] X.env = (false, eval x X.env) :: starEach [x2] X.env := by rfl) (hpl : (backTo pos (starEach [x2] X.env)).any (·.1) = false := by rfl) :
    PI X (.Tuple elts kk tpos) (.Call (.Name "zip" p) [x, x2] [] pos) (iZip K ta) := by subst e; exact pi_zip hg hm ha hs hpl
end
end Fx
end

section
set_option Elab.async false
set_option linter.all false
set_option maxRecDepth 100000
set_option maxHeartbeats 4000000
/-! comprehensions, one name as the target: what is made so far stands beside the invariant -/
namespace Fx
open PySem PySem.Spec L2
abbrev LcGoal (J : It) (g : TG) (tt : TT) (te : TE) (vs : List Nat) (σ : L2.St) (H1 : Hp) (D : Addr) (Qd : Hp → Prop) : Prop :=
  ∃ W : Nat → Nat → Hp → Prop, (∃ m, W 0 m (upd H1 D (.lst []))) ∧ ∀ i m H, W i m H →
      (J.stop i H ∧ Qd H) ∨ (J.go i H ∧ ∃ Nx : Hp → Prop, (∀ H', Nx H' → ∃ m', m' < m ∧ W (i + 1) m' H') ∧ ∀ x H', J.yld i H x H' → g x (wipe σ vs) H' fun σ2 H2 => wipe σ2 vs = wipe σ vs ∧ tt σ2 H2 fun b H3 =>
        if b = true then te σ2 H3 fun y H4 => ∃ acc, H4 D = some (.lst acc) ∧ acc.length < sizeLine ∧ Nx (upd H4 D (.lst (acc ++ [y]))) else Nx H3)
/-- two lists item by item -/
def Each {α β : Type} (P : α → β → Prop) (as : List α) (bs : List β) : Prop := as.length = bs.length ∧ ∀ (i : Nat) a b, as[i]? = some a → bs[i]? = some b → P a b
theorem Each.nil {α β : Type} {P : α → β → Prop} : Each P [] [] := ⟨rfl, fun i a b h => by simp at h⟩
theorem Each.mono {α β : Type} {P Q : α → β → Prop} {as : List α} {bs : List β} (h : Each P as bs) (f : ∀ a b, P a b → Q a b) : Each Q as bs := ⟨h.1, fun i a b h1 h2 => f a b (h.2 i a b h1 h2)⟩
theorem Each.get {α β : Type} {P : α → β → Prop} {as : List α} {bs : List β} (h : Each P as bs) {i : Nat} {a : α} (ha : as[i]? = some a) : ∃ b, bs[i]? = some b ∧ P a b := by
  have hi : i < bs.length := by rw [← h.1]; exact (List.getElem?_eq_some_iff.mp ha).1
  exact ⟨bs[i], List.getElem?_eq_getElem hi, h.2 i a _ ha (List.getElem?_eq_getElem hi)⟩
theorem Each.getR {α β : Type} {P : α → β → Prop} {as : List α} {bs : List β} (h : Each P as bs) {i : Nat} {b : β} (hb : bs[i]? = some b) : ∃ a, as[i]? = some a ∧ P a b := by
  have hi : i < as.length := by rw [h.1]; exact (List.getElem?_eq_some_iff.mp hb).1
  exact ⟨as[i], List.getElem?_eq_getElem hi, h.2 i _ b (List.getElem?_eq_getElem hi) hb⟩
theorem Each.append {α β : Type} {P : α → β → Prop} {as cs : List α} {bs ds : List β} (h : Each P as bs) (k : Each P cs ds) : Each P (as ++ cs) (bs ++ ds) := by
  refine ⟨by rw [List.length_append, List.length_append, h.1, k.1], fun i a b ha hb => ?_⟩
  by_cases hi : i < as.length
  · rw [List.getElem?_append_left hi] at ha
    rw [List.getElem?_append_left (by rw [← h.1]; exact hi)] at hb
    exact h.2 i a b ha hb
  · rw [List.getElem?_append_right (by omega)] at ha
    rw [List.getElem?_append_right (by rw [← h.1]; omega), ← h.1] at hb
    exact k.2 _ a b ha hb
theorem Each.one {α β : Type} {P : α → β → Prop} {a : α} {b : β} (h : P a b) : Each P [a] [b] := ⟨rfl, fun i x y hx hy => by
  cases i with
  | zero => simp at hx hy; subst hx; subst hy; exact h
  | succ i => simp at hx⟩
theorem Each.snoc {α β : Type} {P : α → β → Prop} {as : List α} {bs : List β} {a : α} {b : β} (h : Each P as bs) (k : P a b) : Each P (as ++ [a]) (bs ++ [b]) := h.append (.one k)
theorem yesI {σ : L2.St} {H : Hp} {A B : Bool → Hp → Prop} (h : A true H) : tYes σ H fun b H3 => if b = true then A b H3 else B b H3 := by
  show (if true = true then A true H else B true H)
  rw [if_pos rfl]; exact h
section
variable {n : Nat} {te : TE} {vs : List Nat} {σ : L2.St} {H1 : Hp} {D : Addr} {Qd : Hp → Prop} {j : Nat} {K : PySem.W.Frag} {a : Addr} {xs : List V} {lo : Int} {tt : TT}
/-- what is asked behind an item's value y: the list as it was, and the invariant behind the append -/
abbrev App (D : Addr) (I : List V → Hp → Prop) : VK := fun y H4 => ∃ acc, H4 D = some (.lst acc) ∧ acc.length < sizeLine ∧ ∃ acc2, I acc2 (upd H4 D (.lst (acc ++ [y])))
theorem lcm_list (I : Nat → List V → Hp → Prop) (h0 : I 0 [] (upd H1 D (.lst []))) (hI : ∀ i acc H, I i acc H → SqL K H a xs)
    (hs : ∀ i x acc H, xs[i]? = some x → I i acc H → te ((wipe σ vs).set j (some x)) H (App D (I (i + 1))))
    (hd : ∀ acc H, I xs.length acc H → Qd H) (hw : ∀ x, wipe ((wipe σ vs).set j (some x)) vs = wipe σ vs := by intro _; rfl) : LcGoal (Itl K a) (gName j) tYes te vs σ H1 D Qd :=
  lc_it walk_list (fun i H => ∃ acc, I i acc H) ⟨[], h0⟩ (fun i H _ ⟨acc, h⟩ => hI i acc H h) (fun i x H H' hi ⟨acc, h⟩ y => by
    obtain ⟨rfl, y⟩ := y
    exact ⟨hw x, yesI (hs i x acc _ y h)⟩) (fun H ⟨acc, h⟩ => hd acc H h)
theorem lcm_tup (I : Nat → List V → Hp → Prop) (h0 : I 0 [] (upd H1 D (.lst []))) (hI : ∀ i acc H, I i acc H → SqT K H a xs)
    (hs : ∀ i x acc H, xs[i]? = some x → I i acc H → te ((wipe σ vs).set j (some x)) H (App D (I (i + 1))))
    (hd : ∀ acc H, I xs.length acc H → Qd H) (hw : ∀ x, wipe ((wipe σ vs).set j (some x)) vs = wipe σ vs := by intro _; rfl) : LcGoal (Itt K a) (gName j) tYes te vs σ H1 D Qd :=
  lc_it walk_tup (fun i H => ∃ acc, I i acc H) ⟨[], h0⟩ (fun i H _ ⟨acc, h⟩ => hI i acc H h) (fun i x H H' hi ⟨acc, h⟩ y => by
    obtain ⟨rfl, y⟩ := y
    exact ⟨hw x, yesI (hs i x acc _ y h)⟩) (fun H ⟨acc, h⟩ => hd acc H h)
theorem lcm_range (I : Nat → List V → Hp → Prop) (h0 : I 0 [] (upd H1 D (.lst [])))
    (hs : ∀ i acc H, i < n → I i acc H → te ((wipe σ vs).set j (some (.int (lo + i)))) H (App D (I (i + 1))))
    (hd : ∀ acc H, I n acc H → Qd H) (hw : ∀ x, wipe ((wipe σ vs).set j (some x)) vs = wipe σ vs := by intro _; rfl) : LcGoal (Itr lo n) (gName j) tYes te vs σ H1 D Qd :=
  lc_it walk_range (fun i H => ∃ acc, I i acc H) ⟨[], h0⟩ (fun _ _ _ _ => trivial) (fun i x H H' hi ⟨acc, h⟩ y => by
    obtain ⟨rfl, rfl⟩ := y
    exact ⟨hw _, yesI (hs i acc _ hi h)⟩) (fun H ⟨acc, h⟩ => hd acc H h)
theorem lcm_str {z : Str} (I : Nat → List V → Hp → Prop) (h0 : I 0 [] (upd H1 D (.lst [])))
    (hs : ∀ i c acc H, z.cps[i]? = some c → I i acc H → te ((wipe σ vs).set j (some (.str ⟨#[c]⟩))) H (App D (I (i + 1))))
    (hd : ∀ acc H, I z.cps.size acc H → Qd H) (hw : ∀ x, wipe ((wipe σ vs).set j (some x)) vs = wipe σ vs := by intro _; rfl) : LcGoal (Its z) (gName j) tYes te vs σ H1 D Qd :=
  lc_it walk_str (fun i H => ∃ acc, I i acc H) ⟨[], h0⟩ (fun _ _ _ _ => trivial) (fun i x H H' hi ⟨acc, h⟩ y => by
    obtain ⟨rfl, c, hc, rfl⟩ := y
    exact ⟨hw _, yesI (hs i c acc _ hc h)⟩) (fun H ⟨acc, h⟩ => hd acc H h)
theorem lcm_zip {ys : List V} {b : Addr} {j1 j2 : Nat} (I : Nat → List V → Hp → Prop) (h0 : I 0 [] (upd H1 D (.lst []))) (hI : ∀ i acc H, I i acc H → SqL K H a xs ∧ SqL K H b ys)
    (hs : ∀ i x y acc H T, xs[i]? = some x → ys[i]? = some y → I i acc H → H T = none → te (((wipe σ vs).set j1 (some x)).set j2 (some y)) (upd H T (.tup [x, y])) (App D (I (i + 1))))
    (hd : ∀ acc H, I (min xs.length ys.length) acc H → Qd H) (hw : ∀ x y, wipe (((wipe σ vs).set j1 (some x)).set j2 (some y)) vs = wipe σ vs := by intro _ _; rfl) :
    LcGoal (Itz K a b) (gTup K 2 (gCons (gName j1) (gCons (gName j2) gNil))) tYes te vs σ H1 D Qd :=
  lc_zipLL (fun i H => ∃ acc, I i acc H) ⟨[], h0⟩ (fun i H _ ⟨acc, h⟩ => hI i acc H h) (fun i x y H T hx hy ⟨acc, h⟩ hT =>
    ⟨_, _, rfl, _, _, rfl, rfl, hw x y, yesI (hs i x y acc H T hx hy h hT)⟩) (fun H ⟨acc, h⟩ => hd acc H h)
/-- with a test: what is asked behind it -/
abbrev AppIf (te : TE) (σ2 : L2.St) (D : Addr) (I : List V → Hp → Prop) : Bool → Hp → Prop := fun b H3 => if b = true then te σ2 H3 (App D I) else ∃ acc2, I acc2 H3
theorem lcf_list (I : Nat → List V → Hp → Prop) (h0 : I 0 [] (upd H1 D (.lst []))) (hI : ∀ i acc H, I i acc H → SqL K H a xs)
    (hs : ∀ i x acc H, xs[i]? = some x → I i acc H → tt ((wipe σ vs).set j (some x)) H (AppIf te ((wipe σ vs).set j (some x)) D (I (i + 1))))
    (hd : ∀ acc H, I xs.length acc H → Qd H) (hw : ∀ x, wipe ((wipe σ vs).set j (some x)) vs = wipe σ vs := by intro _; rfl) : LcGoal (Itl K a) (gName j) tt te vs σ H1 D Qd :=
  lc_it walk_list (fun i H => ∃ acc, I i acc H) ⟨[], h0⟩ (fun i H _ ⟨acc, h⟩ => hI i acc H h) (fun i x H H' hi ⟨acc, h⟩ y => by
    obtain ⟨rfl, y⟩ := y
    exact ⟨hw x, hs i x acc _ y h⟩) (fun H ⟨acc, h⟩ => hd acc H h)
theorem lcf_tup (I : Nat → List V → Hp → Prop) (h0 : I 0 [] (upd H1 D (.lst []))) (hI : ∀ i acc H, I i acc H → SqT K H a xs)
    (hs : ∀ i x acc H, xs[i]? = some x → I i acc H → tt ((wipe σ vs).set j (some x)) H (AppIf te ((wipe σ vs).set j (some x)) D (I (i + 1))))
    (hd : ∀ acc H, I xs.length acc H → Qd H) (hw : ∀ x, wipe ((wipe σ vs).set j (some x)) vs = wipe σ vs := by intro _; rfl) : LcGoal (Itt K a) (gName j) tt te vs σ H1 D Qd :=
  lc_it walk_tup (fun i H => ∃ acc, I i acc H) ⟨[], h0⟩ (fun i H _ ⟨acc, h⟩ => hI i acc H h) (fun i x H H' hi ⟨acc, h⟩ y => by
    obtain ⟨rfl, y⟩ := y
    exact ⟨hw x, hs i x acc _ y h⟩) (fun H ⟨acc, h⟩ => hd acc H h)
end
end Fx
end

section
set_option Elab.async false
set_option linter.all false
set_option maxRecDepth 100000
set_option maxHeartbeats 4000000
/-! o[i], o[i] = v by the class's own defs; a written dict whose keys are ints and None -/
namespace Fx
open PySem PySem.Spec PyProof.Rows L2
section
variable {X : Cx} {k : Nat} {f C : Addr} {fd : FuncData} {ps : List Str} {sp : Sp} {a b : Expr} {ta tb : TE} {pos : Pos}
/-- a callee that is run one C call deeper -/
theorem run_in1 {pins : List (Addr × Obj)} {σ : L2.St} {H : Hp} {s : Shared} {Q : VK} {us : List Value} {vs : List V}
    (F : FnOk X.prog X.w X.K X.mg X.base CX0 k f fd ps sp) (hr : Room (k + 1) X.A) (hb : Binds X.K fd ps [])
    (I : Inv X pins σ H s) (r : Vals vs us) (h : sp vs H Q E0) :
    wpAny (model X.prog X.w) X.A.in1 (call (.ref f) us) (EP X pins σ Q) X.xe s := by
  have hl : us.length = ps.length := r.length.symm.trans (F.len _ _ _ _ h)
  have bd : BindsTo s fd ⟨us, []⟩ (ps.zip us) := by
    have z := hb s us I.kIn (by rw [List.append_nil]; exact hl)
    rw [List.append_nil] at z; exact z
  refine wpAny_call (codeAny_mono (F.run X.A.in1 X.stack s H ⟨us, []⟩ us vs Q E0 hr.in1 (Env0.in1 I.env0) bd r h) ?_)
  rintro (e | fl) s' hq
  · exact hq.elim
  · cases fl <;> first | exact I.after hq | exact hq.elim
theorem run_here {pins : List (Addr × Obj)} {σ : L2.St} {H : Hp} {s : Shared} {Q : VK} {us : List Value} {vs : List V}
    (F : FnOk X.prog X.w X.K X.mg X.base CX0 k f fd ps sp) (hr : Room k X.A) (hb : Binds X.K fd ps [])
    (I : Inv X pins σ H s) (r : Vals vs us) (h : sp vs H Q E0) :
    wpAny (model X.prog X.w) X.A (call (.ref f) us) (EP X pins σ Q) X.xe s := by
  have h' : sp (vs ++ []) H Q E0 := by rw [List.append_nil]; exact h
  exact run_fn F hr hb .nil pass0 I r h'
/-- o[i] by the class's own def -/
def rOwnGet (C : Addr) (sp : Sp) : R2 := fun x y H Q => ∃ a dx fs, x = .ref a ∧ H a = some (.ins C dx fs) ∧ sp [x, y] H Q E0
theorem pe_ownget {K : PySem.W.Frag} (eK : X.K = K) (hs : PySem.W.findIn K (.ref C) "__getitem__" = some (some (.ref f))) (hfn : PySem.W.isFn K (.ref f) = true) (hf : PySem.W.fnIn K f = true)
    (F : FnOk X.prog X.w X.K X.mg X.base CX0 k f fd ps sp) (hr : Room (k + 1) X.A) (hb : Binds X.K fd ps [])
    (ha : PE X a ta) (hi : PE X b tb) (hsl : ∀ o i, subscripted b true o i = runValue (.builtin "lifetime.subscript" ⟨[o, i], []⟩) := by intro _ _; rfl) :
    PE X (.Subscript a b pos) (tOp (rOwnGet C sp) ta tb) := by
  subst eK
  refine ⟨fun pins s σ H Q I h => ?_⟩
  refine Subscript_ (thn (ha.run pins s σ H _ I h) fun v s1 ⟨x, H1, I1, r1, q1⟩ => thn (hi.run pins s1 σ H1 _ I1 q1) fun u s2 ⟨y, H2, I2, r2, q2⟩ => ?_)
  obtain ⟨a, dx, fs, rfl, ea, q⟩ := q2
  obtain rfl : v = Value.ref a := r1
  obtain ⟨mA, O, _⟩ := ins_get I2.hok ea
  obtain ⟨od, J, _⟩ := O.look
  obtain ⟨m, fr⟩ := I2.fr
  exact PySem.W.sub_K fr I2.ok.mod.kin J hs hf hfn (run_in1 F hr hb I2 (.cons (show L2.RelV (.ref a) (.ref a) from rfl) (.cons r2 .nil)) q) (hsl _ _)
/-- o[i] = v by the class's own def -/
def tOwnSet (C : Addr) (sp : Sp) : TSet := fun o i v H Q => ∃ a dx fs, o = .ref a ∧ H a = some (.ins C dx fs) ∧ sp [o, i, v] H (fun _ H' => Q H') E0
theorem set_own (hq : PySem.W.noSeq X.K C = true) (hs : PySem.W.findIn X.K (.ref C) "__setitem__" = some (some (.ref f))) (hfn : PySem.W.isFn X.K (.ref f) = true)
    (F : FnOk X.prog X.w X.K X.mg X.base CX0 k f fd ps sp) (hr : Room k X.A) (hb : Binds X.K fd ps []) : PSet X (tOwnSet C sp) := by
  intro pins s σ H o i v ov iv u Q I ro ri rv h
  obtain ⟨a, dx, fs, rfl, ea, q⟩ := h
  obtain rfl : ov = Value.ref a := ro
  obtain ⟨mA, O, _⟩ := ins_get I.hok ea
  obtain ⟨od, J, _⟩ := O.look
  obtain ⟨m, fr⟩ := I.fr
  refine PySem.W.ksp_setItem fr I.ok.mod.kin J hq hs hfn (thn (run_here F hr hb I (.cons (show L2.RelV (.ref a) (.ref a) from rfl) (.cons ri (.cons rv .nil))) q) ?_)
  rintro _ s' ⟨_, H', I', _, q'⟩
  exact ⟨H', I', q'⟩
end

/-! ### keys that are ints or None -/
theorem pyHash_none {prog : Program} {w : World} {A : Around} {E : Value → Shared → Prop} {s : Shared} {Q : Int → Shared → Prop} (h : Q 0xFCA86420 { s with toks := s.toks + 1 }) :
    wpAny (model prog w) A (pyHash .none) Q E s := by
  unfold pyHash
  have hv : [Value.none].any Value.onHeap = false := rfl
  refine wpAny_bind ?_
  rw [cRoomFor, if_neg (by rw [hv]; decide)]
  refine wpAny_pure (wpAny_bind (wpAny_specialOf (typeIs_none s) F.slot_NoneType_hash.lookup ?_))
  show wpAny _ _ (if (some (Value.builtin "NoneType.__hash__") == some Value.none) = true then _ else _) Q E s
  rw [if_neg (by rw [beq_builtin_none]; decide)]
  refine wpAny_bind (wpAny_specialOf (typeIs_none s) F.slot_NoneType_hash.lookup ?_)
  show wpAny _ _ (callSpecialIfBoundUnlessNone? .none "__hash__" _ >>= _) Q E s
  refine wpAny_bind (wpAny_callSpecialIfBoundUnlessNone?_slot (typeIs_none s) F.slot_NoneType_hash
    (wpAny_call_entry F.slot_NoneType_hash (typeIs_none s) F.entry_NoneType_hash
      (show wpAny _ _ (do ret (← mkInt 0xFCA86420)) _ _ s from wpAny_ret_mkInt ?_) (F.args_NoneType_hash_1 _)))
  show wpAny _ _ (if (decide (-(2 : Int) ^ 63 ≤ 0xFCA86420) && decide ((0xFCA86420 : Int) < 2 ^ 63)) = true then _ else _) Q E _
  rw [if_pos (by decide)]
  exact wpAny_pure h
def nkIs : Option Int → Value → Bool
  | some k, v => Value.isInt k v
  | none, v => v == .none
def nkHash : Option Int → Int
  | some k => hashInt k
  | none => 0xFCA86420
theorem nkIs_shape {k : Option Int} {v : Value} (h : nkIs k v = true) : (∃ i t, k = some i ∧ v = .int i t) ∨ (k = none ∧ v = .none) := by
  cases k with
  | some i =>
    obtain ⟨t, e⟩ := Value.isInt_shape (k := i) (v := v) h
    exact .inl ⟨i, t, rfl, e⟩
  | none =>
    have e : (v == Value.none) = true := h
    refine .inr ⟨rfl, ?_⟩
    cases v <;> first | rfl | (simp at e)
def nKind (prog : Program) (w : World) : PySem.KeyKind prog w (Option Int) where
  is := nkIs
  hash := nkHash
  inj := fun v a b ha hb => by
    rcases nkIs_shape ha with ⟨i, t, rfl, rfl⟩ | ⟨rfl, rfl⟩ <;> rcases nkIs_shape hb with ⟨j, u, rfl, e⟩ | ⟨rfl, e⟩
    · injection e with e1 _; rw [e1]
    · cases e
    · cases e
    · rfl
  byValue := fun k v h => by rcases nkIs_shape h with ⟨i, t, rfl, rfl⟩ | ⟨rfl, rfl⟩ <;> rfl
  pyHash := fun hv h => by
    rcases nkIs_shape hv with ⟨i, t, rfl, rfl⟩ | ⟨rfl, rfl⟩
    · exact wpAny_pyHash_int h
    · exact pyHash_none h
  eqBool := fun {A E s a b u v Q} hu hv h => by
    rcases nkIs_shape hu with ⟨i, t, rfl, rfl⟩ | ⟨rfl, rfl⟩ <;> rcases nkIs_shape hv with ⟨j, t', rfl, rfl⟩ | ⟨rfl, rfl⟩
    · refine wpAny_eqBool_int ?_
      have e : (i == j) = decide (some i = some j) := by
        by_cases q : i = j
        · subst q; simp
        · simp [q]
      rw [e]; exact h
    · exact SeqAt.EqAt.int_none i t _ _ _ _ h
    · exact SeqAt.EqAt.none_int j t' _ _ _ _ h
    · exact SeqAt.EqAt.same _ _ _ _ _ h
  «strs» := fun k x t v h => by
    rcases nkIs_shape h with ⟨i, u, rfl, e⟩ | ⟨rfl, e⟩ <;> cases e
/-- a dict of the written part at d: its keys, and what stands under each -/
def nkAt (K : PySem.W.Frag) (d : Addr) (rows : List (Option Int × Addr)) : Bool := match K.lookup d with
  | some ⟨.type c, none, .dict es _, sl⟩ => decide (c = "dict") && (sl.isEmpty && (decide (es.size = rows.length) && (es.toList.zip rows).all fun p => nkIs p.2.1 p.1.key && (decide (p.1.hash = nkHash p.2.1) && decide (p.1.val = .ref p.2.2))))
  | _ => false
theorem nk_map {P : Program} {w : World} {K : PySem.W.Frag} {d : Addr} {rows : List (Option Int × Addr)} {h : Heap} (c : nkAt K d rows = true) (X : K.In h) {k : Option Int} {t : Addr}
    (hk : rows.find? (fun r => decide (r.1 = k)) = some (k, t)) : ∃ f, h.MapOf (nKind P w) d f ∧ f k = some (.ref t) := by
  unfold nkAt at c
  cases q : K.lookup d with
  | none => rw [q] at c; cases c
  | some o =>
    obtain ⟨oc, od, dt, sl⟩ := o
    rw [q] at c
    cases oc with
    | type cn =>
      cases od with
      | some z => cases dt <;> cases c
      | none =>
        cases dt with
        | dict es ep =>
          obtain ⟨c1, c2⟩ := He.ba (show (decide (cn = "dict") && (sl.isEmpty && (decide (es.size = rows.length) && (es.toList.zip rows).all fun p => nkIs p.2.1 p.1.key && (decide (p.1.hash = nkHash p.2.1) && decide (p.1.val = .ref p.2.2))))) = true from c)
          obtain ⟨c3, c4⟩ := He.ba c2
          obtain ⟨c5, c6⟩ := He.ba c4
          obtain rfl : cn = "dict" := of_decide_eq_true c1
          obtain rfl : sl = #[] := Array.isEmpty_iff.mp c3
          have hsz : es.toList.length = rows.length := of_decide_eq_true c5
          refine ⟨findBy nkIs es, ⟨_, es, ep, X _ _ q, ⟨rfl, rfl, rfl⟩, rfl, fun e he => ?_, fun _ => rfl⟩, ?_⟩
          · obtain ⟨i, hi⟩ := List.mem_iff_getElem?.mp (Array.mem_toList_iff.mpr he)
            have hl := lt_of_get hi
            have hz : (es.toList.zip rows)[i]? = some (e, rows[i]'(by omega)) := by
              rw [List.getElem?_zip_eq_some]; exact ⟨hi, List.getElem?_eq_getElem (by omega)⟩
            have z := List.all_eq_true.mp c6 _ (List.mem_of_getElem? hz)
            obtain ⟨z1, z2⟩ := He.ba z
            obtain ⟨z3, _⟩ := He.ba z2
            exact ⟨_, z1, of_decide_eq_true z3⟩
          · unfold findBy
            rw [← Array.find?_toList]
            clear c c1 c2 c3 c4 c5 q X
            generalize es.toList = l at *
            induction l generalizing rows with
            | nil => cases rows <;> simp at hsz hk
            | cons e l ih =>
              cases rows with
              | nil => simp at hsz
              | cons r rows =>
                rw [List.zip_cons_cons, List.all_cons] at c6
                obtain ⟨z, zs⟩ := He.ba c6
                obtain ⟨z1, z2⟩ := He.ba z
                obtain ⟨z3, z4⟩ := He.ba z2
                rw [List.find?_cons] at hk ⊢
                by_cases e1 : r.1 = k
                · rw [decide_eq_true e1] at hk
                  have e2 : r = (k, t) := Option.some.inj hk
                  have e3 : nkIs k e.key = true := by rw [← e1]; exact z1
                  rw [e3]
                  have e4 : e.val = .ref r.2 := of_decide_eq_true z4
                  show some e.val = _
                  rw [e4, e2]
                · rw [decide_eq_false e1] at hk
                  have e3 : nkIs k e.key = false := by
                    cases y : nkIs k e.key with
                    | false => rfl
                    | true => exact absurd ((nKind P w).inj _ _ _ z1 y) e1
                  rw [e3]
                  exact ih hk zs (by simpa using hsz)
        | _ => cases c
    | _ => cases od <;> cases dt <;> cases c
def nkOf : V → Option (Option Int)
  | .int i => some (some i)
  | .non => some none
  | _ => none
/-- d[y], d such a written dict -/
def rNkGet (d : Addr) (rows : List (Option Int × Addr)) : R2 := fun x y H Q => ∃ k t, x = .ref d ∧ nkOf y = some k ∧ rows.find? (fun r => decide (r.1 = k)) = some (k, t) ∧ Q (.ref t) H
theorem ix_nk {X : Cx} {d : Addr} {rows : List (Option Int × Addr)} (c : nkAt X.K d rows = true) : IxR X (rNkGet d rows) := by
  intro value slice pins s σ H x y v u Q I rx ry h hs
  obtain ⟨k, t, rfl, hk, hf, q⟩ := h
  obtain rfl : v = Value.ref d := rx
  obtain ⟨f, hm, hv⟩ := nk_map (P := X.prog) (w := X.w) c I.kIn hf
  have hkey : nkIs k u = true := by
    cases y <;> simp [nkOf] at hk
    · subst hk
      obtain rfl : u = Value.none := ry
      rfl
    · subst hk
      obtain ⟨t', rfl⟩ := (show ∃ t, u = Value.int _ t from ry)
      simp [nkIs, Value.isInt]
  exact tail_any hm.typeIs F.slot_dict_getitem.lookup (wpAny_getItem_of hkey hm hv ⟨.ref t, H, I.tok _, rfl, q⟩) hs
end Fx
end

section
set_option Elab.async false
set_option linter.all false
set_option maxRecDepth 100000
set_option maxHeartbeats 4000000
/-! {k: v for .. in ..} whose keys are tuples -/
namespace Fx
open PySem PySem.Spec PyProof.Rows L2
/-- D[u] = r within such a comprehension -/
theorem dictSet_put {X : Cx} {pins : List (Addr × Obj)} {σ : L2.St} {H H' : Hp} {s : Shared} {E : Value → Shared → Prop} {D : Addr} {y v : V} {u r : Value} {Q : Unit → Shared → Prop}
    (hu : X.A.units < cLine) (I : Inv X pins σ H s) (g : DPut H D y v H') (ry : L2.RelV y u) (rv : L2.RelV v r) (h : ∀ s', Inv X pins σ H' s' → Q () s') : wpAny (model X.prog X.w) X.A (dictSet D u r) Q E s := by
  rcases g with ⟨kvs, k, e, rfl, l, rfl⟩ | ⟨kvs, k, b, e, rfl, eb, l, rfl⟩
  · exact d_dictSet I e l ry rv h
  · obtain rfl : u = Value.ref b := ry
    obtain ⟨z, hd, xs, rel, dd⟩ := dt_of I.hok e
    have hz : xs.length ≤ sizeLine := (Paired.length rel) ▸ z
    have hl : (putK kvs k v).length ≤ sizeLine := by have := length_putK kvs k v; omega
    refine wpAny_dictSet_heap (hsz := hz) (show (tupleKind (mixKind X.prog X.w)).room X.A from hu) (key_of I.hok eb) dd fun h' dd' hs => h _ ?_
    obtain ⟨q, es, ep, hq, h2, h3, h4, _, h5⟩ := dd'
    refine d_write I (by rw [e]; exact True.intro) hs ⟨q, hq⟩ ⟨hl, hd, _, (rel.put k eb rv).keeps fun c ys ec => ?_, q, es, ep, hq, h2, h3, h4, h5⟩
    exact (upd_ne (ne_of ec e (fun z => nomatch z))).trans ec
/-- the reading: D the new dict, empty as o0 says -/
def tDcP (o0 : HO) (wi : TI) (g : TG) (tk tv : TE) (vs : List Nat) : TE := fun σ H Q => wi σ H fun J H1 => ∀ D, H1 D = none → ∃ W : Nat → Nat → Hp → Prop, (∃ m, W 0 m (upd H1 D o0)) ∧ ∀ i m H, W i m H →
  (J.stop i H ∧ Q (.ref D) H) ∨ (J.go i H ∧ ∃ Nx : Hp → Prop, (∀ H', Nx H' → ∃ m', m' < m ∧ W (i + 1) m' H') ∧ ∀ x H', J.yld i H x H' → g x (wipe σ vs) H' fun σ2 H2 => wipe σ2 vs = wipe σ vs ∧
    tk σ2 H2 fun y H4 => tv σ2 H4 fun z H5 => ∃ H6, DPut H5 D y z H6 ∧ Nx H6)
section
variable {X : Cx} {kx vx tg iter : Expr} {scope : Scope} {own : List (Str × Nat)} {pos : Pos} {wi : TI} {g : TG} {tk tv : TE} {o0 : HO}
theorem pe_dcP (ho : o0 = .dK [] ∨ o0 = .dT []) (hc : X.calm = true) (hu : X.A.units < cLine) (hN : X.N.Nodup) (hi : PI X tg iter wi) (ok : BlkOk X.N X.env.scope scope own)
    (hg : ∀ (s : Shared) (H : Hp) (C : Addr) (cl : List (Str × Addr)) (fp : List Addr), PG (X.blk s H scope (compEnvC scope cl C X.env) fp) tg g)
    (hk : ∀ (s : Shared) (H : Hp) (C : Addr) (cl : List (Str × Addr)) (fp : List Addr), PE (X.blk s H scope (compEnvC scope cl C X.env) fp) kx tk)
    (he : ∀ (s : Shared) (H : Hp) (C : Addr) (cl : List (Str × Addr)) (fp : List Addr), PE (X.blk s H scope (compEnvC scope cl C X.env) fp) vx tv)
    (hs : ∀ x, foldedSetIterable iter X.env x = pure x := by intro _; rfl) :
    PE X (.DictComp kx vx [⟨tg, iter, [], 0⟩] scope pos) (tDcP o0 wi g tk tv (own.map (·.2))) := by
  constructor
  intro pins s σ H Q I h
  rw [arm_eval_DictComp]
  have cells : ∀ y ∈ scope.names, y.2 = .free → ∃ c, X.env.cells.lookup y.1 = some c := fun y hy e => I.ok.has _ (ok.free y hy e)
  refine wpAny_comprehension_free (use := none) rfl hs (closure_ok cells) ok.kind (fun y hy e => (ok.uniq y hy).trans (congrArg some e)) (thn (hi.run pins s σ H _ I h) fun xv s1 hx => thn hx fun itv s2 h2 => ?_)
  obtain ⟨it, fp, tn, J, H2, rfl, I2, T, st2, f2, q⟩ := h2
  refine wpAny_newObj_type (newEnv_comp ?_)
  -- D, the new dict
  obtain ⟨D, hD⟩ : ∃ D, D = s2.heap.objs.size := ⟨_, rfl⟩
  rw [← hD]
  have hDn : H2 D = none := I2.hok.fresh (Nat.le_of_eq hD.symm)
  obtain ⟨W, ⟨m0, w0⟩, turn⟩ := q D hDn
  obtain ⟨s3, hs3⟩ : ∃ s3 : Shared, s3 = { s2 with heap := s2.heap.push { cls := .type "dict", data := .dict #[] } } := ⟨_, rfl⟩
  rw [← hs3]
  have h3 : s3.heap = s2.heap.push { cls := .type "dict", data := .dict #[] } := by rw [hs3]
  obtain ⟨H3, hH3⟩ : ∃ H3, H3 = upd H2 D o0 := ⟨_, rfl⟩
  rw [← hH3] at w0
  have I3 : Inv X pins σ H3 s3 := by
    rw [hs3, hH3]
    refine I2.laid (t' := s2.toks) (fun b o e => Heap.get?_push_of_some _ e) (Nat.le_of_eq hD.symm) ?_
    rw [hD]
    rcases ho with rfl | rfl
    · exact dk_empty s2.heap I2.big
    · exact dt_empty s2.heap I2.big
  have low : ∀ b ∈ fp, b < s2.heap.objs.size := fun b hb => (T.obj _ _ st2 b hb).elim fun o e => Heap.lt_size e.1
  have f3 : ∀ b ∈ fp, FpOk X pins H3 b ∧ b < s3.heap.objs.size := fun b hb => by
    have hlt := low b hb
    have nb : b ≠ D := by rw [hD]; exact Nat.ne_of_lt hlt
    refine ⟨⟨?_, (f2 b hb).2⟩, ?_⟩
    · rw [hH3, upd_ne nb]; exact (f2 b hb).1
    · rw [h3, Heap.size_push]; exact Nat.lt_succ_of_lt hlt
  have st3 : tn 0 s3.heap := T.keep _ _ _ st2 fun b _ o e => by rw [h3]; exact Heap.get?_push_of_some _ e
  have I4 := block_start I3 ok hN f3
  have pg := hg s3 H3 s3.heap.objs.size (cellsFrom (s3.heap.objs.size + 1) scope.names (cloFrom X.env.cells scope.names [])) fp
  have pk := hk s3 H3 s3.heap.objs.size (cellsFrom (s3.heap.objs.size + 1) scope.names (cloFrom X.env.cells scope.names [])) fp
  have pe := he s3 H3 s3.heap.objs.size (cellsFrom (s3.heap.objs.size + 1) scope.names (cloFrom X.env.cells scope.names [])) fp
  have nfp : ∀ b ∈ fp, H3 b = none := fun b hb => (f3 b hb).1.1
  show codeAny _ _ (.compStart (.DictComp kx vx [⟨tg, iter, [], 0⟩] scope pos) 0 (.ref it) (.ref D) (compEnvC scope (cellsFrom (s3.heap.objs.size + 1) scope.names (cloFrom X.env.cells scope.names [])) s3.heap.objs.size X.env))
    (compPost (model X.prog X.w) X.A X.xe none (EP X pins σ Q) (.ref D) s3.heap.objs.size) { s3 with heap := pushCells (s3.heap.push { cls := .type "dict", data := .dict #[] }) scope.names }
  generalize hce : compEnvC scope (cellsFrom (s3.heap.objs.size + 1) scope.names (cloFrom X.env.cells scope.names [])) s3.heap.objs.size X.env = ce at I4 pg pk pe ⊢
  have cL : ce.locals = s3.heap.objs.size := by rw [← hce]; rfl
  generalize hs4 : ({ s3 with heap := pushCells (s3.heap.push { cls := .type "dict", data := .dict #[] }) scope.names } : Shared) = s4 at I4 ⊢
  have st4 : tn 0 s4.heap := T.keep _ _ _ st3 fun b _ o e => by rw [← hs4]; exact pushCells_keeps _ _ _ _ (Heap.get?_push_of_some _ e)
  have B : ∀ {σ' : L2.St} {H' : Hp} {s' : Shared}, Inv (X.blk s3 H3 scope ce fp) [] σ' H' s' → (∀ b ∈ fp, H' b = none) → ∀ b ∈ fp, FpOk (X.blk s3 H3 scope ce fp) [] H' b := by
    intro σ' H' s' I' hn b hb
    exact ⟨hn b hb, (I'.ok.exf b hb).1, I'.ok.exfs b hb, .inl hb, fun x c e => (I'.ok.exf b hb).2 x c e, fun p hp => by
      have z : p ∈ ([] : List (Addr × Obj)) ++ [] := hp
      simp at z⟩
  -- the loop
  have loop : codeAny (model X.prog X.w) X.A (.compLoop (.DictComp kx vx [⟨tg, iter, [], 0⟩] scope pos) 0 (.ref it) (.ref D) ce) (compPost (model X.prog X.w) X.A X.xe none (EP X pins σ Q) (.ref D) s3.heap.objs.size) s4 := by
    refine compLoop_anyD (fun n s' => ∃ i H', Inv (X.blk s3 H3 scope ce fp) [] (wipe σ (own.map (·.2))) H' s' ∧ tn i s'.heap ∧ (∀ b ∈ fp, H' b = none) ∧ W i n H') ?_ m0 ⟨0, H3, I4, st4, nfp, w0⟩
    rintro n s5 ⟨i, H5, I5, st5, n5, w5⟩
    rcases turn i n H5 w5 with ⟨stop, qq⟩ | ⟨go, Nx, hNx, step⟩
    · refine thnF (T.done (X.blk s3 H3 scope ce fp) rfl rfl rfl hc i [] s5 _ H5 (fun _ _ => False) I5 (B I5 n5) st5 stop) ?_
      rintro r s6 ⟨rfl, I6⟩
      have I7 : Inv X pins σ H5 s6 := I3.call' (ch := fp) I6.os I6.base I6.hok I6.bare fun b hb => let z := (f3 b hb).1; ⟨z.2.2.2.1, z.2.1, z.2.2.2.2.1, z.2.2.2.2.2⟩
      have nC : H5 s3.heap.objs.size = none := cL ▸ (show H5 ce.locals = none from I6.free)
      obtain ⟨m, hn, _⟩ := I6.loc
      have hn : s6.heap.Ns s3.heap.objs.size m := cL ▸ (show s6.heap.Ns ce.locals m from hn)
      obtain ⟨f0, f1, f2, f3', f4, f5⟩ := I3.fpOk (Nat.le_refl _) nC
      exact ⟨m, hn, fun h'' sb => ⟨.ref D, H5, I7.turned (t' := s6.toks) (fun b o hb e => (sb.2 b hb).trans e) f0 f1 f3' f4 f5, rfl, qq⟩⟩
    · refine thnF (T.item (X.blk s3 H3 scope ce fp) rfl rfl rfl hc i [] s5 _ H5 (fun _ _ => False) I5 (B I5 n5) st5 go) ?_
      rintro r s6 ⟨u, rfl, h6⟩
      refine thnF h6 ?_
      rintro _ s7 ⟨x, H7, I7, r7, y7, st7, n7⟩
      have I7' := I7.pinned (B I7 n7) (T.obj _ _ st7)
      refine thnF (pg.run _ s7 _ H7 x u _ I7' r7 (step x H7 y7)) ?_
      rintro _ s8 ⟨σ8, H8, I8, hw8, q8⟩
      refine thnF ((pts_nil (X := X.blk s3 H3 scope ce fp)).run _ s8 σ8 H8 _ I8 (show tYes σ8 H8 (fun b H9 => b = true ∧ H9 = H8) from ⟨rfl, rfl⟩)) ?_
      rintro b s9 ⟨H9, I9, rfl, rfl⟩
      show wpAny _ _ _ _ _ _
      refine thnF (pk.run _ s9 σ8 H9 _ I9 q8) ?_
      rintro z s10 ⟨yk, H10, I10, r10, q10⟩
      refine thnF (pe.run _ s10 σ8 H10 _ I10 q10) ?_
      rintro z2 s11 ⟨yv, H11, I11, r11, H12, put, nx⟩
      refine dictSet_put (X := X.blk s3 H3 scope ce fp) hu I11 put r10 r11 fun s12 I12 => ?_
      obtain ⟨m', hm, w'⟩ := hNx H12 nx
      have pin : ∀ b ∈ fp, ∀ o, s7.heap.get? b = some o → s12.heap.get? b = some o ∧ H12 b = none := fun b hb o e => by
        have z := I12.pin (b, o) (List.mem_append_right _ (List.mem_append_right _ (mem_pinsAt hb e)))
        exact ⟨z.1, z.2.1⟩
      refine ⟨m', hm, i + 1, H12, (I12.unpinned (pins := [])).weak (by rw [← hw8, wipe_length]) (fun j v e => (wipe_some (hw8 ▸ e)).1), T.keep _ _ _ st7 fun b hb o e => (pin b hb o e).1, fun b hb => ?_, w'⟩
      obtain ⟨o, e, _⟩ := T.obj _ _ st7 b hb
      exact (pin b hb o e).2
  exact codeAny_compStart_dict loop (T.self X.A 0 _ _ _ st4 loop)
end
end Fx
end

section
set_option Elab.async false
set_option linter.all false
set_option maxRecDepth 100000
set_option maxHeartbeats 4000000
/-! {t: v}, t a tuple; calls by keywords alone; enumerate(tuple); a dict with tuple keys walked -/
namespace Fx
open PySem PySem.Spec PyProof.Rows L2
section
variable {X : Cx} {kx vx : Expr} {tk tv : TE} {pos : Pos}
def tDisp1T (tk tv : TE) : TE := fun σ H Q => ∀ p, H p = none → tk σ (upd H p (.dT [])) fun y H1 => tv σ H1 fun z H2 => H2 p = some (.dT []) ∧ ∃ k b, y = .ref b ∧ H2 b = some (.tup (k.map kV)) ∧ Q (.ref p) (upd H2 p (.dT [(k, z)]))
theorem pe_dict1T (hu : X.A.units + 1 < cLine) (hk : PE X kx tk) (hv : PE X vx tv) : PE X (.Dict [some kx] [vx] pos) (tDisp1T tk tv) := by
  refine ⟨fun pins s σ H Q I q => ?_⟩
  have hn := I.hok.fresh (Nat.le_refl s.heap.objs.size)
  have I1 := I.laid (a := s.heap.objs.size) (o := .dT []) (h' := s.heap.push { cls := .type "dict", data := .dict #[] }) (t' := s.toks) (fun _ _ q => Heap.get?_push_of_some _ q) (Nat.le_refl _) (dt_empty s.heap I.big)
  have e0 : (evalEachOpt [some kx] X.env).zip ((evalEach [vx] X.env).map fun v => do let x ← v; standAt pos; pure x) = (pairTrees [some kx] [vx] X.env pos).map fun p => (some p.1, p.2) := rfl
  rw [arm_eval_Dict, e0, dictDisplay_pairs (pairTrees [some kx] [vx] X.env pos) (by intro z; cases z) (by show 1 < 17; decide)]
  refine wpAny_bind (wpAny_standAt (wpAny_bind (wpAny_subDictH (knd := tupleKind (mixKind X.prog X.w)) (Q := fun d s' => wpAny (model X.prog X.w) X.A (pure (Value.ref d)) (EP X pins σ Q) X.xe s')
    (show X.A.units < cLine by omega) (by show 1 ≤ 15; decide) ?_)))
  refine thn ((pps_cons hk hv pps_nil).run pins _ σ _ (fun ps H2 => match ps with
    | [(y, z)] => H2 s.heap.objs.size = some (.dT []) ∧ ∃ k b, y = .ref b ∧ H2 b = some (.tup (k.map kV)) ∧ Q (.ref s.heap.objs.size) (upd H2 s.heap.objs.size (.dT [(k, z)]))
    | _ => False) I1 (q _ hn)) ?_
  rintro ws s2 ⟨ps, H2, I2, rel, q2⟩
  cases rel with
  | nil => exact q2.elim
  | @cons p0 w0 ps0 ws0 r0 rel =>
    cases rel with
    | cons _ _ => exact q2.elim
    | nil =>
      obtain ⟨y, z⟩ := p0
      obtain ⟨uy, uz⟩ := w0
      obtain ⟨ry, rz⟩ := r0
      obtain ⟨e, k, b, rfl, eb, qq⟩ := q2
      obtain rfl : uy = Value.ref b := ry
      obtain ⟨_, hd, xs, r1, dd⟩ := dt_of I2.hok e
      cases r1
      refine ⟨[(k, b, uz)], ⟨rfl, rfl, key_of I2.hok eb, True.intro⟩, dd, fun h' tk' dd' hs => wpAny_pure ⟨.ref s.heap.objs.size, _, ?_, rfl, qq⟩⟩
      obtain ⟨q, es, ep, hq, h2, h3, h4, _, h5⟩ := dd'
      refine d_write (t' := tk') I2 (by rw [e]; exact True.intro) hs ⟨q, hq⟩ ⟨by show 1 ≤ sizeLine; decide, hd, [(k, b, uz)], .cons ⟨rfl, ?_, rz⟩ .nil, q, es, ep, hq, h2, h3, h4, h5⟩
      exact (upd_ne (ne_of eb e (fun z => nomatch z))).trans eb
end
end Fx
end

section
set_option Elab.async false
set_option linter.all false
set_option maxRecDepth 100000
set_option maxHeartbeats 4000000
/-! for i, x in enumerate(tuple) -/
namespace Fx
open PySem PySem.Spec PyProof.Rows L2
theorem meets_enum1 {v : Value} {o : Obj} {H : Heap → Prop} (B : Begins v o H) :
    Meets (Builtin.«enumerate.__new__» ⟨[.type "enumerate", v], []⟩) (fun _ R s => H s.heap ∧
      R (.ok (.ret (.ref (s.heap.push o).objs.size))) { s with heap := (s.heap.push o).push { cls := .type "enumerate", data := .fields #[.none, .bool false, .ref s.heap.objs.size, rawInt 0, .none, .none] } }) :=
  .of_wp fun prog w A R s h => by
    obtain ⟨hp, g, d, tk, os⟩ := s
    obtain ⟨h1, h⟩ := h
    have hsub := sub_enumerate
    have it : ∀ {A' : Around} {E : Value → Shared → Prop} {Q : Value → Shared → Prop}, Q (.ref hp.objs.size) ⟨hp.push o, g, d, tk, os⟩ → wpAny (model prog w) A' (pyIter v) Q E ⟨hp, g, d, tk, os⟩ :=
      fun q => B.iter prog w _ _ ⟨hp, g, d, tk, os⟩ _ h1 q
    wp_walk using it
    refine wpAny_stack_any fun st => wpAny_pure ?_
    split
    · rename_i c _ _ _ _ _
      cases (c == Value.type "enumerate")
      all_goals
        wp_walk using it
        exact ⟨_, rfl, h⟩
    · wp_walk using it
      exact ⟨_, rfl, h⟩
/-- the tuple at a, each item in a new pair -/
def IteT (K : PySem.W.Frag) (a : Addr) : It :=
  ⟨fun i H => ∃ (xs : List V) (x : V), SqT K H a xs ∧ xs[i]? = some x, fun i H v H' => ∃ T x, v = .ref T ∧ H T = none ∧ H' = upd H T (.tup [.int (i : Nat), x]) ∧ ∀ xs, SqT K H a xs → xs[i]? = some x, fun i H => ∃ xs : List V, SqT K H a xs ∧ xs.length = i⟩
section
variable {prog : Program} {w : World} {A : Around} {E : Value → Shared → Prop} {s : Shared}
theorem call_enumerate_tuple {l : Addr} {items : Array Value} {Q : Value → Shared → Prop} (hL : s.heap.IsTuple l items)
    (h : ∀ h', IsEnum h' (s.heap.objs.size + 1) s.heap.objs.size 0 .none → h'.IsTupleIter s.heap.objs.size l 0 → h'.objs.size = s.heap.objs.size + 2 →
      (∀ b o, s.heap.get? b = some o → h'.get? b = some o) → Q (.ref (s.heap.objs.size + 1)) { s with heap := h' }) :
    wpAny (model prog w) A (call (.type "enumerate") [.ref l]) Q E s := by
  refine callType_new F.called_enumerate (by decide) (F.typeCall_enumerate_1 _) (F.newCall_enumerate_1 _) (fun obj => F.args_object_init_2 obj _) F.entry_enumerate_new
    (meets_enum1 (begins_tuple l items)) ⟨hL, ?_⟩
  have hz : (s.heap.push { cls := .type "tuple_iterator", data := .fields #[.ref l, .int 0 0] }).objs.size = s.heap.objs.size + 1 := Heap.size_push ..
  show _ ∧ _
  rw [hz]
  have he : IsEnum ((s.heap.push { cls := .type "tuple_iterator", data := .fields #[.ref l, .int 0 0] }).push
      { cls := .type "enumerate", data := .fields #[.none, .bool false, .ref s.heap.objs.size, rawInt 0, .none, .none] }) (s.heap.objs.size + 1) s.heap.objs.size 0 .none := by
    have := Heap.get?_push_size (s.heap.push { cls := .type "tuple_iterator", data := .fields #[.ref l, .int 0 0] })
      (o := { cls := .type "enumerate", data := .fields #[.none, .bool false, .ref s.heap.objs.size, rawInt 0, .none, .none] }) rfl
    rw [hz] at this; exact this
  refine ⟨⟨_, he, rfl⟩, h _ he ⟨_, Heap.get?_push_of_some _ (Heap.get?_push_size _ rfl), rfl, rfl⟩ (by rw [Heap.size_push, hz]) fun b o x => Heap.get?_push_of_some _ (Heap.get?_push_of_some _ x)⟩
end
theorem turn_enumT {P : Program} {w : World} {K : PySem.W.Frag} {elts : List Expr} {kk : Nat} {tpos : Pos} (a e it : Addr) :
    Turn P w K (.Tuple elts kk tpos) (IteT K a) [e, it] e (fun i h => (∃ old, IsEnum h e it ((i : Nat) : Int) old) ∧ h.IsTupleIter it a i ∧ e ≠ it ∧ e ≠ a ∧ a ≠ it) where
  mem := by simp
  obj := fun i h st b hb => by
    obtain ⟨⟨old, he⟩, ⟨o, ho, hc, hd⟩, _⟩ := st
    have e' : b = e ∨ b = it := by simpa using hb
    rcases e' with z | z
    · rw [z]; exact ⟨_, he, fun v q => nomatch q⟩
    · rw [z]; exact ⟨o, ho, fun v q => by rw [hd] at q; cases q⟩
  keep := fun i h h' st k => let ⟨⟨old, he⟩, hi, hne⟩ := st; ⟨⟨old, k e (by simp) _ he⟩, hi.at fun o q => k it (by simp) o q, hne⟩
  item := by
    intro X hP hw hK hc i pins s σ H E I hf st hg
    subst hP hw hK
    obtain ⟨⟨old, he⟩, hit, hne, hea, hai⟩ := st
    obtain ⟨xs, x, hq, hx⟩ := hg
    obtain ⟨its, rv, p, hz⟩ := I.tuple hq
    obtain ⟨u, hu, ru⟩ := rv.get hx
    have hel : e < s.heap.objs.size := Heap.lt_size he
    have hil : it < s.heap.objs.size := by obtain ⟨_, q, _⟩ := hit; exact Heap.lt_size q
    have hlt : i < its.toArray.size := by have := lt_of_get hu; simpa using this
    refine wpAny_pyNext_enum_itemD (Draws.tuple (show X.A.in1.handled = none from I.ok.hd hc) it a hai its.toArray) he ⟨hit, p⟩ hlt hne (by simp [hne, hea]) fun u' h' tk hu' ho hst' hT hsz hk => ?_
    have eu : u' = u := by
      have z : its[i]? = some u' := by simpa using hu'
      rw [hu] at z; exact (Option.some.inj z).symm
    subst eu
    refine ⟨_, rfl, wpAny_letOwnedTupleGo_enum (s := { s with heap := h', toks := tk + 1 }) ho fun h'' he' sb => ?_⟩
    have hT2 : h''.get? s.heap.objs.size = some { cls := .type "tuple", data := .seq #[.int i tk, u'] } := (sb.2 _ (Nat.ne_of_gt hel)).trans hT
    have new : ObjOk X.prog X.w (upd H s.heap.objs.size (.tup [.int (i : Nat), x])) h'' s.heap.objs.size (.tup [.int (i : Nat), x]) :=
      ⟨by show 2 ≤ sizeLine; decide, [.int i tk, u'], .cons ⟨_, rfl⟩ (.cons ru .nil), ⟨_, hT2, rfl, _, rfl⟩⟩
    have I1 : Inv X pins σ (upd H s.heap.objs.size (.tup [.int (i : Nat), x])) { s with heap := h'', toks := tk + 1 } :=
      I.turnedNew (ch := [e, it]) (fun b ob hb q => (sb.2 b (fun z => hb (by simp [z]))).trans (hk b ob (fun z => hb (by simp [z])) (fun z => hb (by simp [z])) q)) hf (Nat.le_refl _) new
    refine ⟨.ref s.heap.objs.size, _, I1, rfl, ⟨_, x, rfl, I.hok.fresh (Nat.le_refl _), rfl, fun ys hy => by rw [I.tuple_inj hy hq]; exact hx⟩, ⟨⟨u', ?_⟩, hst'.1.at fun o q => (sb.2 it (Ne.symm hne)).trans q, hne, hea, hai⟩, fun b hb => ?_⟩
    · have e1 : ((i + 1 : Nat) : Int) = (i : Int) + 1 := by omega
      rw [e1]; exact he'
    · have hb' : b < s.heap.objs.size := by
        have e' : b = e ∨ b = it := by simpa using hb
        rcases e' with z | z
        · rw [z]; exact hel
        · rw [z]; exact hil
      rw [upd_ne (Nat.ne_of_lt hb')]
      exact (hf b hb).1
  done := by
    intro X hP hw hK hc i pins s σ H E I hf st hg
    subst hP hw hK
    obtain ⟨⟨old, he⟩, hit, hne, hea, hai⟩ := st
    obtain ⟨xs, hq, hx⟩ := hg
    obtain ⟨its, rv, p, hz⟩ := I.tuple hq
    obtain ⟨f0, f1, f2, f3, f4, f5⟩ := hf it (by simp)
    have hl := rv.length
    have hz' : its.toArray.size = i := by simp; omega
    refine wpAny_pyNext_enum_endD (Draws.tuple (show X.A.in1.handled = none from I.ok.hd hc) it a hai its.toArray) he (by rw [hz']; exact ⟨hit, p⟩) fun h' eb => ⟨rfl, I.turned (t' := s.toks) (fun b o hb q => eb b o hb q) f0 f1 f3 f4 f5⟩
  self := fun A i s Q E st h => let ⟨⟨_, he⟩, _⟩ := st; wpAny_pyIter_enum he h
def iEnumT (K : PySem.W.Frag) (ta : TA) : TI := fun σ H R => ta σ H fun vs H1 => ∃ a xs, vs = [.ref a] ∧ SqT K H1 a xs ∧ R (IteT K a) H1
theorem k_pienumT {X : Cx} {K : PySem.W.Frag} (eK : X.K = K) {e : Expr} {ta : TA} {p pos tpos : Pos} {elts : List Expr} {kk : Nat} (hg : Gl X "enumerate") (hm : X.mg "enumerate" = none) (ha : PA X [e] ta) (hs : starEach [e] X.env = [(false, eval e X.env)] := by rfl) :
    PI X (.Tuple elts kk tpos) (.Call (.Name "enumerate" p) [e] [] pos) (iEnumT K ta) := by
  subst eK
  refine ⟨fun pins s σ H R I h => ?_⟩
  refine Call_ (ld_blt I hg hm boot_enumerate (PyProof.Rows.callWith_type1 (thn (ha.run pos pins s σ H _ I h) fun us s1 ⟨vs, H1, I1, r1, q1⟩ => ?_) hs rfl))
  obtain ⟨a, xs, ex, hq, q⟩ := q1
  subst ex
  cases r1 with
  | cons r rr =>
    cases rr
    cases r
    obtain ⟨its, rv, p', hz⟩ := I1.tuple hq
    have hlt : a < s1.heap.objs.size := by obtain ⟨_, q, _⟩ := p'; exact Heap.lt_size q
    refine call_enumerate_tuple p' fun h' he hit hsz hk => wpAny_pyIter_enum he ?_
    have I2 : Inv X pins σ H1 { s1 with heap := h' } := I1.kept (t' := s1.toks) hk
    refine ⟨s1.heap.objs.size + 1, [s1.heap.objs.size + 1, s1.heap.objs.size], _, _, H1, rfl, I2, turn_enumT a (s1.heap.objs.size + 1) s1.heap.objs.size, ⟨⟨.none, he⟩, hit, Nat.succ_ne_self _, Nat.ne_of_gt (Nat.lt_succ_of_lt hlt), Nat.ne_of_lt hlt⟩, fun b hb => ?_, q⟩
    have e' : b = s1.heap.objs.size + 1 ∨ b = s1.heap.objs.size := by simpa using hb
    have hle : s1.heap.objs.size ≤ b := by
      rcases e' with z | z
      · rw [z]; exact Nat.le_add_right _ _
      · rw [z]; exact Nat.le_refl _
    exact I1.fpOk hle (I1.hok.fresh hle)
theorem walk_enumT {K : PySem.W.Frag} {a : Addr} {xs : List V} : Walk (IteT K a) xs.length (fun H => SqT K H a xs) (YPair (fun i => some (.int (i : Nat))) (fun i => xs[i]?)) := by
  refine ⟨fun i _ hi q => ⟨xs, xs[i], q, by simp [hi]⟩, fun _ q => ⟨xs, q, rfl⟩, fun i H v H' _ q y => ?_⟩
  obtain ⟨T, x, h1, h2, h3, h4⟩ := y
  exact ⟨T, .int (i : Nat), x, h1, h2, h3, rfl, h4 xs q⟩
section
variable {K : PySem.W.Frag} {a : Addr} {xs : List V} {tgs : TGs} {tb : TS} {D : Ends} {σ : L2.St} {H : Hp}
theorem for_enumT (Pv : Nat → L2.St → Hp → Prop) (h0 : Pv 0 σ H) (hG : ∀ i σ H, i ≤ xs.length → Pv i σ H → SqT K H a xs)
    (hs : ∀ i x σ H T, xs[i]? = some x → Pv i σ H → H T = none → tgs [.int (i : Nat), x] σ (upd H T (.tup [.int (i : Nat), x])) fun σ2 H2 => tb { D with nx := Pv (i + 1), ct := Pv (i + 1), bk := D.nx } σ2 H2)
    (hd : ∀ σ H, Pv xs.length σ H → D.nx σ H) :
    ∃ W : Nat → Nat → L2.St → Hp → Prop, (∃ m, W 0 m σ H) ∧ ∀ i m σ H, W i m σ H →
      ((IteT K a).stop i H ∧ D.nx σ H) ∨ ((IteT K a).go i H ∧ ∃ N : L2.St → Hp → Prop, (∀ σ' H', N σ' H' → ∃ m', m' < m ∧ W (i + 1) m' σ' H') ∧ ∀ x H', (IteT K a).yld i H x H' → gTup K 2 tgs x σ H' fun σ2 H2 => tb { D with nx := N, ct := N, bk := D.nx } σ2 H2) :=
  for_it walk_enumT Pv h0 hG (fun i v σ H H' hi p y => by
    obtain ⟨T, x, z, rfl, hT, rfl, hx, hz⟩ := y
    cases hx
    exact ⟨T, _, rfl, .inl (.inl upd_same), rfl, hs i z σ H T hz p hT⟩) hd
end
end Fx
end

section
set_option Elab.async false
set_option linter.all false
set_option maxRecDepth 100000
set_option maxHeartbeats 4000000
/-! sorted(tuple of texts) -/
namespace Fx
open PySem PySem.Spec PyProof.Rows L2
section
variable {prog : Program} {w : World} {A : Around} {E : Value → Shared → Prop} {s : Shared}
theorem collect_tup {l : Addr} {vs : List Value} {Q : List Value → Shared → Prop} (hl : s.heap.IsTuple l vs.toArray)
    (h : Q vs { s with heap := (s.heap.push (seqObj "list" #[] 0)).update s.heap.objs.size (Obj.mapSeq (· ++ vs.toArray)) }) (hsz : vs.length ≤ sizeLine := by size_fits) :
    wpAny (model prog w) A (collect (.ref l)) Q E s := by
  obtain ⟨o, ho, hc, n, hd⟩ := id hl
  unfold collect
  refine wpAny_bind (wpAny_runValue (codeAny_builtin entry_proto_collect' ?_))
  show wpAny _ _ (do again (.builtin "list.__iadd__" ⟨[← newList [], .ref l], []⟩)) _ _ s
  refine wpAny_bind (wpAny_newList (wpAny_pure ⟨Code.quiet_builtin _ (by decide +kernel), codeAny_builtin entry_list_iadd' ?_⟩))
  show wpAny _ _ (Builtin.List.listExtendWith (.ref s.heap.objs.size) (.ref l) (.ref s.heap.objs.size)) _ _ { s with heap := s.heap.push (seqObj "list" #[] 0) }
  unfold Builtin.List.listExtendWith
  have ho' : (s.heap.push (seqObj "list" #[] 0)).get? l = some o := Heap.get?_push_of_some _ ho
  refine wpAny_bind (wpAny_typeOf (T := "tuple") ⟨o, ho', hc⟩ ?_)
  have ht : (Value.type "tuple" == Value.type "tuple") = true := by rfl
  rw [if_pos (by rw [ht]; simp)]
  refine wpAny_bind (listItems_at ho' hd ?_)
  refine wpAny_bind (listItems_at (xs := #[]) (n := 0) (Heap.get?_push_size _ rfl) rfl ?_)
  rw [if_neg (by simp)]
  refine wpAny_bind (listUpdate_at (xs := #[]) (n := 0) (Heap.get?_push_size _ rfl) rfl ?_ (Nat.zero_le _) (by show (#[] ++ vs.toArray).size ≤ sizeLine + 1; simp only [Array.size_append, List.size_toArray, List.length_nil]; omega))
  refine wpAny_pure ?_
  show wpAny (model prog w) A (do
      let o ← load s.heap.objs.size
      match o.data with
      | .seq xs _ => pure xs.toList
      | _ => unsupported "internal:collect") Q E { s with heap := (s.heap.push (seqObj "list" #[] 0)).update s.heap.objs.size (Obj.mapSeq (· ++ vs.toArray)) }
  refine wpAny_bind (wpAny_load (get?_update_seq (Heap.get?_push_size _ rfl) _) ?_)
  show wpAny _ _ (pure ((#[] : Array Value) ++ vs.toArray).toList) Q E _
  rw [show ((#[] : Array Value) ++ vs.toArray).toList = vs by simp]
  exact wpAny_pure h
theorem sorted_tupS {l : Addr} {vs : List Value} {ss : List Str} {Q : Value → Shared → Prop} (hl : s.heap.IsTuple l vs.toArray) (hS : StrsAre vs ss) (h64 : vs.length < 64)
    (h : ∀ (out : Array Value) (ss' : List Str), StrsAre out.toList ss' → ss'.Perm ss → sortedS ss' = true → Q (.ref (s.heap.objs.size + 1)) { s with heap := sortedAll s.heap vs out }) :
    wpAny (model prog w) A (call (.builtin "sorted") [.ref l]) Q E s := by
  refine Calls.call_function_entry kind_sorted plain_sorted entry_sorted (args_sorted1 _) ?_
  unfold Builtin.«sorted»
  refine wpAny_bind (m := checkCount "sorted" 1 1 _) (wpAny_pure ?_)
  refine wpAny_bind (collect_tup hl ?_)
  refine wpAny_bind (wpAny_newList ?_)
  have hsz : ((s.heap.push (seqObj "list" #[] 0)).update s.heap.objs.size (Obj.mapSeq (· ++ vs.toArray))).objs.size = s.heap.objs.size + 1 := by
    rw [Heap.size_update, size_push']
  have hoL : (((s.heap.push (seqObj "list" #[] 0)).update s.heap.objs.size (Obj.mapSeq (· ++ vs.toArray))).push (seqObj "list" vs.toArray 0)).get? (s.heap.objs.size + 1) = some (seqObj "list" vs.toArray 0) := by
    rw [← hsz]; exact Heap.get?_push_size _ rfl
  show wpAny _ _ _ _ _ { s with heap := ((s.heap.push (seqObj "list" #[] 0)).update s.heap.objs.size (Obj.mapSeq (· ++ vs.toArray))).push (seqObj "list" vs.toArray 0) }
  rw [hsz]
  refine wpAny_bind (wpAny_holding (wpAny_call_entry slot_list_sort ⟨_, hoL, rfl⟩ entry_list_sort (list_sort_treeK strKind_oneLt hoL hS.keysOf (fun v₁ v₂ rest e => keyKind_strs (by rw [← e]; exact hS)) h64 fun st' a1 a2 => ⟨_, rfl, ?_⟩) (args_list_sort _)))
  obtain ⟨ss', h1, h2, h3⟩ := sorted_out_str hS a1 a2
  exact wpAny_pure ⟨_, rfl, h _ ss' h1 h2 h3⟩
end
def rSortedST (K : PySem.W.Frag) : List V → Hp → VK → Prop := fun vs H Q => ∃ (a : Addr) (xs : List Str), vs = [V.ref a] ∧ SqT K H a (xs.map V.str) ∧ xs.length < 64 ∧
  ∀ (ys : List Str) (p : Addr), ys.Perm xs → sortedS ys = true → H p = none → Q (.ref p) (upd H p (.lst (ys.map V.str)))
theorem k_sortedST {X : Cx} {K : PySem.W.Frag} (e : X.K = K) : CallR X (.builtin "sorted") (rSortedST K) := by
  subst e
  intro pins s σ H vs us Q I r h
  obtain ⟨a, xs, rfl, hs, h64, q⟩ := h
  obtain ⟨its, rv, hl, _⟩ := I.tuple hs
  rw [Vals.ref1 r]
  have hlen0 := rv.length
  rw [List.length_map] at hlen0
  refine sorted_tupS hl rv.strs (by rw [← hlen0]; exact h64) fun out ys h1 h2 h3 => ?_
  obtain ⟨ep, he'⟩ := PyProof.Rows.sortedAll_at s.heap its out
  have hlen : (ys.map V.str).length ≤ sizeLine := by rw [List.length_map, h2.length_eq]; exact small64 h64
  exact ⟨.ref _, upd H (s.heap.objs.size + 1) (.lst (ys.map V.str)), I.laid (t' := s.toks) (fun _ _ => PyProof.Rows.sortedAll_old) (Nat.le_succ _) ⟨hlen, out.toList, ep, vals_of_strs h1, he'⟩, rfl, q ys _ h2 h3 (I.hok.fresh (Nat.le_succ _))⟩
end Fx
end

section
set_option Elab.async false
set_option linter.all false
set_option maxRecDepth 100000
set_option maxHeartbeats 4000000
/-! facts of the written part; calls by keywords alone -/
namespace Fx
open PySem PySem.Spec PyProof.Rows L2
section
open He
/-- at a stands a written tuple of these -/
def tupIn (K : PySem.W.Frag) (a : Addr) (vs : List V) : Bool := match K.lookup a with
  | some ⟨.type c, _, .seq its _, _⟩ => decide (c = "tuple") && (decide (its.size ≤ sizeLine) && relAll vs its.toList)
  | _ => false
theorem tupIn_ok {K : PySem.W.Frag} {a : Addr} {vs : List V} (h : tupIn K a vs = true) (H : Hp) : SqT K H a vs := by
  unfold tupIn at h
  cases q : K.lookup a with
  | none => rw [q] at h; cases h
  | some o =>
    obtain ⟨oc, od, dt, osl⟩ := o
    rw [q] at h
    cases oc with
    | type c =>
      cases dt with
      | seq its n =>
        obtain ⟨h1, h2⟩ := ba (show (decide (c = "tuple") && (decide (its.size ≤ sizeLine) && relAll vs its.toList)) = true from h)
        obtain ⟨h3, h4⟩ := ba h2
        exact .inr ⟨_, its, n, q, congrArg Value.type (of_decide_eq_true h1), rfl, of_decide_eq_true h3, relAll_ok h4⟩
      | _ => cases h
    | _ => cases dt <;> cases h
/-- what stands at the i-th place of the written dict at d -/
def wAd (K : PySem.W.Frag) (d : Addr) (i : Nat) : Addr := match K.lookup d with
  | some ⟨_, _, .dict es _, _⟩ => (match es[i]? with
    | some e => (match e.val with
      | .ref a => a
      | _ => 0)
    | none => 0)
  | _ => 0
end
theorem fnIn_of {K : PySem.W.Frag} {x qual : Str} {params : Arguments} {body : List Stmt} {scope : Scope} {dvs : List V} {kws : List (Str × V)} {f : Addr} {fd : FuncData} (F : FunD K x qual params body scope dvs kws f fd) : PySem.W.fnIn K f = true := by
  obtain ⟨oc, od, dV, kV, doc, pm, an, cdv, ct, osl, e, lk, _⟩ := F.ex
  unfold PySem.W.fnIn
  rw [lk]
/-- f(k2 = r, k1 = b), f of the two parameters k1, k2 -/
def swap2 {α : Type} : List α → List α → List α
  | [], [r, b] => [b, r]
  | _, _ => []
theorem kb_swap {K : PySem.W.Frag} {x qual : Str} {params : Arguments} {body : List Stmt} {scope : Scope} {kws : List (Str × V)} {f : Addr} {fd : FuncData} {p q : Str} (F : FunD K x qual params body scope [] kws f fd)
    (h : ∀ (kV doc pm : Value) (an : Option Addr) (cdv ct : Value) (b r : Value), bindArgs (PySem.W.fnOf x qual params body scope .none kV doc pm an cdv ct) ⟨[], [(q, r), (p, b)]⟩ = pure [(p, b), (q, r)]) : KBinds K fd [p, q] [q, p] swap2 swap2 := by
  obtain ⟨oc, od, dV, kV, doc, pm, an, cdv, ct, osl, rfl, lk, hcd, hD, hK⟩ := F.ex
  rcases hD with ⟨_, rfl⟩ | ⟨e, _⟩
  · refine ⟨fun s us ws X hl => ?_, fun {vs us zs ws} r1 r2 => ?_⟩
    · match us, ws, hl with
      | [], [r, b], _ => exact .of_eq (h kV doc pm an cdv ct b r)
    · match vs, us, zs, ws, r1, r2 with
      | [], [], [r, b], [r', b'], .nil, .cons h1 (.cons h2 .nil) => exact .cons h2 (.cons h1 .nil)
      | [], [], [], [], .nil, .nil => exact .nil
      | [], [], [_], [_], .nil, .cons _ .nil => exact .nil
      | [], [], _ :: _ :: _ :: _, _ :: _ :: _ :: _, .nil, .cons _ (.cons _ (.cons _ _)) => exact .nil
      | _ :: _, _ :: _, _, _, .cons _ _, _ => exact .nil
  · exact absurd rfl e
section
variable {X : Cx} {CX : CXT} {k : Nat} {f : Addr} {fd : FuncData} {ps ks : List Str} {sp : Sp} {E : XK} {x : Str} {p pos : Pos} {kws : List Keyword} {tk : TA} {g : List Value → List Value → List Value} {gV : List V → List V → List V}
theorem pe_callK0 (F : FnOk X.prog X.w X.K X.mg X.base CX k f fd ps sp) (hr : Room k X.A) (hg : Gl X x) (hm : X.mg x = some (.ref f)) (hk : PySem.W.keepIn X.K (.ref f) = true) (hb : KBinds X.K fd ps ks g gV) (hx : Passes CX X E)
    (hkw : PK X kws tk) (hall : (backToKw pos (keywordEach kws X.env)).all (·.1.isSome) = true := by rfl) (hks : (backToKw pos (keywordEach kws X.env)).filterMap (·.1) = ks := by rfl)
    (hdb : (x == ("__debug__" : Str)) = false := by decide)
    (hpl : ((backTo pos (starEach [] X.env)).any (·.1) || (backToKw pos (keywordEach kws X.env)).any (·.1.isNone)) = false := by rfl) :
    PE X (.Call (.Name x p) [] kws pos) (tCallK sp gV E tNil tk) := by
  refine ⟨fun pins s σ H Q I h => ?_⟩
  refine wpAny_Call_Name_kw (ld_glob I hg hm ?_ hdb)
  refine PySem.W.callWith_KW0 (h₀ := X.base) I.ok.mod.kin hk hall (thn (hkw.run pos pins s σ H _ I h) fun ws s2 ⟨zs, H2, I2, rz, q2⟩ => ⟨I2.kIn, ?_⟩) hpl
  rw [hks]
  exact run_fnk (us := []) (vs := []) F hr hb hx I2 .nil rz q2
end
end Fx
end

section
set_option Elab.async false
set_option linter.all false
set_option maxRecDepth 100000
set_option maxHeartbeats 4000000
/-! one lemma for all turns within a comprehension -/
namespace Fx
open PySem PySem.Spec L2
section
variable {J : It} {n : Nat} {G : Hp → Prop} {Y : Nat → Hp → V → Hp → Prop}
theorem lcw (w : Walk J n G Y) {B : V → Hp → (Hp → Prop) → Prop} {H0 : Hp} {Qd : Hp → Prop} (Pv : Nat → Hp → Prop) (h0 : Pv 0 H0) (hG : ∀ i H, i ≤ n → Pv i H → G H)
    (hs : ∀ i x H H', i < n → Pv i H → Y i H x H' → B x H' (Pv (i + 1))) (hd : ∀ H, Pv n H → Qd H) :
    ∃ W : Nat → Nat → Hp → Prop, (∃ m, W 0 m H0) ∧ ∀ i m H, W i m H →
      (J.stop i H ∧ Qd H) ∨ (J.go i H ∧ ∃ Nx : Hp → Prop, (∀ H', Nx H' → ∃ m', m' < m ∧ W (i + 1) m' H') ∧ ∀ x H', J.yld i H x H' → B x H' Nx) := by
  refine ⟨fun i m H => m = n - i ∧ i ≤ n ∧ Pv i H, ⟨n, by simp, Nat.zero_le _, h0⟩, ?_⟩
  rintro i m H ⟨rfl, hi, p⟩
  have q := hG i H hi p
  by_cases hlt : i < n
  · refine .inr ⟨w.goes i H hlt q, Pv (i + 1), fun H' p' => ⟨n - (i + 1), by omega, rfl, hlt, p'⟩, fun x H' y => hs i x H H' hlt p (w.yields i H x H' hlt q y)⟩
  · have e : i = n := by omega
    subst e
    exact .inl ⟨w.stops H q, hd H p⟩
end
end Fx
end

section
set_option Elab.async false
set_option linter.all false
set_option maxRecDepth 100000
set_option maxHeartbeats 4000000
/-! promises that lean on no repr being under way; repr of data -/
namespace Fx
open PySem PySem.Spec PyProof.Rows L2
structure FnOkG (P : Program) (w : World) (K : PySem.W.Frag) (mg : Str → Option Value) (base : Heap) (CX : CXT) (k : Nat) (f : Addr) (fd : FuncData) (ps : List Str) (sp : Sp) : Prop where
  len : ∀ vs H Q E, sp vs H Q E → vs.length = ps.length
  run : ∀ (A : Around) (outer : List Env) (s : Shared) (H : Hp) (args : Args) (us : List Value) (vs : List V) (Q : VK) (E : XK), A.guards = some [] → Room k A → Env0 P w K mg base A outer s H → BindsTo s fd args (ps.zip us) → Vals vs us → sp vs H Q E →
    codeAny (model P w) A (.call (.ref f) args) (CR CX outer P w H s Q E) s
theorem fn_ofG {CX : CXT} {P : Program} {w : World} {K : PySem.W.Frag} {mg : Str → Option Value} {base : Heap} {k : Nat} {f : Addr} {name qual : Str} {params : Arguments} {body : List Stmt} {scope : Scope} {dV kV doc pm cdv ct oc : Value} {an od : Option Addr}
    {osl : Array (Option Value)} {N ps : List Str} {sp : Sp} (lk : K.lookup f = some ⟨oc, od, .func (PySem.W.fnOf name qual params body scope dV kV doc pm an cdv ct), osl⟩) (hcd : PySem.W.codeIn K cdv qual = true) (S : FnScope N ps scope)
    (len : ∀ vs H Q E, sp vs H Q E → vs.length = ps.length)
    (hbody : ∀ (A : Around) (outer : List Env) (s : Shared) (H : Hp) (vs : List V) (Q : VK) (E : XK), (A.deeper (envOfC qual scope s.heap.objs.size f cdv)).guards = some [] → Room k (A.deeper (envOfC qual scope s.heap.objs.size f cdv)) → sp vs H Q E →
      ∃ t, PSs (cxOf CX P w K mg base N qual scope f cdv A outer s H E) body t ∧ t { nx := fun _ H' => Q .non H', rt := Q } (start N vs) H) :
    FnOkG P w K mg base CX (k + 1) f (PySem.W.fnOf name qual params body scope dV kV doc pm an cdv ct) ps sp := by
  refine ⟨len, fun A outer s H args us vs Q E hgd hr e0 hb r hsp => ?_⟩
  have hl := len _ _ _ _ hsp
  have KX : K.In s.heap := e0.mod.kin.keeps fun b o e => (e0.bs b o e).1
  have lim : s.heap.NoLimit := e0.mod.nolimit.keeps fun b o e => (e0.bs b o e).1
  have hkind : ∀ y ∈ ps.zip us, scope.names.lookup y.1 = some .local ∨ (scope.names.lookup y.1 = some .cell ∧ ((cellsFrom (s.heap.objs.size + 1) scope.names []).lookup y.1).isSome = true) := fun ⟨n, v⟩ hy => by
    rcases S.par n (List.of_mem_zip hy).1 with q | q
    · exact .inl q
    · exact .inr ⟨q, PySem.W.cellsFrom_some _ _ _ (.inl q)⟩
  refine codeAny_call_function hr.depth (KX _ _ lk) rfl S.co S.gen rfl (PySem.W.codeRec_of KX hcd) (hb _ _ _ _ ?_)
  refine wpAny_newFunctionEnv_cells S.kind hkind fun env he s1 x => ?_
  subst he
  refine ⟨lim.keeps x.toInCall.keep, codeAny_func ?_⟩
  obtain ⟨t, ht, hq⟩ := hbody A outer s H vs Q E hgd (hr.deeper _) hsp
  have I : Inv (cxOf CX P w K mg base N qual scope f cdv A outer s H E) [] (start N vs) H s1 := inv_start S hr.hd e0 hl r x
  refine wpAny_mono (ht.run [] s1 (start N vs) H _ I hq) (fun fl s' hs => ?_) fun e s' hs => hs
  have fin : ∀ {σ' : L2.St} {H' : Hp} {v : V} {u : Value}, Inv (cxOf CX P w K mg base N qual scope f cdv A outer s H E) [] σ' H' s' → RelV v u → Q v H' → CE outer P w H s Q u s' :=
    fun {σ' H' v u} J rv q => ⟨v, H', J.os, J.bare, J.base, J.hok, rv, q⟩
  cases fl with
  | ret u =>
    obtain ⟨v, σ', H', J, rv, q⟩ := hs
    exact fin J rv q
  | next =>
    obtain ⟨σ', H', J, q⟩ := hs
    exact fin (v := V.non) (u := Value.none) J rfl q
  | brk =>
    obtain ⟨_, _, _, q⟩ := hs
    exact False.elim q
  | cont =>
    obtain ⟨_, _, _, q⟩ := hs
    exact False.elim q
theorem okG {P : Program} {w : World} {K : PySem.W.Frag} {mg : Str → Option Value} {base : Heap} {x qual : Str} {params : Arguments} {body : List Stmt} {scope : Scope} {dvs : List V} {kws : List (Str × V)} {f : Addr} {fd : FuncData}
    {CX : CXT} {N ps : List Str} {k : Nat} {sp : Sp} (F : FunD K x qual params body scope dvs kws f fd) (S : FnScope N ps scope) (len : ∀ vs H Q E, sp vs H Q E → vs.length = ps.length)
    (hbody : ∀ (cdv : Value) (A : Around) (outer : List Env) (s : Shared) (H : Hp) (vs : List V) (Q : VK) (E : XK), (A.deeper (envOfC qual scope s.heap.objs.size f cdv)).guards = some [] → Room k (A.deeper (envOfC qual scope s.heap.objs.size f cdv)) → sp vs H Q E →
      ∃ t, PSs (cxOf CX P w K mg base N qual scope f cdv A outer s H E) body t ∧ t { nx := fun _ H' => Q .non H', rt := Q } (start N vs) H) : FnOkG P w K mg base CX (k + 1) f fd ps sp := by
  obtain ⟨oc, od, dV, kV, doc, pm, an, cdv, ct, osl, rfl, lk, hcd, _, _⟩ := F.ex
  exact fn_ofG lk hcd S len fun A outer s H vs Q E hg hr hsp => hbody cdv A outer s H vs Q E hg hr hsp
section
variable {X : Cx} {CX : CXT} {k : Nat} {f : Addr} {fd : FuncData} {ps : List Str} {sp : Sp} {E : XK} {x : Str} {p pos : Pos} {e : Expr} {es : List Expr} {t : TA}
theorem pe_callG (gd : X.A.guards = some []) (F : FnOkG X.prog X.w X.K X.mg X.base CX k f fd ps sp) (hr : Room k X.A) (hg : Gl X x) (hm : X.mg x = some (.ref f)) (hk : PySem.W.keepIn X.K (.ref f) = true) (hb : Binds X.K fd ps []) (hx : Passes CX X E)
    (ha : PA X (e :: es) t) (hdb : (x == ("__debug__" : Str)) = false := by decide) (he : starEach (e :: es) X.env = (false, eval e X.env) :: starEach es X.env := by rfl) (hpl : (backTo pos (starEach es X.env)).any (·.1) = false := by rfl) :
    PE X (.Call (.Name x p) (e :: es) [] pos) (tCall sp [] E t) := by
  refine ⟨fun pins s σ H Q I h => ?_⟩
  refine wpAny_Call_Name_kw (ld_glob I hg hm ?_ hdb)
  refine PySem.W.callWith_K (h₀ := X.base) I.ok.mod.kin hk (thn (ha.run pos pins s σ H _ I h) fun us s1 ⟨vs, H1, I1, r, q⟩ => ⟨I1.kIn, ?_⟩) he hpl
  have q' : sp vs H1 Q E := by rw [← List.append_nil vs]; exact q
  have hl : us.length = ps.length := by rw [← r.length]; exact F.len _ _ _ _ q'
  have bd : BindsTo s1 fd ⟨us, []⟩ (ps.zip us) := by
    have z := hb s1 us I1.kIn (by rw [List.append_nil]; exact hl)
    rw [List.append_nil] at z; exact z
  refine wpAny_call (codeAny_mono (F.run X.A X.stack s1 H1 ⟨us, []⟩ us vs Q E gd hr I1.env0 bd r q') fun r s' hq => ?_)
  cases r with
  | error e => exact hx pins σ H1 s1 e s' I1 hq
  | ok fl =>
    cases fl with
    | ret u => exact I1.after hq
    | next => exact False.elim hq
    | brk => exact False.elim hq
    | cont => exact False.elim hq
/-- repr of a list or tuple of data -/
def rReprD (K : PySem.W.Frag) : List V → Hp → VK → Prop := fun xs H Q => ∃ (a : Addr) (d : PyData), xs = [.ref a] ∧ Dp K H (.ref a) d ∧ d.showable = true ∧ d.hasDict = false ∧ d.depth ≤ 64 ∧ d.shown.length ≤ sizeLine ∧ Q (.str d.shown) H
theorem k_reprD {K : PySem.W.Frag} (eK : X.K = K) (gd : X.A.guards = some []) (hu : X.A.units + 66 < cLine) : CallR X (.builtin "repr") (rReprD K) := by
  subst eK
  intro pins s σ H vs us Q I r h
  obtain ⟨a, d, rfl, hd, h1, h2, h3, h4, q⟩ := h
  rw [Vals.ref1 r]
  obtain ⟨as, rd⟩ := Dp.reads I d (.ref a) (.ref a) hd rfl
  refine PySem.repr_of_reads' rd h1 (fun z => by rw [h2] at z; cases z) gd (by omega) (fun _ _ e => e) (fun h' u tk hk => ?_) h4
  exact ⟨.str _, H, I.kept (t' := tk) hk, ⟨u, rfl⟩, q⟩
end
end Fx
namespace Fx
open L2 PySem
theorem u66 {k : Nat} {A : Around} (r : Room k A) : A.units + 66 < cLine := by have := r.un; omega
/-- the def found by a path keeps such a promise -/
abbrev OkG (P : Program) (w : World) (K : PySem.W.Frag) (mg : Str → Option Value) (base : Heap) (k : Nat) (p : Str × Option Str) (ps : List Str) (sp : Sp) : Prop :=
  FnOkG P w K mg base CX0 k (He.fAd K p) (fdOf K (He.fAd K p)) ps sp
theorem FnOkG.mono {P : Program} {w : World} {K : PySem.W.Frag} {mg : Str → Option Value} {base : Heap} {CX : CXT} {j k : Nat} {f : Addr} {fd : FuncData} {ps : List Str} {sp : Sp} (F : FnOkG P w K mg base CX j f fd ps sp) (h : j ≤ k) :
    FnOkG P w K mg base CX k f fd ps sp := ⟨F.len, fun A outer s H args us vs Q E hg hr => F.run A outer s H args us vs Q E hg (hr.mono h)⟩
end Fx
end

section
set_option Elab.async false
set_option linter.all false
set_option maxRecDepth 100000
set_option maxHeartbeats 4000000
/-! a law's end where the promise leans on no repr being under way -/
namespace Fx
open PySem PySem.Spec PyProof.Rows L2
section
variable {P : Program} {w : World} {K : PySem.W.Frag} {mg mb : Str → Option Value} {k : Nat} {f q : Addr} {fd : FuncData} {x : Str} {sp : Sp} {st : Shared} {us : List Value} {is : List Int}
/-- from one abstract heap that tracks at most the script -/
theorem callG_core (H : Hp) (inK : K.In st.heap) (glob : st.heap.Ns mainGlobals mg) (blt : st.heap.Ns builtinsNs mb) (bltIs : ∀ x : Str, x ≠ "__name__" → mb x = bootBuiltins x) (noLim : st.heap.NoLimit) (noGen : st.gens = #[])
    (obj : st.heap.get? q = some { cls := .type "list", data := .seq us.toArray }) (room : Room k callerA)
    (F : ∀ base : Heap, K.In base → base.Ns mainGlobals mg → FnOkG P w K mg base CX0 k f fd [x] sp) (bind : ∀ (s : Shared) (u : Value), BindsTo s fd ⟨[u], []⟩ [(x, u)])
    (only : Only H) (holds : HOk P w H st.heap) (at_ : ∀ b, H b ≠ none → b = q) (off : H q ≠ none → K.lookup q = none) (pr : sp [.ref q] H (fun v _ => v = .bl true) fun _ _ _ => False) :
    codeAny (model P w) callerA (.call (.ref f) ⟨[.ref q], []⟩) (fun r t => r = .ok (.ret (.bool true)) ∧ OldK st.heap t.heap ∧ t.os = st.os ∧ AllBare t.gens) st := by
  have free : ∀ {b : Addr} {o : Obj}, st.heap.get? b = some o → b ≠ q → H b = none := fun {b o} _ n => Classical.byContradiction fun z => n (at_ b z)
  have notq : ∀ {b : Addr} {o : Obj} {es : Array DictEntry} {ep : Nat}, st.heap.get? b = some o → o.data = .dict es ep → b ≠ q := fun {b o es ep} e d z => by
    subst z
    have h1 := Option.some.inj (obj.symm.trans e)
    subst h1
    cases (show Data.seq us.toArray _ = Data.dict es ep from d)
  have ns : ∀ {b : Addr} {m : Str → Option Value}, st.heap.Ns b m → (hidT st.heap H).Ns b m := fun {b m} z => by
    obtain ⟨o, es, ep, e, d, r⟩ := z
    exact ⟨o, es, ep, hidT_get e (free e (notq e d)), d, r⟩
  have inB : K.In (hidT st.heap H) := fun b o e => by
    refine hidT_get (inK b o e) (Classical.byContradiction fun z => ?_)
    have zq := at_ b z
    subst zq
    rw [off z] at e
    cases e
  have mod : Mod K mg (hidT st.heap H) := by
    obtain ⟨mc, l1, l2⟩ := noLim
    exact ⟨inB, ns glob, ⟨mb, ns blt, bltIs⟩, mc, ns l1, l2⟩
  have env : Env0 P w K mg (hidT st.heap H) callerA [] st H := by
    refine ⟨rfl, mod, fun b o e => of_hidT e, Nat.le_of_eq (hidT_size _ _), trivial, ?_, holds, .of_eq noGen⟩
    intro b hb
    cases (show b ∈ ([] : List Addr) from hb)
  have go := (F _ inB (ns glob)).run callerA [] st H ⟨[.ref q], []⟩ [.ref q] [.ref q] _ _ rfl room env (bind st (.ref q)) (.cons rfl .nil) pr
  refine codeAny_mono go ?_
  intro r t h
  match r, h with
  | .error e, h => exact (show False from h).elim
  | .ok .next, h => exact False.elim h
  | .ok .brk, h => exact False.elim h
  | .ok .cont, h => exact False.elim h
  | .ok (.ret u), h =>
    obtain ⟨v, H2, eo, ba, un, ok2, rv, tr⟩ := h
    have tr' : v = .bl true := tr
    subst tr'
    cases (show u = Value.bool true from rv)
    refine ⟨rfl, .of_keep ?_, eo, ba⟩
    intro b o e
    by_cases hq : H b = none
    · refine un.keep b o e hq ?_ (by simp)
      intro z
      cases (show b ∈ ([] : List Addr) from z)
    · obtain ⟨u, hu⟩ := Option.ne_none_iff_exists'.mp hq
      rcases only b with z | ⟨o2, xs, z⟩
      · exact absurd z hq
      · have e1 := (holds b _ z).1
        rw [e] at e1
        cases e1
        exact (ok2 b _ (un.frzs b _ _ z)).1
theorem law_callG (inK : K.In st.heap) (glob : st.heap.Ns mainGlobals mg) (blt : st.heap.Ns builtinsNs mb) (bltIs : ∀ x : Str, x ≠ "__name__" → mb x = bootBuiltins x) (noLim : st.heap.NoLimit) (noGen : st.gens = #[])
    (obj : st.heap.get? q = some { cls := .type "list", data := .seq us.toArray }) (intsOf : IntsAre us is) (len : is.length ≤ sizeLine) (room : Room k callerA)
    (F : ∀ base : Heap, K.In base → base.Ns mainGlobals mg → FnOkG P w K mg base CX0 k f fd [x] sp) (bind : ∀ (s : Shared) (u : Value), BindsTo s fd ⟨[u], []⟩ [(x, u)])
    (pr : ∀ H : Hp, Only H → SqL K H q (is.map V.int) → sp [.ref q] H (fun v _ => v = .bl true) fun _ _ _ => False) :
    codeAny (model P w) callerA (.call (.ref f) ⟨[.ref q], []⟩) (fun r t => r = .ok (.ret (.bool true)) ∧ OldK st.heap t.heap ∧ t.os = st.os ∧ AllBare t.gens) st := by
  have rel := vals_ints intsOf
  have same := intsOf.length
  by_cases hk : K.lookup q = none
  · -- the script is none of the module's objects: it is tracked, and stays as it is
    let H : Hp := fun b => if b = q then some (.frz { cls := .type "list", data := .seq us.toArray } (.lst (is.map V.int))) else none
    have yes : H q = some (.frz { cls := .type "list", data := .seq us.toArray } (.lst (is.map V.int))) := if_pos rfl
    have no : ∀ b, b ≠ q → H b = none := fun b n => if_neg n
    have on : Only H := fun b => by
      by_cases h : b = q
      · subst h; exact .inr ⟨_, _, yes⟩
      · exact .inl (no b h)
    refine callG_core H inK glob blt bltIs noLim noGen obj room F bind on ?_ (fun b z => Classical.byContradiction fun n => z (no b n)) (fun _ => hk) (pr H on (.inl (.inr ⟨_, yes⟩)))
    intro b u e
    by_cases h : b = q
    · subst h
      rw [yes] at e
      cases e
      exact ⟨obj, by rw [List.length_map]; exact len, us, _, rel, obj⟩
    · rw [no b h] at e
      cases e
  · obtain ⟨o, ho⟩ := Option.ne_none_iff_exists'.mp hk
    have e := inK q o ho
    rw [obj] at e
    cases e
    have on : Only (fun _ => none) := fun _ => .inl rfl
    refine callG_core (fun _ => none) inK glob blt bltIs noLim noGen obj room F bind on ?_ (fun b z => absurd rfl z) (fun z => absurd rfl z) (pr _ on ?_)
    · intro b u z
      cases (show (none : Option HO) = some u from z)
    · exact .inr ⟨_, us.toArray, _, ho, rfl, rfl, rfl, by rw [List.size_toArray, same]; exact len, by simpa using rel⟩
end
/-- the end of a law whose promise leans on no repr being under way; the bits of the script are told -/
theorem walk_ofG {l : PySem.W.OpenLaw} {n k : Nat} {q : Program} {loose : List Str} {XP : (Str → Option Value) → Heap → Prop} {YP : World → Heap → Prop} {d : DefRec} {x : Str}
    (hn : l.most = some n) (hn2 : n ≤ sizeLine) (hdf : d.params.defaults = []) (hr : Room k callerA)
    (F : ∀ (w : World) (mg : Str → Option Value) (fa : Addr) (h : Heap), YP w h → h.Ns mainGlobals mg → mg d.name = some (.ref fa) →
      ∃ (K : PySem.W.Frag) (fd : FuncData) (sp : Sp), K.In h ∧ (∀ (s : Shared) (u : Value), BindsTo s fd ⟨[u], []⟩ [(x, u)]) ∧
        (∀ (H : Hp) (a : Addr) (ns : List Int), ns.length ≤ n → (∀ z ∈ ns, Builtin.Int.intBits z ≤ 1048576) → Only H → SqL K H a (ns.map V.int) → sp [.ref a] H (fun v _ => v = .bl true) fun _ _ _ => False) ∧
        ∀ base : Heap, K.In base → base.Ns mainGlobals mg → FnOkG l.prog w K mg base CX0 k fa fd [x] sp) :
    PySem.W.WalkO q loose XP YP l.row.toRowW d [] (fun f vs => PySem.call f vs) := by
  refine Att.attach_callB hn hdf ?_
  intro w s0 st mg mb fa o pm cd doc a vs ns G Y _ _ _ named obj intsOf len bits noGen
  obtain ⟨K, fd, sp, inK, bind, pr, hF⟩ := F w mg fa _ Y G.T.g named
  exact law_callG inK G.T.g G.T.b G.T.builtins G.T.nolimit noGen obj intsOf (Nat.le_trans len hn2) hr hF bind fun H on hS => pr H a ns len bits on hS
end Fx
end

section
set_option Elab.async false
set_option linter.all false
set_option maxRecDepth 100000
set_option maxHeartbeats 4000000
/-! dicts whose keys are tuples of any depth (ints, texts, None, tuples) -/
namespace Fx
open PySem PySem.Spec PyProof.Rows L2
mutual
/-- a value that is such a key, over the abstract heap -/
inductive NkAt (H : Hp) : V → NestedKey → Prop
  | non : NkAt H .non .none
  | int (i : Int) : NkAt H (.int i) (.num i)
  | str (x : Str) : NkAt H (.str x) (.text x)
  | tup {a : Addr} {xs : List V} {ks : List NestedKey} : H a = some (.tup xs) → NkAll H xs ks → NkAt H (.ref a) (.tup ks)
inductive NkAll (H : Hp) : List V → List NestedKey → Prop
  | nil : NkAll H [] []
  | cons {x : V} {k : NestedKey} {xs : List V} {ks : List NestedKey} : NkAt H x k → NkAll H xs ks → NkAll H (x :: xs) (k :: ks)
end
mutual
theorem NkAt.mono {H H' : Hp} (s : ∀ b xs, H b = some (.tup xs) → H' b = some (.tup xs)) : ∀ {k : NestedKey} {v : V}, NkAt H v k → NkAt H' v k
  | _, _, .non => .non
  | _, _, .int i => .int i
  | _, _, .str x => .str x
  | .tup ks, _, .tup e h => .tup (s _ _ e) (NkAll.mono s h)
theorem NkAll.mono {H H' : Hp} (s : ∀ b xs, H b = some (.tup xs) → H' b = some (.tup xs)) : ∀ {ks : List NestedKey} {vs : List V}, NkAll H vs ks → NkAll H' vs ks
  | _, _, .nil => .nil
  | k :: ks, _, .cons h r => .cons (NkAt.mono s h) (NkAll.mono s r)
end
theorem NkAll.ints {H : Hp} : ∀ ns : List Int, NkAll H (ns.map V.int) (ns.map NestedKey.num)
  | [] => .nil
  | n :: r => .cons (.int n) (NkAll.ints r)
section
variable {P : Program} {w : World} {H : Hp} {h : Heap}
mutual
theorem NkAt.is (ok : HOk P w H h) : ∀ (k : NestedKey) (v : V) (u : Value), NkAt H v k → RelV v u → NestedIs h k u
  | .none, _, _, x, r => by
    cases x
    cases (show _ = Value.none from r)
    exact .none
  | .num i, _, _, x, r => by
    cases x
    obtain ⟨t, rfl⟩ := r
    exact .int i t
  | .text y, _, _, x, r => by
    cases x
    obtain ⟨t, rfl⟩ := r
    exact .text y t
  | .tup ks, _, _, x, r => by
    cases x with
    | @tup a xs ks e hk =>
      cases (show _ = Value.ref a from r)
      obtain ⟨_, its, rv, o, h1, h2, n, h3⟩ := (show ObjOk P w H h a (.tup xs) from ok a _ e)
      exact .tup h1 h2 h3 (by simpa using NkAll.is ok ks xs its hk rv)
theorem NkAll.is (ok : HOk P w H h) : ∀ (ks : List NestedKey) (vs : List V) (us : List Value), NkAll H vs ks → Vals vs us → NestedAll h ks us
  | [], _, _, x, r => by
    cases x
    cases r
    exact .nil
  | k :: ks, _, _, x, r => by
    cases x with
    | cons x1 x2 =>
      cases r with
      | cons r1 r2 => exact .cons (NkAt.is ok k _ _ x1 r1) (NkAll.is ok ks _ _ x2 r2)
end
end
abbrev NE := NestedKey × Addr × V
abbrev NP (p : NE) (q : NestedKey × Addr × Value) : Prop := p.1 = q.1 ∧ p.2.1 = q.2.1 ∧ RelV p.2.2 q.2.2
/-- the object of such a dict -/
def ndOf (P : Program) (w : World) (d : Addr) (kvs : List NE) (h : Heap) : Prop := kvs.length ≤ sizeLine ∧ (d == sysModules) = false ∧ ∃ xs : List (NestedKey × Addr × Value), Paired NP kvs xs ∧
  ∃ o es ep, h.get? d = some o ∧ o.ExactDict ∧ o.data = .dict es ep ∧ es.toList = xs.map (entryOfKey (nestedKind P w)) ∧ (xs.map (·.1)).Nodup
/-- such a dict stands at d -/
def NDict (P : Program) (w : World) (H : Hp) (d : Addr) (kvs : List NE) : Prop := H d = some (.ext (ndOf P w d kvs)) ∧ ∀ e ∈ kvs, NkAt H (.ref e.2.1) e.1 ∧ e.1.depth ≤ 8
def valN (kvs : List NE) (k : NestedKey) : Option V := (kvs.find? fun e => decide (e.1 = k)).map (·.2.2)
def putN (kvs : List NE) (k : NestedKey) (a : Addr) (v : V) : List NE := if (valN kvs k).isSome then kvs.map (fun e => if e.1 = k then (e.1, e.2.1, v) else e) else kvs ++ [(k, a, v)]
theorem NDict.mono {P : Program} {w : World} {H H' : Hp} {d : Addr} {kvs : List NE} (h : NDict P w H d kvs) (s : Same H H') : NDict P w H' d kvs := ⟨s _ _ h.1, fun e he => ⟨(h.2 e he).1.mono fun _ _ z => s _ _ z, (h.2 e he).2⟩⟩
theorem NDict.x {P : Program} {w : World} {H H' : Hp} {W : List Addr} {d : Addr} {kvs : List NE} (h : NDict P w H d kvs) (s : SameX W H H') (hd : d ∉ W) (ht : ∀ b xs, b ∈ W → H b ≠ some (.tup xs)) : NDict P w H' d kvs :=
  ⟨s _ _ hd h.1, fun e he => ⟨(h.2 e he).1.mono fun b xs z => s b _ (fun m => ht b xs m z) z, (h.2 e he).2⟩⟩
theorem pair_at : ∀ {kvs : List NE} {xs : List (NestedKey × Addr × Value)}, Paired NP kvs xs → ∀ k, (valN kvs k = none ∧ atKey xs k = none) ∨ ∃ v a u, valN kvs k = some v ∧ atKey xs k = some (a, u) ∧ RelV v u
  | _, _, .nil, k => .inl ⟨rfl, rfl⟩
  | p :: kvs, q :: xs, .cons h t, k => by
    by_cases e : p.1 = k
    · have e2 : q.1 = k := h.1.symm.trans e
      exact .inr ⟨p.2.2, q.2.1, q.2.2, by simp [valN, e], by simp [atKey, e2], h.2.2⟩
    · have e2 : ¬ q.1 = k := fun z => e (h.1.trans z)
      have := pair_at t k
      simpa [valN, atKey, List.find?_cons, e, e2] using this
theorem pair_all {P : Program} {w : World} {H : Hp} {h : Heap} (ok : HOk P w H h) : ∀ {kvs : List NE} {xs : List (NestedKey × Addr × Value)}, Paired NP kvs xs → (∀ e ∈ kvs, NkAt H (.ref e.2.1) e.1 ∧ e.1.depth ≤ 8) → ∀ x ∈ xs, (nestedKind P w).is h x.1 x.2.1
  | _, _, .nil, _, x, hx => by cases hx
  | p :: kvs, q :: xs, .cons h t, hk, x, hx => by
    rcases List.mem_cons.mp hx with e | hx
    · subst e
      obtain ⟨a, b⟩ := hk p (List.mem_cons_self ..)
      rw [h.1, h.2.1] at a
      rw [h.1] at b
      exact ⟨NkAt.is ok _ _ _ a rfl, b⟩
    · exact pair_all ok t (fun e he => hk e (List.mem_cons_of_mem _ he)) x hx
theorem pair_put : ∀ {kvs : List NE} {xs : List (NestedKey × Addr × Value)} (r : Paired NP kvs xs) (k : NestedKey) (a : Addr) {v : V} {u : Value}, RelV v u → Paired NP (putN kvs k a v) (storedH xs k a u) := by
  intro kvs xs r k a v u rv
  unfold putN storedH
  rcases pair_at r k with ⟨e1, e2⟩ | ⟨_, _, _, e1, e2, _⟩
  · rw [e1, e2]
    exact Paired.snoc r ⟨rfl, rfl, rv⟩
  · rw [e1, e2]
    show Paired NP (kvs.map _) (xs.map (putAt k u))
    clear e1 e2
    induction r with
    | nil => exact .nil
    | @cons p q ps qs h t ih =>
      refine .cons ?_ ih
      show NP (if p.1 = k then (p.1, p.2.1, v) else p) (if q.1 = k then (q.1, q.2.1, u) else q)
      by_cases e : p.1 = k
      · rw [if_pos e, if_pos (h.1.symm.trans e)]; exact ⟨h.1, h.2.1, rv⟩
      · rw [if_neg e, if_neg (fun z => e (h.1.trans z))]; exact h
theorem putN_mem {kvs : List NE} {k : NestedKey} {a : Addr} {v : V} {e : NE} (he : e ∈ putN kvs k a v) : (∃ e' ∈ kvs, e'.1 = e.1 ∧ e'.2.1 = e.2.1) ∨ (e.1 = k ∧ e.2.1 = a) := by
  unfold putN at he
  split at he
  · obtain ⟨e', h1, rfl⟩ := List.mem_map.mp he
    refine .inl ⟨e', h1, ?_⟩
    split <;> exact ⟨rfl, rfl⟩
  · rcases List.mem_append.mp he with h | h
    · exact .inl ⟨e, h, rfl, rfl⟩
    · rw [List.mem_singleton] at h; subst h; exact .inr ⟨rfl, rfl⟩
theorem putN_len {kvs : List NE} {k : NestedKey} {a : Addr} {v : V} : (putN kvs k a v).length ≤ kvs.length + 1 := by
  unfold putN; split
  · rw [List.length_map]; omega
  · rw [List.length_append]; exact Nat.le_refl _
section
variable {X : Cx} {pins : List (Addr × Obj)} {σ : L2.St} {H : Hp} {s : Shared} {d a : Addr} {kvs : List NE} {k : NestedKey}
theorem nd_of (I : Inv X pins σ H s) (h : NDict X.prog X.w H d kvs) : kvs.length ≤ sizeLine ∧ (d == sysModules) = false ∧ ∃ xs, Paired NP kvs xs ∧ s.heap.DictOfH (nestedKind X.prog X.w) d xs := by
  obtain ⟨⟨z, hd, xs, r, o, es, ep, h1, h2, h3, h4, h5⟩, _⟩ := (show ObjOk X.prog X.w H s.heap d (.ext (ndOf X.prog X.w d kvs)) from I.hok d _ h.1)
  exact ⟨z, hd, xs, r, o, es, ep, h1, h2, h3, h4, pair_all I.hok r h.2, h5⟩
theorem nk_is (I : Inv X pins σ H s) (hk : NkAt H (.ref a) k) (h8 : k.depth ≤ 8) : (nestedKind X.prog X.w).is s.heap k a := ⟨NkAt.is I.hok _ _ _ hk rfl, h8⟩
/-- an exact dict at d, entries as xs: what ndOf asks of the heap -/
theorem nd_obj {h' : Heap} {kvs' : List NE} {xs : List (NestedKey × Addr × Value)} {H' : Hp} (z : kvs'.length ≤ sizeLine) (hd : (d == sysModules) = false) (r : Paired NP kvs' xs) (dd : h'.DictOfH (nestedKind X.prog X.w) d xs) :
    ObjOk X.prog X.w H' h' d (.ext (ndOf X.prog X.w d kvs')) := by
  obtain ⟨o, es, ep, h1, h2, h3, h4, _, h5⟩ := dd
  refine ⟨⟨z, hd, xs, r, o, es, ep, h1, h2, h3, h4, h5⟩, ⟨o, h1⟩, fun g1 g2 ⟨z, hd, xs, r, o, es, ep, h1, h2, h3, h4, h5⟩ kp => ⟨z, hd, xs, r, o, es, ep, kp _ h1, h2, h3, h4, h5⟩⟩
theorem nd_noDict (I : Inv X pins σ H s) (h : NDict X.prog X.w H d kvs) : ∀ b, Value.ref d = .ref b → ∃ ob, s.heap.get? b = some ob ∧ ob.dict = none := fun b q => by
  cases q
  obtain ⟨_, _, xs, _, ob, _, _, h1, h2, _⟩ := nd_of I h
  exact ⟨ob, h1, h2.2.1⟩
end
/-! ### the rules -/
section
variable {X : Cx}
/-- k in d, k not in d -/
def rNIn (P : Program) (w : World) : R2 := fun x y H Q => ∃ (a d : Addr) (k : NestedKey) (kvs : List NE), x = .ref a ∧ y = .ref d ∧ NDict P w H d kvs ∧ NkAt H (.ref a) k ∧ k.depth ≤ 8 ∧ Q (.bl (valN kvs k).isSome) H
def rNNotIn (P : Program) (w : World) : R2 := fun x y H Q => ∃ (a d : Addr) (k : NestedKey) (kvs : List NE), x = .ref a ∧ y = .ref d ∧ NDict P w H d kvs ∧ NkAt H (.ref a) k ∧ k.depth ≤ 8 ∧ Q (.bl (!(valN kvs k).isSome)) H
theorem op_nin (hu : X.A.units + 12 < cLine) : OpR X (compareOp .In) (rNIn X.prog X.w) := by
  intro pins s σ H x y v u Q I rx ry h
  obtain ⟨a, d, k, kvs, rfl, rfl, hD, hk, h8, q⟩ := h
  obtain rfl : v = Value.ref a := rx
  obtain rfl : u = Value.ref d := ry
  obtain ⟨z, hd, xs, r, dd⟩ := nd_of I hD
  refine wpAny_in_heap (knd := nestedKind X.prog X.w) (by show X.A.units + 1 + 8 < cLine; omega) (nk_is I hk h8) hd dd ?_
  have e : (atKey xs k).isSome = (valN kvs k).isSome := by
    rcases pair_at r k with ⟨e1, e2⟩ | ⟨_, _, _, e1, e2, _⟩ <;> rw [e1, e2] <;> rfl
  rw [e]
  exact ⟨.bl _, H, I.tok _, rfl, q⟩
theorem op_nnotin (hu : X.A.units + 12 < cLine) : OpR X (compareOp .NotIn) (rNNotIn X.prog X.w) := by
  intro pins s σ H x y v u Q I rx ry h
  obtain ⟨a, d, k, kvs, rfl, rfl, hD, hk, h8, q⟩ := h
  obtain rfl : v = Value.ref a := rx
  obtain rfl : u = Value.ref d := ry
  obtain ⟨z, hd, xs, r, dd⟩ := nd_of I hD
  refine wpAny_notIn_heap (knd := nestedKind X.prog X.w) (by show X.A.units + 1 + 8 < cLine; omega) (nk_is I hk h8) hd dd ?_
  have e : (atKey xs k).isSome = (valN kvs k).isSome := by
    rcases pair_at r k with ⟨e1, e2⟩ | ⟨_, _, _, e1, e2, _⟩ <;> rw [e1, e2] <;> rfl
  rw [e]
  exact ⟨.bl _, H, I.tok _, rfl, q⟩
/-- d[k], there -/
def tNGet (P : Program) (w : World) (td ty : TE) : TE := fun σ H Q => td σ H fun x H1 => ty σ H1 fun y H2 => ∃ (d a : Addr) (k : NestedKey) (kvs : List NE) (v : V), x = .ref d ∧ y = .ref a ∧ NDict P w H2 d kvs ∧ NkAt H2 (.ref a) k ∧ k.depth ≤ 8 ∧ valN kvs k = some v ∧ Q v H2
theorem pe_nget {o i : Expr} {pos : Pos} {td ty : TE} (hu : X.A.units + 12 < cLine) (ho : PE X o td) (hi : PE X i ty) (hs : NoSl i) : PE X (.Subscript o i pos) (tNGet X.prog X.w td ty) := by
  refine ⟨fun pins s σ H Q I h => ?_⟩
  refine subD_of PySem.F.slot_dict_getitem.lookup hs (thn (ho.run pins s σ H _ I h) fun u s1 ⟨x, H1, I1, rx, q1⟩ => thn (hi.run pins s1 σ H1 _ I1 q1) fun iv s2 ⟨y, H2, I2, ry, d, a, k, kvs, v, ex, ey, hD, hk, h8, hv, q2⟩ => ?_)
  subst ex ey
  obtain rfl : u = Value.ref d := rx
  obtain rfl : iv = Value.ref a := ry
  obtain ⟨z, hd, xs, r, dd⟩ := nd_of I2 hD
  refine ⟨dd.typeIs, ?_⟩
  rcases pair_at r k with ⟨e1, e2⟩ | ⟨v', a', u', e1, e2, rv⟩
  · rw [hv] at e1; cases e1
  · rw [hv] at e1
    cases e1
    exact wpAny_getItem_heap (knd := nestedKind X.prog X.w) (by show X.A.units + 1 + 8 < cLine; omega) (nk_is I2 hk h8) dd e2 ⟨v, H2, I2.tok _, rv, q2⟩
/-- the heap behind d[k] = v -/
def NPut (P : Program) (w : World) (H : Hp) (d : Addr) (y v : V) (H' : Hp) : Prop := ∃ (a : Addr) (k : NestedKey) (kvs : List NE), y = .ref a ∧ NDict P w H d kvs ∧ NkAt H (.ref a) k ∧ k.depth ≤ 8 ∧ kvs.length < sizeLine ∧ H' = upd H d (.ext (ndOf P w d (putN kvs k a v)))
theorem NPut.dict {P : Program} {w : World} {H : Hp} {d a : Addr} {v : V} {k : NestedKey} {kvs : List NE} (hD : NDict P w H d kvs) (hk : NkAt H (.ref a) k) (h8 : k.depth ≤ 8) : NDict P w (upd H d (.ext (ndOf P w d (putN kvs k a v)))) d (putN kvs k a v) := by
  have st : ∀ b xs, H b = some (.tup xs) → upd H d (.ext (ndOf P w d (putN kvs k a v))) b = some (.tup xs) := fun b xs z => by
    rw [upd_ne (ne_of z hD.1 (by intro q; cases q))]; exact z
  refine ⟨upd_same, fun e he => ?_⟩
  rcases putN_mem he with ⟨e', h1, h2, h3⟩ | ⟨h2, h3⟩
  · obtain ⟨x, y⟩ := hD.2 e' h1
    rw [← h2, ← h3]; exact ⟨x.mono st, y⟩
  · rw [h2, h3]; exact ⟨hk.mono st, h8⟩
theorem nd_write {pins : List (Addr × Obj)} {σ : L2.St} {H H' : Hp} {s : Shared} {d a : Addr} {v : V} {k : NestedKey} {kvs : List NE} {xs : List (NestedKey × Addr × Value)} {r : Value} {h' : Heap} {t' : Nat} (I : Inv X pins σ H s) (hD : NDict X.prog X.w H d kvs) (hl : kvs.length < sizeLine)
    (hd : (d == sysModules) = false) (rel : Paired NP kvs xs) (rv : RelV v r) (dd : h'.DictOfH (nestedKind X.prog X.w) d (storedH xs k a r)) (hs : Heap.SameBut d s.heap h') :
    Inv X pins σ (upd H d (.ext (ndOf X.prog X.w d (putN kvs k a v)))) { s with heap := h', toks := t' } := by
  have he : ∃ q, h'.get? d = some q := let ⟨q, _, _, hq, _⟩ := dd; ⟨q, hq⟩
  exact d_write I (by rw [hD.1]; exact True.intro) hs he (nd_obj (by have := @putN_len kvs k a v; omega) hd (pair_put rel k a rv) dd)
theorem nd_setItem {pins : List (Addr × Obj)} {σ : L2.St} {H H' : Hp} {s : Shared} {E : Value → Shared → Prop} {d : Addr} {y v : V} {u r : Value} {Q : Unit → Shared → Prop} (hu : X.A.units + 12 < cLine) (I : Inv X pins σ H s) (g : NPut X.prog X.w H d y v H') (ry : RelV y u) (rv : RelV v r)
    (h : ∀ s', Inv X pins σ H' s' → Q () s') : wpAny (model X.prog X.w) X.A (setItem (.ref d) u r) Q E s := by
  obtain ⟨a, k, kvs, rfl, hD, hk, h8, hl, rfl⟩ := g
  obtain rfl : u = Value.ref a := ry
  obtain ⟨z, hd, xs, rel, dd⟩ := nd_of I hD
  have hz : xs.length ≤ sizeLine := (Paired.length rel) ▸ z
  exact wpAny_setItem_heap (knd := nestedKind X.prog X.w) (hsz := hz) (by show X.A.units + 1 + 8 < cLine; omega) (nk_is I hk h8) dd fun h' dd' hs => h _ (nd_write (H' := H) I hD hl hd rel rv dd' hs)
theorem nd_dictSet {pins : List (Addr × Obj)} {σ : L2.St} {H H' : Hp} {s : Shared} {E : Value → Shared → Prop} {d : Addr} {y v : V} {u r : Value} {Q : Unit → Shared → Prop} (hu : X.A.units + 12 < cLine) (I : Inv X pins σ H s) (g : NPut X.prog X.w H d y v H') (ry : RelV y u) (rv : RelV v r)
    (h : ∀ s', Inv X pins σ H' s' → Q () s') : wpAny (model X.prog X.w) X.A (dictSet d u r) Q E s := by
  obtain ⟨a, k, kvs, rfl, hD, hk, h8, hl, rfl⟩ := g
  obtain rfl : u = Value.ref a := ry
  obtain ⟨z, hd, xs, rel, dd⟩ := nd_of I hD
  have hz : xs.length ≤ sizeLine := (Paired.length rel) ▸ z
  exact wpAny_dictSet_heap (knd := nestedKind X.prog X.w) (hsz := hz) (by show X.A.units + 8 < cLine; omega) (nk_is I hk h8) dd fun h' dd' hs => h _ (nd_write (H' := H) I hD hl hd rel rv dd' hs)
def sNPut (P : Program) (w : World) (td ty tv : TE) : TS := fun D σ H => tv σ H fun v H1 => td σ H1 fun x H2 => ty σ H2 fun y H3 => ∃ d H4, x = .ref d ∧ NPut P w H3 d y v H4 ∧ D.nx σ H4
theorem ps_nput {o i value : Expr} {pos pos' : Pos} {td ty tv : TE} (hu : X.A.units + 12 < cLine) (ho : PE X o td) (hi : PE X i ty) (hv : PE X value tv) (hs : swapsWith value (some (.Subscript o i pos')) pos.line X.env = pure false) :
    PS X (.Assign [.Subscript o i pos'] value pos) (sNPut X.prog X.w td ty tv) := by
  refine ⟨fun pins s σ H D I h => ?_⟩
  refine wpAny_Assign_Subscript (thn (hv.run pins s σ H _ I h) fun r s1 ⟨v, H1, I1, rv, q1⟩ => thn (ho.run pins s1 σ H1 _ I1 q1) fun u s2 ⟨x, H2, I2, rx, q2⟩ => thn (hi.run pins s2 σ H2 _ I2 q2) fun iv s3 ⟨y, H3, I3, ry, d, H4, ex, g, q3⟩ => ?_) hs
  subst ex
  obtain rfl : u = Value.ref d := rx
  exact nd_setItem hu I3 g ry rv fun s4 I4 => ⟨σ, H4, I4, q3⟩
/-- d.get(k, x) -/
def tNGet2 (P : Program) (w : World) (td ty tx : TE) : TE := fun σ H Q => td σ H fun x H1 => ∃ d kvs0, x = .ref d ∧ NDict P w H1 d kvs0 ∧ ty σ H1 fun y H2 => tx σ H2 fun z H3 => ∃ (a : Addr) (k : NestedKey) (kvs : List NE), y = .ref a ∧ NDict P w H3 d kvs ∧ NkAt H3 (.ref a) k ∧ k.depth ≤ 8 ∧ Q ((valN kvs k).getD z) H3
theorem pe_nget2 {o e f : Expr} {apos cpos : Pos} {td ty tx : TE} (hu : X.A.units + 12 < cLine) (ho : PE X o td) (he : PE X e ty) (hf : PE X f tx) (m : M2 X o "get" apos e f cpos) : PE X (.Call (.Attribute o "get" apos) [e, f] [] cpos) (tNGet2 X.prog X.w td ty tx) := by
  refine ⟨fun pins s σ H Q I h => ?_⟩
  refine wpAny_Call_method m.base m.few m.line PySem.F.plainAttrs_dict PySem.F.slot_dict_get PySem.F.type_dict_get (thn (ho.run pins s σ H _ I h) fun u s1 ⟨x, H1, I1, rx, d, kvs0, ex, hD0, q1⟩ => ?_)
  subst ex
  obtain rfl : u = Value.ref d := rx
  refine ⟨(nd_of I1 hD0).2.2.elim fun xs z => z.2.typeIs, nd_noDict I1 hD0, ?_⟩
  rw [m.trees]
  refine Calls.callWith_builtin rfl (Calls.evalArgs_plain (Calls.spliced_cons (thn (he.run pins s1 σ H1 _ I1 q1) fun iv s2 ⟨y, H2, I2, ry, q2⟩ =>
    Calls.spliced_cons (thn (hf.run pins s2 σ H2 _ I2 q2) fun fv s3 ⟨z, H3, I3, rz, a, k, kvs, ey, hD, hk, h8, q3⟩ => Calls.spliced_nil ?_))))
  subst ey
  obtain rfl : iv = Value.ref a := ry
  obtain ⟨zl, hd, xs, r, dd⟩ := nd_of I3 hD
  refine call_meetsIn PySem.F.slot_dict_get dd.typeIs PySem.F.entry_dict_get (PySem.F.args_dict_get_3 _ _ _) (meetsH_dict_get_default (nestedKind X.prog X.w) d a hd fv) ⟨by show X.A.units + 1 + 8 < cLine; omega, k, xs, nk_is I3 hk h8, dd, ?_⟩
  rcases pair_at r k with ⟨e1, e2⟩ | ⟨v', a', u', e1, e2, rv⟩
  · rw [e1] at q3
    rw [e2]
    exact ⟨z, H3, I3.tok _, rz, q3⟩
  · rw [e1] at q3
    rw [e2]
    exact ⟨v', H3, I3.tok _, rv, q3⟩
/-- len(d) -/
def rNLen (P : Program) (w : World) : List V → Hp → VK → Prop := fun xs H Q => ∃ (d : Addr) (kvs : List NE), xs = [.ref d] ∧ NDict P w H d kvs ∧ Q (.int (kvs.length : Nat)) H
theorem call_nlen : CallR X (.builtin "len") (rNLen X.prog X.w) := by
  intro pins s σ H xs us Q I r h
  obtain ⟨d, kvs, rfl, hD, q⟩ := h
  obtain ⟨u, rfl, rx⟩ := vals1 r
  obtain rfl : u = .ref d := rx
  obtain ⟨z, hd, ys, rel, dd⟩ := nd_of I hD
  have hl : kvs.length = ys.length := Paired.length rel
  refine call_len_dictH hd dd (by rw [← hl]; rw [sizeLine_eq] at z; omega) ?_
  rw [← hl]
  exact ⟨.int ((kvs.length : Nat) : Int), H, I.tok _, ⟨_, rfl⟩, q⟩
/-- {} -/
theorem nd_empty {H : Hp} (h : Heap) (hb : sysModules < h.objs.size) : ObjOk X.prog X.w H (h.push { cls := .type "dict", data := .dict #[] }) h.objs.size (.ext (ndOf X.prog X.w h.objs.size [])) :=
  nd_obj (xs := []) (Nat.zero_le _) (beq_eq_false_iff_ne.mpr (Ne.symm (Nat.ne_of_lt hb))) .nil (Heap.DictOfH.new h)
def tNNew (P : Program) (w : World) : TE := fun _ H Q => ∀ p, H p = none → Q (.ref p) (upd H p (.ext (ndOf P w p [])))
theorem pe_nnew {pos : Pos} : PE X (.Dict [] [] pos) (tNNew X.prog X.w) := ⟨fun pins s σ H Q I h =>
  wpAny_Dict_empty ⟨.ref s.heap.objs.size, _, I.laid (a := s.heap.objs.size) (o := .ext (ndOf X.prog X.w s.heap.objs.size [])) (t' := s.toks) (fun _ _ q => Heap.get?_push_of_some _ q) (Nat.le_refl _) (nd_empty s.heap I.big), rfl, h _ (I.hok.fresh (Nat.le_refl _))⟩⟩
theorem NDict.new {P : Program} {w : World} {H : Hp} {p : Addr} : NDict P w (upd H p (.ext (ndOf P w p []))) p [] := ⟨upd_same, fun e he => by cases he⟩
end
end Fx
end

section
set_option Elab.async false
set_option linter.all false
set_option maxRecDepth 100000
set_option maxHeartbeats 4000000
namespace Fx
open PySem PySem.Spec PyProof.Rows L2
/-- {k: v for .. in ..} whose keys are tuples of any depth: the reading; D the new dict -/
def tDcN (P : Program) (w : World) (wi : TI) (g : TG) (tk tv : TE) (vs : List Nat) : TE := fun σ H Q => wi σ H fun J H1 => ∀ D, H1 D = none → ∃ W : Nat → Nat → Hp → Prop, (∃ m, W 0 m (upd H1 D (.ext (ndOf P w D [])))) ∧ ∀ i m H, W i m H →
  (J.stop i H ∧ Q (.ref D) H) ∨ (J.go i H ∧ ∃ Nx : Hp → Prop, (∀ H', Nx H' → ∃ m', m' < m ∧ W (i + 1) m' H') ∧ ∀ x H', J.yld i H x H' → g x (wipe σ vs) H' fun σ2 H2 => wipe σ2 vs = wipe σ vs ∧
    tk σ2 H2 fun y H4 => tv σ2 H4 fun z H5 => ∃ H6, NPut P w H5 D y z H6 ∧ Nx H6)
section
variable {X : Cx} {kx vx tg iter : Expr} {scope : Scope} {own : List (Str × Nat)} {pos : Pos} {wi : TI} {g : TG} {tk tv : TE}
theorem pe_dcN (hc : X.calm = true) (hu : X.A.units + 12 < cLine) (hN : X.N.Nodup) (hi : PI X tg iter wi) (ok : BlkOk X.N X.env.scope scope own)
    (hg : ∀ (s : Shared) (H : Hp) (C : Addr) (cl : List (Str × Addr)) (fp : List Addr), PG (X.blk s H scope (compEnvC scope cl C X.env) fp) tg g)
    (hk : ∀ (s : Shared) (H : Hp) (C : Addr) (cl : List (Str × Addr)) (fp : List Addr), PE (X.blk s H scope (compEnvC scope cl C X.env) fp) kx tk)
    (he : ∀ (s : Shared) (H : Hp) (C : Addr) (cl : List (Str × Addr)) (fp : List Addr), PE (X.blk s H scope (compEnvC scope cl C X.env) fp) vx tv)
    (hs : ∀ x, foldedSetIterable iter X.env x = pure x := by intro _; rfl) :
    PE X (.DictComp kx vx [⟨tg, iter, [], 0⟩] scope pos) (tDcN X.prog X.w wi g tk tv (own.map (·.2))) := by
  constructor
  intro pins s σ H Q I h
  rw [arm_eval_DictComp]
  have cells : ∀ y ∈ scope.names, y.2 = .free → ∃ c, X.env.cells.lookup y.1 = some c := fun y hy e => I.ok.has _ (ok.free y hy e)
  refine wpAny_comprehension_free (use := none) rfl hs (closure_ok cells) ok.kind (fun y hy e => (ok.uniq y hy).trans (congrArg some e)) (thn (hi.run pins s σ H _ I h) fun xv s1 hx => thn hx fun itv s2 h2 => ?_)
  obtain ⟨it, fp, tn, J, H2, rfl, I2, T, st2, f2, q⟩ := h2
  refine wpAny_newObj_type (newEnv_comp ?_)
  -- D, the new dict
  obtain ⟨D, hD⟩ : ∃ D, D = s2.heap.objs.size := ⟨_, rfl⟩
  rw [← hD]
  have hDn : H2 D = none := I2.hok.fresh (Nat.le_of_eq hD.symm)
  obtain ⟨W, ⟨m0, w0⟩, turn⟩ := q D hDn
  obtain ⟨s3, hs3⟩ : ∃ s3 : Shared, s3 = { s2 with heap := s2.heap.push { cls := .type "dict", data := .dict #[] } } := ⟨_, rfl⟩
  rw [← hs3]
  have h3 : s3.heap = s2.heap.push { cls := .type "dict", data := .dict #[] } := by rw [hs3]
  obtain ⟨H3, hH3⟩ : ∃ H3, H3 = upd H2 D (.ext (ndOf X.prog X.w D [])) := ⟨_, rfl⟩
  rw [← hH3] at w0
  have I3 : Inv X pins σ H3 s3 := by
    rw [hs3, hH3]
    refine I2.laid (t' := s2.toks) (fun b o e => Heap.get?_push_of_some _ e) (Nat.le_of_eq hD.symm) ?_
    rw [hD]
    exact nd_empty s2.heap I2.big
  have low : ∀ b ∈ fp, b < s2.heap.objs.size := fun b hb => (T.obj _ _ st2 b hb).elim fun o e => Heap.lt_size e.1
  have f3 : ∀ b ∈ fp, FpOk X pins H3 b ∧ b < s3.heap.objs.size := fun b hb => by
    have hlt := low b hb
    have nb : b ≠ D := by rw [hD]; exact Nat.ne_of_lt hlt
    refine ⟨⟨?_, (f2 b hb).2⟩, ?_⟩
    · rw [hH3, upd_ne nb]; exact (f2 b hb).1
    · rw [h3, Heap.size_push]; exact Nat.lt_succ_of_lt hlt
  have st3 : tn 0 s3.heap := T.keep _ _ _ st2 fun b _ o e => by rw [h3]; exact Heap.get?_push_of_some _ e
  have I4 := block_start I3 ok hN f3
  have pg := hg s3 H3 s3.heap.objs.size (cellsFrom (s3.heap.objs.size + 1) scope.names (cloFrom X.env.cells scope.names [])) fp
  have pk := hk s3 H3 s3.heap.objs.size (cellsFrom (s3.heap.objs.size + 1) scope.names (cloFrom X.env.cells scope.names [])) fp
  have pe := he s3 H3 s3.heap.objs.size (cellsFrom (s3.heap.objs.size + 1) scope.names (cloFrom X.env.cells scope.names [])) fp
  have nfp : ∀ b ∈ fp, H3 b = none := fun b hb => (f3 b hb).1.1
  show codeAny _ _ (.compStart (.DictComp kx vx [⟨tg, iter, [], 0⟩] scope pos) 0 (.ref it) (.ref D) (compEnvC scope (cellsFrom (s3.heap.objs.size + 1) scope.names (cloFrom X.env.cells scope.names [])) s3.heap.objs.size X.env))
    (compPost (model X.prog X.w) X.A X.xe none (EP X pins σ Q) (.ref D) s3.heap.objs.size) { s3 with heap := pushCells (s3.heap.push { cls := .type "dict", data := .dict #[] }) scope.names }
  generalize hce : compEnvC scope (cellsFrom (s3.heap.objs.size + 1) scope.names (cloFrom X.env.cells scope.names [])) s3.heap.objs.size X.env = ce at I4 pg pk pe ⊢
  have cL : ce.locals = s3.heap.objs.size := by rw [← hce]; rfl
  generalize hs4 : ({ s3 with heap := pushCells (s3.heap.push { cls := .type "dict", data := .dict #[] }) scope.names } : Shared) = s4 at I4 ⊢
  have st4 : tn 0 s4.heap := T.keep _ _ _ st3 fun b _ o e => by rw [← hs4]; exact pushCells_keeps _ _ _ _ (Heap.get?_push_of_some _ e)
  have B : ∀ {σ' : L2.St} {H' : Hp} {s' : Shared}, Inv (X.blk s3 H3 scope ce fp) [] σ' H' s' → (∀ b ∈ fp, H' b = none) → ∀ b ∈ fp, FpOk (X.blk s3 H3 scope ce fp) [] H' b := by
    intro σ' H' s' I' hn b hb
    exact ⟨hn b hb, (I'.ok.exf b hb).1, I'.ok.exfs b hb, .inl hb, fun x c e => (I'.ok.exf b hb).2 x c e, fun p hp => by
      have z : p ∈ ([] : List (Addr × Obj)) ++ [] := hp
      simp at z⟩
  -- the loop
  have loop : codeAny (model X.prog X.w) X.A (.compLoop (.DictComp kx vx [⟨tg, iter, [], 0⟩] scope pos) 0 (.ref it) (.ref D) ce) (compPost (model X.prog X.w) X.A X.xe none (EP X pins σ Q) (.ref D) s3.heap.objs.size) s4 := by
    refine compLoop_anyD (fun n s' => ∃ i H', Inv (X.blk s3 H3 scope ce fp) [] (wipe σ (own.map (·.2))) H' s' ∧ tn i s'.heap ∧ (∀ b ∈ fp, H' b = none) ∧ W i n H') ?_ m0 ⟨0, H3, I4, st4, nfp, w0⟩
    rintro n s5 ⟨i, H5, I5, st5, n5, w5⟩
    rcases turn i n H5 w5 with ⟨stop, qq⟩ | ⟨go, Nx, hNx, step⟩
    · refine thnF (T.done (X.blk s3 H3 scope ce fp) rfl rfl rfl hc i [] s5 _ H5 (fun _ _ => False) I5 (B I5 n5) st5 stop) ?_
      rintro r s6 ⟨rfl, I6⟩
      have I7 : Inv X pins σ H5 s6 := I3.call' (ch := fp) I6.os I6.base I6.hok I6.bare fun b hb => let z := (f3 b hb).1; ⟨z.2.2.2.1, z.2.1, z.2.2.2.2.1, z.2.2.2.2.2⟩
      have nC : H5 s3.heap.objs.size = none := cL ▸ (show H5 ce.locals = none from I6.free)
      obtain ⟨m, hn, _⟩ := I6.loc
      have hn : s6.heap.Ns s3.heap.objs.size m := cL ▸ (show s6.heap.Ns ce.locals m from hn)
      obtain ⟨f0, f1, f2, f3', f4, f5⟩ := I3.fpOk (Nat.le_refl _) nC
      exact ⟨m, hn, fun h'' sb => ⟨.ref D, H5, I7.turned (t' := s6.toks) (fun b o hb e => (sb.2 b hb).trans e) f0 f1 f3' f4 f5, rfl, qq⟩⟩
    · refine thnF (T.item (X.blk s3 H3 scope ce fp) rfl rfl rfl hc i [] s5 _ H5 (fun _ _ => False) I5 (B I5 n5) st5 go) ?_
      rintro r s6 ⟨u, rfl, h6⟩
      refine thnF h6 ?_
      rintro _ s7 ⟨x, H7, I7, r7, y7, st7, n7⟩
      have I7' := I7.pinned (B I7 n7) (T.obj _ _ st7)
      refine thnF (pg.run _ s7 _ H7 x u _ I7' r7 (step x H7 y7)) ?_
      rintro _ s8 ⟨σ8, H8, I8, hw8, q8⟩
      refine thnF ((pts_nil (X := X.blk s3 H3 scope ce fp)).run _ s8 σ8 H8 _ I8 (show tYes σ8 H8 (fun b H9 => b = true ∧ H9 = H8) from ⟨rfl, rfl⟩)) ?_
      rintro b s9 ⟨H9, I9, rfl, rfl⟩
      show wpAny _ _ _ _ _ _
      refine thnF (pk.run _ s9 σ8 H9 _ I9 q8) ?_
      rintro z s10 ⟨yk, H10, I10, r10, q10⟩
      refine thnF (pe.run _ s10 σ8 H10 _ I10 q10) ?_
      rintro z2 s11 ⟨yv, H11, I11, r11, H12, put, nx⟩
      refine nd_dictSet (X := X.blk s3 H3 scope ce fp) hu I11 put r10 r11 fun s12 I12 => ?_
      obtain ⟨m', hm, w'⟩ := hNx H12 nx
      have pin : ∀ b ∈ fp, ∀ o, s7.heap.get? b = some o → s12.heap.get? b = some o ∧ H12 b = none := fun b hb o e => by
        have z := I12.pin (b, o) (List.mem_append_right _ (List.mem_append_right _ (mem_pinsAt hb e)))
        exact ⟨z.1, z.2.1⟩
      refine ⟨m', hm, i + 1, H12, (I12.unpinned (pins := [])).weak (by rw [← hw8, wipe_length]) (fun j v e => (wipe_some (hw8 ▸ e)).1), T.keep _ _ _ st7 fun b hb o e => (pin b hb o e).1, fun b hb => ?_, w'⟩
      obtain ⟨o, e, _⟩ := T.obj _ _ st7 b hb
      exact (pin b hb o e).2
  exact codeAny_compStart_dict loop (T.self X.A 0 _ _ _ st4 loop)
end
end Fx
namespace Fx
open PySem PySem.Spec PyProof.Rows L2
theorem u12 {k : Nat} {A : Around} (r : Room k A) : A.units + 12 < cLine := by have := r.un; omega
section
variable {X : Cx} {P : Program} {w : World}
theorem k_nin (eP : X.prog = P) (eW : X.w = w) (hu : X.A.units + 12 < cLine) : OpR X (compareOp .In) (rNIn P w) := by subst eP eW; exact op_nin hu
theorem k_nnotin (eP : X.prog = P) (eW : X.w = w) (hu : X.A.units + 12 < cLine) : OpR X (compareOp .NotIn) (rNNotIn P w) := by subst eP eW; exact op_nnotin hu
theorem k_nget {o i : Expr} {pos : Pos} {td ty : TE} (eP : X.prog = P) (eW : X.w = w) (hu : X.A.units + 12 < cLine) (ho : PE X o td) (hi : PE X i ty) (hs : NoSl i) : PE X (.Subscript o i pos) (tNGet P w td ty) := by subst eP eW; exact pe_nget hu ho hi hs
theorem k_nput {o i value : Expr} {pos pos' : Pos} {td ty tv : TE} (eP : X.prog = P) (eW : X.w = w) (hu : X.A.units + 12 < cLine) (ho : PE X o td) (hi : PE X i ty) (hv : PE X value tv) (hs : swapsWith value (some (.Subscript o i pos')) pos.line X.env = pure false) :
    PS X (.Assign [.Subscript o i pos'] value pos) (sNPut P w td ty tv) := by subst eP eW; exact ps_nput hu ho hi hv hs
theorem k_nget2 {o e f : Expr} {apos cpos : Pos} {td ty tx : TE} (eP : X.prog = P) (eW : X.w = w) (hu : X.A.units + 12 < cLine) (ho : PE X o td) (he : PE X e ty) (hf : PE X f tx) (m : M2 X o "get" apos e f cpos) :
    PE X (.Call (.Attribute o "get" apos) [e, f] [] cpos) (tNGet2 P w td ty tx) := by subst eP eW; exact pe_nget2 hu ho he hf m
theorem k_nlen (eP : X.prog = P) (eW : X.w = w) : CallR X (.builtin "len") (rNLen P w) := by subst eP eW; exact call_nlen
theorem k_nnew {pos : Pos} (eP : X.prog = P) (eW : X.w = w) : PE X (.Dict [] [] pos) (tNNew P w) := by subst eP eW; exact pe_nnew
end
end Fx
end

section
set_option Elab.async false
set_option linter.all false
set_option maxRecDepth 100000
set_option maxHeartbeats 4000000
/-! properties: their getters among the head's facts -/
namespace Fx
open PySem PySem.Spec PyProof.Rows L2
open He
/-- the getter of the property m of the class x -/
def gAd (K : PySem.W.Frag) (p : Str × Option Str) : Addr := match PySem.W.recIn K (fAd K p) "property" with
  | some (.ref g :: _) => g
  | _ => 0
def gW (K : PySem.W.Frag) (p : Str × Option Str) : FnW := match K.lookup (gAd K p) with
  | some ⟨_, _, .func fd, _⟩ => some (fd.name, fd.qualname, fd.params, fd.body, fd.scope, fd.globals, fd.closure, fd.builtins)
  | _ => none
def gCode (K : PySem.W.Frag) (d : DefD) : Bool := match K.lookup (gAd K d.at_) with
  | some ⟨_, _, .func fd, _⟩ => PySem.W.codeIn K fd.code d.qual && (dflB K fd.defaults [] && kwdB K fd.kwdefaults [])
  | _ => false
def gRec (K : PySem.W.Frag) (p : Str × Option Str) : Bool := match PySem.W.recIn K (fAd K p) "property" with
  | some (.ref _ :: _) => true
  | _ => false
def gProp (K : PySem.W.Frag) (x m : Str) : Bool := decide (PySem.W.findIn K (.ref (ga K x)) m = some (some (.ref (ma K (ga K x) m)))) && (decide (PySem.W.specialIn K (.ref (ma K (ga K x) m)) "__get__" = some (some (.builtin "property.__get__"))) &&
  (decide (PySem.W.takesIn K (.ref (ma K (ga K x) m)) = some true) && gRec K (x, some m)))
def gOk (K : PySem.W.Frag) (d : DefD) : Bool := PySem.W.keepIn K (.ref (gAd K d.at_)) && (gCode K d && (match d.at_.2 with
  | some m => gProp K d.at_.1 m
  | none => false))
def obsE (fa : List Fa) (fn gs : List DefD) (ex : PySem.W.Frag → Bool) (K : PySem.W.Frag) : AlD :=
  ((fa.all fun f => f.ok K) && ((fn.all fun d => d.ok K) && ((gs.all fun d => gOk K d) && ex K)), (fn.map fun d => fnW K d.at_) ++ gs.map fun d => gW K d.at_)
def valE (fn gs : List DefD) : AlD := (true, fn.map DefD.val ++ gs.map DefD.val)
def lookE (n : Nat) (fa : List Fa) (fn gs : List DefD) (ex : PySem.W.Frag → Bool) (g : Addr → Option Obj) : AlD := obsE fa fn gs ex (frG g (asD g n))
def hookE (n : Nat) (fa : List Fa) (fn gs : List DefD) (ex : PySem.W.Frag → Bool) : PySem.W.Hook where
  α := AlD
  obs := fun s => lookE n fa fn gs ex s.heap.get?
  val := fun _ => valE fn gs
  says := fun _ h => ∃ K : PySem.W.Frag, K.In h ∧ obsE fa fn gs ex K = valE fn gs
  of := fun _ _ e => ⟨_, frG_in, e⟩
  keeps := fun _ _ _ z k => z.elim fun K q => ⟨K, PySem.W.Frag.In.keeps q.1 k, q.2⟩
theorem lookE_eq {n : Nat} {fa : List Fa} {fn gs : List DefD} {ex : PySem.W.Frag → Bool} {g : Addr → Option Obj} {s : Shared} (h : ∀ a, g a = s.heap.get? a) : lookE n fa fn gs ex g = (hookE n fa fn gs ex).obs s := by
  obtain rfl : g = s.heap.get? := funext h
  rfl
section
variable {fa : List Fa} {fn gs : List DefD} {ex : PySem.W.Frag → Bool} {K : PySem.W.Frag}
theorem saysE_all (c : obsE fa fn gs ex K = valE fn gs) : (fa.all fun f => f.ok K) = true ∧ (fn.all fun d => d.ok K) = true ∧ (gs.all fun d => gOk K d) = true ∧ ex K = true := by
  have h1 : ((fa.all fun f => f.ok K) && ((fn.all fun d => d.ok K) && ((gs.all fun d => gOk K d) && ex K))) = true := congrArg (fun z : AlD => z.1) c
  have h2 := ba h1
  have h3 := ba h2.2
  have h4 := ba h3.2
  exact ⟨h2.1, h3.1, h4.1, h4.2⟩
theorem saysE_fact (c : obsE fa fn gs ex K = valE fn gs) (i : Nat) {f : Fa} (h : fa[i]? = some f := by rfl) : f.ok K = true := List.all_eq_true.mp (saysE_all c).1 f (List.mem_of_getElem? h)
theorem saysE_lists (c : obsE fa fn gs ex K = valE fn gs) : (fn.map fun d => fnW K d.at_) = fn.map DefD.val ∧ (gs.map fun d => gW K d.at_) = gs.map DefD.val :=
  List.append_inj (congrArg (fun z : AlD => z.2) c) (by simp)
theorem saysE_def (c : obsE fa fn gs ex K = valE fn gs) (i : Nat) {d : DefD} (h : fn[i]? = some d := by rfl) :
    FunD K d.name d.qual d.params d.body d.scope (d.dvs K) (d.kws K) (fAd K d.at_) (fdOf K (fAd K d.at_)) := by
  have e2 : (fn.map fun d => fnW K d.at_)[i]? = (fn.map DefD.val)[i]? := by rw [(saysE_lists c).1]
  rw [List.getElem?_map, List.getElem?_map, h] at e2
  obtain ⟨fd, F⟩ := DefD.funD (Option.some.inj e2) (List.all_eq_true.mp (saysE_all c).2.1 d (List.mem_of_getElem? h))
  rw [fdOf_eq F]
  exact F
theorem gFun {d : DefD} (e : gW K d.at_ = d.val) (c : gOk K d = true) : ∃ fd, FunD K d.name d.qual d.params d.body d.scope [] [] (gAd K d.at_) fd := by
  obtain ⟨kp, c2⟩ := ba c
  obtain ⟨cc, _⟩ := ba c2
  unfold gCode at cc
  unfold gW at e
  revert cc e
  cases q : K.lookup (gAd K d.at_) with
  | none => intro e cc; cases cc
  | some o =>
    obtain ⟨oc, od, dt, osl⟩ := o
    cases dt with
    | func fd =>
      intro e cc
      obtain ⟨a1, a2, a3, a4, a5, a6, a7, a8, a9, a10, a11, a12, a13, a14, a15⟩ := fd
      have e' : (some (a1, a2, a3, a4, a5, a6, a7, a15) : FnW) = some (d.name, d.qual, d.params, .stmts d.body, d.scope, mainGlobals, [], builtinsNs) := e
      injection e' with e'
      injection e' with x1 e'
      injection e' with x2 e'
      injection e' with x3 e'
      injection e' with x4 e'
      injection e' with x5 e'
      injection e' with x6 e'
      injection e' with x7 x8
      subst x1 x2 x3 x4 x5 x6 x7 x8
      obtain ⟨y1, y2⟩ := ba (show (PySem.W.codeIn K a13 d.qual && (dflB K a8 [] && kwdB K a9 [])) = true from cc)
      obtain ⟨y3, y4⟩ := ba y2
      exact ⟨_, ⟨oc, od, a8, a9, a10, a11, a12, a13, a14, osl, rfl, q, y1, dflB_ok y3, kwdB_ok y4⟩, kp⟩
    | _ => intro e cc; cases cc
theorem saysE_get (c : obsE fa fn gs ex K = valE fn gs) (i : Nat) {d : DefD} {x m : Str} (hx : d.at_ = (x, some m)) (h : gs[i]? = some d := by rfl) :
    FunD K d.name d.qual d.params d.body d.scope [] [] (gAd K (x, some m)) (fdOf K (gAd K (x, some m))) ∧ PropOf K (ga K x) m (ma K (ga K x) m) (gAd K (x, some m)) := by
  have e2 : (gs.map fun d => gW K d.at_)[i]? = (gs.map DefD.val)[i]? := by rw [(saysE_lists c).2]
  rw [List.getElem?_map, List.getElem?_map, h] at e2
  have ok := List.all_eq_true.mp (saysE_all c).2.2.1 d (List.mem_of_getElem? h)
  obtain ⟨fd, F⟩ := gFun (Option.some.inj e2) ok
  rw [hx] at F
  refine ⟨by rw [fdOf_eq F]; exact F, ?_⟩
  have z := (ba (ba ok).2).2
  rw [hx] at z
  obtain ⟨z1, z2⟩ := ba (show gProp K x m = true from z)
  obtain ⟨z3, z4⟩ := ba z2
  obtain ⟨z5, z6⟩ := ba z4
  refine ⟨of_decide_eq_true z1, of_decide_eq_true z3, of_decide_eq_true z5, ?_⟩
  unfold gRec at z6
  show ∃ rest, PySem.W.recIn K (fAd K (x, some m)) "property" = some (.ref (gAd K (x, some m)) :: rest)
  unfold gAd
  cases q : PySem.W.recIn K (fAd K (x, some m)) "property" with
  | none => rw [q] at z6; cases z6
  | some l =>
    rw [q] at z6
    cases l with
    | nil => cases z6
    | cons v r =>
      cases v with
      | ref g => exact ⟨r, rfl⟩
      | _ => cases z6
end
/-- a property that reads a field -/
theorem get_ok {P : Program} {w : World} {K : PySem.W.Frag} {mg : Str → Option Value} {base : Heap} {x name qual f : Str} {params : Arguments} {body : List Stmt} {scope : Scope} {g C : Addr} {N : List Str} {p1 p2 p3 : Pos}
    (F : FunD K name qual params body scope [] [] g (fdOf K g)) (S : FnScope N ["self"] scope) (hN : N[0]? = some ("self" : Str)) (hb : body = [.Return (some (.Attribute (.Name "self" p1) f p2)) p3]) (c : Cls K C) (n : NoAttr K C f) :
    FnOk P w K mg base CX0 1 g (fdOf K g) ["self"] (getSp C f) := by
  obtain ⟨oc, od, dV, kV, doc, pm, an, cdv, ct, osl, e, lk, hcd, _, _⟩ := F.ex
  rw [e] at lk ⊢
  exact fn_getter (k := 0) lk hcd S hN hb c n
end Fx
end

section
set_option Elab.async false
set_option linter.all false
set_option maxRecDepth 100000
set_option maxHeartbeats 4000000
/-! zip of a list and a tuple, either way -/
namespace Fx
open PySem PySem.Spec PyProof.Rows L2
/-- a tuple (true) or a list (false) of xs stands at a -/
def SqF (t : Bool) (K : PySem.W.Frag) (H : Hp) (a : Addr) (xs : List V) : Prop := match t with
  | true => SqT K H a xs
  | false => SqL K H a xs
def IsF (t : Bool) (h : Heap) (a : Addr) (items : Array Value) : Prop := match t with
  | true => h.IsTuple a items
  | false => h.IsList a items
def ItF (t : Bool) (h : Heap) (it a : Addr) (i : Nat) : Prop := match t with
  | true => h.IsTupleIter it a i
  | false => h.IsListIter it a i
def oF (t : Bool) (a : Addr) : Obj := match t with
  | true => { cls := .type "tuple_iterator", data := .fields #[.ref a, .int 0 0] }
  | false => { cls := .type "list_iterator", data := .fields #[.ref a, .int 0 0] }
theorem drawsF (t : Bool) {prog : Program} {w : World} {A : Around} (hh : A.handled = none) (it a : Addr) (hne : a ≠ it) (items : Array Value) :
    Draws prog w A it [it, a] items.size (fun i v => items[i]? = some v) (fun i h => ItF t h it a i ∧ IsF t h a items) := by
  cases t
  · exact Draws.list hh it a hne items
  · exact Draws.tuple hh it a hne items
theorem beginsF (t : Bool) (a : Addr) (items : Array Value) : Begins (.ref a) (oF t a) fun h => IsF t h a items := by
  cases t
  · exact begins_list a items
  · exact begins_tuple a items
theorem ItF.new {t : Bool} {h : Heap} {it a : Addr} (e : h.get? it = some (oF t a)) : ItF t h it a 0 := by
  cases t <;> exact ⟨_, e, rfl, rfl⟩
theorem ItF.at {t : Bool} {h h' : Heap} {it a : Addr} {i : Nat} (x : ItF t h it a i) (k : ∀ o, h.get? it = some o → h'.get? it = some o) : ItF t h' it a i := by
  cases t
  · exact Heap.IsListIter.at (h := h) x k
  · exact Heap.IsTupleIter.at (h := h) x k
theorem ItF.obj {t : Bool} {h : Heap} {it a : Addr} {i : Nat} (x : ItF t h it a i) : ∃ o fs, h.get? it = some o ∧ o.data = .fields fs := by
  cases t
  · obtain ⟨o, e, _, d⟩ := (show h.IsListIter it a i from x)
    exact ⟨o, _, e, d⟩
  · obtain ⟨o, e, _, d⟩ := (show h.IsTupleIter it a i from x)
    exact ⟨o, _, e, d⟩
section
variable {X : Cx} {pins : List (Addr × Obj)} {σ : L2.St} {H : Hp} {s : Shared} {t : Bool} {a : Addr} {xs ys : List V}
theorem seqF (I : Inv X pins σ H s) (h : SqF t X.K H a xs) : ∃ its : List Value, Vals xs its ∧ IsF t s.heap a its.toArray := by
  cases t
  · obtain ⟨its, r, p, _⟩ := I.list (show SqL X.K H a xs from h)
    exact ⟨its, r, p.isList⟩
  · obtain ⟨its, r, p, _⟩ := I.tuple (show SqT X.K H a xs from h)
    exact ⟨its, r, p⟩
theorem seqF_lt (I : Inv X pins σ H s) (h : SqF t X.K H a xs) : a < s.heap.objs.size := by
  cases t
  · obtain ⟨its, r, p, _⟩ := I.list (show SqL X.K H a xs from h)
    exact p.lt
  · obtain ⟨its, r, p, _⟩ := I.tuple (show SqT X.K H a xs from h)
    obtain ⟨_, e, _⟩ := p
    exact Heap.lt_size e
theorem seqF_inj (I : Inv X pins σ H s) (h : SqF t X.K H a xs) (h' : SqF t X.K H a ys) : xs = ys := by
  cases t
  · exact I.list_inj h h'
  · exact I.tuple_inj h h'
end
/-- both as they stand at each turn, the items in new pairs -/
def ItzM (K : PySem.W.Frag) (t u : Bool) (a b : Addr) : It :=
  ⟨fun i H => ∃ (xs ys : List V) (x y : V), SqF t K H a xs ∧ SqF u K H b ys ∧ xs[i]? = some x ∧ ys[i]? = some y,
    fun i H v H' => ∃ T x y, v = .ref T ∧ H T = none ∧ H' = upd H T (.tup [x, y]) ∧ (∀ xs, SqF t K H a xs → xs[i]? = some x) ∧ ∀ ys, SqF u K H b ys → ys[i]? = some y,
    fun i H => ∃ xs ys : List V, SqF t K H a xs ∧ SqF u K H b ys ∧ i ≤ xs.length ∧ i ≤ ys.length ∧ (i = xs.length ∨ i = ys.length)⟩
structure Apart5 (z TI TO i1 i2 a b : Addr) : Prop where
  S : ZipSep2 z TI TO i1 i2 [i1, a] [i2, b]
  n1 : a ≠ i1
  n2 : b ≠ i2
theorem turn_zipM {P : Program} {w : World} {K : PySem.W.Frag} {elts : List Expr} {kk : Nat} {tpos : Pos} {t u : Bool} {a b z TI TO i1 i2 : Addr} (D : Apart5 z TI TO i1 i2 a b) :
    Turn P w K (.Tuple elts kk tpos) (ItzM K t u a b) [z, TI, TO, i1, i2] z (fun i h => IsZip h z TI TO .none ∧ IsTupOf2 h TI (.ref i1) (.ref i2) ∧ (∃ x y, IsTupOf2 h TO x y) ∧ ItF t h i1 a i ∧ ItF u h i2 b i) where
  mem := by simp
  obj := fun i h st c hc => by
    obtain ⟨q1, q2, ⟨x, y, q3⟩, q4, q5⟩ := st
    have five : c = z ∨ c = TI ∨ c = TO ∨ c = i1 ∨ c = i2 := by simpa using hc
    rcases five with rfl | rfl | rfl | rfl | rfl
    · exact ⟨_, q1, fun v q => nomatch q⟩
    · exact ⟨_, q2, fun v q => nomatch q⟩
    · exact ⟨_, q3, fun v q => nomatch q⟩
    · obtain ⟨o, fs, e, d⟩ := q4.obj
      exact ⟨o, e, fun v q => by rw [d] at q; cases q⟩
    · obtain ⟨o, fs, e, d⟩ := q5.obj
      exact ⟨o, e, fun v q => by rw [d] at q; cases q⟩
  keep := fun i h h' st kp => by
    obtain ⟨q1, q2, ⟨x, y, q3⟩, q4, q5⟩ := st
    exact ⟨kp z (by simp) _ q1, kp TI (by simp) _ q2, ⟨x, y, kp TO (by simp) _ q3⟩, q4.at fun o q => kp i1 (by simp) o q, q5.at fun o q => kp i2 (by simp) o q⟩
  item := by
    intro X hP hw hK hc i pins s σ H E I hf st hg
    subst hP hw hK
    obtain ⟨q1, q2, ⟨x0, y0, q3⟩, q4, q5⟩ := st
    obtain ⟨xs, ys, x, y, hx, hy, gx, gy⟩ := hg
    obtain ⟨us, ru, pu⟩ := seqF I hx
    obtain ⟨ws, rw', pw⟩ := seqF I hy
    obtain ⟨v1, e1, r1⟩ := ru.get gx
    obtain ⟨v2, e2, r2⟩ := rw'.get gy
    have l1 : i < us.toArray.size := by have := lt_of_get e1; simpa using this
    have l2 : i < ws.toArray.size := by have := lt_of_get e2; simpa using this
    have hh : X.A.in1.handled = none := I.ok.hd hc
    have zl : z < s.heap.objs.size := Heap.lt_size q1
    refine wpAny_pyNext_zipD2_item D.S (drawsF t hh i1 a D.n1 us.toArray) (drawsF u hh i2 b D.n2 ws.toArray) q1 q2 q3 ⟨q4, pu⟩ ⟨q5, pw⟩ l1 l2 fun w1 w2 h' tk y1 y2 b1 b2 d1 d2 b5 b6 kp => ?_
    obtain rfl : w1 = v1 := by
      have g : us[i]? = some w1 := by simpa using y1
      rw [e1] at g; exact (Option.some.inj g).symm
    obtain rfl : w2 = v2 := by
      have g : ws[i]? = some w2 := by simpa using y2
      rw [e2] at g; exact (Option.some.inj g).symm
    refine ⟨_, rfl, wpAny_letOwnedTupleGo_zip (s := { s with heap := h', toks := tk }) b1 fun h2 z2 sb => ?_⟩
    have made : h2.get? s.heap.objs.size = some { cls := .type "tuple", data := .seq #[w1, w2] } := (sb.2 _ (Nat.ne_of_gt zl)).trans b5
    have ok : ObjOk X.prog X.w (upd H s.heap.objs.size (.tup [x, y])) h2 s.heap.objs.size (.tup [x, y]) := ⟨by show 2 ≤ sizeLine; decide, [w1, w2], .cons r1 (.cons r2 .nil), ⟨_, made, rfl, _, rfl⟩⟩
    have step : ∀ c o, c ≠ z → c ≠ TO → c ≠ i1 → c ≠ i2 → s.heap.get? c = some o → h2.get? c = some o := fun c o c1 c2 c3 c4 e => (sb.2 c c1).trans (kp c o c1 c2 c3 c4 e)
    have I2 : Inv X pins σ (upd H s.heap.objs.size (.tup [x, y])) { s with heap := h2, toks := tk } := by
      refine I.turnedNew (ch := [z, TI, TO, i1, i2]) (fun c o out e => ?_) hf (Nat.le_refl _) ok
      have no : ∀ d, d ∈ [z, TI, TO, i1, i2] → c ≠ d := fun d hd q => out (q ▸ hd)
      exact step c o (no z (by simp)) (no TO (by simp)) (no i1 (by simp)) (no i2 (by simp)) e
    refine ⟨.ref s.heap.objs.size, _, I2, rfl, ⟨_, x, y, rfl, I.hok.fresh (Nat.le_refl _), rfl, fun l hl => by rw [seqF_inj I hl hx]; exact gx, fun l hl => by rw [seqF_inj I hl hy]; exact gy⟩, ⟨z2, ?_, ⟨w1, w2, ?_⟩, ?_, ?_⟩, fun c hcm => ?_⟩
    · exact step _ _ D.S.TIz D.S.TITO D.S.TIi1 D.S.TIi2 q2
    · exact (sb.2 _ D.S.TOz).trans b2
    · exact d1.1.at fun o q => (sb.2 _ D.S.zi1.symm).trans q
    · exact d2.1.at fun o q => (sb.2 _ D.S.zi2.symm).trans q
    · have five : c = z ∨ c = TI ∨ c = TO ∨ c = i1 ∨ c = i2 := by simpa using hcm
      have lt : c < s.heap.objs.size := by
        rcases five with rfl | rfl | rfl | rfl | rfl
        · exact zl
        · exact Heap.lt_size q2
        · exact Heap.lt_size q3
        · obtain ⟨_, _, e, _⟩ := q4.obj; exact Heap.lt_size e
        · obtain ⟨_, _, e, _⟩ := q5.obj; exact Heap.lt_size e
      rw [upd_ne (Nat.ne_of_lt lt)]
      exact (hf c hcm).1
  done := by
    intro X hP hw hK hc i pins s σ H E I hf st hg
    subst hP hw hK
    obtain ⟨q1, q2, ⟨x0, y0, q3⟩, q4, q5⟩ := st
    obtain ⟨xs, ys, hx, hy, m1, m2, last⟩ := hg
    obtain ⟨us, ru, pu⟩ := seqF I hx
    obtain ⟨ws, rw', pw⟩ := seqF I hy
    have k1 := ru.length
    have k2 := rw'.length
    have hh : X.A.in1.handled = none := I.ok.hd hc
    refine wpAny_pyNext_zipD2_end D.S (drawsF t hh i1 a D.n1 us.toArray) (drawsF u hh i2 b D.n2 ws.toArray) q1 q2 q3 ⟨q4, pu⟩ ⟨q5, pw⟩ (by simp; omega) (by simp; omega) (by simp; omega) fun h' tk kp => ⟨rfl, ?_⟩
    refine I.turnedL (t' := tk) (ch := [z, TI, TO, i1, i2]) (fun c o out e => ?_) hf
    have no : ∀ d, d ∈ [z, TI, TO, i1, i2] → c ≠ d := fun d hd q => out (q ▸ hd)
    exact kp c o (no z (by simp)) (no TO (by simp)) (no i1 (by simp)) (no i2 (by simp)) e
  self := fun A i s Q E st h => wpAny_pyIter_zip st.1 h
def iZipM (K : PySem.W.Frag) (t u : Bool) (ta : TA) : TI := fun σ H R => ta σ H fun vs H1 => ∃ a b xs ys, vs = [.ref a, .ref b] ∧ SqF t K H1 a xs ∧ SqF u K H1 b ys ∧ R (ItzM K t u a b) H1
theorem n5add (n i j : Nat) (h : i ≠ j) : n + i ≠ n + j := by omega
theorem n5zero (n i : Nat) (h : 0 < i) : n + i ≠ n := by omega
theorem n5up (n i c : Nat) (h : c < n) : n + i ≠ c := by omega
theorem n5upz (n c : Nat) (h : c < n) : n ≠ c := by omega
theorem apart5 (n a b : Addr) (ha : a < n) (hb : b < n) : Apart5 (n + 4) (n + 2) (n + 3) n (n + 1) a b := by
  have no : ∀ {x y : Nat}, x ≠ y → ¬ ((x : Addr) = y) := fun h => h
  have out : ∀ {x y w : Nat}, x ≠ y → x ≠ w → ¬ ((x : Addr) ∈ [(y : Addr), w]) := fun h1 h2 h => by
    rcases List.mem_cons.mp h with e | e
    · exact h1 e
    · exact h2 (List.mem_singleton.mp e)
  have add : ∀ i j : Nat, i ≠ j → n + i ≠ n + j := fun i j h => n5add n i j h
  have zero : ∀ i : Nat, 0 < i → n + i ≠ n := fun i h => n5zero n i h
  have up : ∀ (i : Nat) (c : Addr), c < n → n + i ≠ c := fun i c h => n5up n i c h
  have upz : ∀ (c : Addr), c < n → n ≠ c := fun c h => n5upz n c h
  exact ⟨⟨no (add 2 4 (by decide)), no (add 3 4 (by decide)), no (add 2 3 (by decide)), no (zero 2 (by decide)), List.mem_cons_self .., out (zero 4 (by decide)) (up 4 a ha), out (zero 3 (by decide)) (up 3 a ha),
    no (add 2 1 (by decide)), List.mem_cons_self .., out (add 4 1 (by decide)) (up 4 b hb), out (add 3 1 (by decide)) (up 3 b hb), out (fun e => zero 1 (by decide) e.symm) (upz b hb), out (zero 1 (by decide)) (up 1 a ha)⟩,
    fun e => upz a ha e.symm, fun e => up 1 b hb e.symm⟩
theorem k_pizipM {X : Cx} {K : PySem.W.Frag} (t u : Bool) (eK : X.K = K) {x x2 : Expr} {ta : TA} {p pos tpos : Pos} {elts : List Expr} {kk : Nat} (hg : Gl X "zip") (hm : X.mg "zip" = none) (ha : PA X [x, x2] ta)
    (hs : starEach [x, x2] X.env = (false, eval x X.env) :: starEach [x2] X.env := by rfl) (hpl : (backTo pos (starEach [x2] X.env)).any (·.1) = false := by rfl) :
    PI X (.Tuple elts kk tpos) (.Call (.Name "zip" p) [x, x2] [] pos) (iZipM K t u ta) := by
  subst eK
  refine ⟨fun pins s σ H R I h => ?_⟩
  refine Call_ (ld_blt I hg hm PyProof.Rows.boot_zip (PyProof.Rows.callWith_type1 (thn (ha.run pos pins s σ H _ I h) fun us s1 ⟨vs, H1, I1, r1, a, b, xs, ys, ex, hx, hy, q⟩ => ?_) hs hpl))
  subst ex
  obtain ⟨u1, u2, rfl, e1, e2⟩ := vals2 r1
  cases (show u1 = Value.ref a from e1)
  cases (show u2 = Value.ref b from e2)
  obtain ⟨i1, _, p1⟩ := seqF I1 hx
  obtain ⟨i2, _, p2⟩ := seqF I1 hy
  have la := seqF_lt I1 hx
  have lb := seqF_lt I1 hy
  refine zip_begins2 (beginsF t a i1.toArray) (beginsF u b i2.toArray) p1 p2 fun h' hz hTI hTO o1 o2 hsz kp => wpAny_pyIter_zip hz ?_
  have I2 : Inv X pins σ H1 { s1 with heap := h' } := I1.kept (t' := s1.toks) kp
  refine ⟨s1.heap.objs.size + 4, [s1.heap.objs.size + 4, s1.heap.objs.size + 2, s1.heap.objs.size + 3, s1.heap.objs.size, s1.heap.objs.size + 1], _, _, H1, rfl, I2, turn_zipM (apart5 s1.heap.objs.size a b la lb), ⟨hz, hTI, ⟨_, _, hTO⟩, ItF.new o1, ItF.new o2⟩, fun c hcm => ?_, q⟩
  have five : c = s1.heap.objs.size + 4 ∨ c = s1.heap.objs.size + 2 ∨ c = s1.heap.objs.size + 3 ∨ c = s1.heap.objs.size ∨ c = s1.heap.objs.size + 1 := by simpa using hcm
  have up : s1.heap.objs.size ≤ c := by
    rcases five with z | z | z | z | z <;> rw [z]
    · exact Nat.le_add_right _ _
    · exact Nat.le_add_right _ _
    · exact Nat.le_add_right _ _
    · exact Nat.le_refl _
    · exact Nat.le_add_right _ _
  exact I1.fpOk up (I1.hok.fresh up)
theorem walk_zipM {K : PySem.W.Frag} {t u : Bool} {a b : Addr} {xs ys : List V} : Walk (ItzM K t u a b) (min xs.length ys.length) (fun H => SqF t K H a xs ∧ SqF u K H b ys) (YPair (fun i => xs[i]?) (fun i => ys[i]?)) := by
  refine ⟨fun i _ hi q => ⟨xs, ys, xs[i]'(by omega), ys[i]'(by omega), q.1, q.2, List.getElem?_eq_getElem _, List.getElem?_eq_getElem _⟩, fun _ q => ⟨xs, ys, q.1, q.2, by omega, by omega, by omega⟩, fun i H v H' _ q y => ?_⟩
  obtain ⟨T, x, z, h1, h2, h3, h4, h5⟩ := y
  exact ⟨T, x, z, h1, h2, h3, h4 xs q.1, h5 ys q.2⟩
end Fx
end

section
set_option Elab.async false
set_option linter.all false
set_option maxRecDepth 100000
set_option maxHeartbeats 4000000
/-! rules with their program and fragment named; own len and ==; repr of a list of dicts -/
namespace Fx
open PySem PySem.Spec PyProof.Rows L2
theorem u65 {k : Nat} {A : Around} (r : Room k A) : A.units + 65 < cLine := by have := r.un; omega
theorem u64 {k : Nat} {A : Around} (r : Room k A) : A.units + 64 < cLine := by have := r.un; omega
section
variable {X : Cx} {K : PySem.W.Frag} {P : Program} {w : World}
theorem k_inD (eK : X.K = K) (hu : X.A.units + 65 < cLine) : OpR X (compareOp .In) (rInD K) := by subst eK; exact op_inD hu
theorem k_notInD (eK : X.K = K) (hu : X.A.units + 65 < cLine) : OpR X (compareOp .NotIn) (rNotInD K) := by subst eK; exact op_notInD hu
theorem k_indexD (eK : X.K = K) (hu : X.A.units + 65 < cLine) : MtR X "list.index" (rIndexD K) := by subst eK; exact mt_indexD hu
theorem k_eqV (eK : X.K = K) (hu : X.A.units + 64 < cLine) : OpR X (compareOp .Eq) (rEqV K) := by subst eK; exact op_eqV hu
theorem k_sortedI (eK : X.K = K) : CallR X (.builtin "sorted") (rSorted K) := by subst eK; exact cr_sorted
theorem k_dcN {kx vx tg iter : Expr} {scope : Scope} {own : List (Str × Nat)} {pos : Pos} {wi : TI} {g : TG} {tk tv : TE} (eP : X.prog = P) (eW : X.w = w)
    (hc : X.calm = true) (hu : X.A.units + 12 < cLine) (hN : X.N.Nodup) (hi : PI X tg iter wi) (ok : BlkOk X.N X.env.scope scope own)
    (hg : ∀ (s : Shared) (H : Hp) (C : Addr) (cl : List (Str × Addr)) (fp : List Addr), PG (X.blk s H scope (compEnvC scope cl C X.env) fp) tg g)
    (hk : ∀ (s : Shared) (H : Hp) (C : Addr) (cl : List (Str × Addr)) (fp : List Addr), PE (X.blk s H scope (compEnvC scope cl C X.env) fp) kx tk)
    (he : ∀ (s : Shared) (H : Hp) (C : Addr) (cl : List (Str × Addr)) (fp : List Addr), PE (X.blk s H scope (compEnvC scope cl C X.env) fp) vx tv)
    (hs : ∀ x, foldedSetIterable iter X.env x = pure x := by intro _; rfl) :
    PE X (.DictComp kx vx [⟨tg, iter, [], 0⟩] scope pos) (tDcN P w wi g tk tv (own.map (·.2))) := by subst eP eW; exact pe_dcN hc hu hN hi ok hg hk he hs
end
section
variable {X : Cx} {k : Nat} {f C : Addr} {fd : FuncData} {ps : List Str} {sp : Sp}
/-- len of an instance, by its own def -/
def rOwnLen (C : Addr) (sp : Sp) : List V → Hp → VK → Prop := fun xs H Q => ∃ (a dx : Addr) (fs : List (Str × V)), xs = [.ref a] ∧ H a = some (.ins C dx fs) ∧ sp [.ref a] H (fun v H' => ∃ n : Int, v = .int n ∧ 0 ≤ n ∧ n < 2 ^ 63 ∧ Q v H') E0
theorem call_ownlen {K : PySem.W.Frag} (eK : X.K = K) (hs : PySem.W.findIn K (.ref C) "__len__" = some (some (.ref f))) (hfn : PySem.W.isFn K (.ref f) = true)
    (F : FnOk X.prog X.w X.K X.mg X.base CX0 k f fd ps sp) (hr : Room (k + 1) X.A) (hb : Binds X.K fd ps []) : CallR X (.builtin "len") (rOwnLen C sp) := by
  subst eK
  intro pins s σ H xs us Q I r h
  obtain ⟨a, dx, fs, rfl, ea, q⟩ := h
  obtain ⟨u, rfl, rx⟩ := vals1 r
  obtain rfl : u = Value.ref a := rx
  obtain ⟨mA, O, _⟩ := ins_get I.hok ea
  obtain ⟨od, J, _⟩ := O.look
  obtain ⟨m, fr⟩ := I.fr
  refine PySem.W.len_K fr I.ok.mod.kin J hs hfn (thn (run_in1 F hr hb I (.cons (show L2.RelV (.ref a) (.ref a) from rfl) .nil) q) ?_)
  rintro v s' ⟨x, H', I', rx', n, rfl, h0, h1, q'⟩
  obtain ⟨t, rfl⟩ := rx'
  exact ⟨⟨h0, h1⟩, .int n, H', I'.tok _, ⟨_, rfl⟩, q'⟩
/-- == of two instances, equal by their own def -/
theorem k_eqOwn {K : PySem.W.Frag} (eK : X.K = K) {R : Addr → Addr → Hp → Prop} (F : FnOk X.prog X.w X.K X.mg X.base CX0 k f fd ps (spEq R))
    (hs : PySem.W.findIn K (.ref C) "__eq__" = some (some (.ref f))) (hf : PySem.W.isFn K (.ref f) = true) (hb : Binds X.K fd ps []) (hr : Room k X.A) : OpR X (compareOp .Eq) (rEqG (DIns C R)) := by
  subst eK
  exact op_eqG (rcG_ins (E := E0) F hs hf hb pass0) hr
end
/-! ### repr of a list of dicts from texts to ints and None -/
abbrev RowD := List (Str × Option Int)
def oV : Option Int → V
  | none => .non
  | some i => .int i
def oD : Option Int → PyData
  | none => .none
  | some i => .int i
def rowV (r : RowD) : List (Key × V) := r.map fun p => (.inr p.1, oV p.2)
def rowP (r : RowD) : PyData := .dict (r.map fun p => (.str p.1, oD p.2))
theorem oV_reads {h : Heap} : ∀ {o : Option Int} {u : Value}, RelV (oV o) u → Reads h u (oD o) []
  | none, u, r => by
    cases (show u = Value.none from r)
    exact .none
  | some i, u, r => by
    obtain ⟨t, rfl⟩ := r
    exact .int i t
theorem row_reads {P : Program} {w : World} {h : Heap} : ∀ {r : RowD} {vs : List (Key × Value)} {es : List DictEntry}, KV (rowV r) vs → Pairs (mixKind P w) es vs →
    ReadsAll h (es.map (·.key)) ((r.map fun p => ((PyData.str p.1, oD p.2) : PyData × PyData)).map (·.1)) [] ∧ ReadsAll h (es.map (·.val)) ((r.map fun p => ((PyData.str p.1, oD p.2) : PyData × PyData)).map (·.2)) []
  | [], vs, es, k, p => by
    cases k
    cases p
    exact ⟨.nil, .nil⟩
  | (x, o) :: r, vs, es, k, p => by
    cases k with
    | @cons _ q _ qs h1 t1 =>
      cases p with
      | @cons e _ es' _ p1 p2 p3 =>
        obtain ⟨a, b⟩ := row_reads t1 p3
        obtain ⟨e1, e2⟩ := h1
        rw [← e1] at p1
        obtain ⟨t, ht⟩ := Value.isStrOf_shape (x := x) (v := e.key) p1
        have e2' : RelV (oV o) e.val := by rw [p2]; exact e2
        have k1 : Reads h e.key (.str x) [] := by rw [ht]; exact .str x t
        exact ⟨.cons (as := []) (bs := []) k1 a, .cons (as := []) (bs := []) (oV_reads e2') b⟩
theorem rowd_reads {P : Program} {w : World} {H : Hp} {h : Heap} (ok : HOk P w H h) {b : Addr} {r : RowD} (e : Rd H b (.dK (rowV r))) : Reads h (.ref b) (rowP r) [b] ∧ b ≠ sysModules := by
  obtain ⟨z, lo, vs, rel, o, es, ep, h1, h2, h3, h4, h5, h6⟩ := dk_rd ok e
  obtain ⟨x, y⟩ := row_reads (h := h) rel h5
  exact ⟨.dict (as := []) (bs := []) h1 h2.1 h3 x y, by simpa using lo⟩
theorem rowds_reads {P : Program} {w : World} {H : Hp} {h : Heap} (ok : HOk P w H h) : ∀ {bs : List Addr} {rs : List RowD} {us : List Value}, Paired (fun b r => Rd H b (.dK (rowV r))) bs rs → Vals (bs.map V.ref) us → ReadsAll h us (rs.map rowP) bs ∧ sysModules ∉ bs
  | [], rs, us, p, v => by
    cases p
    cases v
    exact ⟨.nil, by simp⟩
  | b :: bs, rs, us, p, v => by
    cases p with
    | @cons _ r _ rs' p1 p2 =>
      cases v with
      | @cons _ u _ us' v1 v2 =>
        obtain rfl : u = Value.ref b := v1
        obtain ⟨x, y⟩ := rowds_reads ok p2 v2
        obtain ⟨x1, y1⟩ := rowd_reads ok p1
        exact ⟨.cons (as := [b]) (bs := bs) x1 x, fun m => (List.mem_cons.mp m).elim (fun e => y1 e.symm) y⟩
theorem oD_depth (o : Option Int) : (oD o).depth = 0 := by cases o <;> simp [oD, PyData.depth]
theorem showKv : ∀ r : RowD, (∀ p ∈ r, (oD p.2).showable = true) → PyData.showableKv (r.map fun p => (PyData.str p.1, oD p.2)) = true
  | [], _ => rfl
  | p :: r, hs => by simp [PyData.showableKv, PyData.showable, hs p (List.mem_cons_self ..), showKv r fun q hq => hs q (List.mem_cons_of_mem _ hq)]
theorem depthKv0 : ∀ r : RowD, PyData.depthKv (r.map fun p => (PyData.str p.1, oD p.2)) = 0
  | [] => rfl
  | p :: r => by simp [PyData.depthKv, PyData.depth, oD_depth, depthKv0 r]
theorem showRows : ∀ rs : List RowD, (∀ r ∈ rs, ∀ p ∈ r, (oD p.2).showable = true) → PyData.showableAll (rs.map rowP) = true
  | [], _ => rfl
  | r :: rs, hs => by simp [PyData.showableAll, rowP, PyData.showable, showKv r (hs r (List.mem_cons_self ..)), showRows rs fun q hq => hs q (List.mem_cons_of_mem _ hq)]
theorem depthRows : ∀ rs : List RowD, PyData.depthAll (rs.map rowP) ≤ 1
  | [] => by simp [PyData.depthAll]
  | r :: rs => by
    have := depthRows rs
    simp only [List.map_cons, PyData.depthAll, rowP, PyData.depth, depthKv0]
    omega
/-- repr of a list of such dicts -/
def rReprRows (K : PySem.W.Frag) : List V → Hp → VK → Prop := fun xs H Q => ∃ (a : Addr) (bs : List Addr) (rs : List RowD), xs = [.ref a] ∧ SqL K H a (bs.map V.ref) ∧ Paired (fun b r => Rd H b (.dK (rowV r))) bs rs ∧ (∀ r ∈ rs, ∀ p ∈ r, (oD p.2).showable = true) ∧ (PyData.list (rs.map rowP)).shown.length ≤ sizeLine ∧ Q (.str (PyData.list (rs.map rowP)).shown) H
theorem k_reprRows {X : Cx} {K : PySem.W.Frag} (eK : X.K = K) (gd : X.A.guards = some []) (hu : X.A.units + 66 < cLine) : CallR X (.builtin "repr") (rReprRows K) := by
  subst eK
  intro pins s σ H xs us Q I r h
  obtain ⟨a, bs, rs, rfl, hl, hp, hsh, hz, q⟩ := h
  rw [Vals.ref1 r]
  obtain ⟨its, rv, pl, z⟩ := I.list hl
  obtain ⟨o, n, h1, h2, h3, h4⟩ := pl
  obtain ⟨h5, nm⟩ := rowds_reads I.hok hp rv
  have hz' : (listText (PyData.shownAll (rs.map rowP))).length ≤ sizeLine := by simpa only [PyData.shown] using hz
  have hr : Reads s.heap (.ref a) (.list (rs.map rowP)) (a :: bs) := .list h1 h2 h4 (by simpa using h5)
  obtain ⟨as, hb, hk⟩ := ReprAllK.of_readsAll (prog := X.prog) (w := X.w) h5 (showRows rs hsh) (fun _ => nm) (fun t ht => Nat.le_trans (listText_mem_le ht) hz')
  have hd := depthRows rs
  have hna : a ∉ as := not_mem_of_deeper hr (by simp only [PyData.depth]; omega) hb
  have hq : ∀ h' u tk, (∀ b o, s.heap.get? b = some o → h'.get? b = some o) → EP X pins σ Q (.str (PyData.list (rs.map rowP)).shown u) { s with heap := h', toks := tk } :=
    fun h' u tk hk => ⟨.str _, H, I.kept (t' := tk) hk, ⟨u, rfl⟩, q⟩
  refine call_repr_slot (by omega) ⟨o, h1, h2⟩ F.slot_list_repr.toG ?_
  simp only [PyData.shown] at hq
  cases its with
  | nil =>
    cases bs with
    | cons b bs => cases rv
    | nil =>
      cases hp
      simp only [List.map_nil, PyData.shownAll, listText_nil] at hq
      exact call_list_repr_empty ⟨o, h1, h2⟩ h1 h4 ⟨_, _, rfl, hq s.heap _ _ fun _ _ e => e⟩
  | cons x l =>
    exact call_list_reprK h1 h2 h4 hna (by simpa using hk.length_eq) (fun i y e => hk.item i y (by simpa using e)) gd (fun b _ => Clear.nil b) (by show X.A.units + 1 + _ < cLine; omega) (fun _ _ e => e) (fun h' u tk hk => ⟨_, _, rfl, hq h' u tk hk⟩) hz'
/-- two ways to iterate, whichever the heap allows -/
theorem pi_or {X : Cx} {tg l : Expr} {w1 w2 : TI} (h1 : PI X tg l w1) (h2 : PI X tg l w2) : PI X tg l (fun σ H R => w1 σ H R ∨ w2 σ H R) :=
  ⟨fun pins s σ H R I h => h.elim (h1.run pins s σ H R I) (h2.run pins s σ H R I)⟩
theorem cr_or {X : Cx} {f : Value} {r1 r2 : List V → Hp → VK → Prop} (h1 : CallR X f r1) (h2 : CallR X f r2) : CallR X f (fun xs H Q => r1 xs H Q ∨ r2 xs H Q) :=
  fun pins s σ H xs us Q I r h => h.elim (h1 pins s σ H xs us Q I r) (h2 pins s σ H xs us Q I r)
theorem or_op {X : Cx} {f : Value → Value → Sem Value} {r1 r2 : R2} (h1 : OpR X f r1) (h2 : OpR X f r2) : OpR X f (fun x y H Q => r1 x y H Q ∨ r2 x y H Q) :=
  fun pins s σ H x y v u Q I rx ry h => h.elim (h1 pins s σ H x y v u Q I rx ry) (h2 pins s σ H x y v u Q I rx ry)
def oS : Option Int → Str
  | none => "None"
  | some i => toString i
/-- repr of an int or None -/
def rReprO : List V → Hp → VK → Prop := fun xs H Q => ∃ o : Option Int, xs = [oV o] ∧ (oD o).showable = true ∧ Q (.str (oS o)) H
theorem call_reprO {X : Cx} : CallR X (.builtin "repr") rReprO := by
  intro pins s σ H xs us Q I r h
  obtain ⟨o, rfl, hs, q⟩ := h
  cases o with
  | none =>
    obtain ⟨u, rfl, rx⟩ := vals1 r
    cases (show u = Value.none from rx)
    exact PySem.P.repr_of_none ⟨.str _, H, I.tok _, ⟨_, rfl⟩, q⟩
  | some i => exact SkE.call_repr_int pins s σ H _ us Q I r ⟨i, rfl, by simpa [oD, PyData.showable] using hs, q⟩
end Fx
end

section
set_option Elab.async false
set_option linter.all false
set_option maxRecDepth 100000
set_option maxHeartbeats 4000000
/-! loops over zips of a list and a tuple -/
namespace Fx
open PySem PySem.Spec PyProof.Rows L2
section
variable {K : PySem.W.Frag} {t u : Bool} {a b : Addr} {xs ys : List V} {tgs : TGs} {tt : TT} {te : TE} {vs : List Nat} {σ : L2.St} {H H1 : Hp} {D : Addr} {Qd : Hp → Prop} {tb : TS} {D' : Ends}
theorem for_zipM (Pv : Nat → L2.St → Hp → Prop) (h0 : Pv 0 σ H) (hG : ∀ i σ H, i ≤ min xs.length ys.length → Pv i σ H → SqF t K H a xs ∧ SqF u K H b ys)
    (hs : ∀ i x y σ H T, xs[i]? = some x → ys[i]? = some y → Pv i σ H → H T = none → tgs [x, y] σ (upd H T (.tup [x, y])) fun σ2 H2 => tb { D' with nx := Pv (i + 1), ct := Pv (i + 1), bk := D'.nx } σ2 H2)
    (hd : ∀ σ H, Pv (min xs.length ys.length) σ H → D'.nx σ H) :
    ∃ W : Nat → Nat → L2.St → Hp → Prop, (∃ m, W 0 m σ H) ∧ ∀ i m σ H, W i m σ H →
      ((ItzM K t u a b).stop i H ∧ D'.nx σ H) ∨ ((ItzM K t u a b).go i H ∧ ∃ N : L2.St → Hp → Prop, (∀ σ' H', N σ' H' → ∃ m', m' < m ∧ W (i + 1) m' σ' H') ∧ ∀ x H', (ItzM K t u a b).yld i H x H' → gTup K 2 tgs x σ H' fun σ2 H2 => tb { D' with nx := N, ct := N, bk := D'.nx } σ2 H2) :=
  for_it walk_zipM Pv h0 hG (fun i v σ H H' hi p y => by
    obtain ⟨T, x, z, rfl, hT, rfl, hx, hz⟩ := y
    exact ⟨T, _, rfl, .inl (.inl upd_same), rfl, hs i x z σ H T hx hz p hT⟩) hd
theorem lc_zipM (Pv : Nat → Hp → Prop) (h0 : Pv 0 (upd H1 D (.lst []))) (hG : ∀ i H, i ≤ min xs.length ys.length → Pv i H → SqF t K H a xs ∧ SqF u K H b ys)
    (hs : ∀ i x y H T, xs[i]? = some x → ys[i]? = some y → Pv i H → H T = none → tgs [x, y] (wipe σ vs) (upd H T (.tup [x, y])) fun σ2 H2 => wipe σ2 vs = wipe σ vs ∧ tt σ2 H2 fun b H3 =>
      if b = true then te σ2 H3 fun y H4 => ∃ acc, H4 D = some (.lst acc) ∧ acc.length < sizeLine ∧ Pv (i + 1) (upd H4 D (.lst (acc ++ [y]))) else Pv (i + 1) H3) (hd : ∀ H, Pv (min xs.length ys.length) H → Qd H) :
    LcGoal (ItzM K t u a b) (gTup K 2 tgs) tt te vs σ H1 D Qd :=
  lc_it walk_zipM Pv h0 hG (fun i v H H' hi p y => by
    obtain ⟨T, x, z, rfl, hT, rfl, hx, hz⟩ := y
    exact ⟨T, _, rfl, .inl (.inl upd_same), rfl, hs i x z H T hx hz p hT⟩) hd
theorem lcm_zipM {j1 j2 : Nat} (I : Nat → List V → Hp → Prop) (h0 : I 0 [] (upd H1 D (.lst []))) (hI : ∀ i acc H, I i acc H → SqF t K H a xs ∧ SqF u K H b ys)
    (hs : ∀ i x y acc H T, xs[i]? = some x → ys[i]? = some y → I i acc H → H T = none → te (((wipe σ vs).set j1 (some x)).set j2 (some y)) (upd H T (.tup [x, y])) (App D (I (i + 1))))
    (hd : ∀ acc H, I (min xs.length ys.length) acc H → Qd H) (hw : ∀ x y, wipe (((wipe σ vs).set j1 (some x)).set j2 (some y)) vs = wipe σ vs := by intro _ _; rfl) :
    LcGoal (ItzM K t u a b) (gTup K 2 (gCons (gName j1) (gCons (gName j2) gNil))) tYes te vs σ H1 D Qd :=
  lc_zipM (fun i H => ∃ acc, I i acc H) ⟨[], h0⟩ (fun i H _ ⟨acc, h⟩ => hI i acc H h) (fun i x y H T hx hy ⟨acc, h⟩ hT =>
    ⟨_, _, rfl, _, _, rfl, rfl, hw x y, yesI (hs i x y acc H T hx hy h hT)⟩) (fun H ⟨acc, h⟩ => hd acc H h)
end
end Fx
end

section
set_option Elab.async false
set_option linter.all false
set_option maxRecDepth 100000
set_option maxHeartbeats 4000000
namespace T85
open PySem PySem.Spec PyProof.Rows L2 Fx
/-- the default of Row's names -/
def rowDfl (K : PySem.W.Frag) : Addr := match K.lookup (He.fAd K ("Row", some "__init__")) with
  | some ⟨_, _, .func fd, _⟩ => (match fd.defaults with
    | .ref T => (match K.lookup T with
      | some ⟨_, _, .seq its _, _⟩ => (match its.toList with
        | .ref a :: _ => a
        | _ => 0)
      | _ => 0)
    | _ => 0)
  | _ => 0
def top (i : Nat) : Stmt := PySem.Challenge.pw_fixrest_k81_whole_machines_of_loose_fixe.main.body.getD i (.Pass ⟨0, 0, 0, 0⟩)
abbrev s_is_integer : Stmt := top 20
abbrev N_is_integer : List Str := ["value"]
theorem sc_is_integer : FnScope N_is_integer ["value"] (defScope s_is_integer) := ⟨rfl, rfl, rfl, by decide +kernel, rfl, by decide +kernel, by decide +kernel⟩
abbrev s_is_count : Stmt := top 21
abbrev N_is_count : List Str := ["value"]
theorem sc_is_count : FnScope N_is_count ["value"] (defScope s_is_count) := ⟨rfl, rfl, rfl, by decide +kernel, rfl, by decide +kernel, by decide +kernel⟩
abbrev s_is_list : Stmt := top 22
abbrev N_is_list : List Str := ["value"]
theorem sc_is_list : FnScope N_is_list ["value"] (defScope s_is_list) := ⟨rfl, rfl, rfl, by decide +kernel, rfl, by decide +kernel, by decide +kernel⟩
abbrev s_is_name : Stmt := top 23
abbrev N_is_name : List Str := ["value", "sign"]
theorem sc_is_name : FnScope N_is_name ["value"] (defScope s_is_name) := ⟨rfl, rfl, rfl, by decide +kernel, rfl, by decide +kernel, by decide +kernel⟩
abbrev s_want_few_runs : Stmt := top 24
abbrev N_want_few_runs : List Str := ["many"]
theorem sc_want_few_runs : FnScope N_want_few_runs ["many"] (defScope s_want_few_runs) := ⟨rfl, rfl, rfl, by decide +kernel, rfl, by decide +kernel, by decide +kernel⟩
abbrev s_Rowdd_initdd : Stmt := inClass (top 25) 1
abbrev N_Rowdd_initdd : List Str := ["self", "names", "position", "name"]
theorem sc_Rowdd_initdd : FnScope N_Rowdd_initdd ["self", "names"] (defScope s_Rowdd_initdd) := ⟨rfl, rfl, rfl, by decide +kernel, rfl, by decide +kernel, by decide +kernel⟩
abbrev s_Row_names : Stmt := inClass (top 25) 3
abbrev N_Row_names : List Str := ["self"]
theorem sc_Row_names : FnScope N_Row_names ["self"] (defScope s_Row_names) := ⟨rfl, rfl, rfl, by decide +kernel, rfl, by decide +kernel, by decide +kernel⟩
abbrev s_is_rest : Stmt := top 30
abbrev N_is_rest : List Str := ["value"]
theorem sc_is_rest : FnScope N_is_rest ["value"] (defScope s_is_rest) := ⟨rfl, rfl, rfl, by decide +kernel, rfl, by decide +kernel, by decide +kernel⟩
abbrev s_pairs_among : Stmt := top 34
abbrev N_pairs_among : List Str := ["names", "at", "a", "b"]
theorem sc_pairs_among : FnScope N_pairs_among ["names"] (defScope s_pairs_among) := ⟨rfl, rfl, rfl, by decide +kernel, rfl, by decide +kernel, by decide +kernel⟩
abbrev s_want_row : Stmt := top 35
abbrev N_want_row : List Str := ["known", "row", "name"]
theorem sc_want_row : FnScope N_want_row ["known", "row"] (defScope s_want_row) := ⟨rfl, rfl, rfl, by decide +kernel, rfl, by decide +kernel, by decide +kernel⟩
abbrev s_Bookdd_initdd : Stmt := inClass (top 36) 2
abbrev N_Bookdd_initdd : List Str := ["self", "fixers", "rests", "position", "name", "given", "pair"]
theorem sc_Bookdd_initdd : FnScope N_Bookdd_initdd ["self", "fixers", "rests"] (defScope s_Bookdd_initdd) := ⟨rfl, rfl, rfl, by decide +kernel, rfl, by decide +kernel, by decide +kernel⟩
abbrev s_Book_pair_of : Stmt := inClass (top 36) 4
abbrev N_Book_pair_of : List Str := ["self", "a", "b", "value"]
theorem sc_Book_pair_of : FnScope N_Book_pair_of ["self", "a", "b"] (defScope s_Book_pair_of) := ⟨rfl, rfl, rfl, by decide +kernel, rfl, by decide +kernel, by decide +kernel⟩
abbrev s_Book_put : Stmt := inClass (top 36) 5
abbrev N_Book_put : List Str := ["self", "a", "b", "rest", "pair"]
theorem sc_Book_put : FnScope N_Book_put ["self", "a", "b", "rest"] (defScope s_Book_put) := ⟨rfl, rfl, rfl, by decide +kernel, rfl, by decide +kernel, by decide +kernel⟩
abbrev s_Bookdd_getitemdd : Stmt := inClass (top 36) 11
abbrev N_Bookdd_getitemdd : List Str := ["self", "at", "a", "b"]
theorem sc_Bookdd_getitemdd : FnScope N_Bookdd_getitemdd ["self", "at"] (defScope s_Bookdd_getitemdd) := ⟨rfl, rfl, rfl, by decide +kernel, rfl, by decide +kernel, by decide +kernel⟩
abbrev s_Bookdd_setitemdd : Stmt := inClass (top 36) 12
abbrev N_Bookdd_setitemdd : List Str := ["self", "at", "worth", "a", "b"]
theorem sc_Bookdd_setitemdd : FnScope N_Bookdd_setitemdd ["self", "at", "worth"] (defScope s_Bookdd_setitemdd) := ⟨rfl, rfl, rfl, by decide +kernel, rfl, by decide +kernel, by decide +kernel⟩
abbrev s_push : Stmt := top 39
abbrev N_push : List Str := ["book", "a", "b", "forth", "back"]
theorem sc_push : FnScope N_push ["book", "a", "b"] (defScope s_push) := ⟨rfl, rfl, rfl, by decide +kernel, rfl, by decide +kernel, by decide +kernel⟩
abbrev s_want_runs : Stmt := top 42
abbrev N_want_runs : List Str := ["runs"]
theorem sc_want_runs : FnScope N_want_runs ["runs"] (defScope s_want_runs) := ⟨rfl, rfl, rfl, by decide +kernel, rfl, by decide +kernel, by decide +kernel⟩
abbrev s_single : Stmt := top 45
abbrev N_single : List Str := ["many", "fixer", "other"]
theorem sc_single : FnScope N_single ["many", "fixer"] (defScope s_single) := ⟨rfl, rfl, rfl, by decide +kernel, rfl, by decide +kernel, by decide +kernel⟩
abbrev s_lowered : Stmt := top 46
abbrev N_lowered : List Str := ["numbers", "fixer", "amount"]
theorem sc_lowered : FnScope N_lowered ["numbers", "fixer", "amount"] (defScope s_lowered) := ⟨rfl, rfl, rfl, by decide +kernel, rfl, by decide +kernel, by decide +kernel⟩
abbrev s_Marks_measures : Stmt := inClass (top 47) 1
abbrev N_Marks_measures : List Str := ["self", "root", "fixer", "numbers", "partner", "mine", "more", "one", "theirs", "row"]
theorem sc_Marks_measures : FnScope N_Marks_measures ["self", "root", "fixer"] (defScope s_Marks_measures) := ⟨rfl, rfl, rfl, by decide +kernel, rfl, by decide +kernel, by decide +kernel⟩
abbrev s_Marks_move_of : Stmt := inClass (top 47) 2
abbrev N_Marks_move_of : List Str := ["self", "root", "fixer", "mine", "theirs", "led"]
theorem sc_Marks_move_of : FnScope N_Marks_move_of ["self", "root", "fixer"] (defScope s_Marks_move_of) := ⟨rfl, rfl, rfl, by decide +kernel, rfl, by decide +kernel, by decide +kernel⟩
abbrev s_Marksdd_initdd : Stmt := inClass (top 47) 0
abbrev N_Marksdd_initdd : List Str := ["self", "book", "names", "b", "a", "at", "root", "fixer"]
theorem sc_Marksdd_initdd : FnScope N_Marksdd_initdd ["self", "book"] (defScope s_Marksdd_initdd) := ⟨rfl, rfl, rfl, by decide +kernel, rfl, by decide +kernel, by decide +kernel⟩
abbrev s_Marks_behind : Stmt := inClass (top 47) 3
abbrev N_Marks_behind : List Str := ["self", "marks", "fixer", "found", "mark", "led"]
theorem sc_Marks_behind : FnScope N_Marks_behind ["self", "marks", "fixer"] (defScope s_Marks_behind) := ⟨rfl, rfl, rfl, by decide +kernel, rfl, by decide +kernel, by decide +kernel⟩
abbrev s_steps_of : Stmt := top 51
abbrev N_steps_of : List Str := ["marks", "many", "states", "places", "found", "row", "fixer", "led"]
theorem sc_steps_of : FnScope N_steps_of ["marks", "many"] (defScope s_steps_of) := ⟨rfl, rfl, rfl, by decide +kernel, rfl, by decide +kernel, by decide +kernel⟩
abbrev s_classes_of : Stmt := top 52
abbrev N_classes_of : List Str := ["steps", "marks", "many", "known", "found", "mark", "row", "key", "led"]
theorem sc_classes_of : FnScope N_classes_of ["steps"] (defScope s_classes_of) := ⟨rfl, rfl, rfl, by decide +kernel, rfl, by decide +kernel, by decide +kernel⟩
abbrev s_joined_steps : Stmt := top 53
abbrev N_joined_steps : List Str := ["steps", "classes", "found", "row", "number", "led"]
theorem sc_joined_steps : FnScope N_joined_steps ["steps", "classes"] (defScope s_joined_steps) := ⟨rfl, rfl, rfl, by decide +kernel, rfl, by decide +kernel, by decide +kernel⟩
abbrev s_numbered : Stmt := top 54
abbrev N_numbered : List Str := ["steps", "first", "names", "order", "places", "least", "found", "at", "row", "name", "led"]
theorem sc_numbered : FnScope N_numbered ["steps", "first", "names"] (defScope s_numbered) := ⟨rfl, rfl, rfl, by decide +kernel, rfl, by decide +kernel, by decide +kernel⟩
abbrev s_Machinedd_initdd : Stmt := inClass (top 55) 0
abbrev N_Machinedd_initdd : List Str := ["self", "fixers", "steps", "least"]
theorem sc_Machinedd_initdd : FnScope N_Machinedd_initdd ["self", "fixers", "steps", "least"] (defScope s_Machinedd_initdd) := ⟨rfl, rfl, rfl, by decide +kernel, rfl, by decide +kernel, by decide +kernel⟩
abbrev s_Machine_fixers : Stmt := inClass (top 55) 1
abbrev N_Machine_fixers : List Str := ["self"]
theorem sc_Machine_fixers : FnScope N_Machine_fixers ["self"] (defScope s_Machine_fixers) := ⟨rfl, rfl, rfl, by decide +kernel, rfl, by decide +kernel, by decide +kernel⟩
abbrev s_Machine_want_state : Stmt := inClass (top 55) 2
abbrev N_Machine_want_state : List Str := ["self", "state"]
theorem sc_Machine_want_state : FnScope N_Machine_want_state ["self", "state"] (defScope s_Machine_want_state) := ⟨rfl, rfl, rfl, by decide +kernel, rfl, by decide +kernel, by decide +kernel⟩
abbrev s_Machine_step : Stmt := inClass (top 55) 3
abbrev N_Machine_step : List Str := ["self", "state", "fixer"]
theorem sc_Machine_step : FnScope N_Machine_step ["self", "state", "fixer"] (defScope s_Machine_step) := ⟨rfl, rfl, rfl, by decide +kernel, rfl, by decide +kernel, by decide +kernel⟩
abbrev s_Machine_state_of : Stmt := inClass (top 55) 4
abbrev N_Machine_state_of : List Str := ["self", "row", "state", "name"]
theorem sc_Machine_state_of : FnScope N_Machine_state_of ["self", "row"] (defScope s_Machine_state_of) := ⟨rfl, rfl, rfl, by decide +kernel, rfl, by decide +kernel, by decide +kernel⟩
abbrev s_Machine_rows : Stmt := inClass (top 55) 5
abbrev N_Machine_rows : List Str := ["self", "row"]
theorem sc_Machine_rows : FnScope N_Machine_rows ["self"] (defScope s_Machine_rows) := ⟨rfl, rfl, rfl, by decide +kernel, rfl, by decide +kernel, by decide +kernel⟩
abbrev s_Machine_least : Stmt := inClass (top 55) 6
abbrev N_Machine_least : List Str := ["self", "state"]
theorem sc_Machine_least : FnScope N_Machine_least ["self", "state"] (defScope s_Machine_least) := ⟨rfl, rfl, rfl, by decide +kernel, rfl, by decide +kernel, by decide +kernel⟩
abbrev s_Machine_ahead_counts : Stmt := inClass (top 55) 7
abbrev N_Machine_ahead_counts : List Str := ["self", "runs", "found", "turn", "last", "led", "row"]
theorem sc_Machine_ahead_counts : FnScope N_Machine_ahead_counts ["self", "runs"] (defScope s_Machine_ahead_counts) := ⟨rfl, rfl, rfl, by decide +kernel, rfl, by decide +kernel, by decide +kernel⟩
abbrev s_Machine_count : Stmt := inClass (top 55) 8
abbrev N_Machine_count : List Str := ["self", "runs"]
theorem sc_Machine_count : FnScope N_Machine_count ["self", "runs"] (defScope s_Machine_count) := ⟨rfl, rfl, rfl, by decide +kernel, rfl, by decide +kernel, by decide +kernel⟩
abbrev s_Machinedd_lendd : Stmt := inClass (top 55) 11
abbrev N_Machinedd_lendd : List Str := ["self"]
theorem sc_Machinedd_lendd : FnScope N_Machinedd_lendd ["self"] (defScope s_Machinedd_lendd) := ⟨rfl, rfl, rfl, by decide +kernel, rfl, by decide +kernel, by decide +kernel⟩
abbrev s_Machinedd_eqdd : Stmt := inClass (top 55) 12
abbrev N_Machinedd_eqdd : List Str := ["self", "other"]
theorem sc_Machinedd_eqdd : FnScope N_Machinedd_eqdd ["self", "other"] (defScope s_Machinedd_eqdd) := ⟨rfl, rfl, rfl, by decide +kernel, rfl, by decide +kernel, by decide +kernel⟩
abbrev s_machine : Stmt := top 56
abbrev N_machine : List Str := ["book", "names", "steps", "classes", "joined", "rows", "least"]
theorem sc_machine : FnScope N_machine ["book"] (defScope s_machine) := ⟨rfl, rfl, rfl, by decide +kernel, rfl, by decide +kernel, by decide +kernel⟩
abbrev s__law_pot : Stmt := top 58
abbrev N__law_pot : List Str := ["_law_script", "_law_k", "_law_cell"]
theorem sc__law_pot : FnScope N__law_pot ["_law_script", "_law_k"] (defScope s__law_pot) := ⟨rfl, rfl, rfl, by decide +kernel, rfl, by decide +kernel, by decide +kernel⟩
abbrev s__law_draw : Stmt := top 59
abbrev N__law_draw : List Str := ["_law_pot_here", "_law_many", "_law_digit"]
theorem sc__law_draw : FnScope N__law_draw ["_law_pot_here", "_law_many"] (defScope s__law_draw) := ⟨rfl, rfl, rfl, by decide +kernel, rfl, by decide +kernel, by decide +kernel⟩
abbrev s__law_pick : Stmt := top 60
abbrev N__law_pick : List Str := ["_law_pot_here", "_law_some"]
theorem sc__law_pick : FnScope N__law_pick ["_law_pot_here", "_law_some"] (defScope s__law_pick) := ⟨rfl, rfl, rfl, by decide +kernel, rfl, by decide +kernel, by decide +kernel⟩
abbrev s__law_names : Stmt := top 61
abbrev N__law_names : List Str := ["_law_pot_here", "_law_many", "_law_letters", "_law_found", "_law_k", "_law_name", "_law_turn", "_law_spare", "_law_letter", "_law_one"]
theorem sc__law_names : FnScope N__law_names ["_law_pot_here", "_law_many"] (defScope s__law_names) := ⟨rfl, rfl, rfl, by decide +kernel, rfl, by decide +kernel, by decide +kernel⟩
abbrev s__law_states : Stmt := top 62
abbrev N__law_states : List Str := ["_law_names_here", "_law_pairs", "_law_order", "_law_states_here", "_law_least", "_law_rows", "_law_at", "_law_line", "_law_name", "_law_led", "_law_one"]
theorem sc__law_states : FnScope N__law_states ["_law_names_here", "_law_pairs"] (defScope s__law_states) := ⟨rfl, rfl, rfl, by decide +kernel, rfl, by decide +kernel, by decide +kernel⟩
abbrev s__law_count : Stmt := top 63
abbrev N__law_count : List Str := ["_law_rows", "_law_laps", "_law_now", "_law_turn", "_law_later", "_law_here", "_law_many", "_law_led"]
theorem sc__law_count : FnScope N__law_count ["_law_rows", "_law_laps"] (defScope s__law_count) := ⟨rfl, rfl, rfl, by decide +kernel, rfl, by decide +kernel, by decide +kernel⟩
abbrev s__law_walk : Stmt := top 64
abbrev N__law_walk : List Str := ["_law_pot_here", "_law_rows", "_law_names_here", "_law_many", "_law_laps", "_law_here", "_law_turn", "_law_able", "_law_name"]
theorem sc__law_walk : FnScope N__law_walk ["_law_pot_here", "_law_rows", "_law_names_here", "_law_many"] (defScope s__law_walk) := ⟨rfl, rfl, rfl, by decide +kernel, rfl, by decide +kernel, by decide +kernel⟩
abbrev s__law_right : Stmt := top 65
abbrev N__law_right : List Str := ["_law_pot_here", "_law_names_here", "_law_held", "_law_pairs", "_law_share", "_law_k", "_law_other", "_law_least", "_law_rows", "_law_made", "_law_at", "_law_turn", "_law_line", "_law_here", "_law_name", "_law_laps"]
theorem sc__law_right : FnScope N__law_right ["_law_pot_here"] (defScope s__law_right) := ⟨rfl, rfl, rfl, by decide +kernel, rfl, by decide +kernel, by decide +kernel⟩
abbrev s_law : Stmt := top 66
abbrev N_law : List Str := ["_law_script", "_law_k"]
theorem sc_law : FnScope N_law ["_law_script"] (defScope s_law) := ⟨rfl, rfl, rfl, by decide +kernel, rfl, by decide +kernel, by decide +kernel⟩
def gsl : List He.DefD := [⟨("Row", some "names"), "names", "Row.names", defArgs s_Row_names, defBody s_Row_names, defScope s_Row_names, [], []⟩, ⟨("Machine", some "fixers"), "fixers", "Machine.fixers", defArgs s_Machine_fixers, defBody s_Machine_fixers, defScope s_Machine_fixers, [], []⟩]
def fn : List He.DefD := [
  ⟨("is_integer", none), "is_integer", "is_integer", defArgs s_is_integer, defBody s_is_integer, defScope s_is_integer, [], []⟩,
  ⟨("is_count", none), "is_count", "is_count", defArgs s_is_count, defBody s_is_count, defScope s_is_count, [], []⟩,
  ⟨("is_list", none), "is_list", "is_list", defArgs s_is_list, defBody s_is_list, defScope s_is_list, [], []⟩,
  ⟨("is_name", none), "is_name", "is_name", defArgs s_is_name, defBody s_is_name, defScope s_is_name, [], []⟩,
  ⟨("want_few_runs", none), "want_few_runs", "want_few_runs", defArgs s_want_few_runs, defBody s_want_few_runs, defScope s_want_few_runs, [], []⟩,
  ⟨("Row", some "__init__"), "__init__", "Row.__init__", defArgs s_Rowdd_initdd, defBody s_Rowdd_initdd, defScope s_Rowdd_initdd, [.adr rowDfl], []⟩,
  ⟨("is_rest", none), "is_rest", "is_rest", defArgs s_is_rest, defBody s_is_rest, defScope s_is_rest, [], []⟩,
  ⟨("pairs_among", none), "pairs_among", "pairs_among", defArgs s_pairs_among, defBody s_pairs_among, defScope s_pairs_among, [], []⟩,
  ⟨("want_row", none), "want_row", "want_row", defArgs s_want_row, defBody s_want_row, defScope s_want_row, [], []⟩,
  ⟨("Book", some "__init__"), "__init__", "Book.__init__", defArgs s_Bookdd_initdd, defBody s_Bookdd_initdd, defScope s_Bookdd_initdd, [.non], []⟩,
  ⟨("Book", some "pair_of"), "pair_of", "Book.pair_of", defArgs s_Book_pair_of, defBody s_Book_pair_of, defScope s_Book_pair_of, [], []⟩,
  ⟨("Book", some "put"), "put", "Book.put", defArgs s_Book_put, defBody s_Book_put, defScope s_Book_put, [], []⟩,
  ⟨("Book", some "__getitem__"), "__getitem__", "Book.__getitem__", defArgs s_Bookdd_getitemdd, defBody s_Bookdd_getitemdd, defScope s_Bookdd_getitemdd, [], []⟩,
  ⟨("Book", some "__setitem__"), "__setitem__", "Book.__setitem__", defArgs s_Bookdd_setitemdd, defBody s_Bookdd_setitemdd, defScope s_Bookdd_setitemdd, [], []⟩,
  ⟨("push", none), "push", "push", defArgs s_push, defBody s_push, defScope s_push, [], []⟩,
  ⟨("want_runs", none), "want_runs", "want_runs", defArgs s_want_runs, defBody s_want_runs, defScope s_want_runs, [], []⟩,
  ⟨("single", none), "single", "single", defArgs s_single, defBody s_single, defScope s_single, [], []⟩,
  ⟨("lowered", none), "lowered", "lowered", defArgs s_lowered, defBody s_lowered, defScope s_lowered, [], []⟩,
  ⟨("Marks", some "measures"), "measures", "Marks.measures", defArgs s_Marks_measures, defBody s_Marks_measures, defScope s_Marks_measures, [], []⟩,
  ⟨("Marks", some "move_of"), "move_of", "Marks.move_of", defArgs s_Marks_move_of, defBody s_Marks_move_of, defScope s_Marks_move_of, [], []⟩,
  ⟨("Marks", some "__init__"), "__init__", "Marks.__init__", defArgs s_Marksdd_initdd, defBody s_Marksdd_initdd, defScope s_Marksdd_initdd, [], []⟩,
  ⟨("Marks", some "behind"), "behind", "Marks.behind", defArgs s_Marks_behind, defBody s_Marks_behind, defScope s_Marks_behind, [], []⟩,
  ⟨("steps_of", none), "steps_of", "steps_of", defArgs s_steps_of, defBody s_steps_of, defScope s_steps_of, [], []⟩,
  ⟨("classes_of", none), "classes_of", "classes_of", defArgs s_classes_of, defBody s_classes_of, defScope s_classes_of, [], []⟩,
  ⟨("joined_steps", none), "joined_steps", "joined_steps", defArgs s_joined_steps, defBody s_joined_steps, defScope s_joined_steps, [], []⟩,
  ⟨("numbered", none), "numbered", "numbered", defArgs s_numbered, defBody s_numbered, defScope s_numbered, [], []⟩,
  ⟨("Machine", some "__init__"), "__init__", "Machine.__init__", defArgs s_Machinedd_initdd, defBody s_Machinedd_initdd, defScope s_Machinedd_initdd, [], []⟩,
  ⟨("Machine", some "want_state"), "want_state", "Machine.want_state", defArgs s_Machine_want_state, defBody s_Machine_want_state, defScope s_Machine_want_state, [], []⟩,
  ⟨("Machine", some "step"), "step", "Machine.step", defArgs s_Machine_step, defBody s_Machine_step, defScope s_Machine_step, [], []⟩,
  ⟨("Machine", some "state_of"), "state_of", "Machine.state_of", defArgs s_Machine_state_of, defBody s_Machine_state_of, defScope s_Machine_state_of, [], []⟩,
  ⟨("Machine", some "rows"), "rows", "Machine.rows", defArgs s_Machine_rows, defBody s_Machine_rows, defScope s_Machine_rows, [], []⟩,
  ⟨("Machine", some "least"), "least", "Machine.least", defArgs s_Machine_least, defBody s_Machine_least, defScope s_Machine_least, [], []⟩,
  ⟨("Machine", some "ahead_counts"), "ahead_counts", "Machine.ahead_counts", defArgs s_Machine_ahead_counts, defBody s_Machine_ahead_counts, defScope s_Machine_ahead_counts, [], []⟩,
  ⟨("Machine", some "count"), "count", "Machine.count", defArgs s_Machine_count, defBody s_Machine_count, defScope s_Machine_count, [], []⟩,
  ⟨("Machine", some "__len__"), "__len__", "Machine.__len__", defArgs s_Machinedd_lendd, defBody s_Machinedd_lendd, defScope s_Machinedd_lendd, [], []⟩,
  ⟨("Machine", some "__eq__"), "__eq__", "Machine.__eq__", defArgs s_Machinedd_eqdd, defBody s_Machinedd_eqdd, defScope s_Machinedd_eqdd, [], []⟩,
  ⟨("machine", none), "machine", "machine", defArgs s_machine, defBody s_machine, defScope s_machine, [], []⟩,
  ⟨("_law_pot", none), "_law_pot", "_law_pot", defArgs s__law_pot, defBody s__law_pot, defScope s__law_pot, [], []⟩,
  ⟨("_law_draw", none), "_law_draw", "_law_draw", defArgs s__law_draw, defBody s__law_draw, defScope s__law_draw, [], []⟩,
  ⟨("_law_pick", none), "_law_pick", "_law_pick", defArgs s__law_pick, defBody s__law_pick, defScope s__law_pick, [], []⟩,
  ⟨("_law_names", none), "_law_names", "_law_names", defArgs s__law_names, defBody s__law_names, defScope s__law_names, [], []⟩,
  ⟨("_law_states", none), "_law_states", "_law_states", defArgs s__law_states, defBody s__law_states, defScope s__law_states, [], []⟩,
  ⟨("_law_count", none), "_law_count", "_law_count", defArgs s__law_count, defBody s__law_count, defScope s__law_count, [], []⟩,
  ⟨("_law_walk", none), "_law_walk", "_law_walk", defArgs s__law_walk, defBody s__law_walk, defScope s__law_walk, [], []⟩,
  ⟨("_law_right", none), "_law_right", "_law_right", defArgs s__law_right, defBody s__law_right, defScope s__law_right, [], []⟩,
  ⟨("law", none), "law", "law", defArgs s_law, defBody s_law, defScope s_law, [], []⟩]
def fa0 : List He.Fa := [.free "isinstance", .free "int", .free "bool", .glo "is_integer", .free "list", .free "tuple", .free "str", .free "len", .int "MOST_LETTERS" (8), .str "LETTERS" "abcdefghijklmnopqrstuvwxyz", .free "all", .int "MOST_RUNS_rows" (400), .glo "is_list", .free "enumerate", .glo "is_name", .glo "want_few_runs", .noat "Row" "own_names", .glo "TOLD_RESTS", .cls "Row", .int "MOST_FIXERS_books" (6), .free "sorted", .noat "Book" "own_fixers", .glo "pairs_among", .meth "Book" "pair_of", .cls "Book", .glo "is_rest", .noat "Book" "own_rests", .meth "Book" "put", .glo "PUSHES", .meth "Book" "__getitem__"]
def fa1 : List He.Fa := [.glo "is_count", .int "MOST_RUNS_counts" (400), .free "range", .noat "Marks" "own_pushes", .free "zip", .free "sum", .meth "Marks" "measures", .cls "Marks", .glo "lowered", .noat "Marks" "own_places", .int "GREATEST" (4), .noat "Marks" "own_roots", .glo "push", .glo "single", .noat "Marks" "own_moves", .meth "Marks" "move_of", .meth "Marks" "behind", .noat "Machine" "own_fixers", .noat "Machine" "own_steps", .meth "Machine" "want_state", .cls "Machine", .glo "want_row", .free "dict", .noat "Machine" "own_least", .mkr "Row", .glo "Row", .glo "want_runs", .meth "Machine" "ahead_counts", .glo "Machine", .int "MOST_FIXERS_machines" (4)]
def fa2 : List He.Fa := [.mkr "Marks", .glo "Marks", .glo "steps_of", .glo "classes_of", .glo "joined_steps", .int "MOST_STATES" (2000), .glo "numbered", .mkr "Machine", .free "abs", .free "max", .free "divmod", .glo "_law_draw", .glo "_law_pick", .glo "_law_names", .mkr "Book", .glo "Book", .meth "Book" "__setitem__", .glo "_law_states", .glo "machine", .meth "Machine" "__len__", .meth "Machine" "rows", .free "repr", .meth "Machine" "least", .glo "_law_walk", .meth "Machine" "state_of", .meth "Machine" "step", .meth "Machine" "count", .glo "_law_count", .meth "Machine" "__eq__", .free "min"]
def fa3 : List He.Fa := [.glo "_law_pot", .glo "_law_right", .glo "law"]
def fa : List He.Fa := fa0 ++ fa1 ++ fa2 ++ fa3
/-- the rows of PUSHES: a rest and where its pair stands -/
def pushRows (K : PySem.W.Frag) : List (Option Int × Addr) := [(some 2, wAd K (He.ga K "PUSHES") 0), (some 3, wAd K (He.ga K "PUSHES") 1), (some 4, wAd K (He.ga K "PUSHES") 2), (some 6, wAd K (He.ga K "PUSHES") 3), (none, wAd K (He.ga K "PUSHES") 4)]
def pushPair : Option Int → Int × Int
  | some 2 => (0, 0)
  | some 3 => (1, 1)
  | some 4 => (1, 2)
  | some 6 => (1, 3)
  | _ => (2, 2)
def clsOk (K : PySem.W.Frag) (C : Addr) : Bool := decide (PySem.W.findIn K (.ref C) "__class__" = some (some (.builtin "object.__class__"))) && (decide (PySem.W.specialIn K (.builtin "object.__class__") "__get__" = some (some (.builtin "getset_descriptor.__get__"))) &&
  (decide (PySem.W.takesIn K (.builtin "object.__class__") = some true) && decide (PySem.W.mroIn K C (.type "object") = some true)))
def chkK (K : PySem.W.Frag) : Bool := PySem.W.noSeq K (He.ga K "Book") && (nkAt K (He.ga K "PUSHES") (pushRows K) && ((pushRows K).all (fun r => tupIn K r.2 [.int (pushPair r.1).1, .int (pushPair r.1).2]) &&
  (He.tupB K "TOLD_RESTS" [.int 2, .int 3, .int 4, .int 6] && (clsOk K (He.ga K "Machine")))))
def chk : PySem.W.Frag → Bool := chkK
/-- what the walk knows of the top -/
structure Says (K : PySem.W.Frag) (mg : Str → Option Value) : Prop where
  c : obsE fa fn gsl chk K = valE fn gsl
  m : ∃ h : Heap, K.In h ∧ h.Ns mainGlobals mg
section
variable {K : PySem.W.Frag} {mg : Str → Option Value}
theorem Says.glo_ (T : Says K mg) (i : Nat) {x : Str} (h : fa[i]? = some (.glo x) := by rfl) : mg x = some (.ref (He.ga K x)) := let ⟨_, X, G⟩ := T.m; He.glo_ok X G (saysE_fact T.c i h)
theorem Says.free_ (T : Says K mg) (i : Nat) {x : Str} (h : fa[i]? = some (.free x) := by rfl) : mg x = none := let ⟨_, X, G⟩ := T.m; He.free_ok X G (saysE_fact T.c i h)
theorem Says.int_ (T : Says K mg) (i : Nat) {x : Str} {n : Int} (h : fa[i]? = some (.int x n) := by rfl) : ∃ t, mg x = some (.int n t) := let ⟨_, X, G⟩ := T.m; He.int_ok X G (saysE_fact T.c i h)
theorem Says.str_ (T : Says K mg) (i : Nat) {x z : Str} (h : fa[i]? = some (.str x z) := by rfl) : ∃ t, mg x = some (.str z t) := let ⟨_, X, G⟩ := T.m; He.str_ok X G (saysE_fact T.c i h)
theorem Says.cls_ (T : Says K mg) (i : Nat) {x : Str} (h : fa[i]? = some (.cls x) := by rfl) : Cls K (He.ga K x) := He.cls_ok (saysE_fact T.c i h)
theorem Says.noat_ (T : Says K mg) (i : Nat) {x f : Str} (h : fa[i]? = some (.noat x f) := by rfl) : NoAttr K (He.ga K x) f := He.noat_ok (saysE_fact T.c i h)
theorem Says.meth_ (T : Says K mg) (i : Nat) {x m : Str} (h : fa[i]? = some (.meth x m) := by rfl) : Meth K (He.ga K x) m (He.ma K (He.ga K x) m) := He.meth_ok (saysE_fact T.c i h)
theorem Says.mkr_ (T : Says K mg) (i : Nat) {x : Str} (h : fa[i]? = some (.mkr x) := by rfl) : Mk K (He.ga K x) (He.ma K (He.ga K x) "__init__") := He.mkr_ok (saysE_fact T.c i h)
theorem Says.chk_ (T : Says K mg) : chk K = true := (saysE_all T.c).2.2.2
theorem na_Row_own_names (T : Says K mg) : NoAttr K (He.ga K "Row") "own_names" := T.noat_ 16
theorem cl_Row (T : Says K mg) : Cls K (He.ga K "Row") := T.cls_ 18
theorem na_Book_own_fixers (T : Says K mg) : NoAttr K (He.ga K "Book") "own_fixers" := T.noat_ 21
theorem cl_Book (T : Says K mg) : Cls K (He.ga K "Book") := T.cls_ 24
theorem na_Book_own_rests (T : Says K mg) : NoAttr K (He.ga K "Book") "own_rests" := T.noat_ 26
theorem na_Marks_own_pushes (T : Says K mg) : NoAttr K (He.ga K "Marks") "own_pushes" := T.noat_ 33
theorem cl_Marks (T : Says K mg) : Cls K (He.ga K "Marks") := T.cls_ 37
theorem na_Marks_own_places (T : Says K mg) : NoAttr K (He.ga K "Marks") "own_places" := T.noat_ 39
theorem na_Marks_own_roots (T : Says K mg) : NoAttr K (He.ga K "Marks") "own_roots" := T.noat_ 41
theorem na_Marks_own_moves (T : Says K mg) : NoAttr K (He.ga K "Marks") "own_moves" := T.noat_ 44
theorem na_Machine_own_fixers (T : Says K mg) : NoAttr K (He.ga K "Machine") "own_fixers" := T.noat_ 47
theorem na_Machine_own_steps (T : Says K mg) : NoAttr K (He.ga K "Machine") "own_steps" := T.noat_ 48
theorem cl_Machine (T : Says K mg) : Cls K (He.ga K "Machine") := T.cls_ 50
theorem na_Machine_own_least (T : Says K mg) : NoAttr K (He.ga K "Machine") "own_least" := T.noat_ 53
theorem d_is_integer (T : Says K mg) : FunD K "is_integer" "is_integer" (defArgs s_is_integer) (defBody s_is_integer) (defScope s_is_integer) (([] : List He.Dv).map (He.Dv.v K)) [] (He.fAd K ("is_integer", none)) (fdOf K (He.fAd K ("is_integer", none))) := saysE_def T.c 0
theorem b_is_integer (T : Says K mg) : Binds K (fdOf K (He.fAd K ("is_integer", none))) ["value"] [] := (d_is_integer T).bindsN fun _ _ _ _ _ _ us hl => match us, hl with | [_], _ => rfl
theorem d_is_count (T : Says K mg) : FunD K "is_count" "is_count" (defArgs s_is_count) (defBody s_is_count) (defScope s_is_count) (([] : List He.Dv).map (He.Dv.v K)) [] (He.fAd K ("is_count", none)) (fdOf K (He.fAd K ("is_count", none))) := saysE_def T.c 1
theorem b_is_count (T : Says K mg) : Binds K (fdOf K (He.fAd K ("is_count", none))) ["value"] [] := (d_is_count T).bindsN fun _ _ _ _ _ _ us hl => match us, hl with | [_], _ => rfl
theorem d_is_list (T : Says K mg) : FunD K "is_list" "is_list" (defArgs s_is_list) (defBody s_is_list) (defScope s_is_list) (([] : List He.Dv).map (He.Dv.v K)) [] (He.fAd K ("is_list", none)) (fdOf K (He.fAd K ("is_list", none))) := saysE_def T.c 2
theorem b_is_list (T : Says K mg) : Binds K (fdOf K (He.fAd K ("is_list", none))) ["value"] [] := (d_is_list T).bindsN fun _ _ _ _ _ _ us hl => match us, hl with | [_], _ => rfl
theorem d_is_name (T : Says K mg) : FunD K "is_name" "is_name" (defArgs s_is_name) (defBody s_is_name) (defScope s_is_name) (([] : List He.Dv).map (He.Dv.v K)) [] (He.fAd K ("is_name", none)) (fdOf K (He.fAd K ("is_name", none))) := saysE_def T.c 3
theorem b_is_name (T : Says K mg) : Binds K (fdOf K (He.fAd K ("is_name", none))) ["value"] [] := (d_is_name T).bindsN fun _ _ _ _ _ _ us hl => match us, hl with | [_], _ => rfl
theorem d_want_few_runs (T : Says K mg) : FunD K "want_few_runs" "want_few_runs" (defArgs s_want_few_runs) (defBody s_want_few_runs) (defScope s_want_few_runs) (([] : List He.Dv).map (He.Dv.v K)) [] (He.fAd K ("want_few_runs", none)) (fdOf K (He.fAd K ("want_few_runs", none))) := saysE_def T.c 4
theorem b_want_few_runs (T : Says K mg) : Binds K (fdOf K (He.fAd K ("want_few_runs", none))) ["many"] [] := (d_want_few_runs T).bindsN fun _ _ _ _ _ _ us hl => match us, hl with | [_], _ => rfl
theorem d_Rowdd_initdd (T : Says K mg) : FunD K "__init__" "Row.__init__" (defArgs s_Rowdd_initdd) (defBody s_Rowdd_initdd) (defScope s_Rowdd_initdd) (([.adr rowDfl] : List He.Dv).map (He.Dv.v K)) [] (He.fAd K ("Row", some "__init__")) (fdOf K (He.fAd K ("Row", some "__init__"))) := saysE_def T.c 5
theorem d_is_rest (T : Says K mg) : FunD K "is_rest" "is_rest" (defArgs s_is_rest) (defBody s_is_rest) (defScope s_is_rest) (([] : List He.Dv).map (He.Dv.v K)) [] (He.fAd K ("is_rest", none)) (fdOf K (He.fAd K ("is_rest", none))) := saysE_def T.c 6
theorem b_is_rest (T : Says K mg) : Binds K (fdOf K (He.fAd K ("is_rest", none))) ["value"] [] := (d_is_rest T).bindsN fun _ _ _ _ _ _ us hl => match us, hl with | [_], _ => rfl
theorem d_pairs_among (T : Says K mg) : FunD K "pairs_among" "pairs_among" (defArgs s_pairs_among) (defBody s_pairs_among) (defScope s_pairs_among) (([] : List He.Dv).map (He.Dv.v K)) [] (He.fAd K ("pairs_among", none)) (fdOf K (He.fAd K ("pairs_among", none))) := saysE_def T.c 7
theorem b_pairs_among (T : Says K mg) : Binds K (fdOf K (He.fAd K ("pairs_among", none))) ["names"] [] := (d_pairs_among T).bindsN fun _ _ _ _ _ _ us hl => match us, hl with | [_], _ => rfl
theorem d_want_row (T : Says K mg) : FunD K "want_row" "want_row" (defArgs s_want_row) (defBody s_want_row) (defScope s_want_row) (([] : List He.Dv).map (He.Dv.v K)) [] (He.fAd K ("want_row", none)) (fdOf K (He.fAd K ("want_row", none))) := saysE_def T.c 8
theorem b_want_row (T : Says K mg) : Binds K (fdOf K (He.fAd K ("want_row", none))) ["known", "row"] [] := (d_want_row T).bindsN fun _ _ _ _ _ _ us hl => match us, hl with | [_, _], _ => rfl
theorem d_Bookdd_initdd (T : Says K mg) : FunD K "__init__" "Book.__init__" (defArgs s_Bookdd_initdd) (defBody s_Bookdd_initdd) (defScope s_Bookdd_initdd) (([.non] : List He.Dv).map (He.Dv.v K)) [] (He.fAd K ("Book", some "__init__")) (fdOf K (He.fAd K ("Book", some "__init__"))) := saysE_def T.c 9
theorem d_Book_pair_of (T : Says K mg) : FunD K "pair_of" "Book.pair_of" (defArgs s_Book_pair_of) (defBody s_Book_pair_of) (defScope s_Book_pair_of) (([] : List He.Dv).map (He.Dv.v K)) [] (He.fAd K ("Book", some "pair_of")) (fdOf K (He.fAd K ("Book", some "pair_of"))) := saysE_def T.c 10
theorem b_Book_pair_of (T : Says K mg) : Binds K (fdOf K (He.fAd K ("Book", some "pair_of"))) ["self", "a", "b"] [] := (d_Book_pair_of T).bindsN fun _ _ _ _ _ _ us hl => match us, hl with | [_, _, _], _ => rfl
theorem d_Book_put (T : Says K mg) : FunD K "put" "Book.put" (defArgs s_Book_put) (defBody s_Book_put) (defScope s_Book_put) (([] : List He.Dv).map (He.Dv.v K)) [] (He.fAd K ("Book", some "put")) (fdOf K (He.fAd K ("Book", some "put"))) := saysE_def T.c 11
theorem b_Book_put (T : Says K mg) : Binds K (fdOf K (He.fAd K ("Book", some "put"))) ["self", "a", "b", "rest"] [] := (d_Book_put T).bindsN fun _ _ _ _ _ _ us hl => match us, hl with | [_, _, _, _], _ => rfl
theorem d_Bookdd_getitemdd (T : Says K mg) : FunD K "__getitem__" "Book.__getitem__" (defArgs s_Bookdd_getitemdd) (defBody s_Bookdd_getitemdd) (defScope s_Bookdd_getitemdd) (([] : List He.Dv).map (He.Dv.v K)) [] (He.fAd K ("Book", some "__getitem__")) (fdOf K (He.fAd K ("Book", some "__getitem__"))) := saysE_def T.c 12
theorem b_Bookdd_getitemdd (T : Says K mg) : Binds K (fdOf K (He.fAd K ("Book", some "__getitem__"))) ["self", "at"] [] := (d_Bookdd_getitemdd T).bindsN fun _ _ _ _ _ _ us hl => match us, hl with | [_, _], _ => rfl
theorem d_Bookdd_setitemdd (T : Says K mg) : FunD K "__setitem__" "Book.__setitem__" (defArgs s_Bookdd_setitemdd) (defBody s_Bookdd_setitemdd) (defScope s_Bookdd_setitemdd) (([] : List He.Dv).map (He.Dv.v K)) [] (He.fAd K ("Book", some "__setitem__")) (fdOf K (He.fAd K ("Book", some "__setitem__"))) := saysE_def T.c 13
theorem b_Bookdd_setitemdd (T : Says K mg) : Binds K (fdOf K (He.fAd K ("Book", some "__setitem__"))) ["self", "at", "worth"] [] := (d_Bookdd_setitemdd T).bindsN fun _ _ _ _ _ _ us hl => match us, hl with | [_, _, _], _ => rfl
theorem d_push (T : Says K mg) : FunD K "push" "push" (defArgs s_push) (defBody s_push) (defScope s_push) (([] : List He.Dv).map (He.Dv.v K)) [] (He.fAd K ("push", none)) (fdOf K (He.fAd K ("push", none))) := saysE_def T.c 14
theorem b_push (T : Says K mg) : Binds K (fdOf K (He.fAd K ("push", none))) ["book", "a", "b"] [] := (d_push T).bindsN fun _ _ _ _ _ _ us hl => match us, hl with | [_, _, _], _ => rfl
theorem d_want_runs (T : Says K mg) : FunD K "want_runs" "want_runs" (defArgs s_want_runs) (defBody s_want_runs) (defScope s_want_runs) (([] : List He.Dv).map (He.Dv.v K)) [] (He.fAd K ("want_runs", none)) (fdOf K (He.fAd K ("want_runs", none))) := saysE_def T.c 15
theorem b_want_runs (T : Says K mg) : Binds K (fdOf K (He.fAd K ("want_runs", none))) ["runs"] [] := (d_want_runs T).bindsN fun _ _ _ _ _ _ us hl => match us, hl with | [_], _ => rfl
theorem d_single (T : Says K mg) : FunD K "single" "single" (defArgs s_single) (defBody s_single) (defScope s_single) (([] : List He.Dv).map (He.Dv.v K)) [] (He.fAd K ("single", none)) (fdOf K (He.fAd K ("single", none))) := saysE_def T.c 16
theorem b_single (T : Says K mg) : Binds K (fdOf K (He.fAd K ("single", none))) ["many", "fixer"] [] := (d_single T).bindsN fun _ _ _ _ _ _ us hl => match us, hl with | [_, _], _ => rfl
theorem d_lowered (T : Says K mg) : FunD K "lowered" "lowered" (defArgs s_lowered) (defBody s_lowered) (defScope s_lowered) (([] : List He.Dv).map (He.Dv.v K)) [] (He.fAd K ("lowered", none)) (fdOf K (He.fAd K ("lowered", none))) := saysE_def T.c 17
theorem b_lowered (T : Says K mg) : Binds K (fdOf K (He.fAd K ("lowered", none))) ["numbers", "fixer", "amount"] [] := (d_lowered T).bindsN fun _ _ _ _ _ _ us hl => match us, hl with | [_, _, _], _ => rfl
theorem d_Marks_measures (T : Says K mg) : FunD K "measures" "Marks.measures" (defArgs s_Marks_measures) (defBody s_Marks_measures) (defScope s_Marks_measures) (([] : List He.Dv).map (He.Dv.v K)) [] (He.fAd K ("Marks", some "measures")) (fdOf K (He.fAd K ("Marks", some "measures"))) := saysE_def T.c 18
theorem b_Marks_measures (T : Says K mg) : Binds K (fdOf K (He.fAd K ("Marks", some "measures"))) ["self", "root", "fixer"] [] := (d_Marks_measures T).bindsN fun _ _ _ _ _ _ us hl => match us, hl with | [_, _, _], _ => rfl
theorem d_Marks_move_of (T : Says K mg) : FunD K "move_of" "Marks.move_of" (defArgs s_Marks_move_of) (defBody s_Marks_move_of) (defScope s_Marks_move_of) (([] : List He.Dv).map (He.Dv.v K)) [] (He.fAd K ("Marks", some "move_of")) (fdOf K (He.fAd K ("Marks", some "move_of"))) := saysE_def T.c 19
theorem b_Marks_move_of (T : Says K mg) : Binds K (fdOf K (He.fAd K ("Marks", some "move_of"))) ["self", "root", "fixer"] [] := (d_Marks_move_of T).bindsN fun _ _ _ _ _ _ us hl => match us, hl with | [_, _, _], _ => rfl
theorem d_Marksdd_initdd (T : Says K mg) : FunD K "__init__" "Marks.__init__" (defArgs s_Marksdd_initdd) (defBody s_Marksdd_initdd) (defScope s_Marksdd_initdd) (([] : List He.Dv).map (He.Dv.v K)) [] (He.fAd K ("Marks", some "__init__")) (fdOf K (He.fAd K ("Marks", some "__init__"))) := saysE_def T.c 20
theorem b_Marksdd_initdd (T : Says K mg) : Binds K (fdOf K (He.fAd K ("Marks", some "__init__"))) ["self", "book"] [] := (d_Marksdd_initdd T).bindsN fun _ _ _ _ _ _ us hl => match us, hl with | [_, _], _ => rfl
theorem d_Marks_behind (T : Says K mg) : FunD K "behind" "Marks.behind" (defArgs s_Marks_behind) (defBody s_Marks_behind) (defScope s_Marks_behind) (([] : List He.Dv).map (He.Dv.v K)) [] (He.fAd K ("Marks", some "behind")) (fdOf K (He.fAd K ("Marks", some "behind"))) := saysE_def T.c 21
theorem b_Marks_behind (T : Says K mg) : Binds K (fdOf K (He.fAd K ("Marks", some "behind"))) ["self", "marks", "fixer"] [] := (d_Marks_behind T).bindsN fun _ _ _ _ _ _ us hl => match us, hl with | [_, _, _], _ => rfl
theorem d_steps_of (T : Says K mg) : FunD K "steps_of" "steps_of" (defArgs s_steps_of) (defBody s_steps_of) (defScope s_steps_of) (([] : List He.Dv).map (He.Dv.v K)) [] (He.fAd K ("steps_of", none)) (fdOf K (He.fAd K ("steps_of", none))) := saysE_def T.c 22
theorem b_steps_of (T : Says K mg) : Binds K (fdOf K (He.fAd K ("steps_of", none))) ["marks", "many"] [] := (d_steps_of T).bindsN fun _ _ _ _ _ _ us hl => match us, hl with | [_, _], _ => rfl
theorem d_classes_of (T : Says K mg) : FunD K "classes_of" "classes_of" (defArgs s_classes_of) (defBody s_classes_of) (defScope s_classes_of) (([] : List He.Dv).map (He.Dv.v K)) [] (He.fAd K ("classes_of", none)) (fdOf K (He.fAd K ("classes_of", none))) := saysE_def T.c 23
theorem b_classes_of (T : Says K mg) : Binds K (fdOf K (He.fAd K ("classes_of", none))) ["steps"] [] := (d_classes_of T).bindsN fun _ _ _ _ _ _ us hl => match us, hl with | [_], _ => rfl
theorem d_joined_steps (T : Says K mg) : FunD K "joined_steps" "joined_steps" (defArgs s_joined_steps) (defBody s_joined_steps) (defScope s_joined_steps) (([] : List He.Dv).map (He.Dv.v K)) [] (He.fAd K ("joined_steps", none)) (fdOf K (He.fAd K ("joined_steps", none))) := saysE_def T.c 24
theorem b_joined_steps (T : Says K mg) : Binds K (fdOf K (He.fAd K ("joined_steps", none))) ["steps", "classes"] [] := (d_joined_steps T).bindsN fun _ _ _ _ _ _ us hl => match us, hl with | [_, _], _ => rfl
theorem d_numbered (T : Says K mg) : FunD K "numbered" "numbered" (defArgs s_numbered) (defBody s_numbered) (defScope s_numbered) (([] : List He.Dv).map (He.Dv.v K)) [] (He.fAd K ("numbered", none)) (fdOf K (He.fAd K ("numbered", none))) := saysE_def T.c 25
theorem b_numbered (T : Says K mg) : Binds K (fdOf K (He.fAd K ("numbered", none))) ["steps", "first", "names"] [] := (d_numbered T).bindsN fun _ _ _ _ _ _ us hl => match us, hl with | [_, _, _], _ => rfl
theorem d_Machinedd_initdd (T : Says K mg) : FunD K "__init__" "Machine.__init__" (defArgs s_Machinedd_initdd) (defBody s_Machinedd_initdd) (defScope s_Machinedd_initdd) (([] : List He.Dv).map (He.Dv.v K)) [] (He.fAd K ("Machine", some "__init__")) (fdOf K (He.fAd K ("Machine", some "__init__"))) := saysE_def T.c 26
theorem b_Machinedd_initdd (T : Says K mg) : Binds K (fdOf K (He.fAd K ("Machine", some "__init__"))) ["self", "fixers", "steps", "least"] [] := (d_Machinedd_initdd T).bindsN fun _ _ _ _ _ _ us hl => match us, hl with | [_, _, _, _], _ => rfl
theorem d_Machine_want_state (T : Says K mg) : FunD K "want_state" "Machine.want_state" (defArgs s_Machine_want_state) (defBody s_Machine_want_state) (defScope s_Machine_want_state) (([] : List He.Dv).map (He.Dv.v K)) [] (He.fAd K ("Machine", some "want_state")) (fdOf K (He.fAd K ("Machine", some "want_state"))) := saysE_def T.c 27
theorem b_Machine_want_state (T : Says K mg) : Binds K (fdOf K (He.fAd K ("Machine", some "want_state"))) ["self", "state"] [] := (d_Machine_want_state T).bindsN fun _ _ _ _ _ _ us hl => match us, hl with | [_, _], _ => rfl
theorem d_Machine_step (T : Says K mg) : FunD K "step" "Machine.step" (defArgs s_Machine_step) (defBody s_Machine_step) (defScope s_Machine_step) (([] : List He.Dv).map (He.Dv.v K)) [] (He.fAd K ("Machine", some "step")) (fdOf K (He.fAd K ("Machine", some "step"))) := saysE_def T.c 28
theorem b_Machine_step (T : Says K mg) : Binds K (fdOf K (He.fAd K ("Machine", some "step"))) ["self", "state", "fixer"] [] := (d_Machine_step T).bindsN fun _ _ _ _ _ _ us hl => match us, hl with | [_, _, _], _ => rfl
theorem d_Machine_state_of (T : Says K mg) : FunD K "state_of" "Machine.state_of" (defArgs s_Machine_state_of) (defBody s_Machine_state_of) (defScope s_Machine_state_of) (([] : List He.Dv).map (He.Dv.v K)) [] (He.fAd K ("Machine", some "state_of")) (fdOf K (He.fAd K ("Machine", some "state_of"))) := saysE_def T.c 29
theorem b_Machine_state_of (T : Says K mg) : Binds K (fdOf K (He.fAd K ("Machine", some "state_of"))) ["self", "row"] [] := (d_Machine_state_of T).bindsN fun _ _ _ _ _ _ us hl => match us, hl with | [_, _], _ => rfl
theorem d_Machine_rows (T : Says K mg) : FunD K "rows" "Machine.rows" (defArgs s_Machine_rows) (defBody s_Machine_rows) (defScope s_Machine_rows) (([] : List He.Dv).map (He.Dv.v K)) [] (He.fAd K ("Machine", some "rows")) (fdOf K (He.fAd K ("Machine", some "rows"))) := saysE_def T.c 30
theorem b_Machine_rows (T : Says K mg) : Binds K (fdOf K (He.fAd K ("Machine", some "rows"))) ["self"] [] := (d_Machine_rows T).bindsN fun _ _ _ _ _ _ us hl => match us, hl with | [_], _ => rfl
theorem d_Machine_least (T : Says K mg) : FunD K "least" "Machine.least" (defArgs s_Machine_least) (defBody s_Machine_least) (defScope s_Machine_least) (([] : List He.Dv).map (He.Dv.v K)) [] (He.fAd K ("Machine", some "least")) (fdOf K (He.fAd K ("Machine", some "least"))) := saysE_def T.c 31
theorem b_Machine_least (T : Says K mg) : Binds K (fdOf K (He.fAd K ("Machine", some "least"))) ["self", "state"] [] := (d_Machine_least T).bindsN fun _ _ _ _ _ _ us hl => match us, hl with | [_, _], _ => rfl
theorem d_Machine_ahead_counts (T : Says K mg) : FunD K "ahead_counts" "Machine.ahead_counts" (defArgs s_Machine_ahead_counts) (defBody s_Machine_ahead_counts) (defScope s_Machine_ahead_counts) (([] : List He.Dv).map (He.Dv.v K)) [] (He.fAd K ("Machine", some "ahead_counts")) (fdOf K (He.fAd K ("Machine", some "ahead_counts"))) := saysE_def T.c 32
theorem b_Machine_ahead_counts (T : Says K mg) : Binds K (fdOf K (He.fAd K ("Machine", some "ahead_counts"))) ["self", "runs"] [] := (d_Machine_ahead_counts T).bindsN fun _ _ _ _ _ _ us hl => match us, hl with | [_, _], _ => rfl
theorem d_Machine_count (T : Says K mg) : FunD K "count" "Machine.count" (defArgs s_Machine_count) (defBody s_Machine_count) (defScope s_Machine_count) (([] : List He.Dv).map (He.Dv.v K)) [] (He.fAd K ("Machine", some "count")) (fdOf K (He.fAd K ("Machine", some "count"))) := saysE_def T.c 33
theorem b_Machine_count (T : Says K mg) : Binds K (fdOf K (He.fAd K ("Machine", some "count"))) ["self", "runs"] [] := (d_Machine_count T).bindsN fun _ _ _ _ _ _ us hl => match us, hl with | [_, _], _ => rfl
theorem d_Machinedd_lendd (T : Says K mg) : FunD K "__len__" "Machine.__len__" (defArgs s_Machinedd_lendd) (defBody s_Machinedd_lendd) (defScope s_Machinedd_lendd) (([] : List He.Dv).map (He.Dv.v K)) [] (He.fAd K ("Machine", some "__len__")) (fdOf K (He.fAd K ("Machine", some "__len__"))) := saysE_def T.c 34
theorem b_Machinedd_lendd (T : Says K mg) : Binds K (fdOf K (He.fAd K ("Machine", some "__len__"))) ["self"] [] := (d_Machinedd_lendd T).bindsN fun _ _ _ _ _ _ us hl => match us, hl with | [_], _ => rfl
theorem d_Machinedd_eqdd (T : Says K mg) : FunD K "__eq__" "Machine.__eq__" (defArgs s_Machinedd_eqdd) (defBody s_Machinedd_eqdd) (defScope s_Machinedd_eqdd) (([] : List He.Dv).map (He.Dv.v K)) [] (He.fAd K ("Machine", some "__eq__")) (fdOf K (He.fAd K ("Machine", some "__eq__"))) := saysE_def T.c 35
theorem b_Machinedd_eqdd (T : Says K mg) : Binds K (fdOf K (He.fAd K ("Machine", some "__eq__"))) ["self", "other"] [] := (d_Machinedd_eqdd T).bindsN fun _ _ _ _ _ _ us hl => match us, hl with | [_, _], _ => rfl
theorem d_machine (T : Says K mg) : FunD K "machine" "machine" (defArgs s_machine) (defBody s_machine) (defScope s_machine) (([] : List He.Dv).map (He.Dv.v K)) [] (He.fAd K ("machine", none)) (fdOf K (He.fAd K ("machine", none))) := saysE_def T.c 36
theorem b_machine (T : Says K mg) : Binds K (fdOf K (He.fAd K ("machine", none))) ["book"] [] := (d_machine T).bindsN fun _ _ _ _ _ _ us hl => match us, hl with | [_], _ => rfl
theorem d__law_pot (T : Says K mg) : FunD K "_law_pot" "_law_pot" (defArgs s__law_pot) (defBody s__law_pot) (defScope s__law_pot) (([] : List He.Dv).map (He.Dv.v K)) [] (He.fAd K ("_law_pot", none)) (fdOf K (He.fAd K ("_law_pot", none))) := saysE_def T.c 37
theorem b__law_pot (T : Says K mg) : Binds K (fdOf K (He.fAd K ("_law_pot", none))) ["_law_script", "_law_k"] [] := (d__law_pot T).bindsN fun _ _ _ _ _ _ us hl => match us, hl with | [_, _], _ => rfl
theorem d__law_draw (T : Says K mg) : FunD K "_law_draw" "_law_draw" (defArgs s__law_draw) (defBody s__law_draw) (defScope s__law_draw) (([] : List He.Dv).map (He.Dv.v K)) [] (He.fAd K ("_law_draw", none)) (fdOf K (He.fAd K ("_law_draw", none))) := saysE_def T.c 38
theorem b__law_draw (T : Says K mg) : Binds K (fdOf K (He.fAd K ("_law_draw", none))) ["_law_pot_here", "_law_many"] [] := (d__law_draw T).bindsN fun _ _ _ _ _ _ us hl => match us, hl with | [_, _], _ => rfl
theorem d__law_pick (T : Says K mg) : FunD K "_law_pick" "_law_pick" (defArgs s__law_pick) (defBody s__law_pick) (defScope s__law_pick) (([] : List He.Dv).map (He.Dv.v K)) [] (He.fAd K ("_law_pick", none)) (fdOf K (He.fAd K ("_law_pick", none))) := saysE_def T.c 39
theorem b__law_pick (T : Says K mg) : Binds K (fdOf K (He.fAd K ("_law_pick", none))) ["_law_pot_here", "_law_some"] [] := (d__law_pick T).bindsN fun _ _ _ _ _ _ us hl => match us, hl with | [_, _], _ => rfl
theorem d__law_names (T : Says K mg) : FunD K "_law_names" "_law_names" (defArgs s__law_names) (defBody s__law_names) (defScope s__law_names) (([] : List He.Dv).map (He.Dv.v K)) [] (He.fAd K ("_law_names", none)) (fdOf K (He.fAd K ("_law_names", none))) := saysE_def T.c 40
theorem b__law_names (T : Says K mg) : Binds K (fdOf K (He.fAd K ("_law_names", none))) ["_law_pot_here", "_law_many"] [] := (d__law_names T).bindsN fun _ _ _ _ _ _ us hl => match us, hl with | [_, _], _ => rfl
theorem d__law_states (T : Says K mg) : FunD K "_law_states" "_law_states" (defArgs s__law_states) (defBody s__law_states) (defScope s__law_states) (([] : List He.Dv).map (He.Dv.v K)) [] (He.fAd K ("_law_states", none)) (fdOf K (He.fAd K ("_law_states", none))) := saysE_def T.c 41
theorem b__law_states (T : Says K mg) : Binds K (fdOf K (He.fAd K ("_law_states", none))) ["_law_names_here", "_law_pairs"] [] := (d__law_states T).bindsN fun _ _ _ _ _ _ us hl => match us, hl with | [_, _], _ => rfl
theorem d__law_count (T : Says K mg) : FunD K "_law_count" "_law_count" (defArgs s__law_count) (defBody s__law_count) (defScope s__law_count) (([] : List He.Dv).map (He.Dv.v K)) [] (He.fAd K ("_law_count", none)) (fdOf K (He.fAd K ("_law_count", none))) := saysE_def T.c 42
theorem b__law_count (T : Says K mg) : Binds K (fdOf K (He.fAd K ("_law_count", none))) ["_law_rows", "_law_laps"] [] := (d__law_count T).bindsN fun _ _ _ _ _ _ us hl => match us, hl with | [_, _], _ => rfl
theorem d__law_walk (T : Says K mg) : FunD K "_law_walk" "_law_walk" (defArgs s__law_walk) (defBody s__law_walk) (defScope s__law_walk) (([] : List He.Dv).map (He.Dv.v K)) [] (He.fAd K ("_law_walk", none)) (fdOf K (He.fAd K ("_law_walk", none))) := saysE_def T.c 43
theorem b__law_walk (T : Says K mg) : Binds K (fdOf K (He.fAd K ("_law_walk", none))) ["_law_pot_here", "_law_rows", "_law_names_here", "_law_many"] [] := (d__law_walk T).bindsN fun _ _ _ _ _ _ us hl => match us, hl with | [_, _, _, _], _ => rfl
theorem d__law_right (T : Says K mg) : FunD K "_law_right" "_law_right" (defArgs s__law_right) (defBody s__law_right) (defScope s__law_right) (([] : List He.Dv).map (He.Dv.v K)) [] (He.fAd K ("_law_right", none)) (fdOf K (He.fAd K ("_law_right", none))) := saysE_def T.c 44
theorem b__law_right (T : Says K mg) : Binds K (fdOf K (He.fAd K ("_law_right", none))) ["_law_pot_here"] [] := (d__law_right T).bindsN fun _ _ _ _ _ _ us hl => match us, hl with | [_], _ => rfl
theorem d_law (T : Says K mg) : FunD K "law" "law" (defArgs s_law) (defBody s_law) (defScope s_law) (([] : List He.Dv).map (He.Dv.v K)) [] (He.fAd K ("law", none)) (fdOf K (He.fAd K ("law", none))) := saysE_def T.c 45
theorem b_law (T : Says K mg) : Binds K (fdOf K (He.fAd K ("law", none))) ["_law_script"] [] := (d_law T).bindsN fun _ _ _ _ _ _ us hl => match us, hl with | [_], _ => rfl
theorem d_Row_names (T : Says K mg) : FunD K "names" "Row.names" (defArgs s_Row_names) (defBody s_Row_names) (defScope s_Row_names) [] [] (gAd K ("Row", some "names")) (fdOf K (gAd K ("Row", some "names"))) := (saysE_get T.c 0 rfl).1
theorem pr_Row_names (T : Says K mg) : PropOf K (He.ga K "Row") "names" (He.ma K (He.ga K "Row") "names") (gAd K ("Row", some "names")) := (saysE_get T.c 0 rfl).2
theorem b_Row_names (T : Says K mg) : Binds K (fdOf K (gAd K ("Row", some "names"))) ["self"] [] := (d_Row_names T).bindsN fun _ _ _ _ _ _ us hl => match us, hl with | [_], _ => rfl
theorem d_Machine_fixers (T : Says K mg) : FunD K "fixers" "Machine.fixers" (defArgs s_Machine_fixers) (defBody s_Machine_fixers) (defScope s_Machine_fixers) [] [] (gAd K ("Machine", some "fixers")) (fdOf K (gAd K ("Machine", some "fixers"))) := (saysE_get T.c 1 rfl).1
theorem pr_Machine_fixers (T : Says K mg) : PropOf K (He.ga K "Machine") "fixers" (He.ma K (He.ga K "Machine") "fixers") (gAd K ("Machine", some "fixers")) := (saysE_get T.c 1 rfl).2
theorem b_Machine_fixers (T : Says K mg) : Binds K (fdOf K (gAd K ("Machine", some "fixers"))) ["self"] [] := (d_Machine_fixers T).bindsN fun _ _ _ _ _ _ us hl => match us, hl with | [_], _ => rfl
end
section
variable {K : PySem.W.Frag} {mg : Str → Option Value}
theorem chk_noseq_Book (T : Says K mg) : PySem.W.noSeq K (He.ga K "Book") = true := (He.ba T.chk_).1
theorem chk_PUSHES (T : Says K mg) : nkAt K (He.ga K "PUSHES") (pushRows K) = true := (He.ba (He.ba T.chk_).2).1
theorem chk_rows (T : Says K mg) : ∀ r ∈ pushRows K, tupIn K r.2 [.int (pushPair r.1).1, .int (pushPair r.1).2] = true := List.all_eq_true.mp (He.ba (He.ba (He.ba T.chk_).2).2).1
theorem chk_TOLD (T : Says K mg) (H : Hp) : SqT K H (He.ga K "TOLD_RESTS") [.int 2, .int 3, .int 4, .int 6] := He.tupB_ok (He.ba (He.ba (He.ba (He.ba T.chk_).2).2).2).1 H
theorem clsOk_ins {C : Addr} (c : clsOk K C = true) (cl : Cls K C) {H : Hp} {a dx : Addr} {fs : List (Str × V)} (e : H a = some (.ins C dx fs)) : TyX K H (.ref a) (.ref C) :=
  .base (.ins e cl (of_decide_eq_true (He.ba c).1) (of_decide_eq_true (He.ba (He.ba c).2).1) (of_decide_eq_true (He.ba (He.ba (He.ba c).2).2).1) (of_decide_eq_true (He.ba (He.ba (He.ba c).2).2).2))
theorem chk_Machine (T : Says K mg) : clsOk K (He.ga K "Machine") = true := (He.ba (He.ba (He.ba (He.ba T.chk_).2).2).2).2
theorem b_Rowdd_initdd (T : Says K mg) : Binds K (fdOf K (He.fAd K ("Row", some "__init__"))) ["self", "names"] [] := by
  obtain ⟨ds, hv, hb⟩ := (d_Rowdd_initdd T).binds1 (ps := ["self", "names"]) 2 1 (by simp) rfl fun _ _ _ _ _ _ _ us its hl hi => match us, its, hl, hi with | [_, _], [_], _, _ => ⟨_, rfl, by kernel_rfl⟩
  cases hv
  exact hb
theorem bd_init (T : Says K mg) : ∃ ds, Vals [.non] ds ∧ Binds K (fdOf K (He.fAd K ("Book", some "__init__"))) ["self", "fixers", "rests"] ds :=
  (d_Bookdd_initdd T).binds1 2 0 (by simp) rfl fun _ _ _ _ _ _ _ us its hl hi => match us, its, hl, hi with | [_, _], [_], _, _ => ⟨_, rfl, rfl⟩
theorem dv_Bookdd_initdd1 (T : Says K mg) : Vals [.non] (bd_init T).choose := (bd_init T).choose_spec.1
theorem b_Bookdd_initdd1 (T : Says K mg) : Binds K (fdOf K (He.fAd K ("Book", some "__init__"))) ["self", "fixers", "rests"] (bd_init T).choose := (bd_init T).choose_spec.2
end
end T85
end

section
set_option Elab.async false
set_option linter.all false
set_option maxRecDepth 100000
set_option maxHeartbeats 4000000
/-! the head's facts over a told list of addresses (growing the list costs the kernel gigabytes) -/
namespace Fx
open PySem PySem.Spec PyProof.Rows L2
open He
def lookL (as : List Addr) (fa : List Fa) (fn gs : List DefD) (ex : PySem.W.Frag → Bool) (g : Addr → Option Obj) : AlD := obsE fa fn gs ex (frG g as)
def hookL (as : List Addr) (fa : List Fa) (fn gs : List DefD) (ex : PySem.W.Frag → Bool) : PySem.W.Hook where
  α := AlD
  obs := fun s => lookL as fa fn gs ex s.heap.get?
  val := fun _ => valE fn gs
  says := fun _ h => ∃ K : PySem.W.Frag, K.In h ∧ obsE fa fn gs ex K = valE fn gs
  of := fun _ _ e => ⟨_, frG_in, e⟩
  keeps := fun _ _ _ z k => z.elim fun K q => ⟨K, PySem.W.Frag.In.keeps q.1 k, q.2⟩
theorem lookL_eq {as : List Addr} {fa : List Fa} {fn gs : List DefD} {ex : PySem.W.Frag → Bool} {g : Addr → Option Obj} {s : Shared} (h : ∀ a, g a = s.heap.get? a) : lookL as fa fn gs ex g = (hookL as fa fn gs ex).obs s := by
  obtain rfl : g = s.heap.get? := funext h
  rfl
end Fx
end

section
set_option Elab.async false
set_option linter.all false
set_option maxRecDepth 100000
set_option maxHeartbeats 0
namespace T85
open PySem PySem.W PySem.Calls PyProof.Rows Fx
abbrev R : OpenRow := OpenLaw.row PySem.Challenge.rw_fixrest_k81_whole_machines_of_loose_fixe
abbrev qv : Program := view R.prog [66]
def loose0 : List PySem.Str := ["_wall", "FixError", "InvalidRow", "InvalidFixers", "InvalidRest", "InvalidCount", "InvalidPosition", "MissingError", "UnknownFixer", "UnknownState", "StateError", "SameFixer", "OtherFixers", "LimitError", "TooMany", "LETTERS", "MOST_LETTERS", "MOST_RUNS_rows", "is_integer", "is_count", "is_list", "is_name", "want_few_runs", "Row", "MOST_FIXERS_books", "TOLD_RESTS", "NEVER_TOLD", "is_rest", "length_of", "stronger"]
def loose1 : List PySem.Str := ["weaker", "pairs_among", "want_row", "Book", "PUSHES", "push", "MOST_RUNS_counts", "want_runs", "GREATEST", "single", "lowered", "Marks", "MOST_FIXERS_machines", "MOST_STATES", "steps_of", "classes_of", "joined_steps", "numbered", "Machine", "machine", "_law_pot", "_law_draw", "_law_pick", "_law_names", "_law_states", "_law_count", "_law_walk", "_law_right"]
def loose : List PySem.Str := loose0 ++ loose1
def asL0 : List Addr := [3, 6, 4, 21, 31, 51, 70, 89, 108, 127, 139, 159, 178, 190, 210, 229, 241, 261, 270, 277, 284, 289, 296, 481, 486, 493, 500, 507, 514, 519, 526, 685, 690, 702, 709, 714, 721, 753, 764, 769, 774, 781, 879, 890, 897, 904, 911, 916, 921, 928, 933, 938, 943, 0, 20, 30, 50, 69, 88, 107, 126, 138, 158, 177, 189, 209, 228, 240, 260, 269, 276, 283, 288, 295, 480, 492, 499, 506, 513, 518, 525, 684, 691, 692, 693, 694, 695, 701, 708, 713, 720, 752, 763, 768, 773, 780, 878, 889, 896, 903]
def asL1 : List Addr := [910, 915, 920, 927, 932, 937, 942, 15, 16, 17, 18, 19, 29, 32, 48, 49, 67, 68, 86, 87, 105, 106, 124, 125, 137, 140, 156, 157, 175, 176, 188, 191, 207, 208, 226, 227, 239, 242, 258, 259, 264, 265, 266, 267, 268, 271, 272, 273, 274, 275, 278, 279, 280, 281, 282, 285, 286, 287, 290, 291, 292, 293, 294, 312, 321, 330, 338, 345, 352, 359, 366, 373, 380, 387, 394, 401, 408, 415, 422, 429, 436, 443, 450, 457, 464, 471, 478, 479, 482, 483, 487, 488, 489, 490, 491, 494, 495, 496, 497, 498]
def asL2 : List Addr := [501, 502, 503, 504, 505, 508, 509, 510, 511, 512, 515, 516, 517, 520, 521, 522, 523, 524, 534, 540, 548, 555, 562, 567, 574, 581, 588, 595, 602, 609, 616, 623, 630, 635, 640, 647, 654, 661, 668, 675, 682, 683, 686, 687, 696, 697, 698, 699, 700, 703, 704, 705, 706, 707, 710, 711, 712, 715, 716, 717, 718, 719, 733, 738, 745, 750, 751, 754, 755, 758, 759, 760, 761, 762, 765, 766, 767, 770, 771, 772, 775, 776, 777, 778, 779, 795, 803, 810, 817, 824, 829, 836, 841, 848, 855, 862, 869, 876, 877, 880]
def asL3 : List Addr := [881, 884, 885, 886, 887, 888, 891, 892, 893, 894, 895, 898, 899, 900, 901, 902, 905, 906, 907, 908, 909, 912, 913, 914, 917, 918, 919, 922, 923, 924, 925, 926, 929, 930, 931, 934, 935, 936, 939, 940, 941, 47, 66, 85, 104, 123, 155, 174, 206, 225, 257, 311, 305, 319, 320, 329, 337, 344, 351, 358, 365, 372, 379, 386, 393, 400, 407, 414, 421, 428, 435, 442, 449, 456, 463, 470, 477, 539, 535, 547, 554, 561, 566, 573, 580, 587, 594, 601, 608, 615, 622, 629, 634, 639, 646, 653, 660, 667, 674, 681]
def asL4 : List Addr := [732, 737, 744, 749, 794, 802, 809, 816, 823, 828, 835, 840, 847, 854, 861, 868, 875, 42, 43, 44, 45, 46, 61, 62, 63, 64, 65, 80, 81, 82, 83, 84, 99, 100, 101, 102, 103, 118, 119, 120, 121, 122, 150, 151, 152, 153, 154, 169, 170, 171, 172, 173, 201, 202, 203, 204, 205, 220, 221, 222, 223, 224, 252, 253, 254, 255, 256, 306, 307, 308, 309, 310, 304, 318, 322, 328, 336, 339, 340, 341, 342, 343, 346, 347, 348, 349, 350, 353, 354, 355, 356, 357, 360, 361, 362, 363, 364, 367, 368, 369]
def asL5 : List Addr := [370, 371, 374, 375, 376, 377, 378, 381, 382, 383, 384, 385, 388, 389, 390, 391, 392, 395, 396, 397, 398, 399, 402, 403, 404, 405, 406, 409, 410, 411, 412, 413, 416, 417, 418, 419, 420, 423, 424, 425, 426, 427, 430, 431, 432, 433, 434, 437, 438, 439, 440, 441, 444, 445, 446, 447, 448, 451, 452, 453, 454, 455, 458, 459, 460, 461, 462, 465, 466, 467, 468, 469, 472, 473, 474, 475, 476, 536, 537, 538, 546, 549, 550, 551, 552, 553, 556, 557, 558, 559, 560, 563, 564, 565, 568, 569, 570, 571, 572, 575]
def asL6 : List Addr := [576, 577, 578, 579, 582, 583, 584, 585, 586, 589, 590, 591, 592, 593, 596, 597, 598, 599, 600, 603, 604, 605, 606, 607, 610, 611, 612, 613, 614, 617, 618, 619, 620, 621, 624, 625, 626, 627, 628, 631, 632, 633, 636, 637, 638, 641, 642, 643, 644, 645, 648, 649, 650, 651, 652, 655, 656, 657, 658, 659, 662, 663, 664, 665, 666, 669, 670, 671, 672, 673, 676, 677, 678, 679, 680, 729, 730, 731, 734, 735, 736, 739, 740, 741, 742, 743, 746, 747, 748, 789, 790, 791, 792, 793, 801, 804, 805, 806, 807, 808]
def asL7 : List Addr := [811, 812, 813, 814, 815, 818, 819, 820, 821, 822, 825, 826, 827, 830, 831, 832, 833, 834, 837, 838, 839, 842, 843, 844, 845, 846, 849, 850, 851, 852, 853, 856, 857, 858, 859, 860, 863, 864, 865, 866, 867, 870, 871, 872, 873, 874]
def asL : List Addr := asL0 ++ asL1 ++ asL2 ++ asL3 ++ asL4 ++ asL5 ++ asL6 ++ asL7
abbrev hk : Hook := hookL asL fa fn gsl chk
def ob (s : SharedT) : He.AlD := lookL asL fa fn gsl chk (HandSHeadRun.getT s)
theorem ob_eq (s : SharedT) : ob s = hk.obs s.abs := lookL_eq (HandSHeadRun.getT_eq s)
theorem run_f (w : World) : HandSHeadRun.RunEq R qv hk ob 8000 loose (w.withFollow "special-get-raises" false) := by
  intro os
  kernel_rfl
theorem run_t (w : World) : HandSHeadRun.RunEq R qv hk ob 8000 loose (w.withFollow "special-get-raises" true) := by
  intro os
  kernel_rfl
theorem run (w : World) : HandSHeadRun.RunEq R qv hk ob 8000 loose w :=
  byRow2 (P := fun w => HandSHeadRun.RunEq R qv hk ob 8000 loose w) "special-get-raises" run_f run_t w
end T85
end

section
set_option Elab.async false
set_option linter.all false
set_option maxRecDepth 100000
set_option maxHeartbeats 4000000
namespace T85
open PySem PySem.Spec L2 Fx
section
variable {P : Program} {w : World} {K : PySem.W.Frag} {mg : Str → Option Value} {base : Heap}
/-! ### want_runs -/
def spInt1 (f : Int → Bool) : Sp := fun vs H Q _ => ∃ i : Int, vs = [.int i] ∧ Q (.bl (f i)) H
theorem ok_is_integer (T : Says K mg) : Ok P w K mg base 1 ("is_integer", none) ["value"] (spInt1 fun _ => true) := by
  refine FunD.ok (d_is_integer T) sc_is_integer (fun vs H Q E h => ?len) (fun cdv A outer s H vs Q E hr h => ?bod)
  case len =>
    obtain ⟨i, rfl, _⟩ := h; rfl
  case bod =>
    obtain ⟨i, rfl, k⟩ := h
    refine ⟨_, PSs.nox (pss_one (ps_ret (pe_and (pe_callB (k_isi (K := K) (by rfl)) (by rfl) (T.free_ 0) (by decide +kernel) (pa_cons (pv 0) (pa_cons (pe_bltn (v := .ty "int") (u := .type "int") (by rfl) (T.free_ 1) (by decide +kernel) rfl) pa_nil))) (pe_one (pe_not (pe_callB (k_isi (K := K) (by rfl)) (by rfl) (T.free_ 0) (by decide +kernel) (pa_cons (pv 0) (pa_cons (pe_bltn (v := .ty "bool") (u := .type "bool") (by rfl) (T.free_ 2) (by decide +kernel) rfl) pa_nil)))))))), ?_⟩
    refine ⟨_, rfl, _, _, _, _, true, rfl, .ty "int", .base (.int i), kit_ty (by decide +kernel), true, rfl, iteT ?_⟩
    exact ⟨_, rfl, _, _, _, _, false, rfl, .ty "bool", .base (.int i), kit_ty (by decide +kernel), false, rfl, k⟩
theorem ok_is_count (T : Says K mg) : Ok P w K mg base 2 ("is_count", none) ["value"] (spInt1 fun i => decide (0 ≤ i)) := by
  have G_is_integer := FnOk.mono (k := 1) (ok_is_integer (P := P) (w := w) (base := base) T) (by decide)
  refine FunD.ok (d_is_count T) sc_is_count (fun vs H Q E h => ?len) (fun cdv A outer s H vs Q E hr h => ?bod)
  case len =>
    obtain ⟨i, rfl, _⟩ := h; rfl
  case bod =>
    obtain ⟨i, rfl, k⟩ := h
    refine ⟨_, PSs.nox (pss_one (ps_ret (pe_and (pe_call G_is_integer hr (by rfl) (T.glo_ 3) (d_is_integer T).kp (b_is_integer T) .nil pass0 (pa_cons (pv 0) pa_nil)) (pe_one (pe_cmpR op_ge (pv 0) pe_int (nomark _)))))), ?_⟩
    exact ⟨_, rfl, i, rfl, true, rfl, iteT ⟨_, rfl, _, _, rfl, rfl, k⟩⟩
def spWantRuns : Sp := fun vs H Q _ => ∃ i : Int, vs = [.int i] ∧ 0 ≤ i ∧ i ≤ 400 ∧ Q .non H
theorem ok_want_runs (T : Says K mg) : Ok P w K mg base 3 ("want_runs", none) ["runs"] (spWantRuns) := by
  have G_is_count := FnOk.mono (k := 2) (ok_is_count (P := P) (w := w) (base := base) T) (by decide)
  refine FunD.ok (d_want_runs T) sc_want_runs (fun vs H Q E h => ?len) (fun cdv A outer s H vs Q E hr h => ?bod)
  case len =>
    obtain ⟨i, rfl, _⟩ := h; rfl
  case bod =>
    obtain ⟨i, rfl, h0, h1, k⟩ := h
    refine ⟨_, PSs.nox (pss_one (ps_if (pw_or (pt_not (pt_val (pe_call G_is_count hr (by rfl) (T.glo_ 30) (d_is_count T).kp (b_is_count T) .nil pass0 (pa_cons (pv 0) pa_nil)))) (pw_or1 (pt_cmpR op_gt (pv 0) (pe_globI (by rfl) (T.int_ 31)) (nomark _)))).pt (pss_one ps_never) pss_nil)), ?_⟩
    refine ⟨_, rfl, i, rfl, true, ?_, iteF ⟨_, rfl, _, _, rfl, rfl, false, ?_, iteF k⟩⟩
    · show V.bl (decide (0 ≤ i)) = _; rw [decide_eq_true h0]
    · show V.bl (decide (400 < i)) = _; rw [decide_eq_false (by omega)]
end
end T85
end

section
set_option Elab.async false
set_option linter.all false
set_option maxRecDepth 100000
set_option maxHeartbeats 4000000
namespace T85
open PySem PySem.Spec L2 Fx
/-! ### small things of readings -/
theorem hu0_of {u n : Nat} (h : u + n < cLine) : u < cLine := Nat.lt_of_le_of_lt (Nat.le_add_right _ _) h
theorem ty_sqt {K : PySem.W.Frag} {H : Hp} {a : Addr} {xs : List V} (h : SqT K H a xs) : TyX K H (.ref a) (.type "tuple") := by
  rcases h with (h | ⟨o, h⟩) | ⟨o, its, n, h, c, _⟩
  · exact .base (.tup h)
  · exact .fTuple h
  · exact .kTuple h c
theorem ty_sql {K : PySem.W.Frag} {H : Hp} {a : Addr} {xs : List V} (h : SqL K H a xs) : TyX K H (.ref a) (.type "list") := by
  rcases h with (h | ⟨o, h⟩) | ⟨o, its, n, h, c, _⟩
  · exact .base (.lst h)
  · exact .base (.frz h)
  · exact .kList h c
section
variable {P : Program} {w : World} {K : PySem.W.Frag} {mg : Str → Option Value} {base : Heap}
/-! ### is_list, is_name, is_rest -/
def spIsList (K : PySem.W.Frag) : Sp := fun vs H Q _ => ∃ a : Addr, vs = [.ref a] ∧ ((∃ xs, SqL K H a xs) ∨ ∃ xs, SqT K H a xs) ∧ ∀ H', Same H H' → Q (.bl true) H'
theorem ok_is_list (T : Says K mg) : Ok P w K mg base 1 ("is_list", none) ["value"] (spIsList K) := by
  refine FunD.ok (d_is_list T) sc_is_list (fun vs H Q E h => ?len) (fun cdv A outer s H vs Q E hr h => ?bod)
  case len =>
    obtain ⟨a, rfl, _⟩ := h; rfl
  case bod =>
    obtain ⟨a, rfl, ha, k⟩ := h
    refine ⟨_, PSs.nox (pss_one (ps_ret (pe_callB (k_isiT (K := K) (by rfl)) (by rfl) (T.free_ 0) (by decide +kernel) (pa_cons (pv 0) (pa_cons (pe_tup (pa_cons (pe_bltn (v := .ty "list") (u := .type "list") (by rfl) (T.free_ 4) (by decide +kernel) rfl) (pa_cons (pe_bltn (v := .ty "tuple") (u := .type "tuple") (by rfl) (T.free_ 5) (by decide +kernel) rfl) pa_nil))) pa_nil))))), ?_⟩
    refine ⟨_, rfl, by show 2 ≤ sizeLine; decide, fun tp htp => ?_⟩
    have st : Same H (upd H tp (.tup [.ty "list", .ty "tuple"])) := same_new htp
    rcases ha with ⟨xs, ha⟩ | ⟨xs, ha⟩
    · exact ⟨.ref a, tp, _, _, _, true, rfl, upd_same, .cons (.ty "list") (.cons (.ty "tuple") .nil), ty_sql (seq_mono st ha), kitAny_cons (b := true) (kit_ty (by decide +kernel)) (fun z => by cases z) (fun _ => rfl), k _ st⟩
    · exact ⟨.ref a, tp, _, _, _, true, rfl, upd_same, .cons (.ty "list") (.cons (.ty "tuple") .nil), ty_sqt (sqt_mono st ha), kitAny_cons (b := false) (kit_ty (by decide +kernel)) (fun _ => kitAny_cons (b := true) (kit_ty (by decide +kernel)) (fun z => by cases z) (fun _ => rfl)) (fun z => by cases z), k _ st⟩
/-- a fixer's name -/
def NameOk (x : Str) : Prop := 1 ≤ x.cps.size ∧ x.cps.size ≤ 8 ∧ ∀ c ∈ x.cps.toList, c ∈ (Str.ofString "abcdefghijklmnopqrstuvwxyz").cps.toList
def spIsName : Sp := fun vs H Q _ => ∃ x : Str, vs = [.str x] ∧ NameOk x ∧ ∀ H', Same H H' → Q (.bl true) H'
theorem ok_is_name (T : Says K mg) : Ok P w K mg base 1 ("is_name", none) ["value"] (spIsName) := by
  refine FunD.ok (d_is_name T) sc_is_name (fun vs H Q E h => ?len) (fun cdv A outer s H vs Q E hr h => ?bod)
  case len =>
    obtain ⟨x, rfl, _⟩ := h; rfl
  case bod =>
    obtain ⟨x, rfl, ⟨h1, h8, hc⟩, k⟩ := h
    refine ⟨_, PSs.nox (pss_cons (ps_if (pw_or (pt_not (pt_val (pe_callB (k_isi (K := K) (by rfl)) (by rfl) (T.free_ 0) (by decide +kernel) (pa_cons (pv 0) (pa_cons (pe_bltn (v := .ty "str") (u := .type "str") (by rfl) (T.free_ 6) (by decide +kernel) rfl) pa_nil))))) (pw_or1 (pt_not (pt_chain op_le op_le pe_int (pe_callB call_len_str (by rfl) (T.free_ 7) (by decide +kernel) (pa_cons (pv 0) pa_nil)) (pe_globI (by rfl) (T.int_ 8)))))).pt (pss_one (ps_ret pe_bl)) pss_nil)
      (pss_one (ps_ret (pe_callB (k_all (K := K) (by rfl) rfl) (by rfl) (T.free_ 10) (by decide +kernel) (pa_cons (pe_lc (own := [("sign", 1)]) rfl sc_is_name.nd (pi_str (pv 0)) (blkOk_by (N := N_is_name) (sc := defScope s_is_name) (by decide +kernel)) (fun _ _ _ _ _ => (pg_name (i := 1) sc_is_name.nd rfl (Or.inl rfl))) (fun _ _ _ _ _ => pts_nil) (fun _ _ _ _ _ => (pe_cmpR op_in_sign (pv 1) (pe_globS (by rfl) (T.str_ 9)) (by rfl)))) pa_nil))))), ?_⟩
    refine ⟨_, rfl, _, _, _, _, true, rfl, .ty "str", .base (.str x), kit_ty (by decide +kernel), true, rfl, iteF ?_⟩
    have hs : x.length ≤ sizeLine := Nat.le_trans h8 (by decide)
    refine ⟨_, rfl, x, rfl, hs, _, _, rfl, rfl, true, ?_, iteT ⟨_, _, rfl, rfl, true, ?_, iteF ?_⟩⟩
    · show V.bl (decide ((1 : Int) ≤ (x.cps.size : Nat))) = _; rw [decide_eq_true (by omega)]
    · show V.bl (decide (((x.cps.size : Nat) : Int) ≤ 8)) = _; rw [decide_eq_true (by omega)]
    refine ⟨_, rfl, x, rfl, fun D hD => lcm_str
      (fun q acc H2 => Same H H2 ∧ H2 D = some (.lst acc) ∧ acc = (List.replicate q true).map V.bl)
      ⟨same_new hD, upd_same, rfl⟩ ?_ ?_⟩
    · rintro q c acc H2 hq ⟨s2, hD2, rfl⟩
      refine ⟨_, rfl, c, _, rfl, rfl, _, hD2, by have := (Array.getElem?_eq_some_iff.mp hq).1; simp; exact small1000 (by omega), _, same_upd s2 hD, upd_same, ?_⟩
      rw [decide_eq_true (hc c (by simpa using Array.mem_of_getElem? hq)), List.replicate_succ', List.map_append]; rfl
    · rintro acc H2 ⟨s2, hD2, rfl⟩
      refine ⟨D, _, rfl, SqL.of hD2, ?_⟩
      rw [show (List.replicate x.cps.size true).all id = true by simp]
      exact k _ s2
def okRest (r : Option Int) : Prop := r = none ∨ r = some 2 ∨ r = some 3 ∨ r = some 4 ∨ r = some 6
def optI : Option Int → V
  | none => .non
  | some i => .int i
def spIsRest : Sp := fun vs H Q _ => ∃ r : Option Int, vs = [optI r] ∧ okRest r ∧ Q (.bl true) H
theorem ok_is_rest (T : Says K mg) : Ok P w K mg base 2 ("is_rest", none) ["value"] (spIsRest) := by
  have G_is_integer := FnOk.mono (k := 1) (ok_is_integer (P := P) (w := w) (base := base) T) (by decide)
  refine FunD.ok (d_is_rest T) sc_is_rest (fun vs H Q E h => ?len) (fun cdv A outer s H vs Q E hr h => ?bod)
  case len =>
    obtain ⟨x, rfl, _⟩ := h; rfl
  case bod =>
    obtain ⟨r, rfl, hr0, k⟩ := h
    refine ⟨_, PSs.nox (pss_one (ps_ret (pe_or (pe_cmpR op_isN (pv 0) pe_non (nomark _)) (pe_one (pe_and (pe_call G_is_integer hr (by rfl) (T.glo_ 3) (d_is_integer T).kp (b_is_integer T) .nil pass0 (pa_cons (pv 0) pa_nil)) (pe_one (pe_cmpR (k_in (K := K) (by rfl)) (pv 0) (pe_glob (v := .ref (He.ga K "TOLD_RESTS")) (by rfl) (T.glo_ 17) rfl) (by rfl)))))))), ?_⟩
    cases r with
    | none => exact ⟨_, rfl, rfl, true, rfl, iteT k⟩
    | some i =>
      have hin : inV (.int i) [.int 2, .int 3, .int 4, .int 6] = true := by
        rcases hr0 with h | h | h | h | h
        · cases h
        all_goals (cases h; rfl)
      refine ⟨_, rfl, rfl, false, rfl, iteF ⟨_, rfl, i, rfl, true, rfl, iteT ⟨_, rfl, _, _, rfl, .inr (chk_TOLD T H), rfl, rfl, ?_⟩⟩⟩
      show Q (.bl (inV (.int i) [.int 2, .int 3, .int 4, .int 6])) H
      rw [hin]; exact k
/-- the pairs of fixers, in order -/
def pairsL : List Str → List (Str × Str)
  | [] => []
  | a :: r => r.map (fun b => (a, b)) ++ pairsL r
theorem pairsL_len : ∀ {l : List Str} {n : Nat}, l.length ≤ n → (pairsL l).length ≤ n * n
  | [], n, _ => Nat.zero_le _
  | a :: r, n, h => by
    rw [List.length_cons] at h
    obtain ⟨m, rfl⟩ : ∃ m, n = m + 1 := ⟨n - 1, by omega⟩
    have := pairsL_len (l := r) (n := m) (by omega)
    rw [pairsL, List.length_append, List.length_map]
    have e : (m + 1) * (m + 1) = m * m + m + m + 1 := by rw [Nat.add_mul, Nat.mul_add]; omega
    omega
/-- tuples of two texts at addresses -/
abbrev PairsAt (H : Hp) : List Addr → List (Str × Str) → Prop := Each fun r p => H r = some (.tup [.str p.1, .str p.2])
theorem PairsAt.mono {H H' : Hp} {rs : List Addr} {xs : List (Str × Str)} (h : PairsAt H rs xs) (s : Same H H') : PairsAt H' rs xs := Each.mono h fun _ _ q => s _ _ q
theorem PairsAt.put {H : Hp} {D : Addr} {o : HO} {l : List V} {rs : List Addr} {xs : List (Str × Str)} (h : PairsAt H rs xs) (hD : H D = some (.lst l)) : PairsAt (upd H D o) rs xs :=
  Each.mono h fun _ _ q => by rw [upd_ne (ne_of q hD (by intro z; cases z))]; exact q
def spPairs (K : PySem.W.Frag) : Sp := fun vs H Q _ => ∃ (a : Addr) (names : List Str), vs = [.ref a] ∧ SqT K H a (names.map V.str) ∧ names.length ≤ 6 ∧
  ∀ H' l rs, Same H H' → H l = none → H' l = some (.lst (rs.map V.ref)) → PairsAt H' rs (pairsL names) → Q (.ref l) H'
theorem ok_pairs_among (T : Says K mg) : Ok P w K mg base 1 ("pairs_among", none) ["names"] (spPairs K) := by
  refine FunD.ok (d_pairs_among T) sc_pairs_among (fun vs H Q E h => ?len) (fun cdv A outer s H vs Q E hr h => ?bod)
  case len =>
    obtain ⟨a, names, rfl, _⟩ := h; rfl
  case bod =>
    obtain ⟨a, names, rfl, ha, hl, k⟩ := h
    refine ⟨_, PSs.nox (pss_one (ps_ret (pe_lc2 (own := [("at", 1), ("a", 2), ("b", 3)]) (vs1 := [3]) rfl sc_pairs_among.nd (k_pienumT (K := K) (by rfl) (by rfl) (T.free_ 13) (pa_cons (pv 0) pa_nil)) (blkOk_by (N := N_pairs_among) (sc := defScope s_pairs_among) (by decide +kernel)) (by decide) (fun _ _ _ _ _ => (k_tup (K := K) (n := 2) (by rfl) rfl (pgs_cons (pg_name (i := 1) sc_pairs_among.nd rfl (Or.inl rfl)) (pgs_cons (pg_name (i := 2) sc_pairs_among.nd rfl (Or.inl rfl)) pgs_nil)))) (fun _ _ _ _ _ => pts_nil) (fun _ _ _ _ _ => (k_pit (K := K) (by rfl) (pe_slice (k_slT (K := K) (by rfl)) (pv 0) (po_some (pe_op op_add (pv 1) pe_int)) po_none))) (fun _ _ _ _ _ => (pg_name (i := 3) sc_pairs_among.nd rfl (Or.inl rfl))) (fun _ _ _ _ _ => pts_nil) (fun _ _ _ _ _ => (pe_tup (pa_cons (pv 2) (pa_cons (pv 3) pa_nil))))))), ?_⟩
    refine ⟨_, rfl, a, _, rfl, ha, fun D hD => lcw walk_enumT
      (fun i H2 => ∃ (rs : List Addr) (ps : List (Str × Str)), Same H H2 ∧ H2 D = some (.lst (rs.map V.ref)) ∧ PairsAt H2 rs ps ∧ ps ++ pairsL (names.drop i) = pairsL names)
      ⟨[], [], same_new hD, upd_same, .nil, rfl⟩ (fun i H2 _ ⟨_, _, s, _⟩ => sqt_mono s ha) ?_ ?_⟩
    · rintro i v H2 H' hi ⟨rs, ps, s2, hD2, hP, hg⟩ ⟨T', u, z, rfl, hT, rfl, hu, hz⟩
      cases hu
      obtain ⟨n, hn, rfl⟩ := getElem?_map_some hz
      rw [drop_of_get hn] at hg
      have sT : Same H (upd H2 T' (.tup [.int (i : Nat), .str n])) := same_upd s2 (s2.free hT)
      refine ⟨T', _, rfl, .inl (.inl upd_same), rfl, _, _, rfl, _, _, rfl, rfl, rfl, yesI ?_⟩
      have hz0 : HT.sIx (names.map V.str).length 0 (some ((i : Int) + 1)) = i + 1 := by
        have e : ((i : Int) + 1) = ((i + 1 : Nat) : Int) := by omega
        rw [e, HT.sIx_nat]; omega
      have ecut : cutV (names.map V.str) (some ((i : Int) + 1)) none = (names.drop (i + 1)).map V.str := by
        unfold cutV
        rw [hz0, HT.sIx_none, List.take_of_length_le (by simp), List.map_drop]
      refine ⟨_, rfl, _, rfl, _, _, rfl, rfl, _, rfl, a, _, rfl, sqt_mono sT ha, (fun h => by rw [hz0] at h; exact absurd h.1 (by omega)), fun _ p hp => ⟨p, rfl, ⟨_, .inl (.inl upd_same)⟩, ?_⟩⟩
      rw [ecut]
      have sp : Same H2 (upd (upd H2 T' (.tup [.int (i : Nat), .str n])) p (.tup ((names.drop (i + 1)).map V.str))) := same_upd (same_new hT) ((same_new hT).free hp)
      have hps : ps.length ≤ 36 := by
        have h1 := pairsL_len hl
        rw [← hg, List.length_append] at h1; omega
      refine lcw (walk_tup (xs := (names.drop (i + 1)).map V.str)) (fun j H3 => ∃ (us : List Addr), Same H H3 ∧ H3 p = some (.tup ((names.drop (i + 1)).map V.str)) ∧ H3 D = some (.lst (us.map V.ref)) ∧ PairsAt H3 us (ps ++ ((names.drop (i + 1)).take j).map fun b => (n, b)))
        ⟨rs, s2.trans sp, upd_same, sp _ _ hD2, by simpa using hP.mono sp⟩ (fun j H3 _ ⟨_, _, h, _⟩ => .inl (.inl h)) ?_ ?_
      · rintro j v H9 H3 hj ⟨us, s3, hp3, hD3, hU⟩ ⟨rfl, hv⟩
        obtain ⟨b, hb, rfl⟩ := getElem?_map_some hv
        refine ⟨rfl, yesI ⟨_, rfl, _, rfl, by show 2 ≤ sizeLine; decide, fun t ht => ?_⟩⟩
        have st : Same H3 (upd H3 t (.tup [.str n, .str b])) := same_new ht
        have hj6 : j < 6 := by have := lt_of_get hb; rw [List.length_drop] at this; omega
        refine ⟨_, st _ _ hD3, by rw [List.length_map, hU.1, List.length_append, List.length_map, List.length_take]; exact small1000 (by omega), us ++ [t], same_upd (s3.trans st) hD, ?_, by rw [upd_same, List.map_append]; rfl, ?_⟩
        · rw [upd_ne (ne_of (st _ _ hp3) (st _ _ hD3) (by intro z; cases z))]; exact st _ _ hp3
        · rw [take_of_get hb, List.map_append, ← List.append_assoc]
          exact Each.snoc ((hU.mono st).put (st _ _ hD3)) (by rw [upd_ne (ne_of (upd_same (H := H3) (a := t)) (st _ _ hD3) (by intro z; cases z))]; exact upd_same)
      · rintro H3 ⟨us, s3, hp3, hD3, hU⟩
        rw [List.length_map, List.take_length] at hU
        exact ⟨us, _, s3, hD3, hU, by rw [List.append_assoc, ← hg]; rfl⟩
    · rintro H2 ⟨rs, ps, s2, hD2, hP, hg⟩
      rw [List.length_map, List.drop_length] at hg
      exact k _ _ rs s2 hD hD2 (by rw [← hg]; simpa [pairsL] using hP)
/-! ### texts in order -/
abbrev leS (a b : Str) : Prop := a.cps.toList ≤ b.cps.toList
abbrev ltS (a b : Str) : Prop := a.cps.toList < b.cps.toList
abbrev Srt (l : List Str) : Prop := l.Pairwise ltS
theorem str_ext {a b : Str} (h : a.cps.toList = b.cps.toList) : a = b := by
  cases a; cases b; congr 1; exact Array.toList_inj.mp h
theorem ltS_irrefl (a : Str) : ¬ ltS a a := List.lt_irrefl _
theorem ltS_ne {a b : Str} (h : ltS a b) : a ≠ b := fun e => ltS_irrefl b (e ▸ h)
theorem ltS_asymm {a b : Str} (h : ltS a b) : ¬ ltS b a := fun k => ltS_irrefl a (List.lt_trans h k)
theorem ltS_or {a b : Str} (n : a ≠ b) : ltS a b ∨ ltS b a := by
  by_cases h : ltS a b
  · exact .inl h
  · by_cases k : ltS b a
    · exact .inr k
    · exact absurd (str_ext (List.le_antisymm (List.not_lt.mp k) (List.not_lt.mp h))) n
theorem rising_pw : ∀ {l : List Str} {p : Str}, PyProof.Rows.risingS p l = true → (p :: l).Pairwise leS
  | [], p, _ => .cons (by simp) .nil
  | x :: r, p, h => by
    have h' : (!ltCps x.cps.toList p.cps.toList && PyProof.Rows.risingS x r) = true := h
    rw [Bool.and_eq_true] at h'
    have h2 := rising_pw h'.2
    have h1 : leS p x := by
      have z := h'.1
      rw [PyProof.Rows.ltCps_eq] at z
      exact List.not_lt.mp (by simpa using z)
    refine .cons (fun y hy => ?_) h2
    rcases List.mem_cons.mp hy with rfl | hy
    · exact h1
    · exact List.le_trans h1 (List.rel_of_pairwise_cons h2 hy)
theorem sorted_pw {l : List Str} (h : PyProof.Rows.sortedS l = true) : l.Pairwise leS := by
  cases l with
  | nil => exact .nil
  | cons x r => exact rising_pw h
theorem Srt.le {l : List Str} (h : Srt l) : l.Pairwise leS := List.Pairwise.imp (fun z => List.not_lt.mp (ltS_asymm z)) h
theorem sorted_eq {ys xs : List Str} (p : ys.Perm xs) (h : PyProof.Rows.sortedS ys = true) (s : Srt xs) : ys = xs :=
  List.Perm.eq_of_pairwise (le := leS) (fun a b _ _ h1 h2 => str_ext (List.le_antisymm h1 h2)) (sorted_pw h) s.le p
theorem srt_of {ys : List Str} (h : PyProof.Rows.sortedS ys = true) (n : ys.Nodup) : Srt ys := by
  have z := List.Pairwise.and (sorted_pw h) n
  exact z.imp fun ⟨h1, h2⟩ => (ltS_or h2).elim id fun k => absurd (str_ext (List.le_antisymm h1 (List.not_lt.mp (ltS_asymm k)))) h2
theorem Srt.nodup {l : List Str} (h : Srt l) : l.Nodup := List.Pairwise.imp (fun z => ltS_ne z) h
theorem not_mem_take {l : List Str} (h : l.Nodup) {i : Nat} {x : Str} (hx : l[i]? = some x) : x ∉ l.take i := by
  intro k
  have e : l.take i ++ x :: l.drop (i + 1) = l := by rw [← drop_of_get hx, List.take_append_drop]
  rw [← e] at h
  exact (List.nodup_append.mp h).2.2 x k x (List.mem_cons_self ..) rfl
theorem cut_take {xs : List V} {i : Nat} (h : i ≤ xs.length) : cutV xs none (some (i : Int)) = xs.take i := by
  unfold cutV
  rw [HT.sIx_none, HT.sIx_nat, List.drop_zero, Nat.sub_zero, Nat.min_eq_left h]
end
end T85
end

section
set_option Elab.async false
set_option linter.all false
set_option maxRecDepth 100000
set_option maxHeartbeats 4000000
namespace T85
open PySem PySem.Spec L2 Fx
section
variable {P : Program} {w : World} {K : PySem.W.Frag} {mg : Str → Option Value} {base : Heap}
/-! ### a Book -/
abbrev Rs := Str → Str → Option Int
def kvOf (R : Rs) (ps : List (Str × Str)) : List (List Key × V) := ps.map fun p => ([.inr p.1, .inr p.2], optI (R p.1 p.2))
/-- a Book at p, its tuple of names at t, its dict at q -/
structure BookAt (K : PySem.W.Frag) (H : Hp) (p t q : Addr) (names : List Str) (R : Rs) : Prop where
  ins : ∃ dx, H p = some (.ins (He.ga K "Book") dx [("own_fixers", .ref t), ("own_rests", .ref q)])
  tups : H t = some (.tup (names.map V.str))
  dic : H q = some (.dT (kvOf R (pairsL names)))
theorem BookAt.mono {H H' : Hp} {p t q : Addr} {names : List Str} {R : Rs} (b : BookAt K H p t q names R) (s : Same H H') : BookAt K H' p t q names R :=
  ⟨let ⟨dx, h⟩ := b.ins; ⟨dx, s _ _ h⟩, s _ _ b.tups, s _ _ b.dic⟩
theorem BookAt.tup {H : Hp} {p t q : Addr} {names : List Str} {R : Rs} (b : BookAt K H p t q names R) : SqT K H t (names.map V.str) := .inl (.inl b.tups)
theorem kv_get (R : Rs) (a b : Str) : ∀ {ps : List (Str × Str)}, (a, b) ∈ ps → valV (kvOf R ps) [.inr a, .inr b] = some (optI (R a b))
  | p :: ps, h => by
    by_cases e : p = (a, b)
    · subst e; exact valV_pos rfl
    · have h2 : (a, b) ∈ ps := (List.mem_cons.mp h).elim (fun z => absurd z.symm e) id
      have e2 : ¬ ([Sum.inr p.1, Sum.inr p.2] : List Key) = [.inr a, .inr b] := fun z => by
        simp at z; exact e (Prod.ext z.1 z.2)
      show valV (_ :: kvOf R ps) _ = _
      rw [valV_neg e2]; exact kv_get R a b h2
theorem kv_none (R : Rs) (a b : Str) : ∀ {ps : List (Str × Str)}, (a, b) ∉ ps → valV (kvOf R ps) [.inr a, .inr b] = none
  | [], _ => rfl
  | p :: ps, h => by
    have e2 : ¬ ([Sum.inr p.1, Sum.inr p.2] : List Key) = [.inr a, .inr b] := fun z => by
      simp at z; exact h (by rw [← z.1, ← z.2]; exact List.mem_cons_self ..)
    show valV (_ :: kvOf R ps) _ = _
    rw [valV_neg e2]; exact kv_none R a b fun z => h (List.mem_cons_of_mem _ z)
def putR (R : Rs) (a b : Str) (r : Option Int) : Rs := fun x y => if x = a ∧ y = b then r else R x y
theorem kv_put {R : Rs} {a b : Str} {r : Option Int} {ps : List (Str × Str)} (h : (a, b) ∈ ps) : putK (kvOf R ps) [.inr a, .inr b] (optI r) = kvOf (putR R a b r) ps := by
  unfold putK
  rw [if_pos (by
    rw [List.any_eq_true]
    exact ⟨([.inr a, .inr b], optI (R a b)), List.mem_map.mpr ⟨(a, b), h, rfl⟩, by simp⟩)]
  unfold kvOf
  rw [List.map_map]
  refine List.map_congr_left fun p _ => ?_
  show (if ([Sum.inr p.1, Sum.inr p.2] : List Key) = [.inr a, .inr b] then _ else _) = _
  unfold putR
  by_cases e : p.1 = a ∧ p.2 = b
  · rw [if_pos (by rw [e.1, e.2]), if_pos e]
  · rw [if_neg (fun z => by simp at z; exact e z), if_neg e]
theorem kv_getP (R : Rs) {p : Str × Str} {ps : List (Str × Str)} (h : p ∈ ps) : valV (kvOf R ps) [.inr p.1, .inr p.2] = some (optI (R p.1 p.2)) := kv_get R p.1 p.2 h
theorem kv_putP {R : Rs} {p : Str × Str} {r : Option Int} {ps : List (Str × Str)} (h : p ∈ ps) : putK (kvOf R ps) [.inr p.1, .inr p.2] (optI r) = kvOf (putR R p.1 p.2 r) ps := kv_put h
/-- the two in order -/
def ordP (a b : Str) : Str × Str := if a.cps.toList < b.cps.toList then (a, b) else (b, a)
theorem mem_pairs {a b : Str} : ∀ {l : List Str}, Srt l → a ∈ l → b ∈ l → ltS a b → (a, b) ∈ pairsL l
  | x :: r, s, ha, hb, h => by
    have s2 := (List.pairwise_cons.mp s).2
    have s1 := (List.pairwise_cons.mp s).1
    rw [pairsL, List.mem_append]
    rcases List.mem_cons.mp ha with e | ha2
    · rcases List.mem_cons.mp hb with e2 | hb2
      · exact absurd h (by rw [e, e2]; exact ltS_irrefl _)
      · exact .inl (List.mem_map.mpr ⟨b, hb2, by rw [e]⟩)
    · rcases List.mem_cons.mp hb with e2 | hb2
      · exact absurd h (by rw [e2]; exact ltS_asymm (s1 a ha2))
      · exact .inr (mem_pairs s2 ha2 hb2 h)
theorem ord_mem {a b : Str} {l : List Str} (s : Srt l) (ha : a ∈ l) (hb : b ∈ l) (n : a ≠ b) : ordP a b ∈ pairsL l := by
  unfold ordP
  by_cases h : ltS a b
  · rw [if_pos h]; exact mem_pairs s ha hb h
  · rw [if_neg h]; exact mem_pairs s hb ha ((ltS_or n).resolve_left h)
theorem pairsL_mem {l : List Str} {p : Str × Str} : p ∈ pairsL l → p.1 ∈ l ∧ p.2 ∈ l := by
  induction l with
  | nil => intro h; cases h
  | cons x r ih =>
    intro h
    rw [pairsL, List.mem_append] at h
    rcases h with h | h
    · obtain ⟨b, hb, rfl⟩ := List.mem_map.mp h
      exact ⟨List.mem_cons_self .., List.mem_cons_of_mem _ hb⟩
    · exact ⟨List.mem_cons_of_mem _ (ih h).1, List.mem_cons_of_mem _ (ih h).2⟩
theorem pairsL_nodup : ∀ {l : List Str}, Srt l → (pairsL l).Nodup
  | [], _ => .nil
  | x :: r, s => by
    have s2 := (List.pairwise_cons.mp s).2
    have s1 := (List.pairwise_cons.mp s).1
    rw [pairsL, List.nodup_append]
    refine ⟨?_, pairsL_nodup s2, ?_⟩
    · unfold List.Nodup
      rw [List.pairwise_map]
      exact (Srt.nodup s2).imp fun h e => h (Prod.mk.inj e).2
    · intro a ha b hb e
      subst e
      obtain ⟨c, _, rfl⟩ := List.mem_map.mp ha
      exact ltS_irrefl x (s1 x (pairsL_mem hb).1)
theorem kv_small {R : Rs} {names : List Str} (h : names.length ≤ 6) : (kvOf R (pairsL names)).length < sizeLine := by
  have := pairsL_len h
  unfold kvOf; rw [List.length_map]; exact small1000 (by omega)
def spPairOf (K : PySem.W.Frag) : Sp := fun vs H Q _ => ∃ (p t q : Addr) (names : List Str) (R : Rs) (a b : Str), vs = [.ref p, .str a, .str b] ∧ BookAt K H p t q names R ∧ a ∈ names ∧ b ∈ names ∧ a ≠ b ∧
  ∀ H' u, Same H H' → H u = none → H' u = some (.tup [.str (ordP a b).1, .str (ordP a b).2]) → Q (.ref u) H'
theorem ok_Book_pair_of (T : Says K mg) : Ok P w K mg base 1 ("Book", some "pair_of") ["self", "a", "b"] (spPairOf K) := by
  refine FunD.ok (d_Book_pair_of T) sc_Book_pair_of (fun vs H Q E h => ?len) (fun cdv A outer s H vs Q E hr h => ?bod)
  case len =>
    obtain ⟨p, t, q, names, R, a, b, rfl, _⟩ := h; rfl
  case bod =>
    obtain ⟨p, t, q, names, R, a, b, rfl, hB, ha, hb, hn, k⟩ := h
    refine ⟨_, PSs.nox (pss_cons (ps_for PassesOwn.never rfl (k_pit (K := K) (by rfl) (pe_tup (pa_cons (pv 1) (pa_cons (pv 2) pa_nil)))) (pg_name (i := 3) sc_Book_pair_of.nd rfl (Or.inl rfl))
      (pss_one (ps_if (pw_or (pt_not (pt_val (pe_callB (k_isi (K := K) (by rfl)) (by rfl) (T.free_ 0) (by decide +kernel) (pa_cons (pv 3) (pa_cons (pe_bltn (v := .ty "str") (u := .type "str") (by rfl) (T.free_ 6) (by decide +kernel) rfl) pa_nil))))) (pw_or1 (pt_cmpR (k_notIn (K := K) (by rfl)) (pv 3) (k_fld (K := K) (by rfl) (pv 0) rfl) (by rfl)))).pt (pss_one ps_never) pss_nil)))
      (pss_cons (ps_if (pt_cmpR op_eq (pv 1) (pv 2) (nomark _)) (pss_one ps_never) pss_nil)
      (pss_one (ps_ret (pe_ifExp (pt_cmpR op_lt_str (pv 1) (pv 2) (nomark _)) (pe_tup (pa_cons (pv 1) (pa_cons (pv 2) pa_nil))) (pe_tup (pa_cons (pv 2) (pa_cons (pv 1) pa_nil)))))))), ?_⟩
    refine ⟨_, rfl, _, rfl, by show 2 ≤ sizeLine; decide, fun u hu1 => ⟨u, rfl, ⟨_, .inl (.inl upd_same)⟩, ?_⟩⟩
    have su : Same H (upd H u (.tup [.str a, .str b])) := same_new hu1
    refine for_tup (xs := [.str a, .str b]) (fun i σ H2 => ∃ (v3 : Option V), σ = [some (.ref p), some (.str a), some (.str b), v3] ∧ H2 = upd H u (.tup [.str a, .str b])) ⟨none, rfl, rfl⟩ (fun i σ H2 _ ⟨_, _, e⟩ => by subst e; exact .inl (.inl upd_same)) ?_ ?_
    · rintro i y σ H2 hy ⟨v3, rfl, rfl⟩
      have hy' : ∃ z : Str, y = .str z ∧ z ∈ names := by
        match i, hy with
        | 0, h => cases h; exact ⟨a, rfl, ha⟩
        | 1, h => cases h; exact ⟨b, rfl, hb⟩
      obtain ⟨z, rfl, hz⟩ := hy'
      have hB' := hB.mono su
      obtain ⟨dx, hi⟩ := hB'.ins
      refine ⟨_, rfl, _, _, _, _, true, rfl, .ty "str", .base (.str z), kit_ty (by decide +kernel), true, rfl, iteF ?_⟩
      refine ⟨_, rfl, _, rfl, p, _, dx, _, .ref t, rfl, hi, cl_Book T, na_Book_own_fixers T, rfl, t, _, rfl, .inr hB'.tup, rfl, flat_strs _, false, ?_, iteF ⟨_, rfl, rfl⟩⟩
      show V.bl (!inV (.str z) (names.map V.str)) = _
      rw [inV_str, decide_eq_true hz]; rfl
    · rintro σ H2 ⟨v3, rfl, rfl⟩
      refine ⟨_, rfl, _, rfl, rfl, false, ?_, iteF ?_⟩
      · show V.bl (decide (V.str a = V.str b)) = _
        rw [decide_eq_false (fun e => hn (V.str.inj e))]
      · have fin : ∀ (c d : Str) (w2 : Addr), (c, d) = ordP a b → (upd H u (.tup [.str a, .str b])) w2 = none → Q (.ref w2) (upd (upd H u (.tup [.str a, .str b])) w2 (.tup [.str c, .str d])) := by
          intro c d w2 e hw2
          exact k _ _ (same_upd su (su.free hw2)) (su.free hw2) (by rw [upd_same, ← e])
        refine ⟨_, rfl, _, rfl, a, b, rfl, rfl, _, rfl, ?_⟩
        by_cases hlt : a.cps.toList < b.cps.toList
        · rw [decide_eq_true hlt]
          exact iteT ⟨_, rfl, _, rfl, by show 2 ≤ sizeLine; decide, fun w2 hw2 => fin a b w2 (by unfold ordP; rw [if_pos hlt]) hw2⟩
        · rw [decide_eq_false hlt]
          exact iteF ⟨_, rfl, _, rfl, by show 2 ≤ sizeLine; decide, fun w2 hw2 => fin b a w2 (by unfold ordP; rw [if_neg hlt]) hw2⟩
def spPut (K : PySem.W.Frag) : Sp := fun vs H Q _ => ∃ (p t q : Addr) (names : List Str) (R : Rs) (a b : Str) (r : Option Int), vs = [.ref p, .str a, .str b, optI r] ∧ BookAt K H p t q names R ∧ a ∈ names ∧ b ∈ names ∧ a ≠ b ∧ Srt names ∧ names.length ≤ 6 ∧ okRest r ∧
  ∀ H', SameX [q] H H' → H' q = some (.dT (kvOf (putR R (ordP a b).1 (ordP a b).2 r) (pairsL names))) → Q (.ref p) H'
theorem ok_Book_put (T : Says K mg) : Ok P w K mg base 3 ("Book", some "put") ["self", "a", "b", "rest"] (spPut K) := by
  have G_Book_pair_of := FnOk.mono (k := 2) (ok_Book_pair_of (P := P) (w := w) (base := base) T) (by decide)
  have G_is_rest := FnOk.mono (k := 2) (ok_is_rest (P := P) (w := w) (base := base) T) (by decide)
  refine FunD.ok (d_Book_put T) sc_Book_put (fun vs H Q E h => ?len) (fun cdv A outer s H vs Q E hr h => ?bod)
  case len =>
    obtain ⟨p, t, q, names, R, a, b, r, rfl, _⟩ := h; rfl
  case bod =>
    obtain ⟨p, t, q, names, R, a, b, r, rfl, hB, ha, hb, hn, hS, hl, hok, k⟩ := h
    have hu := hu_of hr
    refine ⟨_, PSs.nox (pss_cons (ps_set (i := 4) sc_Book_put.nd rfl (Or.inl rfl) (pe_meth (pv 0) (T.cls_ 24) (T.meth_ 23) G_Book_pair_of hr (b_Book_pair_of T) .nil pass0 (pa_cons (pv 1) (pa_cons (pv 2) pa_nil))))
      (pss_cons (ps_if (pt_not (pt_val (pe_call G_is_rest hr (by rfl) (T.glo_ 25) (d_is_rest T).kp (b_is_rest T) .nil pass0 (pa_cons (pv 3) pa_nil)))) (pss_one ps_never) pss_nil)
      (pss_cons (ps_dput hu (k_fld (K := K) (by rfl) (pv 0) rfl) (pv 4) (pv 3) rfl)
      (pss_one (ps_ret (pv 0)))))), ?_⟩
    obtain ⟨dx, hi⟩ := hB.ins
    refine ⟨_, rfl, p, dx, _, rfl, hi, rfl, _, rfl, _, rfl, p, t, q, names, R, a, b, rfl, hB, ha, hb, hn, fun H1 u s1 hnu hu1 => ?_⟩
    refine ⟨_, rfl, r, rfl, hok, true, rfl, iteF ?_⟩
    have hB1 := hB.mono s1
    obtain ⟨dx1, hi1⟩ := hB1.ins
    refine ⟨_, rfl, _, rfl, p, _, dx1, _, _, rfl, hi1, cl_Book T, na_Book_own_rests T, rfl, _, rfl, q, _, rfl, DPut.t (k := [.inr (ordP a b).1, .inr (ordP a b).2]) hB1.dic hu1 (kv_small hl), _, rfl, ?_⟩
    refine k _ (samex_upd (same_toX s1 _) (.inl (by simp))) ?_
    rw [upd_same, kv_putP (ord_mem hS ha hb hn)]
def spGetItem (K : PySem.W.Frag) : Sp := fun vs H Q _ => ∃ (p t q u : Addr) (names : List Str) (R : Rs) (a b : Str), vs = [.ref p, .ref u] ∧ SqT K H u [.str a, .str b] ∧ BookAt K H p t q names R ∧ a ∈ names ∧ b ∈ names ∧ a ≠ b ∧ Srt names ∧
  ∀ H', Same H H' → Q (optI (R (ordP a b).1 (ordP a b).2)) H'
theorem ok_Bookdd_getitemdd (T : Says K mg) : Ok P w K mg base 2 ("Book", some "__getitem__") ["self", "at"] (spGetItem K) := by
  have G_Book_pair_of := FnOk.mono (k := 1) (ok_Book_pair_of (P := P) (w := w) (base := base) T) (by decide)
  refine FunD.ok (d_Bookdd_getitemdd T) sc_Bookdd_getitemdd (fun vs H Q E h => ?len) (fun cdv A outer s H vs Q E hr h => ?bod)
  case len =>
    obtain ⟨p, t, q, u, names, R, a, b, rfl, _⟩ := h; rfl
  case bod =>
    obtain ⟨p, t, q, u, names, R, a, b, rfl, hu0, hB, ha, hb, hn, hS, k⟩ := h
    have hu := hu_of hr
    obtain ⟨dx, hi⟩ := hB.ins
    refine ⟨_, PSs.nox (pss_cons (ps_asg (pv 1) (k_tup (K := K) (n := 2) (by rfl) rfl (pgs_cons (pg_name (i := 2) sc_Bookdd_getitemdd.nd rfl (Or.inl rfl)) (pgs_cons (pg_name (i := 3) sc_Bookdd_getitemdd.nd rfl (Or.inl rfl)) pgs_nil))))
      (pss_one (ps_ret (pe_dget hu (k_fld (K := K) (by rfl) (pv 0) rfl) (pe_meth (pv 0) (T.cls_ 24) (T.meth_ 23) G_Book_pair_of hr (b_Book_pair_of T) .nil pass0 (pa_cons (pv 2) (pa_cons (pv 3) pa_nil))) (fun _ _ => rfl))))), ?_⟩
    refine ⟨_, rfl, u, _, rfl, hu0, rfl, _, _, rfl, _, _, rfl, rfl, ?_⟩
    refine ⟨_, rfl, p, _, dx, _, _, rfl, hi, cl_Book T, na_Book_own_rests T, rfl, _, rfl, p, dx, _, rfl, hi, rfl, _, rfl, _, rfl, p, t, q, names, R, a, b, rfl, hB, ha, hb, hn, fun H1 v s1 hnv hv => ?_⟩
    refine ⟨q, _, rfl, ?_, k _ s1⟩
    have z := DGet.t (k := [.inr (ordP a b).1, .inr (ordP a b).2]) (hB.mono s1).dic hv
    rw [kv_getP R (ord_mem hS ha hb hn)] at z
    exact z
def spSetItem (K : PySem.W.Frag) : Sp := fun vs H Q _ => ∃ (p t q u : Addr) (names : List Str) (R : Rs) (a b : Str) (r : Option Int), vs = [.ref p, .ref u, optI r] ∧ SqT K H u [.str a, .str b] ∧ BookAt K H p t q names R ∧ a ∈ names ∧ b ∈ names ∧ a ≠ b ∧ Srt names ∧ names.length ≤ 6 ∧ okRest r ∧
  ∀ H', SameX [q] H H' → H' q = some (.dT (kvOf (putR R (ordP a b).1 (ordP a b).2 r) (pairsL names))) → Q .non H'
theorem ok_Bookdd_setitemdd (T : Says K mg) : Ok P w K mg base 4 ("Book", some "__setitem__") ["self", "at", "worth"] (spSetItem K) := by
  have G_Book_put := FnOk.mono (k := 3) (ok_Book_put (P := P) (w := w) (base := base) T) (by decide)
  refine FunD.ok (d_Bookdd_setitemdd T) sc_Bookdd_setitemdd (fun vs H Q E h => ?len) (fun cdv A outer s H vs Q E hr h => ?bod)
  case len =>
    obtain ⟨p, t, q, u, names, R, a, b, r, rfl, _⟩ := h; rfl
  case bod =>
    obtain ⟨p, t, q, u, names, R, a, b, r, rfl, hu0, hB, ha, hb, hn, hS, hl, hok, k⟩ := h
    have hu := hu_of hr
    obtain ⟨dx, hi⟩ := hB.ins
    refine ⟨_, PSs.nox (pss_cons (ps_asg (pv 1) (k_tup (K := K) (n := 2) (by rfl) rfl (pgs_cons (pg_name (i := 3) sc_Bookdd_setitemdd.nd rfl (Or.inl rfl)) (pgs_cons (pg_name (i := 4) sc_Bookdd_setitemdd.nd rfl (Or.inl rfl)) pgs_nil))))
      (pss_one (ps_expr (pe_meth (pv 0) (T.cls_ 24) (T.meth_ 27) G_Book_put hr (b_Book_put T) .nil pass0 (pa_cons (pv 3) (pa_cons (pv 4) (pa_cons (pv 2) pa_nil))))))), ?_⟩
    refine ⟨_, rfl, u, _, rfl, hu0, rfl, _, _, rfl, _, _, rfl, rfl, ?_⟩
    refine ⟨_, rfl, p, dx, _, rfl, hi, rfl, _, rfl, _, rfl, _, rfl, p, t, q, names, R, a, b, r, rfl, hB, ha, hb, hn, hS, hl, hok, fun H1 s1 h1 => k _ s1 h1⟩
/-! ### Book.__init__ -/
def spBookInit (K : PySem.W.Frag) : Sp := fun vs H Q _ => ∃ (p dx a : Addr) (fs : List Str), vs = [.ref p, .ref a, .non] ∧ H p = some (.ins (He.ga K "Book") dx []) ∧ SqL K H a (fs.map V.str) ∧ 1 ≤ fs.length ∧ fs.length ≤ 6 ∧ (∀ x ∈ fs, NameOk x) ∧ fs.Nodup ∧
  ∀ H' t q ys, SameX [p] H H' → H q = none → ys.Perm fs → Srt ys → BookAt K H' p t q ys (fun _ _ => none) → Q .non H'
theorem ok_Bookdd_initdd (T : Says K mg) : Ok P w K mg base 2 ("Book", some "__init__") ["self", "fixers", "rests"] (spBookInit K) := by
  have G_is_list := FnOk.mono (k := 1) (ok_is_list (P := P) (w := w) (base := base) T) (by decide)
  have G_is_name := FnOk.mono (k := 1) (ok_is_name (P := P) (w := w) (base := base) T) (by decide)
  have G_pairs_among := FnOk.mono (k := 1) (ok_pairs_among (P := P) (w := w) (base := base) T) (by decide)
  refine FunD.ok (d_Bookdd_initdd T) sc_Bookdd_initdd (fun vs H Q E h => ?len) (fun cdv A outer s H vs Q E hr h => ?bod)
  case len =>
    obtain ⟨p, dx, a, fs, rfl, _⟩ := h; rfl
  case bod =>
    obtain ⟨p, dx, a, fs, rfl, hi, ha, hl1, hl, hN, hD, k⟩ := h
    have hu := hu_of hr
    have hu0 := hu0_of hu
    refine ⟨_, PSs.nox (pss_cons (ps_if (pw_or (pt_not (pt_val (pe_call G_is_list hr (by rfl) (T.glo_ 12) (d_is_list T).kp (b_is_list T) .nil pass0 (pa_cons (pv 1) pa_nil)))) (pw_or1 (pt_cmpR op_eq (pe_callB (k_len (K := K) (by rfl)) (by rfl) (T.free_ 7) (by decide +kernel) (pa_cons (pv 1) pa_nil)) pe_int (nomark _)))).pt (pss_one ps_never) pss_nil)
      (pss_cons (ps_for PassesOwn.never rfl (k_pienum (K := K) (by rfl) (by rfl) (T.free_ 13) (pa_cons (pv 1) pa_nil)) (k_tup (K := K) (n := 2) (by rfl) rfl (pgs_cons (pg_name (i := 3) sc_Bookdd_initdd.nd rfl (Or.inl rfl)) (pgs_cons (pg_name (i := 4) sc_Bookdd_initdd.nd rfl (Or.inl rfl)) pgs_nil)))
      (pss_one (ps_if (pw_or (pt_not (pt_val (pe_call G_is_name hr (by rfl) (T.glo_ 14) (d_is_name T).kp (b_is_name T) .nil pass0 (pa_cons (pv 4) pa_nil)))) (pw_or1 (pt_cmpR (k_in (K := K) (by rfl)) (pv 4) (pe_slice (k_slL (K := K) (by rfl)) (pv 1) po_none (po_some (pv 3))) (by rfl)))).pt (pss_one ps_never) pss_nil)))
      (pss_cons (ps_if (pt_cmpR op_gt (pe_callB (k_len (K := K) (by rfl)) (by rfl) (T.free_ 7) (by decide +kernel) (pa_cons (pv 1) pa_nil)) (pe_globI (by rfl) (T.int_ 19)) (nomark _)) (pss_one ps_never) pss_nil)
      (pss_cons (ps_fld (pv 0) (pe_callTy (k_tupleOf (K := K) (by rfl)) (by rfl) (T.free_ 5) (by decide +kernel) (pa_cons (pe_callB (k_sortedS (K := K) (by rfl)) (by rfl) (T.free_ 20) (by decide +kernel) (pa_cons (pv 1) pa_nil)) pa_nil)) rfl)
      (pss_cons (ps_set (i := 5) sc_Bookdd_initdd.nd rfl (Or.inr rfl) (pe_ifExp (pt_cmpR op_isN (pv 2) pe_non (nomark _)) pe_dnewT (pv 2)))
      (pss_one (ps_fld (pv 0) (pe_dcP (o0 := .dT []) (own := [("pair", 6)]) (.inr rfl) rfl hu0 sc_Bookdd_initdd.nd (k_pil (K := K) (by rfl) (pe_call G_pairs_among hr (by rfl) (T.glo_ 22) (d_pairs_among T).kp (b_pairs_among T) .nil pass0 (pa_cons (k_fld (K := K) (by rfl) (pv 0) rfl) pa_nil))) (blkOk_by (N := N_Bookdd_initdd) (sc := defScope s_Bookdd_initdd) (by decide +kernel)) (fun _ _ _ _ _ => (pg_name (i := 6) sc_Bookdd_initdd.nd rfl (Or.inl rfl))) (fun _ _ _ _ _ => (pv 6)) (fun _ _ _ _ _ => (pe_dget2 hu (pv 5) (pv 6) pe_non ⟨rfl, rfl, rfl, rfl⟩))) rfl))))))), ?_⟩
    refine ⟨_, rfl, a, rfl, .inl ⟨_, ha⟩, fun H1 s1 => ⟨true, rfl, iteF ⟨_, rfl, a, _, rfl, .inl (seq_mono s1 ha), rfl, false, ?_, iteF ⟨_, rfl, a, _, rfl, seq_mono s1 ha, ?_⟩⟩⟩⟩
    · show V.bl (decide (V.int (((fs.map V.str).length : Nat) : Int) = V.int 0)) = _
      rw [decide_eq_false (fun e => by have := V.int.inj e; rw [List.length_map] at this; omega)]
    refine for_enumL (xs := fs.map V.str) (fun i σ H2 => ∃ (v3 v4 v5 v6 : Option V), σ = [some (.ref p), some (.ref a), some .non, v3, v4, v5, v6] ∧ Same H H2)
      ⟨none, none, none, none, rfl, s1⟩ (fun i σ H2 _ ⟨_, _, _, _, _, s⟩ => seq_mono s ha) ?_ ?_
    · rintro i y σ H2 T' hy ⟨v3, v4, v5, v6, rfl, s2⟩ hT
      obtain ⟨n, hn, rfl⟩ := getElem?_map_some hy
      have sT : Same H (upd H2 T' (.tup [.int (i : Nat), .str n])) := same_upd s2 (s2.free hT)
      refine ⟨_, _, rfl, _, _, rfl, rfl, ?_⟩
      refine ⟨_, rfl, n, rfl, hN n (List.mem_of_getElem? hn), fun H3 s3 => ⟨true, rfl, iteF ?_⟩⟩
      have hi : i < fs.length := lt_of_get hn
      refine ⟨_, rfl, _, rfl, _, rfl, _, rfl, a, _, rfl, seq_mono (sT.trans s3) ha, fun p2 hp2 => ?_⟩
      rw [cut_take (by rw [List.length_map]; omega), ← List.map_take]
      refine ⟨p2, _, rfl, .inl (SqL.of upd_same), rfl, flat_strs _, false, ?_, iteF ⟨_, _, _, _, rfl, same_upd (sT.trans s3) ((sT.trans s3).free hp2)⟩⟩
      show V.bl (inV (.str n) ((fs.take i).map V.str)) = _
      rw [inV_str, decide_eq_false (not_mem_take hD hn)]
    · rintro σ H2 ⟨v3, v4, v5, v6, rfl, s2⟩
      refine ⟨_, rfl, a, _, rfl, .inl (seq_mono s2 ha), _, _, rfl, rfl, false, ?_, iteF ?_⟩
      · show V.bl (decide ((6 : Int) < (((fs.map V.str).length : Nat) : Int))) = _
        rw [decide_eq_false (by rw [List.length_map]; omega)]
      -- own_fixers
      refine ⟨_, rfl, a, fs, rfl, seq_mono s2 ha, by omega, fun ys pn hperm hsort hpn => ⟨pn, _, rfl, .inl ⟨SqL.of upd_same, fun t ht => ?_⟩⟩⟩
      have hS : Srt ys := srt_of hsort (hperm.nodup_iff.mpr hD)
      have s3 : Same H2 (upd (upd H2 pn (.lst (ys.map V.str))) t (.tup (ys.map V.str))) := same_upd (same_new hpn) ((same_new hpn).free ht)
      generalize hH3 : upd (upd H2 pn (.lst (ys.map V.str))) t (.tup (ys.map V.str)) = H3 at s3 ⊢
      have ht3 : H3 t = some (.tup (ys.map V.str)) := by rw [← hH3]; exact upd_same
      have hi3 := s3 _ _ (s2 _ _ hi)
      have htp : t ≠ p := fun e => by rw [e, hi3] at ht3; cases ht3
      refine ⟨_, rfl, p, _, dx, _, rfl, hi3, cl_Book T, na_Book_own_fixers T, (by show 0 < 1000; decide), ?_⟩
      -- given
      refine ⟨_, rfl, rfl, true, rfl, iteT fun g hg => ?_⟩
      have hgp : g ≠ p := fun e => by rw [e, upd_same] at hg; cases hg
      have hg3 : H3 g = none := by rw [upd_ne hgp] at hg; exact hg
      have hgt : t ≠ g := fun e => by rw [e, hg3] at ht3; cases ht3
      have sX : SameX [p] H (upd (upd H3 p (.ins (He.ga K "Book") dx (putF "own_fixers" (.ref t) []))) g (.dT [])) := samex_upd (samex_upd (same_toX (s2.trans s3) _) (.inl (by simp))) (.inr ((s2.trans s3).free hg3))
      generalize hH4 : upd (upd H3 p (.ins (He.ga K "Book") dx (putF "own_fixers" (.ref t) []))) g (.dT []) = H4 at sX
      have hi4 : H4 p = some (.ins (He.ga K "Book") dx [("own_fixers", .ref t)]) := by rw [← hH4, upd_ne hgp.symm, upd_same]; rfl
      have hg4 : H4 g = some (.dT []) := by rw [← hH4]; exact upd_same
      have ht4 : H4 t = some (.tup (ys.map V.str)) := by rw [← hH4, upd_ne hgt, upd_ne htp]; exact ht3
      have hyl : ys.length ≤ 6 := by rw [hperm.length_eq]; exact hl
      -- own_rests
      refine ⟨_, rfl, p, _, dx, _, _, rfl, hi4, cl_Book T, na_Book_own_fixers T, rfl, t, ys, rfl, .inl (.inl ht4), hyl, fun H5 l rs s5 hl4 hL hP => ⟨l, rfl, ⟨_, SqL.of hL⟩, fun D hD5 => ?_⟩⟩
      refine lcw (walk_list (xs := rs.map V.ref)) (fun i H6 => Same H5 H6 ∧ H6 D = some (.dT (kvOf (fun _ _ => none) ((pairsL ys).take i))))
        ⟨same_new hD5, upd_same⟩ (fun i H6 _ h => SqL.of (h.1 _ _ hL)) ?_ ?_
      · rintro i v H6 H7 hi' ⟨s6, hD6⟩ ⟨rfl, hv⟩
        obtain ⟨r, hr1, rfl⟩ := getElem?_map_some hv
        obtain ⟨pr, hpr, hrp⟩ := hP.get hr1
        have hg6 := s6 _ _ (s5 _ _ hg4)
        have hr6 := s6 _ _ hrp
        have hil := lt_of_get hpr
        have hlen := pairsL_len hyl
        have hnm : pr ∉ (pairsL ys).take i := by
          intro kk
          have e : (pairsL ys).take i ++ pr :: (pairsL ys).drop (i + 1) = pairsL ys := by rw [← drop_of_get hpr, List.take_append_drop]
          have nd := pairsL_nodup hS
          rw [← e] at nd
          exact (List.nodup_append.mp nd).2.2 pr kk pr (List.mem_cons_self ..) rfl
        refine ⟨rfl, _, rfl, _, rfl, g, rfl, .inr ⟨[], .inl hg6⟩, _, rfl, none, DGet.t (k := [.inr pr.1, .inr pr.2]) hg6 hr6, ?_⟩
        refine ⟨_, DPut.t (k := [.inr pr.1, .inr pr.2]) hD6 hr6 (by unfold kvOf; rw [List.length_map, List.length_take]; exact small1000 (by omega)), same_upd s6 hD5, ?_⟩
        rw [upd_same, putK_new _ (kv_none _ _ _ hnm), take_of_get hpr]
        unfold kvOf
        rw [List.map_append]; rfl
      · rintro H6 ⟨s6, hD6⟩
        rw [List.length_map, hP.1, List.take_length] at hD6
        have hi6 := s6 _ _ (s5 _ _ hi4)
        have hDp : D ≠ p := fun e => by rw [e, s5 _ _ hi4] at hD5; cases hD5
        refine ⟨_, rfl, p, _, dx, _, rfl, hi6, cl_Book T, na_Book_own_rests T, (by show 1 < 1000; decide), ?_⟩
        have sE : SameX [p] H (upd H6 p (.ins (He.ga K "Book") dx (putF "own_rests" (.ref D) [("own_fixers", .ref t)]))) := samex_upd (sX.trans (same_toX (s5.trans s6) _)) (.inl (by simp))
        refine k _ t D ys sE ?_ hperm hS ⟨⟨dx, upd_same⟩, ?_, ?_⟩
        · cases e : H D with
          | none => rfl
          | some o => have z := s5 _ _ (sX D o (by simp [hDp]) e); rw [hD5] at z; cases z
        · rw [upd_ne htp]; exact s6 _ _ (s5 _ _ ht4)
        · rw [upd_ne hDp]; exact hD6
end
end T85
end

section
set_option Elab.async false
set_option linter.all false
set_option maxRecDepth 100000
set_option maxHeartbeats 4000000
namespace T85
open PySem PySem.Spec L2 Fx
section
variable {P : Program} {w : World} {K : PySem.W.Frag} {mg : Str → Option Value} {base : Heap}
/-! ### push -/
def okR (R : Rs) : Prop := ∀ a b, okRest (R a b)
def pushI (R : Rs) (a b : Str) : Int := if a.cps.toList < b.cps.toList then (pushPair (R (ordP a b).1 (ordP a b).2)).1 else (pushPair (R (ordP a b).1 (ordP a b).2)).2
theorem push_row (T : Says K mg) {r : Option Int} (h : okRest r) : ∃ t, (pushRows K).find? (fun x => decide (x.1 = r)) = some (r, t) ∧ tupIn K t [.int (pushPair r).1, .int (pushPair r).2] = true := by
  have z := chk_rows T
  have fin : ∀ t, (r, t) ∈ pushRows K → tupIn K t [.int (pushPair r).1, .int (pushPair r).2] = true := fun t m => z _ m
  rcases h with rfl | rfl | rfl | rfl | rfl
  all_goals exact ⟨_, rfl, fin _ (by simp [pushRows])⟩
theorem nkOf_opt (r : Option Int) : nkOf (optI r) = some r := by cases r <;> rfl
def spPush (K : PySem.W.Frag) : Sp := fun vs H Q _ => ∃ (p t q : Addr) (names : List Str) (R : Rs) (a b : Str), vs = [.ref p, .str a, .str b] ∧ BookAt K H p t q names R ∧ a ∈ names ∧ b ∈ names ∧ a ≠ b ∧ Srt names ∧ okR R ∧
  ∀ H', Same H H' → Q (.int (pushI R a b)) H'
theorem ok_push (T : Says K mg) : Ok P w K mg base 4 ("push", none) ["book", "a", "b"] (spPush K) := by
  have G_Bookdd_getitemdd := FnOk.mono (k := 2) (ok_Bookdd_getitemdd (P := P) (w := w) (base := base) T) (by decide)
  refine FunD.ok (d_push T) sc_push (fun vs H Q E h => ?len) (fun cdv A outer s H vs Q E hr h => ?bod)
  case len =>
    obtain ⟨p, t, q, names, R, a, b, rfl, _⟩ := h; rfl
  case bod =>
    obtain ⟨p, t, q, names, R, a, b, rfl, hB, ha, hb, hn, hS, hR, k⟩ := h
    obtain ⟨dx, hi⟩ := hB.ins
    refine ⟨_, PSs.nox (pss_cons (ps_asg (pe_ix (ix_nk (chk_PUSHES T)) (pe_glob (v := .ref (He.ga K "PUSHES")) (by rfl) (T.glo_ 28) rfl) (pe_ownget (K := K) (by rfl) (T.meth_ 29).at_ (T.meth_ 29).fn (fnIn_of (d_Bookdd_getitemdd T)) G_Bookdd_getitemdd hr (b_Bookdd_getitemdd T) (pv 0) (pe_tup (pa_cons (pv 1) (pa_cons (pv 2) pa_nil)))) (fun _ _ => rfl)) (k_tup (K := K) (n := 2) (by rfl) rfl (pgs_cons (pg_name (i := 3) sc_push.nd rfl (Or.inl rfl)) (pgs_cons (pg_name (i := 4) sc_push.nd rfl (Or.inl rfl)) pgs_nil))))
      (pss_one (ps_ret (pe_ifExp (pt_cmpR op_lt_str (pv 1) (pv 2) (nomark _)) (pv 3) (pv 4))))), ?_⟩
    refine ⟨_, rfl, _, rfl, _, rfl, by show 2 ≤ sizeLine; decide, fun u hu => ?_⟩
    have su : Same H (upd H u (.tup [.str a, .str b])) := same_new hu
    refine ⟨p, dx, _, rfl, su _ _ hi, p, t, q, u, names, R, a, b, rfl, .inl (.inl upd_same), hB.mono su, ha, hb, hn, hS, fun H1 s1 => ?_⟩
    obtain ⟨tt, hf, hk⟩ := push_row T (hR (ordP a b).1 (ordP a b).2)
    refine ⟨_, tt, rfl, nkOf_opt _, hf, tt, _, rfl, tupIn_ok hk H1, rfl, _, _, rfl, _, _, rfl, rfl, ?_⟩
    refine ⟨_, rfl, _, rfl, a, b, rfl, rfl, _, rfl, ?_⟩
    by_cases hlt : a.cps.toList < b.cps.toList
    · rw [decide_eq_true hlt]
      refine iteT ⟨_, rfl, ?_⟩
      have z := k _ (su.trans s1)
      unfold pushI at z; rw [if_pos hlt] at z; exact z
    · rw [decide_eq_false hlt]
      refine iteF ⟨_, rfl, ?_⟩
      have z := k _ (su.trans s1)
      unfold pushI at z; rw [if_neg hlt] at z; exact z
end
end T85
end

section
set_option Elab.async false
set_option linter.all false
set_option maxRecDepth 100000
set_option maxHeartbeats 4000000
namespace T85
open PySem PySem.Spec L2 Fx
section
variable {P : Program} {w : World} {K : PySem.W.Frag} {mg : Str → Option Value} {base : Heap}
theorem ne_of_none' {H : Hp} {l D : Addr} {o : HO} (h : H l = some o) (hn : H D = none) : D ≠ l := fun e => by rw [e, h] at hn; cases hn
/-! ### the law's pot -/
def PotOk (H : Hp) (p : Addr) : Prop := ∃ a b : Int, H p = some (.lst [.int a, .int b]) ∧ 0 ≤ a ∧ 0 ≤ b ∧ b < 2 ^ 32
def spDraw : Sp := fun vs H Q _ => ∃ (p : Addr) (m : Int), vs = [.ref p, .int m] ∧ PotOk H p ∧ 1 ≤ m ∧ m ≤ 1000 ∧ ∀ H' (d : Int), SameX [p] H H' → PotOk H' p → 0 ≤ d → d < m → Q (.int d) H'
theorem ok__law_draw (T : Says K mg) : Ok P w K mg base 1 ("_law_draw", none) ["_law_pot_here", "_law_many"] (spDraw) := by
  refine FunD.ok (d__law_draw T) sc__law_draw (fun vs H Q E h => ?len) (fun cdv A outer s H vs Q E hr h => ?bod)
  case len =>
    obtain ⟨p, m, rfl, _⟩ := h; rfl
  case bod =>
    obtain ⟨p, m, rfl, ⟨a, b, hp, ha, hb, hb32⟩, hm1, hm, k⟩ := h
    refine ⟨_, PSs.nox (pss_cons (ps_if (pt_cmpR op_gt (pe_ix (k_ixL (K := K) (by rfl)) (pv 0) pe_int (fun _ _ => rfl)) pe_int (nomark _)) (pss_cons (ps_asg (pe_callB call_divmod (by rfl) (T.free_ 70) (by decide +kernel) (pa_cons (pe_ix (k_ixL (K := K) (by rfl)) (pv 0) pe_int (fun _ _ => rfl)) (pa_cons (pv 1) pa_nil))) (k_tup (K := K) (n := 2) (by rfl) rfl (pgs_cons (pg_sub (pv 0) pe_int set_list) (pgs_cons (pg_name (i := 2) sc__law_draw.nd rfl (Or.inl rfl)) pgs_nil))))
      (pss_one (ps_ret (pv 2)))) pss_nil)
      (pss_cons (ps_asg (pe_op op_mod (pe_callTy call_int1 (by rfl) (T.free_ 1) (by decide +kernel) (pa_cons (pe_op op_add (pe_op op_mul (pe_ix (k_ixL (K := K) (by rfl)) (pv 0) pe_int (fun _ _ => rfl)) pe_int) pe_int) pa_nil)) pe_int) (pg_sub (pv 0) pe_int set_list))
      (pss_one (ps_ret (pe_op op_mod (pe_callTy call_int1 (by rfl) (T.free_ 1) (by decide +kernel) (pa_cons (pe_op op_fdiv (pe_op op_mod (pe_callTy call_int1 (by rfl) (T.free_ 1) (by decide +kernel) (pa_cons (pe_op op_mul (pe_ix (k_ixL (K := K) (by rfl)) (pv 0) pe_int (fun _ _ => rfl)) (pe_ix (k_ixL (K := K) (by rfl)) (pv 0) pe_int (fun _ _ => rfl))) pa_nil)) pe_int) pe_int) pa_nil)) (pv 1)))))), ?_⟩
    have at0 : ∀ {x y : Int}, atI [V.int x, V.int y] 0 = some (V.int x) := fun {x y} => atI_of (j := 0) rfl rfl
    have at1 : ∀ {x y : Int}, atI [V.int x, V.int y] 1 = some (V.int y) := fun {x y} => atI_of (j := 1) rfl rfl
    refine ⟨_, rfl, p, _, 0, .int a, rfl, rfl, SqL.of hp, at0, _, _, rfl, rfl, _, rfl, ?_⟩
    by_cases h0 : 0 < a
    · rw [decide_eq_true h0]
      refine iteT ⟨_, rfl, p, _, 0, .int a, rfl, rfl, SqL.of hp, at0, _, rfl, a, m, rfl, ⟨by omega, by omega⟩, fun pt hpt => ?_⟩
      have sp : Same H (upd H pt (.tup [.int (a / m), .int (a % m)])) := same_new hpt
      refine ⟨pt, _, rfl, .inl (.inl upd_same), rfl, _, _, rfl, _, rfl, p, _, 0, 0, rfl, rfl, sp _ _ hp, rfl, _, _, rfl, rfl, _, rfl, ?_⟩
      exact k _ _ (samex_upd (same_toX sp _) (.inl (by simp))) ⟨a / m, b, by rw [upd_same]; rfl, Int.ediv_nonneg ha (by omega), hb, hb32⟩ (Int.emod_nonneg _ (by omega)) (Int.emod_lt_of_pos _ (by omega))
    · rw [decide_eq_false h0]
      have hc1 : (0 : Int) ≤ (b * 39373 + 12211) % 2147483629 := Int.emod_nonneg _ (by decide)
      have hc2 : (b * 39373 + 12211) % 2147483629 < 2147483629 := Int.emod_lt_of_pos _ (by decide)
      have hp2 : ∀ v : V, (upd H p (.lst ([V.int a, V.int b].set 1 v))) p = some (.lst [.int a, v]) := fun v => by rw [upd_same]; rfl
      have sx : ∀ v : V, SameX [p] H (upd H p (.lst ([V.int a, V.int b].set 1 v))) := fun v => samex_upd (SameX.refl _ _) (.inl (by simp))
      refine iteF ⟨_, rfl, p, _, 1, .int b, rfl, rfl, SqL.of hp, at1, _, _, rfl, rfl, .inl (by omega), _, _, rfl, rfl, .inl ⟨_, rfl, _, _, rfl, rfl, (by show (0 : Int) < 2147483629; decide), _, rfl, p, _, 1, 1, rfl, rfl, hp, rfl, ?_⟩⟩
      refine ⟨_, rfl, p, _, 1, .int ((b * 39373 + 12211) % 2147483629), rfl, rfl, SqL.of (hp2 _), at1, _, rfl, p, _, 1, .int ((b * 39373 + 12211) % 2147483629), rfl, rfl, SqL.of (hp2 _), at1, _, _, rfl, rfl, .inl (by omega), .inl ⟨_, rfl, _, _, rfl, rfl, (by show (0 : Int) < 2147483549; decide), _, _, rfl, rfl, ⟨by decide, by decide⟩, .inl ⟨_, rfl, _, rfl, _, _, rfl, rfl, (by show (0 : Int) < m; omega), ?_⟩⟩⟩
      exact k _ _ (sx _) ⟨a, _, hp2 _, ha, hc1, by omega⟩ (Int.emod_nonneg _ (by omega)) (Int.emod_lt_of_pos _ (by omega))
/-- one of a text's signs, one of a list's items -/
def spPick (K : PySem.W.Frag) : Sp := fun vs H Q _ => ∃ (p : Addr) (s : V), vs = [.ref p, s] ∧ PotOk H p ∧
  ((∃ z : Str, s = .str z ∧ 1 ≤ z.cps.size ∧ z.cps.size ≤ 100 ∧ ∀ H' c, SameX [p] H H' → PotOk H' p → c ∈ z.cps.toList → Q (.str ⟨#[c]⟩) H') ∨
   ∃ (a : Addr) (xs : List V), s = .ref a ∧ SqL K (hide [p] H) a xs ∧ 1 ≤ xs.length ∧ xs.length ≤ 100 ∧ ∀ H' x, SameX [p] H H' → PotOk H' p → x ∈ xs → Q x H')
theorem ok__law_pick (T : Says K mg) : Ok P w K mg base 2 ("_law_pick", none) ["_law_pot_here", "_law_some"] (spPick K) := by
  have G__law_draw := FnOk.mono (k := 1) (ok__law_draw (P := P) (w := w) (base := base) T) (by decide)
  refine FunD.ok (d__law_pick T) sc__law_pick (fun vs H Q E h => ?len) (fun cdv A outer s H vs Q E hr h => ?bod)
  case len =>
    obtain ⟨p, s, rfl, _⟩ := h; rfl
  case bod =>
    obtain ⟨p, s, rfl, hp, hs⟩ := h
    refine ⟨_, PSs.nox (pss_one (ps_ret (pe_ix (k_ixQ (K := K) (by rfl)) (pv 1) (pe_call G__law_draw hr (by rfl) (T.glo_ 71) (d__law_draw T).kp (b__law_draw T) .nil pass0 (pa_cons (pv 0) (pa_cons (pe_callB (k_lenV (K := K) (by rfl)) (by rfl) (T.free_ 7) (by decide +kernel) (pa_cons (pv 1) pa_nil)) pa_nil))) (fun _ _ => rfl)))), ?_⟩
    rcases hs with ⟨z, rfl, h1, h2, k⟩ | ⟨a, xs, rfl, hx, h1, h2, k⟩
    · refine ⟨_, rfl, _, rfl, _, rfl, _, z.length, rfl, ⟨Nat.le_trans h2 (by decide), rfl⟩, p, _, rfl, hp, by show (1 : Int) ≤ (z.cps.size : Nat); omega, by show ((z.cps.size : Nat) : Int) ≤ 1000; omega, fun H' d sx hp' hd0 hd => ?_⟩
      obtain ⟨n, rfl⟩ : ∃ n : Nat, d = n := ⟨d.toNat, by omega⟩
      have hd' : n < z.cps.toList.length := by
        have : (n : Int) < (z.cps.size : Nat) := hd
        rw [Array.length_toList]; omega
      exact .inr (.inr ⟨z, n, z.cps.toList[n], rfl, rfl, Nat.le_trans h2 (by decide), atI_nat (List.getElem?_eq_getElem hd'), k H' _ sx hp' (List.getElem_mem hd')⟩)
    · refine ⟨_, rfl, _, rfl, _, rfl, _, xs.length, rfl, .inl ⟨xs, seq_mono (hide_sub _ _) hx, rfl⟩, p, _, rfl, hp, by omega, by omega, fun H' d sx hp' hd0 hd => ?_⟩
      have hd' : d.toNat < xs.length := by omega
      refine .inl ⟨a, xs, d, xs[d.toNat], rfl, rfl, seq_mono (hide_sub [p] _) (seq_mono (hide_samex (W := [p]) sx (by simp)) hx), atI_of (j := d.toNat) (by omega) (List.getElem?_eq_getElem hd'), k H' _ sx hp' (List.getElem_mem hd')⟩
def spPot (K : PySem.W.Frag) : Sp := fun vs H Q _ => ∃ (a : Addr) (ns : List Int) (k : Nat), vs = [.ref a, .int k] ∧ SqL K H a (ns.map V.int) ∧ k ≤ 1000 ∧ ∀ H' p, Same H H' → H p = none → PotOk H' p → Q (.ref p) H'
end
end T85
end

section
set_option Elab.async false
set_option linter.all false
set_option maxRecDepth 100000
set_option maxHeartbeats 4000000
namespace T85
open PySem PySem.Spec L2 Fx
section
variable {P : Program} {w : World} {K : PySem.W.Frag} {mg : Str → Option Value} {base : Heap}
theorem ok__law_pot (T : Says K mg) : Ok P w K mg base 1 ("_law_pot", none) ["_law_script", "_law_k"] (spPot K) := by
  refine FunD.ok (d__law_pot T) sc__law_pot (fun vs H Q E h => ?len) (fun cdv A outer s H vs Q E hr h => ?bod)
  case len =>
    obtain ⟨a, ns, k, rfl, _⟩ := h; rfl
  case bod =>
    obtain ⟨a, ns, k, rfl, ha, hk, kk⟩ := h
    refine ⟨_, PSs.nox (pss_cons (ps_set (i := 2) sc__law_pot.nd rfl (Or.inl rfl) (pe_ifExp (pt_cmpR op_lt (pv 1) (pe_callB (k_len (K := K) (by rfl)) (by rfl) (T.free_ 7) (by decide +kernel) (pa_cons (pv 0) pa_nil)) (nomark _)) (pe_callB call_abs (by rfl) (T.free_ 68) (by decide +kernel) (pa_cons (pe_ix (k_ixL (K := K) (by rfl)) (pv 0) (pv 1) (fun _ _ => rfl)) pa_nil)) (pe_op op_add (pe_op op_mul pe_int (pv 1)) pe_int)))
      (pss_one (ps_ret (pe_lst (pa_cons (pe_callB (call_max2 rfl) (by rfl) (T.free_ 69) (by decide +kernel) (pa_cons pe_int (pa_cons (pe_op op_sub (pv 2) (pe_op op_pow pe_int pe_int)) pa_nil))) (pa_cons (pe_op op_add (pe_op op_mod (pe_callTy call_int1 (by rfl) (T.free_ 1) (by decide +kernel) (pa_cons (pe_op op_add (pe_op op_add (pe_op op_mul (pe_op op_mod (pe_callTy call_int1 (by rfl) (T.free_ 1) (by decide +kernel) (pa_cons (pv 2) pa_nil)) pe_int) pe_int) (pe_op op_mul pe_int (pv 1))) pe_int) pa_nil)) pe_int) pe_int) pa_nil)))))), ?_⟩
    refine ⟨_, rfl, _, rfl, a, _, rfl, .inl ha, _, _, rfl, rfl, _, rfl, ?_⟩
    rw [List.length_map]
    by_cases hkl : k < ns.length
    · rw [decide_eq_true (by omega)]
      refine iteT ⟨_, rfl, _, rfl, a, _, k, .int (ns.getD k 0), rfl, rfl, ha, atI_of (j := k) rfl (get_map (get_getD hkl)), _, rfl, ?_⟩
      have hc0 : (0 : Int) ≤ (if ns.getD k 0 < 0 then -ns.getD k 0 else ns.getD k 0) := by split <;> omega
      generalize (if ns.getD k 0 < 0 then -ns.getD k 0 else ns.getD k 0) = cell at hc0 ⊢
      refine ⟨_, rfl, _, _, rfl, rfl, ⟨by decide, by decide, by decide⟩, _, _, rfl, rfl, _, _, rfl, _, rfl, .inl ⟨_, rfl, _, _, rfl, rfl, (by show (0 : Int) < 2147483563; decide), _, _, rfl, rfl, .inr ⟨by decide, by decide⟩, _, rfl, _, _, rfl, rfl, .inl ⟨by decide, by decide⟩, _, _, rfl, rfl, _, _, rfl, rfl, .inl ⟨_, rfl, _, _, rfl, rfl, (by show (0 : Int) < 2147483587; decide), _, _, rfl, rfl, by show 2 ≤ sizeLine; decide, fun p hp => ?_⟩⟩⟩
      refine kk _ p (same_new hp) hp ⟨_, _, upd_same, ?_, ?_, ?_⟩
      · split <;> omega
      · have := fun x : Int => Int.emod_nonneg x (show (2147483587 : Int) ≠ 0 by decide)
        exact Int.add_nonneg (this _) (by decide)
      · have := fun x : Int => Int.emod_lt_of_pos x (show (0 : Int) < 2147483587 by decide)
        refine Int.lt_trans (Int.add_lt_add_right (this _) 1) (by decide)
    · rw [decide_eq_false (by omega)]
      refine iteF ⟨_, rfl, _, _, rfl, rfl, .inl (by omega), _, _, rfl, rfl, ?_⟩
      have hc0 : (0 : Int) ≤ 13 * (k : Int) + 7 := by omega
      refine ⟨_, rfl, _, _, rfl, rfl, ⟨by decide, by decide, by decide⟩, _, _, rfl, rfl, _, _, rfl, _, rfl, .inl ⟨_, rfl, _, _, rfl, rfl, (by show (0 : Int) < 2147483563; decide), _, _, rfl, rfl, .inr ⟨by decide, by decide⟩, _, rfl, _, _, rfl, rfl, .inl ⟨by decide, by decide⟩, _, _, rfl, rfl, _, _, rfl, rfl, .inl ⟨_, rfl, _, _, rfl, rfl, (by show (0 : Int) < 2147483587; decide), _, _, rfl, rfl, by show 2 ≤ sizeLine; decide, fun p hp => ?_⟩⟩⟩
      refine kk _ p (same_new hp) hp ⟨_, _, upd_same, ?_, ?_, ?_⟩
      · split <;> omega
      · have := fun x : Int => Int.emod_nonneg x (show (2147483587 : Int) ≠ 0 by decide)
        exact Int.add_nonneg (this _) (by decide)
      · have := fun x : Int => Int.emod_lt_of_pos x (show (0 : Int) < 2147483587 by decide)
        refine Int.lt_trans (Int.add_lt_add_right (this _) 1) (by decide)
end
end T85
end

section
set_option Elab.async false
set_option linter.all false
set_option maxRecDepth 100000
set_option maxHeartbeats 4000000
namespace T85
open PySem PySem.Spec L2 Fx
/-! ### names from signs -/
abbrev ltr : Str := "abcdefghijklmnopqrstuvwxyz"
def sgn (c : Nat) : Str := ⟨#[c]⟩
theorem app_list (x y : Str) : (x ++ y).cps.toList = x.cps.toList ++ y.cps.toList := by
  show (x.cps ++ y.cps).toList = _
  simp
theorem join_sgn : ∀ cs : List Nat, (Str.join "" (cs.map sgn)).cps.toList = cs
  | [] => rfl
  | [c] => rfl
  | c :: d :: r => by
    show (sgn c ++ (Str.ofString "") ++ Str.join "" ((d :: r).map sgn)).cps.toList = _
    rw [app_list, app_list, join_sgn (d :: r)]; rfl
/-- a list without doubles is no longer than one that holds it -/
theorem nodup_le {α : Type} [DecidableEq α] : ∀ {l m : List α}, l.Nodup → (∀ x ∈ l, x ∈ m) → l.length ≤ m.length
  | [], _, _, _ => Nat.zero_le _
  | x :: r, m, nd, h => by
    have nd' := List.nodup_cons.mp nd
    have hx := h x (List.mem_cons_self ..)
    have h2 : ∀ y ∈ r, y ∈ m.erase x := fun y hy => by
      have hne : y ≠ x := fun e => nd'.1 (e ▸ hy)
      exact (List.mem_erase_of_ne hne).mpr (h y (List.mem_cons_of_mem _ hy))
    have h3 := nodup_le nd'.2 h2
    rw [List.length_erase_of_mem hx] at h3
    have := List.length_pos_of_mem hx
    rw [List.length_cons]; omega
/-- the spare names -/
def spareL (z : Str) : List Str := z :: ltr.cps.toList.map fun c => cutS z none (some 7) ++ sgn c
section
variable {P : Program} {w : World} {K : PySem.W.Frag} {mg : Str → Option Value} {base : Heap}
def spNames (K : PySem.W.Frag) : Sp := fun vs H Q _ => ∃ (p : Addr) (m : Nat), vs = [.ref p, .int m] ∧ PotOk H p ∧ m ≤ 6 ∧
  ∀ (H' : Hp) (l : Addr) (fs : List Str), SameX [p] H H' → PotOk H' p → H l = none → H' l = some (.lst (fs.map V.str)) → fs.length = m → fs.Nodup → (∀ x ∈ fs, NameOk x) → Q (.ref l) H'
theorem cut7 (z : Str) : (cutS z none (some 7)).cps.toList = z.cps.toList.take (min 7 z.cps.size) := by
  unfold cutS
  rw [HT.sIx_none, show (some (7 : Int)) = some (((7 : Nat) : Int)) from rfl, HT.sIx_nat, List.drop_zero, Nat.sub_zero]
  rfl
theorem spare_ok {z : Str} (h : NameOk z) : ∀ x ∈ spareL z, NameOk x := by
  intro x hx
  rcases List.mem_cons.mp hx with rfl | hx
  · exact h
  · obtain ⟨c, hc, rfl⟩ := List.mem_map.mp hx
    have e : (cutS z none (some 7) ++ sgn c).cps.toList = z.cps.toList.take (min 7 z.cps.size) ++ [c] := by rw [app_list, cut7]; rfl
    have e2 : (cutS z none (some 7) ++ sgn c).cps.size = min 7 z.cps.size + 1 := by
      rw [← Array.length_toList, e, List.length_append, List.length_take, Array.length_toList, List.length_singleton]; omega
    refine ⟨by omega, by omega, fun d hd => ?_⟩
    rw [e] at hd
    rcases List.mem_append.mp hd with hd | hd
    · exact h.2.2 d (List.mem_of_mem_take hd)
    · have : d = c := by simpa using hd
      rw [this]; exact hc
theorem spare_new {z : Str} {found : List Str} (h : found.length ≤ 25) : ∃ x r, (spareL z).filter (fun x => !decide (x ∈ found)) = x :: r := by
  cases e : (spareL z).filter (fun x => !decide (x ∈ found)) with
  | cons x r => exact ⟨x, r, rfl⟩
  | nil =>
    exfalso
    have hall : ∀ x ∈ ltr.cps.toList.map (fun c => cutS z none (some 7) ++ sgn c), x ∈ found := by
      intro x hx
      have hm : x ∈ spareL z := List.mem_cons_of_mem _ hx
      have hn := List.filter_eq_nil_iff.mp e x hm
      simpa using hn
    have hnd : (ltr.cps.toList.map (fun c => cutS z none (some 7) ++ sgn c)).Nodup := by
      unfold List.Nodup
      rw [List.pairwise_map]
      have hl : ltr.cps.toList.Nodup := by decide +kernel
      refine List.Pairwise.imp (fun {a b} hab he => hab ?_) hl
      have z1 := congrArg (fun s : Str => s.cps.toList) he
      simp only [app_list] at z1
      have z2 := List.append_cancel_left z1
      exact (List.cons.inj z2).1
    have := nodup_le hnd hall
    rw [List.length_map] at this
    have h26 : ltr.cps.toList.length = 26 := by decide +kernel
    omega
theorem PotOk.upd {H : Hp} {p D : Addr} {o : HO} (h : PotOk H p) (n : p ≠ D) : PotOk (upd H D o) p := let ⟨a, b, h1, r⟩ := h; ⟨a, b, by rw [upd_ne n]; exact h1, r⟩
theorem PotOk.mono {H H' : Hp} {p : Addr} (h : PotOk H p) (s : Same H H') : PotOk H' p := let ⟨a, b, h1, r⟩ := h; ⟨a, b, s _ _ h1, r⟩
theorem PotOk.ne {H : Hp} {p D : Addr} (h : PotOk H p) (hD : H D = none) : p ≠ D := fun e => by
  obtain ⟨a, b, h, _⟩ := h; rw [e, hD] at h; cases h
theorem ok__law_names (T : Says K mg) : Ok P w K mg base 3 ("_law_names", none) ["_law_pot_here", "_law_many"] (spNames K) := by
  have G__law_draw := FnOk.mono (k := 2) (ok__law_draw (P := P) (w := w) (base := base) T) (by decide)
  have G__law_pick := FnOk.mono (k := 2) (ok__law_pick (P := P) (w := w) (base := base) T) (by decide)
  refine FunD.ok (d__law_names T) sc__law_names (fun vs H Q E h => ?len) (fun cdv A outer s H vs Q E hr h => ?bod)
  case len =>
    obtain ⟨p, m, rfl, _⟩ := h; rfl
  case bod =>
    obtain ⟨p, m, rfl, hp, hm, k⟩ := h
    refine ⟨_, PSs.nox (pss_cons (ps_asg (pe_tup (pa_cons pe_str (pa_cons (pe_lst pa_nil) pa_nil))) (k_tup (K := K) (n := 2) (by rfl) rfl (pgs_cons (pg_name (i := 2) sc__law_names.nd rfl (Or.inr rfl)) (pgs_cons (pg_name (i := 3) sc__law_names.nd rfl (Or.inr rfl)) pgs_nil))))
      (pss_cons (ps_for PassesOwn.never rfl (pi_range1 (by rfl) (T.free_ 32) (pa_cons (pv 1) pa_nil)) (pg_name (i := 4) sc__law_names.nd rfl (Or.inl rfl))
      (pss_cons (ps_set (i := 5) sc__law_names.nd rfl (Or.inr rfl) (pe_bm PySem.F.plainAttrs_str PySem.F.slot_str_join PySem.F.type_str_join (k_join (K := K) (by rfl)) pe_str (pa_cons (pe_lc (own := [("_law_turn", 6)]) rfl sc__law_names.nd (pi_range1 (by rfl) (T.free_ 32) (pa_cons (pe_op op_add pe_int (pe_call G__law_draw hr (by rfl) (T.glo_ 71) (d__law_draw T).kp (b__law_draw T) .nil pass0 (pa_cons (pv 0) (pa_cons pe_int pa_nil)))) pa_nil)) (blkOk_by (N := N__law_names) (sc := defScope s__law_names) (by decide +kernel)) (fun _ _ _ _ _ => (pg_name (i := 6) sc__law_names.nd rfl (Or.inl rfl))) (fun _ _ _ _ _ => pts_nil) (fun _ _ _ _ _ => (pe_call G__law_pick hr (by rfl) (T.glo_ 72) (d__law_pick T).kp (b__law_pick T) .nil pass0 (pa_cons (pv 0) (pa_cons (pv 2) pa_nil))))) pa_nil)))
      (pss_cons (ps_set (i := 7) sc__law_names.nd rfl (Or.inl rfl) (pe_op op_cat (pe_lst (pa_cons (pv 5) pa_nil)) (pe_lc (own := [("_law_letter", 8)]) rfl sc__law_names.nd (pi_str (pv 2)) (blkOk_by (N := N__law_names) (sc := defScope s__law_names) (by decide +kernel)) (fun _ _ _ _ _ => (pg_name (i := 8) sc__law_names.nd rfl (Or.inl rfl))) (fun _ _ _ _ _ => pts_nil) (fun _ _ _ _ _ => (pe_op op_add_str (pe_slice sl_str (pv 5) po_none (po_some pe_int)) (pv 8))))))
      (pss_one (ps_expr (pe_bm PySem.F.plainAttrs_list PySem.F.slot_list_append PySem.F.type_list_append mt_append (pv 3) (pa_cons (pe_ix (k_ixL (K := K) (by rfl)) (pe_lc (own := [("_law_one", 9)]) rfl sc__law_names.nd (k_pil (K := K) (by rfl) (pv 7)) (blkOk_by (N := N__law_names) (sc := defScope s__law_names) (by decide +kernel)) (fun _ _ _ _ _ => (pg_name (i := 9) sc__law_names.nd rfl (Or.inl rfl))) (fun _ _ _ _ _ => (pts_one (pt_cmpR (k_notIn (K := K) (by rfl)) (pv 9) (pv 3) (by rfl)))) (fun _ _ _ _ _ => (pv 9))) pe_int (fun _ _ => rfl)) pa_nil)))))))
      (pss_one (ps_ret (pv 3))))), ?_⟩
    refine ⟨by show 0 ≤ sizeLine; decide, fun l hl => ⟨by show 2 ≤ sizeLine; decide, fun tp htp => ?_⟩⟩
    have sl : Same H (upd (upd H l (.lst [])) tp (.tup [.str ltr, .ref l])) := same_upd (same_new hl) ((same_new hl).free htp)
    refine ⟨tp, _, rfl, .inl (.inl upd_same), rfl, _, _, rfl, _, _, rfl, rfl, ?_⟩
    have hl1 : (upd (upd H l (.lst [])) tp (.tup [.str ltr, .ref l])) l = some (.lst (([] : List Str).map V.str)) := by rw [upd_ne (ne_of_none' upd_same htp).symm]; exact upd_same
    generalize upd (upd H l (.lst [])) tp (.tup [.str ltr, .ref l]) = H1 at sl hl1 ⊢
    have hpl : p ≠ l := fun e => by obtain ⟨a, b, h, _⟩ := hp; rw [e, hl] at h; cases h
    refine ⟨_, rfl, _, rfl, by omega, by omega, for_range (lo := 0) (n := m)
      (fun i σ H' => ∃ (v4 v5 v6 v7 v8 v9 : Option V) (fs : List Str), σ = [some (.ref p), some (.int m), some (.str ltr), some (.ref l), v4, v5, v6, v7, v8, v9] ∧ SameX [p] H H' ∧ PotOk H' p ∧ H' l = some (.lst (fs.map V.str)) ∧ fs.length = i ∧ fs.Nodup ∧ ∀ x ∈ fs, NameOk x)
      ⟨none, none, none, none, none, none, [], rfl, same_toX sl _, (let ⟨a, b, h, r⟩ := hp; ⟨a, b, sl _ _ h, r⟩), hl1, rfl, .nil, by simp⟩ ?_ ?_⟩
    · rintro i σ H' hi ⟨v4, v5, v6, v7, v8, v9, fs, rfl, sx, hp', hL, hfl, hnd, hok⟩
      refine ⟨rfl, _, rfl, p, 8, rfl, hp', by decide, by decide, fun H2 d s2 hp2 hd0 hd8 => ⟨_, _, rfl, rfl, _, rfl, by omega, by omega, fun D hD => ?_⟩⟩
      have hpD := hp2.ne hD
      have hL2 := s2 l _ (by simp [hpl.symm]) hL
      have hDl : l ≠ D := ne_of_none hL2 hD
      refine lcm_range (n := (1 + d).toNat) (fun j acc H3 => ∃ cs : List Nat, SameX [p] H2 H3 ∧ PotOk H3 p ∧ H3 D = some (.lst acc) ∧ acc = (cs.map sgn).map V.str ∧ cs.length = j ∧ ∀ c ∈ cs, c ∈ ltr.cps.toList)
        ⟨[], same_toX (same_new hD) _, hp2.upd hpD, upd_same, rfl, rfl, by simp⟩ ?_ ?_
      · rintro j acc H3 hj ⟨cs, s3, hp3, hD3, rfl, hcl, hcm⟩
        refine ⟨_, rfl, _, rfl, p, .str ltr, rfl, hp3, .inl ⟨ltr, rfl, by decide +kernel, by decide +kernel, fun H4 c s4 hp4 hc => ?_⟩⟩
        refine ⟨_, s4 D _ (by simp [hpD.symm]) hD3, by simp; exact small1000 (by omega), _, cs ++ [c], samex_upd (s3.trans s4) (.inr hD), hp4.upd hpD, upd_same, by simp [sgn], by simp [hcl], ?_⟩
        intro x hx
        rcases List.mem_append.mp hx with h | h
        · exact hcm x h
        · rw [show x = c by simpa using h]; exact hc
      · rintro acc H3 ⟨cs, s3, hp3, hD3, rfl, hcl, hcm⟩
        have hsum : ((cs.map sgn).map (·.length)).sum = cs.length := by
          rw [List.map_map]
          have : ((fun s : Str => s.length) ∘ sgn) = fun _ => 1 := rfl
          rw [this, List.map_const', List.sum_replicate_nat]; omega
        refine ⟨_, D, cs.map sgn, rfl, rfl, .inl (SqL.of hD3), ?_, ?_⟩
        · rw [hsum, show (Str.ofString "").length = 0 from rfl, Nat.mul_zero]; omega
        have hzl : (Txt.join (Str.ofString "") (cs.map sgn)).cps.toList = cs := by rw [TL.join_eq]; exact join_sgn cs
        generalize Txt.join (Str.ofString "") (cs.map sgn) = z at hzl
        have hzs : z.cps.size = cs.length := by rw [← Array.length_toList, hzl]
        have hzok : NameOk z := ⟨by omega, by omega, by rw [hzl]; exact hcm⟩
        have hz8 : z.length ≤ 8 := by show z.cps.size ≤ 8; omega
        -- spare
        have hL3 := s3 l _ (by simp [hpl.symm]) hL2
        refine ⟨_, rfl, by show 1 ≤ sizeLine; decide, fun l5 hl5 => ?_⟩
        have s5 : Same H3 (upd H3 l5 (.lst [.str z])) := same_new hl5
        refine ⟨_, rfl, ltr, rfl, fun D2 hD2 => lcm_str (fun q acc H5 => Same (upd H3 l5 (.lst [.str z])) H5 ∧ H5 D2 = some (.lst acc) ∧ acc = ((ltr.cps.toList.take q).map fun c => cutS z none (some 7) ++ sgn c).map V.str)
          ⟨same_new hD2, upd_same, rfl⟩ ?_ ?_⟩
        · rintro q c acc H5 hq ⟨s6, hD5, rfl⟩
          have hq' : ltr.cps.toList[q]? = some c := by simpa using hq
          have hq26 : q < 26 := by have := lt_of_get hq'; exact this
          refine ⟨_, rfl, _, rfl, z, rfl, Nat.le_trans hz8 (by decide), _, rfl, _, _, rfl, rfl, ?_, ?_⟩
          · have h1 := cutS_length z none (some 7)
            have h2 : (⟨#[c]⟩ : Str).length = 1 := rfl
            rw [h2]
            exact Nat.le_trans (show _ ≤ 9 by omega) (by decide)
          · refine ⟨_, hD5, by simp; exact small1000 (by omega), _, same_upd s6 hD2, upd_same, ?_⟩
            rw [take_of_get hq', List.map_append, List.map_append]; rfl
        · rintro acc H5 ⟨s6, hD5, rfl⟩
          have etake : ltr.cps.toList.take ltr.cps.size = ltr.cps.toList := List.take_of_length_le (by simp)
          rw [etake] at hD5
          have hl55 := s6 _ _ (show (upd H3 l5 (.lst [.str z])) l5 = _ from upd_same)
          refine ⟨l5, D2, _, _, rfl, rfl, hl55, hD5, by rw [List.length_map, List.length_map, show ltr.cps.toList.length = 26 by decide +kernel]; show 1 + 26 ≤ sizeLine; decide, fun l6 hl6 => ?_⟩
          have hsp : ([V.str z] ++ (ltr.cps.toList.map fun c => cutS z none (some 7) ++ sgn c).map V.str) = (spareL z).map V.str := rfl
          rw [hsp]
          have s36 : Same H3 (upd H5 l6 (.lst ((spareL z).map V.str))) := same_upd (s5.trans s6) (s5.free (s6.free hl6))
          have hl66 : (upd H5 l6 (.lst ((spareL z).map V.str))) l6 = some (.lst ((spareL z).map V.str)) := upd_same
          generalize upd H5 l6 (.lst ((spareL z).map V.str)) = H6 at s36 hl66
          have hL6 := s36 _ _ hL3
          have hp6 := hp3.mono s36
          have hsl : (spareL z).length = 27 := by unfold spareL; rw [List.length_cons, List.length_map]; decide +kernel
          -- found.append
          refine ⟨_, rfl, .inl ⟨rfl, _, SqL.of hL6⟩, _, rfl, l6, rfl, ⟨_, SqL.of hl66⟩, fun D3 hD3' => lcf_list (xs := (spareL z).map V.str)
            (fun q acc H7 => Same H6 H7 ∧ H7 D3 = some (.lst acc) ∧ acc = (((spareL z).take q).filter fun x => !decide (x ∈ fs)).map V.str)
            ⟨same_new hD3', upd_same, rfl⟩ (fun q acc H7 h => SqL.of (h.1 _ _ hl66)) ?_ ?_⟩
          · rintro q y acc H7 hy ⟨s7, hD7, rfl⟩
            obtain ⟨x, hx, rfl⟩ := getElem?_map_some hy
            have hq27 : q < 27 := by have := lt_of_get hx; omega
            have hfl2 := List.length_filter_le (fun x => !decide (x ∈ fs)) ((spareL z).take q)
            rw [List.length_take] at hfl2
            refine ⟨_, rfl, _, rfl, l, _, rfl, .inl (SqL.of (s7 _ _ hL6)), rfl, flat_strs _, !decide (x ∈ fs), ?_, ?_⟩
            · show V.bl (!inV (.str x) (fs.map V.str)) = _
              rw [inV_str]
            · by_cases e : x ∈ fs
              · rw [decide_eq_true e]
                refine iteF ⟨_, s7, hD7, ?_⟩
                rw [take_of_get hx, List.filter_append]; simp [e]
              · rw [decide_eq_false e]
                refine iteT ⟨_, rfl, _, hD7, by rw [List.length_map]; exact small1000 (by omega), _, same_upd s7 hD3', upd_same, ?_⟩
                rw [take_of_get hx, List.filter_append, List.map_append]; simp [e]
          · rintro acc H7 ⟨s7, hD7, rfl⟩
            rw [List.length_map, List.take_length] at hD7
            obtain ⟨x, r, hxr⟩ := spare_new (z := z) (found := fs) (by omega)
            rw [hxr] at hD7
            have hxm : x ∈ (spareL z).filter (fun x => !decide (x ∈ fs)) := by rw [hxr]; exact List.mem_cons_self ..
            have hx1 := (List.mem_filter.mp hxm).1
            have hx2 : x ∉ fs := by have := (List.mem_filter.mp hxm).2; simpa using this
            refine ⟨D3, _, 0, .str x, rfl, rfl, SqL.of hD7, atI_of (j := 0) rfl rfl, l, _, _, rfl, rfl, s7 _ _ hL6, by rw [List.length_map]; exact small1000 (by omega), ?_⟩
            refine ⟨_, _, _, _, _, _, fs ++ [x], rfl, samex_upd ((((sx.trans s2).trans s3).trans (same_toX s36 _)).trans (same_toX s7 _)) (.inr hl), (hp6.mono s7).upd hpl, by rw [upd_same, List.map_append]; rfl, by simp [hfl], ?_, ?_⟩
            · rw [List.nodup_append]
              refine ⟨hnd, by simp, fun a ha b hb e => ?_⟩
              have : b = x := by simpa using hb
              exact hx2 (this ▸ e ▸ ha)
            · intro y hy
              rcases List.mem_append.mp hy with h | h
              · exact hok y h
              · rw [show y = x by simpa using h]; exact spare_ok hzok x hx1
    · rintro σ H' ⟨v4, v5, v6, v7, v8, v9, fs, rfl, sx, hp', hL, hfl, hnd, hok⟩
      exact ⟨_, rfl, k H' l fs sx hp' hl hL hfl hnd hok⟩
end
end T85
end

section
set_option Elab.async false
set_option linter.all false
set_option maxRecDepth 100000
set_option maxHeartbeats 4000000
namespace T85
open PySem PySem.Spec L2 Fx
section
variable {P : Program} {w : World} {K : PySem.W.Frag} {mg : Str → Option Value} {base : Heap}
/-! ### Row -/
def spWantFew : Sp := fun vs H Q _ => ∃ i : Int, vs = [.int i] ∧ i ≤ 400 ∧ Q .non H
theorem ok_want_few_runs (T : Says K mg) : Ok P w K mg base 1 ("want_few_runs", none) ["many"] (spWantFew) := by
  refine FunD.ok (d_want_few_runs T) sc_want_few_runs (fun vs H Q E h => ?len) (fun cdv A outer s H vs Q E hr h => ?bod)
  case len =>
    obtain ⟨i, rfl, _⟩ := h; rfl
  case bod =>
    obtain ⟨i, rfl, h1, k⟩ := h
    refine ⟨_, PSs.nox (pss_one (ps_if (pt_cmpR op_gt (pv 0) (pe_globI (by rfl) (T.int_ 11)) (nomark _)) (pss_one ps_never) pss_nil)), ?_⟩
    refine ⟨_, rfl, _, _, rfl, rfl, false, ?_, iteF k⟩
    show V.bl (decide (400 < i)) = _; rw [decide_eq_false (by omega)]
/-- a Row at p, its names in the tuple at t -/
def RowAt (K : PySem.W.Frag) (H : Hp) (p : Addr) (xs : List Str) : Prop := ∃ dx t, H p = some (.ins (He.ga K "Row") dx [("own_names", .ref t)]) ∧ SqT K H t (xs.map V.str)
theorem RowAt.mono {H H' : Hp} {p : Addr} {xs : List Str} (h : RowAt K H p xs) (s : Same H H') : RowAt K H' p xs := let ⟨dx, t, h1, h2⟩ := h; ⟨dx, t, s _ _ h1, sqt_mono s h2⟩
def spRowInit (K : PySem.W.Frag) : Sp := fun vs H Q _ => ∃ (p dx a : Addr) (xs : List Str), vs = [.ref p, .ref a] ∧ H p = some (.ins (He.ga K "Row") dx []) ∧ (SqL K H a (xs.map V.str) ∨ SqT K H a (xs.map V.str)) ∧ xs.length ≤ 400 ∧ (∀ x ∈ xs, NameOk x) ∧
  ∀ H' t, SameX [p] H H' → H' p = some (.ins (He.ga K "Row") dx [("own_names", .ref t)]) → SqT K H' t (xs.map V.str) → Q .non H'
theorem seqt_mono {H H' : Hp} {a : Addr} {xs : List V} (s : Same H H') (h : SqL K H a xs ∨ SqT K H a xs) : SqL K H' a xs ∨ SqT K H' a xs := h.elim (fun z => .inl (seq_mono s z)) fun z => .inr (sqt_mono s z)
theorem sqt_ins {H : Hp} {p a C dx : Addr} {fs : List (Str × V)} {o : HO} {xs : List V} (h : SqT K H a xs) (hp : H p = some (.ins C dx fs)) : SqT K (upd H p o) a xs := by
  rcases h with (h | ⟨o', h⟩) | h
  · exact .inl (.inl (by rw [upd_ne (ne_of h hp (by intro z; cases z))]; exact h))
  · exact .inl (.inr ⟨o', by rw [upd_ne (ne_of h hp (by intro z; cases z))]; exact h⟩)
  · exact .inr h
theorem sql_ins {H : Hp} {p a C dx : Addr} {fs : List (Str × V)} {o : HO} {xs : List V} (h : SqL K H a xs) (hp : H p = some (.ins C dx fs)) : SqL K (upd H p o) a xs := by
  rcases h with (h | ⟨o', h⟩) | h
  · exact .inl (.inl (by rw [upd_ne (ne_of h hp (by intro z; cases z))]; exact h))
  · exact .inl (.inr ⟨o', by rw [upd_ne (ne_of h hp (by intro z; cases z))]; exact h⟩)
  · exact .inr h
theorem ok_Rowdd_initdd (T : Says K mg) : Ok P w K mg base 2 ("Row", some "__init__") ["self", "names"] (spRowInit K) := by
  have G_is_list := FnOk.mono (k := 1) (ok_is_list (P := P) (w := w) (base := base) T) (by decide)
  have G_is_name := FnOk.mono (k := 1) (ok_is_name (P := P) (w := w) (base := base) T) (by decide)
  have G_want_few_runs := FnOk.mono (k := 1) (ok_want_few_runs (P := P) (w := w) (base := base) T) (by decide)
  refine FunD.ok (d_Rowdd_initdd T) sc_Rowdd_initdd (fun vs H Q E h => ?len) (fun cdv A outer s H vs Q E hr h => ?bod)
  case len =>
    obtain ⟨p, dx, a, xs, rfl, _⟩ := h; rfl
  case bod =>
    obtain ⟨p, dx, a, xs, rfl, hi, ha, hl, hN, k⟩ := h
    refine ⟨_, PSs.nox (pss_cons (ps_if (pt_not (pt_val (pe_call G_is_list hr (by rfl) (T.glo_ 12) (d_is_list T).kp (b_is_list T) .nil pass0 (pa_cons (pv 1) pa_nil)))) (pss_one ps_never) pss_nil)
      (pss_cons (ps_for PassesOwn.never rfl (pi_or (k_pienum (K := K) (by rfl) (by rfl) (T.free_ 13) (pa_cons (pv 1) pa_nil)) (k_pienumT (K := K) (by rfl) (by rfl) (T.free_ 13) (pa_cons (pv 1) pa_nil))) (k_tup (K := K) (n := 2) (by rfl) rfl (pgs_cons (pg_name (i := 2) sc_Rowdd_initdd.nd rfl (Or.inl rfl)) (pgs_cons (pg_name (i := 3) sc_Rowdd_initdd.nd rfl (Or.inl rfl)) pgs_nil)))
      (pss_one (ps_if (pt_not (pt_val (pe_call G_is_name hr (by rfl) (T.glo_ 14) (d_is_name T).kp (b_is_name T) .nil pass0 (pa_cons (pv 3) pa_nil)))) (pss_one ps_never) pss_nil)))
      (pss_cons (ps_expr (pe_call G_want_few_runs hr (by rfl) (T.glo_ 15) (d_want_few_runs T).kp (b_want_few_runs T) .nil pass0 (pa_cons (pe_callB (k_lenV (K := K) (by rfl)) (by rfl) (T.free_ 7) (by decide +kernel) (pa_cons (pv 1) pa_nil)) pa_nil)))
      (pss_one (ps_fld (pv 0) (pe_callTy (k_tupleOf (K := K) (by rfl)) (by rfl) (T.free_ 5) (by decide +kernel) (pa_cons (pv 1) pa_nil)) rfl))))), ?_⟩
    refine ⟨_, rfl, a, rfl, ha.elim (fun z => .inl ⟨_, z⟩) (fun z => .inr ⟨_, z⟩), fun H1 s1 => ⟨true, rfl, iteF ?_⟩⟩
    rcases ha with ha | ha
    · refine .inl ⟨_, rfl, a, _, rfl, seq_mono s1 ha, ?_⟩
      refine for_enumL (xs := xs.map V.str) (fun i σ H2 => ∃ (v2 v3 : Option V), σ = [some (.ref p), some (.ref a), v2, v3] ∧ Same H H2) ⟨none, none, rfl, s1⟩ (fun i σ H2 _ ⟨_, _, _, s⟩ => seq_mono s ha) ?_ ?_
      · rintro i y σ H2 T' hy ⟨v2, v3, rfl, s2⟩ hT
        obtain ⟨n, hn, rfl⟩ := getElem?_map_some hy
        exact ⟨_, _, rfl, _, _, rfl, rfl, _, rfl, n, rfl, hN n (List.mem_of_getElem? hn), fun H3 s3 => ⟨true, rfl, iteF ⟨_, _, rfl, (same_upd s2 (s2.free hT)).trans s3⟩⟩⟩
      · rintro σ H2 ⟨v2, v3, rfl, s2⟩
        have hi2 := s2 _ _ hi
        refine ⟨_, rfl, _, xs.length, rfl, .inl ⟨_, seq_mono s2 ha, by rw [List.length_map]⟩, _, rfl, by omega, ?_⟩
        refine ⟨_, rfl, a, _, rfl, .inl ⟨seq_mono s2 ha, fun t ht => ?_⟩⟩
        have s3 := same_upd (o := .tup (xs.map V.str)) s2 (s2.free ht)
        have tp : t ≠ p := fun e => by rw [e, hi2] at ht; cases ht
        refine ⟨_, rfl, p, _, dx, _, rfl, s3 _ _ hi, cl_Row T, na_Row_own_names T, (by show 0 < 1000; decide), ?_⟩
        exact k _ t (samex_upd (same_toX s3 _) (.inl (by simp))) upd_same (.inl (.inl (by rw [upd_ne tp]; exact upd_same)))
    · refine .inr ⟨_, rfl, a, _, rfl, sqt_mono s1 ha, ?_⟩
      refine for_enumT (xs := xs.map V.str) (fun i σ H2 => ∃ (v2 v3 : Option V), σ = [some (.ref p), some (.ref a), v2, v3] ∧ Same H H2) ⟨none, none, rfl, s1⟩ (fun i σ H2 _ ⟨_, _, _, s⟩ => sqt_mono s ha) ?_ ?_
      · rintro i y σ H2 T' hy ⟨v2, v3, rfl, s2⟩ hT
        obtain ⟨n, hn, rfl⟩ := getElem?_map_some hy
        exact ⟨_, _, rfl, _, _, rfl, rfl, _, rfl, n, rfl, hN n (List.mem_of_getElem? hn), fun H3 s3 => ⟨true, rfl, iteF ⟨_, _, rfl, (same_upd s2 (s2.free hT)).trans s3⟩⟩⟩
      · rintro σ H2 ⟨v2, v3, rfl, s2⟩
        have hi2 := s2 _ _ hi
        refine ⟨_, rfl, _, xs.length, rfl, .inr ⟨_, sqt_mono s2 ha, by rw [List.length_map]⟩, _, rfl, by omega, ?_⟩
        refine ⟨_, rfl, a, _, rfl, .inr ⟨sqt_mono s2 ha, ?_⟩⟩
        refine ⟨_, rfl, p, _, dx, _, rfl, hi2, cl_Row T, na_Row_own_names T, (by show 0 < 1000; decide), ?_⟩
        exact k _ a (samex_upd (same_toX s2 _) (.inl (by simp))) upd_same (sqt_ins (sqt_mono s2 ha) hi2)
end
end T85
end

section
set_option Elab.async false
set_option linter.all false
set_option maxRecDepth 100000
set_option maxHeartbeats 4000000
namespace T85
open PySem PySem.Spec L2 Fx
section
variable {P : Program} {w : World} {K : PySem.W.Frag} {mg : Str → Option Value} {base : Heap}
theorem ok_Row_names (T : Says K mg) : FnOk P w K mg base CX0 1 (gAd K ("Row", some "names")) (fdOf K (gAd K ("Row", some "names"))) ["self"] (getSp (He.ga K "Row") "own_names") := get_ok (x := "") (d_Row_names T) sc_Row_names rfl rfl (cl_Row T) (na_Row_own_names T)
def spWantRow (K : PySem.W.Frag) : Sp := fun vs H Q _ => ∃ (t p : Addr) (ns xs : List Str), vs = [.ref t, .ref p] ∧ SqT K H t (ns.map V.str) ∧ RowAt K H p xs ∧ (∀ x ∈ xs, x ∈ ns) ∧ Q .non H
theorem ok_want_row (T : Says K mg) : Ok P w K mg base 3 ("want_row", none) ["known", "row"] (spWantRow K) := by
  have G_Row_names := FnOk.mono (k := 1) (ok_Row_names (P := P) (w := w) (base := base) T) (by decide)
  refine FunD.ok (d_want_row T) sc_want_row (fun vs H Q E h => ?len) (fun cdv A outer s H vs Q E hr h => ?bod)
  case len =>
    obtain ⟨t, p, ns, xs, rfl, _⟩ := h; rfl
  case bod =>
    obtain ⟨t, p, ns, xs, rfl, ht, ⟨dx, t2, hi, ht2⟩, hx, k⟩ := h
    refine ⟨_, PSs.nox (pss_one (ps_for PassesOwn.never rfl (k_pit (K := K) (by rfl) (pe_prop (pv 1) (T.cls_ 18) (pr_Row_names T) G_Row_names hr (b_Row_names T) .nil pass0 rfl)) (pg_name (i := 2) sc_want_row.nd rfl (Or.inl rfl))
      (pss_one (ps_if (pt_cmpR (k_notIn (K := K) (by rfl)) (pv 2) (pv 0) (by rfl)) (pss_one ps_never) pss_nil)))), ?_⟩
    refine ⟨_, rfl, p, dx, _, rfl, hi, ⟨p, dx, _, .ref t2, rfl, hi, rfl, t2, rfl, ⟨_, ht2⟩, ?_⟩⟩
    refine for_tup (xs := xs.map V.str) (fun i σ H2 => H2 = H ∧ ∃ (v2 : Option V), σ = [some (.ref t), some (.ref p), v2]) ⟨rfl, none, rfl⟩ (fun i σ H2 _ ⟨e, _⟩ => e ▸ ht2) ?_ ?_
    · rintro i y σ H2 hy ⟨rfl, v2, rfl⟩
      obtain ⟨n, hn, rfl⟩ := getElem?_map_some hy
      refine ⟨_, rfl, _, rfl, t, _, rfl, .inr ht, rfl, flat_strs _, false, ?_, iteF ⟨rfl, _, rfl⟩⟩
      show V.bl (!inV (.str n) (ns.map V.str)) = _
      rw [inV_str, decide_eq_true (hx n (List.mem_of_getElem? hn))]; rfl
    · rintro σ H2 ⟨rfl, v2, rfl⟩
      exact k
/-! ### numbers -/
def sing (n f : Nat) : List Int := (List.range n).map fun o => if o = f then 1 else 0
theorem bl_eq (j f : Nat) : (if decide (V.int (0 + (j : Int)) = V.int (f : Int)) = true then (1 : Int) else 0) = if j = f then 1 else 0 := by
  by_cases e : j = f
  · subst e; simp
  · rw [if_neg e, if_neg]
    intro h
    have := V.int.inj (of_decide_eq_true h)
    omega
def spSingle : Sp := fun vs H Q _ => ∃ (n f : Nat), vs = [.int n, .int f] ∧ n ≤ 6 ∧ ∀ H' t, Same H H' → H t = none → H' t = some (.tup ((sing n f).map V.int)) → Q (.ref t) H'
theorem ok_single (T : Says K mg) : Ok P w K mg base 1 ("single", none) ["many", "fixer"] (spSingle) := by
  refine FunD.ok (d_single T) sc_single (fun vs H Q E h => ?len) (fun cdv A outer s H vs Q E hr h => ?bod)
  case len =>
    obtain ⟨n, f, rfl, _⟩ := h; rfl
  case bod =>
    obtain ⟨n, f, rfl, hn, k⟩ := h
    refine ⟨_, PSs.nox (pss_one (ps_ret (pe_callTy (k_tupleOf (K := K) (by rfl)) (by rfl) (T.free_ 5) (by decide +kernel) (pa_cons (pe_lc (own := [("other", 2)]) rfl sc_single.nd (pi_range1 (by rfl) (T.free_ 32) (pa_cons (pv 0) pa_nil)) (blkOk_by (N := N_single) (sc := defScope s_single) (by decide +kernel)) (fun _ _ _ _ _ => (pg_name (i := 2) sc_single.nd rfl (Or.inl rfl))) (fun _ _ _ _ _ => pts_nil) (fun _ _ _ _ _ => (pe_callTy call_int1 (by rfl) (T.free_ 1) (by decide +kernel) (pa_cons (pe_cmpR op_eq (pv 2) (pv 1) (nomark _)) pa_nil)))) pa_nil)))), ?_⟩
    refine ⟨_, rfl, _, rfl, by omega, by omega, fun D hD => ?_⟩
    refine lcm_range (n := n) (fun j acc H3 => Same H H3 ∧ H3 D = some (.lst acc) ∧ acc = ((List.range j).map fun o => if o = f then (1 : Int) else 0).map V.int) ⟨same_new hD, upd_same, rfl⟩ ?_ ?_
    · rintro j acc H3 hj ⟨s3, hD3, rfl⟩
      refine ⟨_, rfl, _, rfl, rfl, .inr ⟨_, rfl, _, hD3, by simp; exact small1000 (by omega), _, same_upd s3 hD, upd_same, ?_⟩⟩
      rw [List.range_succ, List.map_append, List.map_append, bl_eq]; rfl
    · rintro acc H3 ⟨s3, hD3, rfl⟩
      exact ⟨D, _, rfl, .inl ⟨SqL.of hD3, fun t ht => k _ t (same_upd s3 (s3.free ht)) (s3.free ht) upd_same⟩⟩
def lowL (xs : List Int) (f : Nat) (m : Int) : List Int := xs.take f ++ [xs.getD f 0 - m] ++ xs.drop (f + 1)
def spLowered (K : PySem.W.Frag) : Sp := fun vs H Q _ => ∃ (a : Addr) (xs : List Int) (f : Nat) (m : Int), vs = [.ref a, .int f, .int m] ∧ SqT K H a (xs.map V.int) ∧ f < xs.length ∧ xs.length ≤ 6 ∧ ∀ H' t, Same H H' → H' t = some (.tup ((lowL xs f m).map V.int)) → Q (.ref t) H'
theorem cut_drop {xs : List V} {i : Nat} (h : i ≤ xs.length) : cutV xs (some (i : Int)) none = xs.drop i := by
  unfold cutV
  rw [HT.sIx_none, HT.sIx_nat, Nat.min_eq_left h]
  exact List.take_of_length_le (by simp)
theorem cat_get {H : Hp} {a b : Addr} {xs ys : List V} {Q : VK} (ha : SqT K H a xs) (hb : SqT K H b ys) (hl : xs.length + ys.length ≤ 1000) (k : ∀ H' p, Same H H' → SqT K H' p (xs ++ ys) → Q (.ref p) H') : rCatA K (.ref a) (.ref b) H Q := by
  refine ⟨a, b, xs, ys, rfl, rfl, ha, hb, Nat.le_of_lt (small1000 (by omega)), fun e => ?_, fun _ e => ?_, fun _ _ p hp => ?_⟩
  · subst e; exact k H b (Same.refl _) (by simpa using hb)
  · subst e; exact k H a (Same.refl _) (by simpa using ha)
  · exact k _ p (same_new hp) (.inl (.inl upd_same))
theorem sl_get {H : Hp} {a : Addr} {xs : List V} {lo hi : Option Int} {Q : VK} (ha : SqT K H a xs) (k : ∀ H' p, Same H H' → SqT K H' p (cutV xs lo hi) → Q (.ref p) H') : rSlA K (.ref a) lo hi H Q := by
  refine ⟨a, xs, rfl, ha, fun e => ?_, fun _ p hp => ?_⟩
  · refine k H a (Same.refl _) ?_
    have : cutV xs lo hi = xs := by unfold cutV; rw [e.1, e.2, List.drop_zero, Nat.sub_zero, List.take_length]
    rw [this]; exact ha
  · exact k _ p (same_new hp) (.inl (.inl upd_same))
theorem cat_getH {H : Hp} {a b : Addr} {xs ys : List V} {Q : VK} (ha : H a = some (.tup xs)) (hb : H b = some (.tup ys)) (hl : xs.length + ys.length ≤ 1000) (k : ∀ H' p, Same H H' → H' p = some (.tup (xs ++ ys)) → Q (.ref p) H') : rCatA K (.ref a) (.ref b) H Q := by
  refine ⟨a, b, xs, ys, rfl, rfl, .inl (.inl ha), .inl (.inl hb), Nat.le_of_lt (small1000 (by omega)), fun e => ?_, fun _ e => ?_, fun _ _ p hp => ?_⟩
  · subst e; exact k H b (Same.refl _) (by simpa using hb)
  · subst e; exact k H a (Same.refl _) (by simpa using ha)
  · exact k _ p (same_new hp) upd_same
theorem sl_getH {H : Hp} {a : Addr} {xs : List V} {lo hi : Option Int} {Q : VK} (ha : SqT K H a xs) (n : ¬ (HT.sIx xs.length 0 lo = 0 ∧ HT.sIx xs.length xs.length hi = xs.length)) (k : ∀ H' p, Same H H' → H' p = some (.tup (cutV xs lo hi)) → Q (.ref p) H') : rSlA K (.ref a) lo hi H Q :=
  ⟨a, xs, rfl, ha, fun e => absurd e n, fun _ p hp => k _ p (same_new hp) upd_same⟩
theorem ok_lowered (T : Says K mg) : Ok P w K mg base 1 ("lowered", none) ["numbers", "fixer", "amount"] (spLowered K) := by
  refine FunD.ok (d_lowered T) sc_lowered (fun vs H Q E h => ?len) (fun cdv A outer s H vs Q E hr h => ?bod)
  case len =>
    obtain ⟨a, xs, f, m, rfl, _⟩ := h; rfl
  case bod =>
    obtain ⟨a, xs, f, m, rfl, ha, hf, h6, k⟩ := h
    refine ⟨_, PSs.nox (pss_one (ps_ret (pe_op (k_catT (K := K) (by rfl)) (pe_op (k_catT (K := K) (by rfl)) (pe_slice (k_slT (K := K) (by rfl)) (pv 0) po_none (po_some (pv 1))) (pe_tup (pa_cons (pe_op op_sub (pe_ix (k_ixT (K := K) (by rfl)) (pv 0) (pv 1) (fun _ _ => rfl)) (pv 2)) pa_nil))) (pe_slice (k_slT (K := K) (by rfl)) (pv 0) (po_some (pe_op op_add (pv 1) pe_int)) po_none)))), ?_⟩
    have hl : (xs.map V.int).length = xs.length := List.length_map ..
    have hx : atI (xs.map V.int) (f : Int) = some (.int (xs.getD f 0)) := atI_nat (by rw [List.getElem?_map, List.getElem?_eq_getElem hf, List.getD_eq_getElem?_getD, List.getElem?_eq_getElem hf]; rfl)
    have hl : (xs.map V.int).length = xs.length := List.length_map ..
    refine ⟨_, rfl, _, rfl, _, rfl, sl_getH ha (fun e => absurd e.2 (by rw [hl, HT.sIx_nat]; omega)) fun H1 p1 s1 h1 => ?_⟩
    rw [cut_take (by omega)] at h1
    have a1 := sqt_mono s1 ha
    refine ⟨_, rfl, _, rfl, a, _, _, _, rfl, rfl, a1, hx, _, rfl, _, _, rfl, rfl, by show 1 ≤ sizeLine; decide, fun p2 hp2 => ?_⟩
    have s2 := same_new (o := .tup [.int (xs.getD f 0 - m)]) hp2
    refine cat_getH (s2 _ _ h1) upd_same (by rw [List.length_take]; simp; omega) fun H3 p3 s3 h3 => ?_
    have s13 := s1.trans (s2.trans s3)
    refine ⟨_, rfl, _, rfl, _, _, rfl, rfl, _, rfl, ?_⟩
    unfold tNoPart
    have ec : (f : Int) + 1 = ((f + 1 : Nat) : Int) := by omega
    refine sl_getH (sqt_mono s13 ha) (fun e => absurd e.1 (by show ¬ HT.sIx (xs.map V.int).length 0 (some ((f : Int) + 1)) = 0; rw [ec, hl, HT.sIx_nat]; omega)) fun H4 p4 s4 h4 => ?_
    rw [ec, cut_drop (by omega)] at h4
    refine cat_getH (s4 _ _ h3) h4 (by simp; omega) fun H5 p5 s5 h5 => k H5 p5 ((s13.trans s4).trans s5) ?_
    have : (lowL xs f m).map V.int = (xs.map V.int).take f ++ [V.int (xs.getD f 0 - m)] ++ (xs.map V.int).drop (f + 1) := by
      unfold lowL; rw [List.map_append, List.map_append, List.map_take, List.map_drop]; rfl
    rw [this]; exact h5
/-! ### measures -/
/-- the pushes at l: a list of lists -/
def MatAt (H : Hp) (l : Addr) (n : Nat) (M : Nat → Nat → Int) : Prop := ∃ rs : List Addr, H l = some (.lst (rs.map V.ref)) ∧ rs.length = n ∧ ∀ (i : Nat) r, rs[i]? = some r → H r = some (.lst (((List.range n).map (M i)).map V.int))
theorem MatAt.mono {H H' : Hp} {l : Addr} {n : Nat} {M : Nat → Nat → Int} (h : MatAt H l n M) (s : Same H H') : MatAt H' l n M := let ⟨rs, h1, h2, h3⟩ := h; ⟨rs, s _ _ h1, h2, fun i r e => s _ _ (h3 i r e)⟩
def dotL (r x : List Int) : Int := ((r.zip x).map fun p => p.1 * p.2).sum
theorem zip_take {r x : List Int} {i : Nat} {a b : Int} (h1 : r[i]? = some a) (h2 : x[i]? = some b) : ((r.zip x).take (i + 1)).map (fun p => p.1 * p.2) = ((r.zip x).take i).map (fun p => p.1 * p.2) ++ [a * b] := by
  have : (r.zip x)[i]? = some (a, b) := by rw [List.getElem?_zip_eq_some]; exact ⟨h1, h2⟩
  rw [take_of_get this, List.map_append]; rfl
/-- a Marks at p: the lists of pushes, roots, moves and the dict of places -/
def MarksI (K : PySem.W.Frag) (H : Hp) (p l lr d lm : Addr) : Prop := ∃ dx, H p = some (.ins (He.ga K "Marks") dx [("own_pushes", .ref l), ("own_roots", .ref lr), ("own_places", .ref d), ("own_moves", .ref lm)])
theorem MarksI.mono {H H' : Hp} {p l lr d lm : Addr} (h : MarksI K H p l lr d lm) (s : Same H H') : MarksI K H' p l lr d lm := let ⟨dx, h⟩ := h; ⟨dx, s _ _ h⟩
def spMeasures (K : PySem.W.Frag) : Sp := fun vs H Q _ => ∃ (p l lr d lm t a b : Addr) (n f : Nat) (M : Nat → Nat → Int) (xs ys : List Int), vs = [.ref p, .ref t, .int f] ∧ MarksI K H p l lr d lm ∧ MatAt H l n M ∧ SqT K H t [.ref a, .ref b] ∧ SqT K H a (xs.map V.int) ∧ SqT K H b (ys.map V.int) ∧
  f < n ∧ n ≤ 6 ∧ xs.length = n ∧ ys.length = n ∧ (∀ i j, 0 ≤ M i j ∧ M i j ≤ 4) ∧ 
  ∀ H' u, Same H H' → SqT K H' u [.int (2 * xs.getD f 0 - dotL ((List.range n).map (M f)) xs), .int (2 * ys.getD f 0 - dotL ((List.range n).map fun i => M i f) ys)] → Q (.ref u) H'
theorem ok_Marks_measures (T : Says K mg) : Ok P w K mg base 1 ("Marks", some "measures") ["self", "root", "fixer"] (spMeasures K) := by
  refine FunD.ok (d_Marks_measures T) sc_Marks_measures (fun vs H Q E h => ?len) (fun cdv A outer s H vs Q E hr h => ?bod)
  case len =>
    obtain ⟨p, l, lr, d, lm, t, a, b, n, f, M, xs, ys, rfl, _⟩ := h; rfl
  case bod =>
    obtain ⟨p, l, lr, d, lm, t, a, b, n, f, M, xs, ys, rfl, ⟨dx, hi⟩, hMat, ht, ha, hb, hf, hn, hxl, hyl, hM, k⟩ := h
    obtain ⟨rs, hl, hrl, hrow⟩ := hMat
    refine ⟨_, PSs.nox (pss_cons (ps_asg (pv 1) (k_tup (K := K) (n := 2) (by rfl) rfl (pgs_cons (pg_name (i := 3) sc_Marks_measures.nd rfl (Or.inl rfl)) (pgs_cons (pg_name (i := 4) sc_Marks_measures.nd rfl (Or.inl rfl)) pgs_nil))))
      (pss_cons (ps_set (i := 5) sc_Marks_measures.nd rfl (Or.inl rfl) (pe_op op_sub (pe_op op_mul pe_int (pe_ix (k_ixT (K := K) (by rfl)) (pv 3) (pv 2) (fun _ _ => rfl))) (pe_callB (k_sum (K := K) (by rfl) rfl) (by rfl) (T.free_ 35) (by decide +kernel) (pa_cons (pe_lc (own := [("more", 6), ("one", 7)]) rfl sc_Marks_measures.nd (k_pizipM (K := K) false true (by rfl) (by rfl) (T.free_ 34) (pa_cons (pe_ix (k_ixL (K := K) (by rfl)) (k_fld (K := K) (by rfl) (pv 0) rfl) (pv 2) (fun _ _ => rfl)) (pa_cons (pv 3) pa_nil))) (blkOk_by (N := N_Marks_measures) (sc := defScope s_Marks_measures) (by decide +kernel)) (fun _ _ _ _ _ => (k_tup (K := K) (n := 2) (by rfl) rfl (pgs_cons (pg_name (i := 6) sc_Marks_measures.nd rfl (Or.inl rfl)) (pgs_cons (pg_name (i := 7) sc_Marks_measures.nd rfl (Or.inl rfl)) pgs_nil)))) (fun _ _ _ _ _ => pts_nil) (fun _ _ _ _ _ => (pe_op op_mul (pv 6) (pv 7)))) pa_nil))))
      (pss_cons (ps_setLc (i := 8) (own := [("row", 9)]) rfl sc_Marks_measures.nd rfl rfl (sw_true rfl rfl rfl (by decide +kernel)) (k_pil (K := K) (by rfl) (k_fld (K := K) (by rfl) (pv 0) rfl)) (blkOk_by (N := N_Marks_measures) (sc := defScope s_Marks_measures) (by decide +kernel)) (fun _ _ _ _ _ => (pg_name (i := 9) sc_Marks_measures.nd rfl (Or.inl rfl))) (fun _ _ _ _ _ => pts_nil) (fun _ _ _ _ _ => (pe_ix (k_ixL (K := K) (by rfl)) (pv 9) (pv 2) (fun _ _ => rfl))))
      (pss_one (ps_ret (pe_tup (pa_cons (pv 5) (pa_cons (pe_op op_sub (pe_op op_mul pe_int (pe_ix (k_ixT (K := K) (by rfl)) (pv 4) (pv 2) (fun _ _ => rfl))) (pe_callB (k_sum (K := K) (by rfl) rfl) (by rfl) (T.free_ 35) (by decide +kernel) (pa_cons (pe_lc (own := [("more", 6), ("one", 7)]) rfl sc_Marks_measures.nd (k_pizipM (K := K) false true (by rfl) (by rfl) (T.free_ 34) (pa_cons (pv 8) (pa_cons (pv 4) pa_nil))) (blkOk_by (N := N_Marks_measures) (sc := defScope s_Marks_measures) (by decide +kernel)) (fun _ _ _ _ _ => (k_tup (K := K) (n := 2) (by rfl) rfl (pgs_cons (pg_name (i := 6) sc_Marks_measures.nd rfl (Or.inl rfl)) (pgs_cons (pg_name (i := 7) sc_Marks_measures.nd rfl (Or.inl rfl)) pgs_nil)))) (fun _ _ _ _ _ => pts_nil) (fun _ _ _ _ _ => (pe_op op_mul (pv 6) (pv 7)))) pa_nil))) pa_nil)))))))), ?_⟩
    refine ⟨_, rfl, t, _, rfl, ht, rfl, _, _, rfl, _, _, rfl, rfl, ?_⟩
    have hxa : atI (xs.map V.int) (f : Int) = some (.int (xs.getD f 0)) := atI_nat (by rw [List.getElem?_map, List.getElem?_eq_getElem (by omega), List.getD_eq_getElem?_getD, List.getElem?_eq_getElem (by omega)]; rfl)
    have hya : atI (ys.map V.int) (f : Int) = some (.int (ys.getD f 0)) := atI_nat (by rw [List.getElem?_map, List.getElem?_eq_getElem (by omega), List.getD_eq_getElem?_getD, List.getElem?_eq_getElem (by omega)]; rfl)
    have hrf : rs[f]? = some (rs[f]'(by omega)) := List.getElem?_eq_getElem _
    generalize rs[f]'(by omega) = rf at hrf
    have hrfr := hrow f rf hrf
    have hlr : atI (rs.map V.ref) (f : Int) = some (.ref rf) := atI_nat (by rw [List.getElem?_map, hrf]; rfl)
    have hrl2 : ((List.range n).map (M f)).length = n := by simp
    have dot : ∀ (r x : List Int) (i : Nat) (av bv : V), r.length = n → x.length = n → (r.map V.int)[i]? = some av → (x.map V.int)[i]? = some bv → ∃ u v : Int, av = .int u ∧ bv = .int v ∧ ((r.zip x).take (i + 1)).map (fun p => p.1 * p.2) = ((r.zip x).take i).map (fun p => p.1 * p.2) ++ [u * v] ∧ u ∈ r ∧ i < n := by
      intro r x i av bv h1 h2 h3 h4
      obtain ⟨u, hu, rfl⟩ := getElem?_map_some h3
      obtain ⟨v, hv, rfl⟩ := getElem?_map_some h4
      exact ⟨u, v, rfl, rfl, zip_take hu hv, List.mem_of_getElem? hu, h1 ▸ lt_of_get hu⟩
    have dotE : ∀ (r x : List Int), r.length = n → x.length = n → (((r.zip x).take n).map fun p => p.1 * p.2) = (r.zip x).map fun p => p.1 * p.2 := by
      intro r x h1 h2
      rw [List.take_of_length_le]; rw [List.length_zip]; omega
    have mb : ∀ i, ∀ u ∈ (List.range n).map (M i), CMul u = CMul u ∧ (-(2 ^ 64) < u ∧ u < 2 ^ 64) := by
      intro i u hu
      obtain ⟨j, _, rfl⟩ := List.mem_map.mp hu
      have := hM i j
      exact ⟨rfl, by omega, by omega⟩
    refine ⟨_, rfl, _, rfl, _, _, _, _, rfl, rfl, ha, hxa, _, _, rfl, rfl, .inl ⟨by decide, by decide⟩, ?_⟩
    refine ⟨_, rfl, p, _, dx, _, _, rfl, hi, cl_Marks T, na_Marks_own_pushes T, rfl, _, rfl, l, _, _, _, rfl, rfl, SqL.of hl, hlr, _, rfl, rf, a, _, _, rfl, SqL.of hrfr, ha, fun D hD => ?_⟩
    refine lcm_zipM (t := false) (u := true) (fun i acc H3 => Same H H3 ∧ H3 D = some (.lst acc) ∧ acc = (((((List.range n).map (M f)).zip xs).take i).map fun p => p.1 * p.2).map V.int) ⟨same_new hD, upd_same, rfl⟩
      (fun i acc H3 ⟨s, _⟩ => ⟨SqL.of (s _ _ hrfr), sqt_mono s ha⟩) ?_ ?_
    · rintro i x y acc H3 T' hx hy ⟨s3, hD3, rfl⟩ hT'
      obtain ⟨u, v, rfl, rfl, e, hu, hin⟩ := dot _ _ i x y hrl2 hxl hx hy
      refine ⟨_, rfl, _, rfl, _, _, rfl, rfl, .inl (mb f u hu).2, _, by rw [upd_ne (ne_of_none hD3 hT')]; exact hD3, ?_, _, same_upd (same_upd s3 (s3.free hT')) hD, upd_same, ?_⟩
      · simp; exact small1000 (by omega)
      · rw [e, List.map_append]; rfl
    rintro acc H3 ⟨s3, hD3, rfl⟩
    simp only [List.length_map, List.length_range, hxl, Nat.min_self] at hD3
    rw [dotE _ _ hrl2 hxl] at hD3
    refine ⟨D, _, rfl, SqL.of hD3, _, _, rfl, rfl, ?_⟩
    -- theirs
    refine ⟨_, rfl, p, _, dx, _, _, rfl, s3 _ _ hi, cl_Marks T, na_Marks_own_pushes T, rfl, l, rfl, ⟨_, SqL.of (s3 _ _ hl)⟩, fun D2 hD2 => ?_⟩
    refine lcm_list (xs := rs.map V.ref) (fun i acc H4 => Same H3 H4 ∧ H4 D2 = some (.lst acc) ∧ acc = ((List.range i).map fun j => V.int (M j f))) ⟨same_new hD2, upd_same, rfl⟩ (fun i acc H4 ⟨s, _⟩ => SqL.of (s _ _ (s3 _ _ hl))) ?_ ?_
    · rintro i x acc H4 hx ⟨s4, hD4, rfl⟩
      obtain ⟨r, hr1, rfl⟩ := getElem?_map_some hx
      have hri := s4 _ _ (s3 _ _ (hrow i r hr1))
      have hin : i < n := hrl ▸ lt_of_get hr1
      have hMf : atI (((List.range n).map (M i)).map V.int) (f : Int) = some (.int (M i f)) := atI_nat (by simp [List.getElem?_map, List.getElem?_range, hf])
      refine ⟨_, rfl, _, rfl, r, _, _, _, rfl, rfl, SqL.of hri, hMf, _, hD4, ?_, _, same_upd s4 hD2, upd_same, ?_⟩
      · simp; exact small1000 (by omega)
      · rw [List.range_succ, List.map_append]; rfl
    rintro acc H4 ⟨s4, hD4, rfl⟩
    rw [List.length_map, hrl] at hD4
    have eM : ((List.range n).map fun j => V.int (M j f)) = ((List.range n).map fun i => M i f).map V.int := by rw [List.map_map]; rfl
    rw [eM] at hD4
    have s14 := s3.trans s4
    have hrl3 : ((List.range n).map fun i => M i f).length = n := by simp
    refine ⟨_, rfl, _, rfl, _, rfl, _, _, _, _, rfl, rfl, sqt_mono s14 hb, hya, _, _, rfl, rfl, .inl ⟨by decide, by decide⟩, ?_⟩
    refine ⟨_, rfl, _, rfl, D2, b, _, _, rfl, SqL.of hD4, sqt_mono s14 hb, fun D3 hD3' => ?_⟩
    refine lcm_zipM (t := false) (u := true) (fun i acc H5 => Same H4 H5 ∧ H5 D3 = some (.lst acc) ∧ acc = (((((List.range n).map fun i => M i f).zip ys).take i).map fun p => p.1 * p.2).map V.int) ⟨same_new hD3', upd_same, rfl⟩
      (fun i acc H5 ⟨s, _⟩ => ⟨SqL.of (s _ _ hD4), sqt_mono (s14.trans s) hb⟩) ?_ ?_
    · rintro i x y acc H5 T' hx hy ⟨s5, hD5, rfl⟩ hT'
      obtain ⟨u, v, rfl, rfl, e, hu, hin⟩ := dot _ _ i x y hrl3 hyl hx hy
      have hu' : -(2 ^ 64) < u ∧ u < 2 ^ 64 := by
        obtain ⟨j, _, rfl⟩ := List.mem_map.mp hu
        have := hM j f; omega
      refine ⟨_, rfl, _, rfl, _, _, rfl, rfl, .inl hu', _, by rw [upd_ne (ne_of_none hD5 hT')]; exact hD5, ?_, _, same_upd (same_upd s5 (s5.free hT')) hD3', upd_same, ?_⟩
      · simp; exact small1000 (by omega)
      · rw [e, List.map_append]; rfl
    rintro acc H5 ⟨s5, hD5, rfl⟩
    simp only [List.length_map, List.length_range, hyl, Nat.min_self] at hD5
    rw [dotE _ _ hrl3 hyl] at hD5
    refine ⟨D3, _, rfl, SqL.of hD5, _, _, rfl, rfl, by show 2 ≤ sizeLine; decide, fun u hu => ?_⟩
    exact k _ u (same_upd (s14.trans s5) ((s14.trans s5).free hu)) (.inl (.inl upd_same))
end
end T85
end

section
set_option Elab.async false
set_option linter.all false
set_option maxRecDepth 100000
set_option maxHeartbeats 4000000
namespace T85
open PySem PySem.Spec L2 Fx
/-! ### numbers of loose fixers -/
theorem sing_len (n i : Nat) : (sing n i).length = n := by simp [sing]
theorem sing_getD {n i f : Nat} (hf : f < n) : (sing n i).getD f 0 = if f = i then 1 else 0 := by
  simp [sing, List.getD_eq_getElem?_getD, List.getElem?_map, List.getElem?_range, hf]
theorem dot_sing (g : Nat → Int) (n i : Nat) (hi : i < n) : dotL ((List.range n).map g) (sing n i) = g i := by
  have key : ∀ m, dotL ((List.range m).map g) (sing m i) = if i < m then g i else 0 := by
    intro m
    induction m with
    | zero => rfl
    | succ m ih =>
      unfold dotL sing at ih ⊢
      rw [List.zip_map'] at ih ⊢
      rw [List.range_succ, List.map_append, List.map_append, List.sum_append, ih]
      by_cases e : m = i
      · subst e; simp
      · by_cases h : i < m
        · simp [h, e, Nat.lt_succ_of_lt h]
        · have : ¬ i < m + 1 := by omega
          simp [h, e, this]
  rw [key, if_pos hi]
theorem lowL_get {xs : List Int} {f : Nat} {m : Int} (hf : f < xs.length) : (lowL xs f m)[f]? = some (xs.getD f 0 - m) := by
  unfold lowL
  rw [List.append_assoc, List.getElem?_append_right (by rw [List.length_take]; omega), List.length_take, Nat.min_eq_left (by omega), Nat.sub_self]; rfl
theorem lowL_zero {xs : List Int} {f : Nat} (hf : f < xs.length) : lowL xs f 0 = xs := by
  unfold lowL
  rw [Int.sub_zero, List.getD_eq_getElem?_getD, List.getElem?_eq_getElem hf, List.append_assoc]
  show xs.take f ++ ([xs[f]] ++ xs.drop (f + 1)) = xs
  rw [List.singleton_append, ← List.drop_eq_getElem_cons hf, List.take_append_drop]
theorem lowL_len {xs : List Int} {f : Nat} {m : Int} (hf : f < xs.length) : (lowL xs f m).length = xs.length := by
  unfold lowL; simp; omega
theorem sing_get {n i f : Nat} (hf : f < n) : (sing n i)[f]? = some (if f = i then 1 else 0) := by
  simp [sing, List.getElem?_map, List.getElem?_range, hf]
theorem low_ne {n i j f : Nat} {m : Int} (hf : f < n) (hm : m = 2 ∧ f = i ∨ m = -2 ∧ f ≠ i) : lowL (sing n i) f m ≠ sing n j := by
  intro e
  have h1 := lowL_get (xs := sing n i) (m := m) (by rw [sing_len]; exact hf)
  rw [e, sing_get hf, sing_getD hf] at h1
  have h2 := Option.some.inj h1
  rcases hm with ⟨rfl, rfl⟩ | ⟨rfl, h⟩
  · rw [if_pos rfl] at h2
    split at h2 <;> omega
  · rw [if_neg h] at h2
    split at h2 <;> omega
theorem sing_inj {n i j : Nat} (hi : i < n) (e : sing n i = sing n j) : i = j := by
  have h1 := sing_get (i := i) hi
  rw [e, sing_get hi, if_pos rfl] at h1
  by_cases h : i = j
  · exact h
  · rw [if_neg h] at h1; cases h1
def numKey (xs : List Int) : NestedKey := .tup (xs.map .num)
def pairKey (xs ys : List Int) : NestedKey := .tup [numKey xs, numKey ys]
theorem map_num_inj : ∀ {xs ys : List Int}, xs.map NestedKey.num = ys.map NestedKey.num → xs = ys
  | [], [], _ => rfl
  | x :: xs, y :: ys, h => by
    injection h with h1 h2
    injection h1 with h1
    rw [h1, map_num_inj h2]
theorem numKey_inj {xs ys : List Int} (h : numKey xs = numKey ys) : xs = ys := by
  unfold numKey at h
  injection h with h
  exact map_num_inj h
theorem pairKey_inj {xs ys xs' ys' : List Int} (h : pairKey xs ys = pairKey xs' ys') : xs = xs' := by
  unfold pairKey at h
  injection h with h
  exact numKey_inj (List.cons.inj h).1
theorem depth_nums : ∀ xs : List Int, NestedKey.depthAll (xs.map .num) = 0
  | [] => by simp [NestedKey.depthAll]
  | x :: xs => by simp [NestedKey.depthAll, NestedKey.depth, depth_nums xs]
theorem depth_pair (xs ys : List Int) : (pairKey xs ys).depth ≤ 8 := by
  simp [pairKey, numKey, NestedKey.depth, NestedKey.depthAll, depth_nums]
theorem nk_nums {H : Hp} {a : Addr} {xs : List Int} (h : H a = some (.tup (xs.map V.int))) : NkAt H (.ref a) (numKey xs) := .tup h (NkAll.ints xs)
theorem nk_pair {H : Hp} {t a b : Addr} {xs ys : List Int} (ht : H t = some (.tup [.ref a, .ref b])) (ha : H a = some (.tup (xs.map V.int))) (hb : H b = some (.tup (ys.map V.int))) : NkAt H (.ref t) (pairKey xs ys) :=
  .tup ht (.cons (nk_nums ha) (.cons (nk_nums hb) .nil))
/-- the places of the simple roots -/
def placesL (n : Nat) (ts : List Addr) : List NE := (List.range n).map fun i => (pairKey (sing n i) (sing n i), ts.getD i 0, .int i)
theorem places_none {n : Nat} {ts : List Addr} {xs ys : List Int} (h : ∀ i, i < n → xs ≠ sing n i) : valN (placesL n ts) (pairKey xs ys) = none := by
  unfold valN placesL
  rw [List.find?_eq_none.mpr]; rfl
  intro e he
  obtain ⟨i, hi, rfl⟩ := List.mem_map.mp he
  intro z
  exact h i (List.mem_range.mp hi) (pairKey_inj (of_decide_eq_true z)).symm
theorem places_some {n i : Nat} {ts : List Addr} (hi : i < n) : valN (placesL n ts) (pairKey (sing n i) (sing n i)) = some (.int i) := by
  unfold valN
  cases e : (placesL n ts).find? fun e => decide (e.1 = pairKey (sing n i) (sing n i)) with
  | none =>
    have := List.find?_eq_none.mp e (pairKey (sing n i) (sing n i), ts.getD i 0, .int i) (List.mem_map.mpr ⟨i, List.mem_range.mpr hi, rfl⟩)
    simp at this
  | some x =>
    have h1 := List.find?_some e
    have h2 := List.mem_of_find?_eq_some e
    obtain ⟨j, hj, rfl⟩ := List.mem_map.mp h2
    have := sing_inj (List.mem_range.mp hj) (pairKey_inj (of_decide_eq_true h1))
    rw [this]; rfl
/-- the pushes of loose fixers -/
structure Loose (n : Nat) (M : Nat → Nat → Int) : Prop where
  diag : ∀ i, M i i = 0
  two : ∀ i j, M i j = 0 ∨ M i j = 2
  sym : ∀ i j, M i j = M j i
def moveV (M : Nat → Nat → Int) (i f : Nat) : V := if f ≠ i ∧ M f i = 0 then .int i else .non
section
variable {P : Program} {w : World} {K : PySem.W.Frag} {mg : Str → Option Value} {base : Heap}
def RootsAt (H : Hp) (lr : Addr) (ts : List Addr) (n : Nat) : Prop := H lr = some (.lst (ts.map V.ref)) ∧ ts.length = n ∧ ∀ (i : Nat) t, ts[i]? = some t → ∃ a b, H t = some (.tup [.ref a, .ref b]) ∧ H a = some (.tup ((sing n i).map V.int)) ∧ H b = some (.tup ((sing n i).map V.int))
theorem RootsAt.mono {H H' : Hp} {lr : Addr} {ts : List Addr} {n : Nat} (h : RootsAt H lr ts n) (s : Same H H') : RootsAt H' lr ts n :=
  ⟨s _ _ h.1, h.2.1, fun i t e => let ⟨a, b, h1, h2, h3⟩ := h.2.2 i t e; ⟨a, b, s _ _ h1, s _ _ h2, s _ _ h3⟩⟩
def spMoveOf (P : Program) (w : World) (K : PySem.W.Frag) : Sp := fun vs H Q _ => ∃ (p l lr d lm t : Addr) (ts : List Addr) (n f i : Nat) (M : Nat → Nat → Int), vs = [.ref p, .ref t, .int f] ∧ MarksI K H p l lr d lm ∧ MatAt H l n M ∧ RootsAt H lr ts n ∧ NDict P w H d (placesL n ts) ∧
  ts[i]? = some t ∧ f < n ∧ n ≤ 6 ∧ Loose n M ∧ ∀ H', Same H H' → Q (moveV M i f) H'
theorem ok_Marks_move_of (T : Says K mg) : Ok P w K mg base 2 ("Marks", some "move_of") ["self", "root", "fixer"] (spMoveOf P w K) := by
  have G_Marks_measures := FnOk.mono (k := 1) (ok_Marks_measures (P := P) (w := w) (base := base) T) (by decide)
  have G_lowered := FnOk.mono (k := 1) (ok_lowered (P := P) (w := w) (base := base) T) (by decide)
  refine FunD.ok (d_Marks_move_of T) sc_Marks_move_of (fun vs H Q E h => ?len) (fun cdv A outer s H vs Q E hr h => ?bod)
  case len =>
    obtain ⟨p, l, lr, d, lm, t, ts, n, f, i, M, rfl, _⟩ := h; rfl
  case bod =>
    obtain ⟨p, l, lr, d, lm, t, ts, n, f, i, M, rfl, hI, hMat, hR, hD, hti, hf, hn, hL, k⟩ := h
    obtain ⟨a, b, ht, ha, hb⟩ := hR.2.2 i t hti
    have hin : i < n := hR.2.1 ▸ lt_of_get hti
    have ⟨dx, hi⟩ := hI
    refine ⟨_, PSs.nox (pss_cons (ps_asg (pe_meth (pv 0) (T.cls_ 37) (T.meth_ 36) G_Marks_measures hr (b_Marks_measures T) .nil pass0 (pa_cons (pv 1) (pa_cons (pv 2) pa_nil))) (k_tup (K := K) (n := 2) (by rfl) rfl (pgs_cons (pg_name (i := 3) sc_Marks_move_of.nd rfl (Or.inl rfl)) (pgs_cons (pg_name (i := 4) sc_Marks_move_of.nd rfl (Or.inl rfl)) pgs_nil))))
      (pss_cons (ps_set (i := 5) sc_Marks_move_of.nd rfl (Or.inl rfl) (pe_tup (pa_cons (pe_call G_lowered hr (by rfl) (T.glo_ 38) (d_lowered T).kp (b_lowered T) .nil pass0 (pa_cons (pe_ix (k_ixT (K := K) (by rfl)) (pv 1) pe_int (fun _ _ => rfl)) (pa_cons (pv 2) (pa_cons (pv 3) pa_nil)))) (pa_cons (pe_call G_lowered hr (by rfl) (T.glo_ 38) (d_lowered T).kp (b_lowered T) .nil pass0 (pa_cons (pe_ix (k_ixT (K := K) (by rfl)) (pv 1) pe_int (fun _ _ => rfl)) (pa_cons (pv 2) (pa_cons (pv 4) pa_nil)))) pa_nil))))
      (pss_cons (ps_if (pw_and (pt_cmpR (k_nnotin (P := P) (w := w) (by rfl) (by rfl) (u12 hr)) (pv 5) (k_fld (K := K) (by rfl) (pv 0) rfl) (by rfl)) (pw_and (pt_cmpR op_lt (pv 3) pe_int (nomark _)) (pw_and1 (pt_cmpR op_lt (pe_op op_mul (pv 3) (pv 4)) (pe_globI (by rfl) (T.int_ 40)) (nomark _))))).pt (pss_cons (k_nput (P := P) (w := w) (by rfl) (by rfl) (u12 hr) (k_fld (K := K) (by rfl) (pv 0) rfl) (pv 5) (pe_callB (k_len (K := K) (by rfl)) (by rfl) (T.free_ 7) (by decide +kernel) (pa_cons (k_fld (K := K) (by rfl) (pv 0) rfl) pa_nil)) rfl)
      (pss_one (ps_expr (pe_bm PySem.F.plainAttrs_list PySem.F.slot_list_append PySem.F.type_list_append mt_append (k_fld (K := K) (by rfl) (pv 0) rfl) (pa_cons (pv 5) pa_nil))))) pss_nil)
      (pss_one (ps_ret (k_nget2 (P := P) (w := w) (by rfl) (by rfl) (u12 hr) (k_fld (K := K) (by rfl) (pv 0) rfl) (pv 5) pe_non ⟨rfl, rfl, rfl, rfl⟩)))))), ?_⟩
    have hM : ∀ i j, 0 ≤ M i j ∧ M i j ≤ 4 := fun i j => by rcases hL.two i j with h | h <;> rw [h] <;> decide
    refine ⟨_, rfl, p, dx, _, rfl, hi, rfl, _, rfl, _, rfl, p, l, lr, d, lm, t, a, b, n, f, M, _, _, rfl, hI, hMat, .inl (.inl ht), .inl (.inl ha), .inl (.inl hb), hf, hn, sing_len n i, sing_len n i, hM, fun H1 u s1 hu => ?_⟩
    rw [dot_sing _ _ _ hin, dot_sing _ _ _ hin, sing_getD hf, hL.sym i f] at hu
    generalize hm : 2 * (if f = i then (1 : Int) else 0) - M f i = m at hu
    refine ⟨u, _, rfl, hu, rfl, _, _, rfl, _, _, rfl, rfl, ?_⟩
    have ht1 := s1 _ _ ht
    have hx : ∀ c : V, atI [V.ref a, V.ref b] 0 = some (.ref a) := fun _ => rfl
    refine ⟨_, rfl, t, _, _, _, rfl, rfl, .inl (.inl ht1), rfl, _, rfl, _, rfl, a, sing n i, f, m, rfl, .inl (.inl (s1 _ _ ha)), by rw [sing_len]; exact hf, by rw [sing_len]; exact hn, fun H2 a2 s2 h2 => ?_⟩
    have s12 := s1.trans s2
    refine ⟨_, rfl, t, _, _, _, rfl, rfl, .inl (.inl (s12 _ _ ht)), rfl, _, rfl, _, rfl, b, sing n i, f, m, rfl, .inl (.inl (s12 _ _ hb)), by rw [sing_len]; exact hf, by rw [sing_len]; exact hn, fun H3 b3 s3 h3 => ?_⟩
    refine ⟨by show 2 ≤ sizeLine; decide, fun u2 hu2 => ?_⟩
    have s4 := same_upd (o := .tup [.ref a2, .ref b3]) (s12.trans s3) ((s12.trans s3).free hu2)
    have s34 := same_new (o := .tup [.ref a2, .ref b3]) hu2
    have key : NkAt (upd H3 u2 (.tup [.ref a2, .ref b3])) (.ref u2) (pairKey (lowL (sing n i) f m) (lowL (sing n i) f m)) := nk_pair upd_same (s34 _ _ (s3 _ _ h2)) (s34 _ _ h3)
    have hD4 := hD.mono s4
    have hi4 := s4 _ _ hi
    generalize upd H3 u2 (.tup [.ref a2, .ref b3]) = H4 at s4 key hD4 hi4
    -- the last line
    have fin : ∀ (v : V), (valN (placesL n ts) (pairKey (lowL (sing n i) f m) (lowL (sing n i) f m))).getD .non = v → v = moveV M i f →
        tRet (tNGet2 P w (tFld K (tVar 0) "own_places") (tVar 5) (tC V.non)) { nx := fun x H' => Q V.non H', rt := Q } [some (.ref p), some (.ref t), some (.int f), some (.int m), some (.int m), some (.ref u2)] H4 := by
      intro v e1 e2
      refine ⟨_, rfl, p, _, dx, _, _, rfl, hi4, cl_Marks T, na_Marks_own_places T, rfl, d, _, rfl, hD4, _, rfl, u2, _, _, rfl, hD4, key, depth_pair _ _, ?_⟩
      rw [e1, e2]
      exact k _ s4
    have hfl : f < (sing n i).length := by rw [sing_len]; exact hf
    have nin : ∀ b : Bool, (!(valN (placesL n ts) (pairKey (lowL (sing n i) f m) (lowL (sing n i) f m))).isSome) = b → V.bl (!(valN (placesL n ts) (pairKey (lowL (sing n i) f m) (lowL (sing n i) f m))).isSome) = V.bl b := fun b e => by rw [e]
    by_cases e : f = i
    · subst e
      rw [if_pos rfl, hL.diag] at hm
      have hn1 := places_none (n := n) (ts := ts) (ys := lowL (sing n f) f m) fun j _ => low_ne (m := m) (i := f) (j := j) hf (.inl ⟨by omega, rfl⟩)
      refine ⟨_, rfl, _, rfl, p, _, dx, _, _, rfl, hi4, cl_Marks T, na_Marks_own_places T, rfl, u2, d, _, _, rfl, rfl, hD4, key, depth_pair _ _, true, nin _ (by rw [hn1]; rfl), iteT ⟨_, rfl, _, _, rfl, rfl, false, ?_, iteF (iteF ?_)⟩⟩
      · show V.bl (decide (m < 0)) = _; rw [decide_eq_false (by omega)]
      · exact fin _ rfl (by rw [hn1]; unfold moveV; rw [if_neg (fun z => z.1 rfl)]; rfl)
    · rw [if_neg e] at hm
      rcases hL.two f i with h0 | h2
      · have hm0 : m = 0 := by omega
        have hs := places_some (n := n) (ts := ts) hin
        have el : lowL (sing n i) f m = sing n i := by rw [hm0]; exact lowL_zero hfl
        refine ⟨_, rfl, _, rfl, p, _, dx, _, _, rfl, hi4, cl_Marks T, na_Marks_own_places T, rfl, u2, d, _, _, rfl, rfl, hD4, key, depth_pair _ _, false, nin _ (by rw [el, hs]; rfl), ?_⟩
        refine iteF ?_
        exact fin _ rfl (by rw [el, hs]; unfold moveV; rw [if_pos ⟨e, h0⟩]; rfl)
      · have hm2 : m = -2 := by omega
        have hn1 := places_none (n := n) (ts := ts) (ys := lowL (sing n i) f m) fun j _ => low_ne (m := m) (i := i) (j := j) hf (.inr ⟨hm2, e⟩)
        refine ⟨_, rfl, _, rfl, p, _, dx, _, _, rfl, hi4, cl_Marks T, na_Marks_own_places T, rfl, u2, d, _, _, rfl, rfl, hD4, key, depth_pair _ _, true, nin _ (by rw [hn1]; rfl), iteT ⟨_, rfl, _, _, rfl, rfl, true, ?_, iteT ⟨_, rfl, _, rfl, _, _, rfl, rfl, .inl ⟨by omega, by omega⟩, _, _, rfl, rfl, false, ?_, iteF ?_⟩⟩⟩
        · show V.bl (decide (m < 0)) = _; rw [decide_eq_true (by omega)]
        · show V.bl (decide (m * m < 4)) = _; rw [hm2]; rfl
        · exact fin _ rfl (by rw [hn1]; unfold moveV; rw [if_neg (fun z => by rw [h2] at z; exact absurd z.2 (by decide))]; rfl)
end
end T85
end

section
set_option Elab.async false
set_option linter.all false
set_option maxRecDepth 100000
set_option maxHeartbeats 4000000
namespace T85
open PySem PySem.Spec L2 Fx
theorem snoc_all {α : Type} {l : List α} {x : α} {Pp : Nat → α → Prop} (h : ∀ j r, l[j]? = some r → Pp j r) (hx : Pp l.length x) : ∀ (j : Nat) r, (l ++ [x])[j]? = some r → Pp j r := by
  intro j r e
  by_cases hj : j < l.length
  · rw [List.getElem?_append_left hj] at e; exact h j r e
  · have : j = l.length := by have := lt_of_get e; rw [List.length_append, List.length_singleton] at this; omega
    subst this
    rw [List.getElem?_append_right (Nat.le_refl _), Nat.sub_self] at e
    injection e with e
    rw [← e]; exact hx
def WM (Pv : Nat → L2.St → Hp → Prop) (N : Nat) : Nat → L2.St → Hp → Prop := fun m σ H => ∃ i, i ≤ N ∧ m = N - i ∧ Pv i σ H
theorem wm_nx {Pv : Nat → L2.St → Hp → Prop} {N i : Nat} (hi : i < N) : ∀ σ' H', Pv (i + 1) σ' H' → ∃ m', m' < N - i ∧ WM Pv N m' σ' H' := fun σ' H' p => ⟨N - (i + 1), by omega, i + 1, hi, rfl, p⟩
/-- while, at most N turns -/
theorem while_m {c : TT} {tb : TS} {D : Ends} {σ : L2.St} {H : Hp} (Pv : Nat → L2.St → Hp → Prop) (N : Nat) (h0 : Pv 0 σ H)
    (hs : ∀ i σ H, i ≤ N → Pv i σ H → c σ H fun b H1 => if b = true then ∃ Nx : L2.St → Hp → Prop, (∀ σ' H', Nx σ' H' → ∃ m', m' < N - i ∧ WM Pv N m' σ' H') ∧ tb { D with nx := Nx, ct := Nx, bk := D.nx } σ H1 else D.nx σ H1) : tWhile c tb D σ H := by
  refine ⟨WM Pv N, ⟨N, 0, Nat.zero_le _, rfl, h0⟩, ?_⟩
  rintro m σ H ⟨i, hi, rfl, p⟩
  exact hs i σ H hi p
/-- all but instances stay -/
def SameN (H H' : Hp) : Prop := ∀ a o, H a = some o → (∀ C dx fs, o ≠ .ins C dx fs) → H' a = some o
theorem SameN.refl (H : Hp) : SameN H H := fun _ _ h _ => h
theorem Same.n {H H' : Hp} (s : Same H H') : SameN H H' := fun a o h _ => s a o h
theorem SameN.trans {H H1 H2 : Hp} (s : SameN H H1) (s' : SameN H1 H2) : SameN H H2 := fun a o h n => s' a o (s a o h n) n
theorem samen_ins {H : Hp} {p C dx : Addr} {fs : List (Str × V)} {o : HO} (h : H p = some (.ins C dx fs)) : SameN H (upd H p o) := fun a u e n => by
  rw [upd_ne (fun z => by rw [z, h] at e; exact n _ _ _ (Option.some.inj e).symm)]; exact e
theorem ni_lst {l : List V} : ∀ C dx fs, HO.lst l ≠ .ins C dx fs := fun _ _ _ h => by cases h
theorem ni_tup {l : List V} : ∀ C dx fs, HO.tup l ≠ .ins C dx fs := fun _ _ _ h => by cases h
theorem ni_ext {g : Heap → Prop} : ∀ C dx fs, HO.ext g ≠ .ins C dx fs := fun _ _ _ h => by cases h
theorem ni_dK {l : List (Key × V)} : ∀ C dx fs, HO.dK l ≠ .ins C dx fs := fun _ _ _ h => by cases h
theorem MatAt.n {H H' : Hp} {l : Addr} {n : Nat} {M : Nat → Nat → Int} (h : MatAt H l n M) (s : SameN H H') : MatAt H' l n M := let ⟨rs, h1, h2, h3⟩ := h; ⟨rs, s _ _ h1 ni_lst, h2, fun i r e => s _ _ (h3 i r e) ni_lst⟩
theorem RootsAt.n {H H' : Hp} {lr : Addr} {ts : List Addr} {n : Nat} (h : RootsAt H lr ts n) (s : SameN H H') : RootsAt H' lr ts n :=
  ⟨s _ _ h.1 ni_lst, h.2.1, fun i t e => let ⟨a, b, h1, h2, h3⟩ := h.2.2 i t e; ⟨a, b, s _ _ h1 ni_tup, s _ _ h2 ni_tup, s _ _ h3 ni_tup⟩⟩
theorem NDict.n {P : Program} {w : World} {H H' : Hp} {d : Addr} {kvs : List NE} (h : NDict P w H d kvs) (s : SameN H H') : NDict P w H' d kvs := ⟨s _ _ h.1 ni_ext, fun e he => ⟨(h.2 e he).1.mono fun _ _ z => s _ _ z ni_tup, (h.2 e he).2⟩⟩
theorem sql_n {K : PySem.W.Frag} {H H' : Hp} {a : Addr} {xs : List V} (h : H a = some (.lst xs)) (s : SameN H H') : SqL K H' a xs := SqL.of (s _ _ h ni_lst)
/-- the pushes of a book whose rests are 2 or None -/
def looseR (R : Rs) : Prop := ∀ a b, R a b = none ∨ R a b = some 2
def matOf (names : List Str) (R : Rs) (i j : Nat) : Int := if i = j then 0 else pushI R (names.getD i "") (names.getD j "")
theorem pushI_two {R : Rs} (h : looseR R) (a b : Str) : pushI R a b = if R (ordP a b).1 (ordP a b).2 = some 2 then 0 else 2 := by
  unfold pushI
  rcases h (ordP a b).1 (ordP a b).2 with e | e <;> rw [e] <;> split <;> rfl
theorem ordP_sym (a b : Str) : ordP a b = ordP b a := by
  unfold ordP
  by_cases h : a.cps.toList < b.cps.toList
  · rw [if_pos h, if_neg (ltS_asymm h)]
  · by_cases h2 : b.cps.toList < a.cps.toList
    · rw [if_neg h, if_pos h2]
    · by_cases e : a = b
      · subst e; rfl
      · rcases ltS_or e with z | z
        · exact absurd z h
        · exact absurd z h2
theorem loose_mat {names : List Str} {R : Rs} (h : looseR R) (n : Nat) : Loose n (matOf names R) := by
  refine ⟨fun i => by unfold matOf; rw [if_pos rfl], fun i j => ?_, fun i j => ?_⟩
  · unfold matOf
    split
    · exact .inl rfl
    · rw [pushI_two h]; split <;> simp
  · unfold matOf
    by_cases e : i = j
    · subst e; rfl
    · rw [if_neg e, if_neg (fun z => e z.symm), pushI_two h, pushI_two h, ordP_sym]
theorem okR_loose {R : Rs} (h : looseR R) : okR R := fun a b => (h a b).elim .inl fun z => .inr (.inl z)
def MovesAt (H : Hp) (lm : Addr) (n : Nat) (M : Nat → Nat → Int) : Prop := ∃ ms : List Addr, H lm = some (.lst (ms.map V.ref)) ∧ ms.length = n ∧ ∀ (j : Nat) r, ms[j]? = some r → H r = some (.lst ((List.range n).map (moveV M j)))
def placesU (n : Nat) (ts : List Addr) (i : Nat) : List NE := (List.range i).map fun i => (pairKey (sing n i) (sing n i), ts.getD i 0, .int i)
theorem placesU_put {n : Nat} {ts : List Addr} {i : Nat} {t : Addr} (hi : i < n) (ht : ts[i]? = some t) : putN (placesU n ts i) (pairKey (sing n i) (sing n i)) t (.int i) = placesU n ts (i + 1) := by
  have hnone : valN (placesU n ts i) (pairKey (sing n i) (sing n i)) = none := by
    unfold valN placesU
    rw [List.find?_eq_none.mpr]; rfl
    intro e he
    obtain ⟨j, hj, rfl⟩ := List.mem_map.mp he
    intro z
    have := sing_inj (i := j) (by have := List.mem_range.mp hj; omega) (pairKey_inj (of_decide_eq_true z))
    have := List.mem_range.mp hj; omega
  unfold putN
  rw [hnone]
  show placesU n ts i ++ _ = _
  unfold placesU
  rw [List.range_succ, List.map_append, List.map_cons, List.map_nil, List.getD_eq_getElem?_getD, ht]; rfl
section
variable {P : Program} {w : World} {K : PySem.W.Frag} {mg : Str → Option Value} {base : Heap}
def spMarksInit (K : PySem.W.Frag) : Sp := fun vs H Q _ => ∃ (p dx bk t q : Addr) (names : List Str) (R : Rs), vs = [.ref p, .ref bk] ∧ H p = some (.ins (He.ga K "Marks") dx []) ∧ BookAt K H bk t q names R ∧ Srt names ∧ names.length ≤ 6 ∧ looseR R ∧
  ∀ H' l lr d lm, SameX [p] H H' → MarksI K H' p l lr d lm → MovesAt H' lm names.length (matOf names R) → Q .non H'
theorem ok_Marksdd_initdd (T : Says K mg) : Ok P w K mg base 5 ("Marks", some "__init__") ["self", "book"] (spMarksInit K) := by
  have G_push := FnOk.mono (k := 4) (ok_push (P := P) (w := w) (base := base) T) (by decide)
  have G_single := FnOk.mono (k := 4) (ok_single (P := P) (w := w) (base := base) T) (by decide)
  have G_Marks_move_of := FnOk.mono (k := 4) (ok_Marks_move_of (P := P) (w := w) (base := base) T) (by decide)
  refine FunD.ok (d_Marksdd_initdd T) sc_Marksdd_initdd (fun vs H Q E h => ?len) (fun cdv A outer s H vs Q E hr h => ?bod)
  case len =>
    obtain ⟨p, dx, bk, t, q, names, R, rfl, _⟩ := h; rfl
  case bod =>
    obtain ⟨p, dx, bk, t, q, names, R, rfl, hi, hB, hS, hn, hR, k⟩ := h
    obtain ⟨n, hnn⟩ : ∃ n, n = names.length := ⟨_, rfl⟩
    obtain ⟨bx, hb⟩ := hB.ins
    have hbp : bk ≠ p := ne_of hb hi (by intro z; injection z with _ _ z; cases z)
    have hL := loose_mat (names := names) hR n
    have hnd := hS.nodup
    refine ⟨_, PSs.nox (pss_cons (ps_set (i := 2) sc_Marksdd_initdd.nd rfl (Or.inr rfl) (k_fld (K := K) (by rfl) (pv 1) rfl))
      (pss_cons (ps_fld (pv 0) (pe_lc (own := [("a", 4)]) rfl sc_Marksdd_initdd.nd (k_pit (K := K) (by rfl) (pv 2)) (blkOk_by (N := N_Marksdd_initdd) (sc := defScope s_Marksdd_initdd) (by decide +kernel)) (fun _ _ _ _ _ => (pg_name (i := 4) sc_Marksdd_initdd.nd rfl (Or.inr rfl))) (fun _ _ _ _ _ => pts_nil) (fun _ _ _ _ _ => (pe_lc (own := [("b", 3)]) rfl sc_Marksdd_initdd.nd (k_pit (K := K) (by rfl) (pv 2)) (blkOk_by (by kernel_rfl)) (fun _ _ _ _ _ => (pg_name (i := 3) sc_Marksdd_initdd.nd rfl (Or.inl rfl))) (fun _ _ _ _ _ => pts_nil) (fun _ _ _ _ _ => (pe_ifExp (pt_cmpR op_eq (pv 4) (pv 3) (nomark _)) pe_int (pe_call G_push hr (by rfl) (T.glo_ 42) (d_push T).kp (b_push T) .nil pass0 (pa_cons (pv 1) (pa_cons (pv 4) (pa_cons (pv 3) pa_nil))))))))) rfl)
      (pss_cons (ps_fld (pv 0) (pe_lc (own := [("at", 5)]) rfl sc_Marksdd_initdd.nd (pi_range1 (by rfl) (T.free_ 32) (pa_cons (pe_callB (k_len (K := K) (by rfl)) (by rfl) (T.free_ 7) (by decide +kernel) (pa_cons (pv 2) pa_nil)) pa_nil)) (blkOk_by (N := N_Marksdd_initdd) (sc := defScope s_Marksdd_initdd) (by decide +kernel)) (fun _ _ _ _ _ => (pg_name (i := 5) sc_Marksdd_initdd.nd rfl (Or.inl rfl))) (fun _ _ _ _ _ => pts_nil) (fun _ _ _ _ _ => (pe_tup (pa_cons (pe_call G_single hr (by rfl) (T.glo_ 43) (d_single T).kp (b_single T) .nil pass0 (pa_cons (pe_callB (k_len (K := K) (by rfl)) (by rfl) (T.free_ 7) (by decide +kernel) (pa_cons (pv 2) pa_nil)) (pa_cons (pv 5) pa_nil))) (pa_cons (pe_call G_single hr (by rfl) (T.glo_ 43) (d_single T).kp (b_single T) .nil pass0 (pa_cons (pe_callB (k_len (K := K) (by rfl)) (by rfl) (T.free_ 7) (by decide +kernel) (pa_cons (pv 2) pa_nil)) (pa_cons (pv 5) pa_nil))) pa_nil))))) rfl)
      (pss_cons (ps_fld (pv 0) (k_dcN (P := P) (w := w) (by rfl) (by rfl) (own := [("at", 5), ("root", 6)]) rfl (u12 hr) sc_Marksdd_initdd.nd (k_pienum (K := K) (by rfl) (by rfl) (T.free_ 13) (pa_cons (k_fld (K := K) (by rfl) (pv 0) rfl) pa_nil)) (blkOk_by (N := N_Marksdd_initdd) (sc := defScope s_Marksdd_initdd) (by decide +kernel)) (fun _ _ _ _ _ => (k_tup (K := K) (n := 2) (by rfl) rfl (pgs_cons (pg_name (i := 5) sc_Marksdd_initdd.nd rfl (Or.inl rfl)) (pgs_cons (pg_name (i := 6) sc_Marksdd_initdd.nd rfl (Or.inl rfl)) pgs_nil)))) (fun _ _ _ _ _ => (pv 6)) (fun _ _ _ _ _ => (pv 5))) rfl)
      (pss_cons (ps_fld (pv 0) (pe_lst pa_nil) rfl)
      (pss_one (ps_while PassesOwn.never (pt_cmpR op_lt (pe_callB (k_len (K := K) (by rfl)) (by rfl) (T.free_ 7) (by decide +kernel) (pa_cons (k_fld (K := K) (by rfl) (pv 0) rfl) pa_nil)) (pe_callB (k_len (K := K) (by rfl)) (by rfl) (T.free_ 7) (by decide +kernel) (pa_cons (k_fld (K := K) (by rfl) (pv 0) rfl) pa_nil)) (nomark _)) (pss_cons (ps_set (i := 6) sc_Marksdd_initdd.nd rfl (Or.inr rfl) (pe_ix (k_ixL (K := K) (by rfl)) (k_fld (K := K) (by rfl) (pv 0) rfl) (pe_callB (k_len (K := K) (by rfl)) (by rfl) (T.free_ 7) (by decide +kernel) (pa_cons (k_fld (K := K) (by rfl) (pv 0) rfl) pa_nil)) (fun _ _ => rfl)))
      (pss_one (ps_expr (pe_bm PySem.F.plainAttrs_list PySem.F.slot_list_append PySem.F.type_list_append mt_append (k_fld (K := K) (by rfl) (pv 0) rfl) (pa_cons (pe_lc (own := [("fixer", 7)]) rfl sc_Marksdd_initdd.nd (pi_range1 (by rfl) (T.free_ 32) (pa_cons (pe_callB (k_len (K := K) (by rfl)) (by rfl) (T.free_ 7) (by decide +kernel) (pa_cons (pv 2) pa_nil)) pa_nil)) (blkOk_by (N := N_Marksdd_initdd) (sc := defScope s_Marksdd_initdd) (by decide +kernel)) (fun _ _ _ _ _ => (pg_name (i := 7) sc_Marksdd_initdd.nd rfl (Or.inl rfl))) (fun _ _ _ _ _ => pts_nil) (fun _ _ _ _ _ => (pe_meth (pv 0) (T.cls_ 37) (T.meth_ 45) G_Marks_move_of hr (b_Marks_move_of T) .nil pass0 (pa_cons (pv 6) (pa_cons (pv 7) pa_nil))))) pa_nil)))))))))))), ?_⟩
    refine ⟨_, rfl, bk, _, bx, _, _, rfl, hb, cl_Book T, na_Book_own_fixers T, rfl, ?_⟩
    -- own_pushes
    refine ⟨_, rfl, t, rfl, ⟨_, hB.tup⟩, fun D hD => ?_⟩
    refine lcm_tup (xs := names.map V.str) (fun i acc H1 => ∃ rs : List Addr, Same H H1 ∧ H1 D = some (.lst acc) ∧ acc = rs.map V.ref ∧ rs.length = i ∧ ∀ (j : Nat) r, rs[j]? = some r → r ≠ D ∧ H1 r = some (.lst (((List.range n).map (matOf names R j)).map V.int)))
      ⟨[], same_new hD, upd_same, rfl, rfl, by simp⟩ (fun i acc H1 ⟨_, s, _⟩ => sqt_mono s hB.tup) ?_ ?_
    · rintro i x acc H1 hx ⟨rs, s1, hD1, rfl, hrl, hrr⟩
      obtain ⟨a, ha, rfl⟩ := getElem?_map_some hx
      have hin : i < n := hnn ▸ lt_of_get ha
      refine ⟨_, rfl, t, rfl, ⟨_, sqt_mono s1 hB.tup⟩, fun D2 hD2 => ?_⟩
      refine lcm_tup (xs := names.map V.str) (fun j acc H2 => Same H1 H2 ∧ H2 D2 = some (.lst acc) ∧ acc = (((List.range j).map (matOf names R i)).map V.int)) ⟨same_new hD2, upd_same, rfl⟩ (fun j acc H2 ⟨s, _⟩ => sqt_mono (s1.trans s) hB.tup) ?_ ?_
      · rintro j y acc H2 hy ⟨s2, hD2', rfl⟩
        obtain ⟨b, hb', rfl⟩ := getElem?_map_some hy
        have hjn : j < n := hnn ▸ lt_of_get hb'
        have eacc : ∀ v : Int, v = matOf names R i j → ((List.range j).map (matOf names R i)).map V.int ++ [V.int v] = ((List.range (j + 1)).map (matOf names R i)).map V.int := fun v e => by
          rw [List.range_succ, List.map_append, List.map_append, e]; rfl
        refine ⟨_, rfl, _, rfl, rfl, decide (a = b), by show V.bl (decide (V.str a = V.str b)) = _; rw [show decide (V.str a = V.str b) = decide (a = b) from by by_cases e : a = b <;> simp [e]], ?_⟩
        by_cases e : a = b
        · rw [decide_eq_true e]
          have eij : i = j := (List.getElem?_inj (i := i) (lt_of_get ha) hnd).mp (by rw [ha, hb', e]) 
          refine iteT ⟨_, hD2', by simp; exact small1000 (by omega), _, same_upd s2 hD2, upd_same, eacc 0 (by unfold matOf; rw [if_pos eij])⟩
        · rw [decide_eq_false e]
          have eij : i ≠ j := fun z => by subst z; rw [ha] at hb'; exact e (Option.some.inj hb')
          refine iteF ⟨_, rfl, _, rfl, _, rfl, bk, t, q, names, R, a, b, rfl, hB.mono (s1.trans s2), List.mem_of_getElem? ha, List.mem_of_getElem? hb', e, hS, okR_loose hR, fun H3 s3 => ⟨_, s3 _ _ hD2', by simp; exact small1000 (by omega), _, same_upd (s2.trans s3) hD2, upd_same, eacc _ ?_⟩⟩
          unfold matOf
          rw [if_neg eij, List.getD_eq_getElem?_getD, List.getD_eq_getElem?_getD, ha, hb']; rfl
      · rintro acc H2 ⟨s2, hD2', rfl⟩
        rw [List.length_map, ← hnn] at hD2'
        have nD : D2 ≠ D := ne_of_none' hD1 hD2
        refine ⟨_, s2 _ _ hD1, by simp; exact small1000 (by omega), _, rs ++ [D2], same_upd (s1.trans s2) hD, upd_same, by simp, by simp [hrl], snoc_all (fun j r hj => ?_) ?_⟩
        · obtain ⟨z1, z2⟩ := hrr j r hj
          exact ⟨z1, by rw [upd_ne z1]; exact s2 _ _ z2⟩
        · rw [hrl]; exact ⟨nD, by rw [upd_ne nD]; exact hD2'⟩
    rintro acc H1 ⟨rs, s1, hD1, rfl, hrl, hrr⟩
    rw [List.length_map, ← hnn] at hrl
    have hMat : MatAt H1 D n (matOf names R) := ⟨rs, hD1, hrl, fun j r hj => (hrr j r hj).2⟩
    have hi1 := s1 _ _ hi
    refine ⟨_, rfl, p, _, dx, _, rfl, hi1, cl_Marks T, na_Marks_own_pushes T, (by show 0 < 1000; decide), ?_⟩
    have sX1 : SameX [p] H (upd H1 p (.ins (He.ga K "Marks") dx [("own_pushes", .ref D)])) := samex_upd (same_toX s1 _) (.inl (by simp))
    have sN1 : SameN H (upd H1 p (.ins (He.ga K "Marks") dx [("own_pushes", .ref D)])) := (Same.n s1).trans (samen_ins hi1)
    have hMat1 := hMat.n (samen_ins (o := .ins (He.ga K "Marks") dx [("own_pushes", .ref D)]) hi1)
    have hi2 : (upd H1 p (.ins (He.ga K "Marks") dx [("own_pushes", .ref D)])) p = some (.ins (He.ga K "Marks") dx [("own_pushes", .ref D)]) := upd_same
    show tSeq _ _ _ _ (upd H1 p (.ins (He.ga K "Marks") dx [("own_pushes", .ref D)]))
    generalize upd H1 p (.ins (He.ga K "Marks") dx [("own_pushes", .ref D)]) = H2 at sX1 sN1 hMat1 hi2
    -- own_roots
    have htt : ∀ {H' : Hp}, SameN H H' → H' t = some (.tup (names.map V.str)) := fun s => s _ _ hB.tups ni_tup
    have hlen : (names.map V.str).length = n := by rw [List.length_map, hnn]
    refine ⟨_, rfl, t, _, rfl, .inr (.inl (.inl (htt sN1))), _, rfl, by rw [hlen]; omega, by rw [hlen]; omega, fun D2 hD2 => ?_⟩
    rw [hlen]
    have sD2 := same_new (o := .lst []) hD2
    refine lcm_range (n := n) (fun i acc H3 => ∃ ts : List Addr, Same H2 H3 ∧ H3 D2 = some (.lst acc) ∧ acc = ts.map V.ref ∧ ts.length = i ∧ ∀ (j : Nat) u, ts[j]? = some u → ∃ a b, H3 u = some (.tup [.ref a, .ref b]) ∧ H3 a = some (.tup ((sing n j).map V.int)) ∧ H3 b = some (.tup ((sing n j).map V.int)))
      ⟨[], sD2, upd_same, rfl, rfl, by simp⟩ ?_ ?_
    · rintro i acc H3 hin ⟨ts, s3, hD3, rfl, htl, htr⟩
      have e0 : ∀ (v : Int), v = (n : Int) → V.int v = V.int n := fun v e => by rw [e]
      refine ⟨_, rfl, t, _, rfl, .inr (.inl (.inl (htt (sN1.trans (Same.n s3))))), _, rfl, n, i, ?_, by omega, fun H4 a s4 ha0 ha => ?_⟩
      · rw [hlen, Int.zero_add]; rfl
      refine ⟨_, rfl, t, _, rfl, .inr (.inl (.inl (htt (sN1.trans (Same.n (s3.trans s4)))))), _, rfl, n, i, ?_, by omega, fun H5 b s5 hb0 hb5 => ?_⟩
      · rw [hlen, Int.zero_add]; rfl
      refine ⟨by show 2 ≤ sizeLine; decide, fun u hu => ?_⟩
      have s36 : Same H3 (upd H5 u (.tup [.ref a, .ref b])) := same_upd (s4.trans s5) ((s4.trans s5).free hu)
      have s56 : Same H5 (upd H5 u (.tup [.ref a, .ref b])) := same_new hu
      have hu6 : (upd H5 u (.tup [.ref a, .ref b])) u = some (.tup [.ref a, .ref b]) := upd_same
      generalize upd H5 u (.tup [.ref a, .ref b]) = H6 at s36 s56 hu6
      have hD6 := s36 _ _ hD3
      have up : ∀ {x : Addr} {o : HO}, H6 x = some o → (∀ l, o ≠ .lst l) → (upd H6 D2 (.lst (ts.map V.ref ++ [V.ref u]))) x = some o := fun {x o} hx hne => by
        rw [upd_ne (fun z => by rw [z, hD6] at hx; exact hne _ (Option.some.inj hx).symm)]; exact hx
      refine ⟨_, hD6, by simp; exact small1000 (by omega), _, ts ++ [u], same_upd (s3.trans s36) hD2, upd_same, by simp, by simp [htl], snoc_all (fun j v hj => ?_) ?_⟩
      · obtain ⟨x, y, z1, z2, z3⟩ := htr j v hj
        exact ⟨x, y, up (s36 _ _ z1) (by intro l h; cases h), up (s36 _ _ z2) (by intro l h; cases h), up (s36 _ _ z3) (by intro l h; cases h)⟩
      · rw [htl]
        exact ⟨a, b, up hu6 (by intro l h; cases h), up (s56 _ _ (s5 _ _ ha)) (by intro l h; cases h), up (s56 _ _ hb5) (by intro l h; cases h)⟩
    rintro acc H3 ⟨ts, s3, hD3, rfl, htl, htr⟩
    have hRo : RootsAt H3 D2 ts n := ⟨hD3, htl, htr⟩
    have hi3 := s3 _ _ hi2
    refine ⟨_, rfl, p, _, dx, _, rfl, hi3, cl_Marks T, na_Marks_own_roots T, (by show 1 < 1000; decide), ?_⟩
    have sX2 : SameX [p] H (upd H3 p (.ins (He.ga K "Marks") dx [("own_pushes", .ref D), ("own_roots", .ref D2)])) := samex_upd (sX1.trans (same_toX s3 _)) (.inl (by simp))
    have sN2 : SameN H2 (upd H3 p (.ins (He.ga K "Marks") dx [("own_pushes", .ref D), ("own_roots", .ref D2)])) := (Same.n s3).trans (samen_ins hi3)
    have hMat2 := hMat1.n sN2
    have hRo2 := hRo.n (samen_ins (o := .ins (He.ga K "Marks") dx [("own_pushes", .ref D), ("own_roots", .ref D2)]) hi3)
    have hi4 : (upd H3 p (.ins (He.ga K "Marks") dx [("own_pushes", .ref D), ("own_roots", .ref D2)])) p = some (.ins (He.ga K "Marks") dx [("own_pushes", .ref D), ("own_roots", .ref D2)]) := upd_same
    have sN02 := sN1.trans sN2
    show tSeq _ _ _ _ (upd H3 p (.ins (He.ga K "Marks") dx [("own_pushes", .ref D), ("own_roots", .ref D2)]))
    generalize upd H3 p (.ins (He.ga K "Marks") dx [("own_pushes", .ref D), ("own_roots", .ref D2)]) = H4 at sX2 sN2 sN02 hMat2 hRo2 hi4
    -- own_places
    refine ⟨_, rfl, p, _, dx, _, _, rfl, hi4, cl_Marks T, na_Marks_own_roots T, rfl, D2, _, rfl, SqL.of hRo2.1, fun D3 hD3 => ?_⟩
    have hld := hRo2.2.2
    refine lcw (walk_enum (xs := ts.map V.ref)) (fun i H5 => Same H4 H5 ∧ NDict P w H5 D3 (placesU n ts i)) ⟨same_new hD3, upd_same, by simp [placesU]⟩ (fun i H5 _ h => SqL.of (h.1 _ _ hRo2.1)) ?_ ?_
    · rintro i v H5 H6 hin ⟨s5, hN5⟩ ⟨T', x, y, rfl, hT', rfl, hx, hy⟩
      cases hx
      obtain ⟨u, hu, rfl⟩ := getElem?_map_some hy
      obtain ⟨a, b, z1, z2, z3⟩ := hRo2.2.2 i u hu
      have hin' : i < n := by rw [List.length_map, htl] at hin; exact hin
      have sT : Same H5 (upd H5 T' (.tup [.int (i : Nat), .ref u])) := same_new hT'
      have s6 := s5.trans sT
      have hk : NkAt (upd H5 T' (.tup [.int (i : Nat), .ref u])) (.ref u) (pairKey (sing n i) (sing n i)) := nk_pair (s6 _ _ z1) (s6 _ _ z2) (s6 _ _ z3)
      have hN6 := hN5.mono sT
      refine ⟨T', _, rfl, .inl (.inl upd_same), rfl, _, _, rfl, _, _, rfl, rfl, rfl, _, rfl, _, rfl, _, ⟨u, _, _, rfl, hN6, hk, depth_pair _ _, by simp [placesU]; exact small1000 (by omega), rfl⟩, same_upd s6 hD3, ?_⟩
      have := NPut.dict (v := .int (i : Nat)) hN6 hk (depth_pair _ _)
      rw [placesU_put hin' hu] at this ⊢
      exact this
    rintro H5 ⟨s5, hN5⟩
    rw [List.length_map, htl] at hN5
    have hN5 : NDict P w H5 D3 (placesL n ts) := hN5
    have hi5 := s5 _ _ hi4
    refine ⟨_, rfl, p, _, dx, _, rfl, hi5, cl_Marks T, na_Marks_own_places T, (by show 2 < 1000; decide), ?_⟩
    have sX3 : SameX [p] H (upd H5 p (.ins (He.ga K "Marks") dx [("own_pushes", .ref D), ("own_roots", .ref D2), ("own_places", .ref D3)])) := samex_upd (sX2.trans (same_toX s5 _)) (.inl (by simp))
    have sN3 : SameN H5 (upd H5 p (.ins (He.ga K "Marks") dx [("own_pushes", .ref D), ("own_roots", .ref D2), ("own_places", .ref D3)])) := samen_ins hi5
    have hMat3 := hMat2.n ((Same.n s5).trans sN3)
    have hRo3 := hRo2.n ((Same.n s5).trans sN3)
    have hN3 := NDict.n hN5 sN3
    have sN03 := sN02.trans ((Same.n s5).trans sN3)
    have hi6 : (upd H5 p (.ins (He.ga K "Marks") dx [("own_pushes", .ref D), ("own_roots", .ref D2), ("own_places", .ref D3)])) p = some (.ins (He.ga K "Marks") dx [("own_pushes", .ref D), ("own_roots", .ref D2), ("own_places", .ref D3)]) := upd_same
    show tSeq _ _ _ _ (upd H5 p (.ins (He.ga K "Marks") dx [("own_pushes", .ref D), ("own_roots", .ref D2), ("own_places", .ref D3)]))
    generalize upd H5 p (.ins (He.ga K "Marks") dx [("own_pushes", .ref D), ("own_roots", .ref D2), ("own_places", .ref D3)]) = H6 at sX3 sN03 hMat3 hRo3 hN3 hi6
    -- own_moves
    refine ⟨by show 0 ≤ sizeLine; decide, fun lm hlm => ?_⟩
    have plm : p ≠ lm := fun e => by rw [e, hlm] at hi6; cases hi6
    refine ⟨_, rfl, p, _, dx, _, rfl, by rw [upd_ne plm]; exact hi6, cl_Marks T, na_Marks_own_moves T, (by show 3 < 1000; decide), ?_⟩
    have hi7 : (upd (upd H6 lm (.lst [])) p (.ins (He.ga K "Marks") dx [("own_pushes", .ref D), ("own_roots", .ref D2), ("own_places", .ref D3), ("own_moves", .ref lm)])) p = some (.ins (He.ga K "Marks") dx [("own_pushes", .ref D), ("own_roots", .ref D2), ("own_places", .ref D3), ("own_moves", .ref lm)]) := upd_same
    have hlm7 : (upd (upd H6 lm (.lst [])) p (.ins (He.ga K "Marks") dx [("own_pushes", .ref D), ("own_roots", .ref D2), ("own_places", .ref D3), ("own_moves", .ref lm)])) lm = some (.lst []) := by rw [upd_ne plm.symm, upd_same]
    have sX67 : SameX [p, lm] H6 (upd (upd H6 lm (.lst [])) p (.ins (He.ga K "Marks") dx [("own_pushes", .ref D), ("own_roots", .ref D2), ("own_places", .ref D3), ("own_moves", .ref lm)])) := samex_upd (samex_upd (SameX.refl _ _) (.inl (by simp))) (.inl (by simp))
    show tWhile _ _ _ _ (upd (upd H6 lm (.lst [])) p (.ins (He.ga K "Marks") dx [("own_pushes", .ref D), ("own_roots", .ref D2), ("own_places", .ref D3), ("own_moves", .ref lm)]))
    generalize upd (upd H6 lm (.lst [])) p (.ins (He.ga K "Marks") dx [("own_pushes", .ref D), ("own_roots", .ref D2), ("own_places", .ref D3), ("own_moves", .ref lm)]) = H7 at hi7 hlm7 sX67
    have nn : ∀ {H' : Hp}, SameX [p, lm] H6 H' → SameN H6 H' := fun {H'} s a o e ni => s a o (by
      simp only [List.mem_cons, List.not_mem_nil, or_false, not_or]
      exact ⟨fun z => by rw [z, hi6] at e; exact ni _ _ _ (Option.some.inj e).symm, fun z => by rw [z, hlm] at e; cases e⟩) e
    refine while_m (fun i σ H' => ∃ (v6 : Option V) (ms : List Addr), σ = [some (.ref p), some (.ref bk), some (.ref t), none, none, none, v6, none] ∧ SameX [p, lm] H6 H' ∧ H' p = some (.ins (He.ga K "Marks") dx [("own_pushes", .ref D), ("own_roots", .ref D2), ("own_places", .ref D3), ("own_moves", .ref lm)]) ∧ H' lm = some (.lst (ms.map V.ref)) ∧ ms.length = i ∧
      ∀ (j : Nat) r, ms[j]? = some r → r ≠ lm ∧ H' r = some (.lst ((List.range n).map (moveV (matOf names R) j)))) n ⟨none, [], rfl, sX67, hi7, hlm7, rfl, by simp⟩ ?_
    rintro i σ H8 hin ⟨v6, ms, rfl, s8, hi8, hlm8, hml, hmr⟩
    have hRo8 := hRo3.n (nn s8)
    refine ⟨_, rfl, p, _, dx, _, _, rfl, hi8, cl_Marks T, na_Marks_own_moves T, rfl, lm, _, rfl, .inl (SqL.of hlm8), _, rfl, p, _, dx, _, _, rfl, hi8, cl_Marks T, na_Marks_own_roots T, rfl, D2, _, rfl, .inl (SqL.of hRo8.1), _, _, rfl, rfl, decide (i < n), ?_, ?_⟩
    · rw [List.length_map, List.length_map, hml, htl]
      show V.bl (decide ((i : Int) < (n : Int))) = _
      by_cases e : i < n
      · rw [decide_eq_true e, decide_eq_true (by omega)]
      · rw [decide_eq_false e, decide_eq_false (by omega)]
    by_cases e : i < n
    · rw [decide_eq_true e]
      refine iteT ⟨_, wm_nx e, ?_⟩
      have hMat8 := hMat3.n (nn s8)
      have hN8 := NDict.n hN3 (nn s8)
      obtain ⟨u, hu⟩ : ∃ u, ts[i]? = some u := ⟨_, List.getElem?_eq_getElem (by omega)⟩
      have hui : atI (ts.map V.ref) ((ms.map V.ref).length : Nat) = some (.ref u) := atI_nat (by rw [List.getElem?_map, List.length_map, hml, hu]; rfl)
      refine ⟨_, rfl, p, _, dx, _, _, rfl, hi8, cl_Marks T, na_Marks_own_roots T, rfl, _, rfl, p, _, dx, _, _, rfl, hi8, cl_Marks T, na_Marks_own_moves T, rfl, lm, _, rfl, .inl (SqL.of hlm8), D2, _, _, _, rfl, rfl, SqL.of hRo8.1, hui, ?_⟩
      refine ⟨_, rfl, p, _, dx, _, _, rfl, hi8, cl_Marks T, na_Marks_own_moves T, rfl, .inl ⟨rfl, _, SqL.of hlm8⟩, _, rfl, t, _, rfl, .inr (.inl (.inl (htt (sN03.trans (nn s8))))), _, rfl, by rw [hlen]; omega, by rw [hlen]; omega, fun D4 hD4 => ?_⟩
      rw [hlen]
      have sD4 := same_new (o := .lst []) hD4
      refine lcm_range (n := n) (fun j acc H9 => Same H8 H9 ∧ H9 D4 = some (.lst acc) ∧ acc = (List.range j).map (moveV (matOf names R) i)) ⟨sD4, upd_same, rfl⟩ ?_ ?_
      · rintro j acc H9 hj ⟨s9, hD9, rfl⟩
        refine ⟨_, rfl, p, dx, _, rfl, s9 _ _ hi8, rfl, _, rfl, _, rfl, p, D, D2, D3, lm, u, ts, n, j, i, matOf names R, ?_, ⟨dx, s9 _ _ hi8⟩, hMat8.mono s9, hRo8.mono s9, hN8.mono s9, hu, hj, by omega, hL, fun H10 s10 => ?_⟩
        · rw [Int.zero_add]; rfl
        refine ⟨_, s10 _ _ hD9, by simp; exact small1000 (by omega), _, same_upd (s9.trans s10) hD4, upd_same, ?_⟩
        rw [List.range_succ, List.map_append]; rfl
      rintro acc H9 ⟨s9, hD9, rfl⟩
      have nD : D4 ≠ lm := ne_of_none' hlm8 hD4
      refine ⟨lm, _, _, rfl, rfl, s9 _ _ hlm8, by rw [List.length_map]; exact small1000 (by omega), ?_⟩
      refine ⟨_, ms ++ [D4], rfl, samex_upd (s8.trans (same_toX s9 _)) (.inl (by simp)), by rw [upd_ne plm]; exact s9 _ _ hi8, by rw [upd_same, List.map_append]; rfl, by simp [hml], snoc_all (fun j r hj => ?_) ?_⟩
      · obtain ⟨z1, z2⟩ := hmr j r hj
        exact ⟨z1, by rw [upd_ne z1]; exact s9 _ _ z2⟩
      · rw [hml]; exact ⟨nD, by rw [upd_ne nD]; exact hD9⟩
    · rw [decide_eq_false e]
      refine iteF ?_
      have ein : i = n := by omega
      refine k H8 D D2 D3 lm ?_ ⟨dx, hi8⟩ ?_
      · intro a o hne ha
        exact s8 a o (by simp; exact ⟨by simpa using hne, fun z => by rw [z] at ha; have := sX3 _ _ (by rw [← z]; exact hne) ha; rw [hlm] at this; cases this⟩) (sX3 a o hne ha)
      · rw [← hnn]; exact ⟨ms, hlm8, by omega, fun j r hj => (hmr j r hj).2⟩
end
end T85
end

section
set_option Elab.async false
set_option linter.all false
set_option maxRecDepth 100000
set_option maxHeartbeats 4000000
namespace T85
open PySem PySem.Spec L2 Fx
/-! ### the states -/
def nV (x : Nat) : V := .int (x : Int)
theorem inV_nat (x : Nat) (l : List Nat) : inV (nV x) (l.map nV) = decide (x ∈ l) := by
  induction l with
  | nil => rfl
  | cons y l ih =>
    have h1 : inV (nV x) ((y :: l).map nV) = (((y : Int) == (x : Int)) || inV (nV x) (l.map nV)) := rfl
    rw [h1, ih]
    by_cases e : x = y
    · subst e; simp
    · have e' : ¬ (y : Int) = (x : Int) := by omega
      simp [e, e']
theorem flat_nats (l : List Nat) : (l.map nV).all flatV = true := by
  rw [List.all_eq_true]; intro v hv; obtain ⟨x, _, rfl⟩ := List.mem_map.mp hv; rfl
/-- a run of f where those of xs are done -/
def nxL (n : Nat) (M : Nat → Nat → Int) (xs : List Nat) (f : Nat) : Option (List Nat) := if f ∈ xs then none else some ((List.range n).filter fun m => decide (m = f) || (decide (m ∈ xs) && decide (M f m = 0)))
structure StOk (n : Nat) (xs : List Nat) : Prop where
  up : xs.Pairwise (· < ·)
  lt : ∀ x ∈ xs, x < n
theorem StOk.nodup {n : Nat} {xs : List Nat} (h : StOk n xs) : xs.Nodup := h.up.imp fun z => Nat.ne_of_lt z
theorem StOk.len {n : Nat} {xs : List Nat} (h : StOk n xs) : xs.length ≤ n := by
  have := nodup_le (m := List.range n) h.nodup fun x hx => List.mem_range.mpr (h.lt x hx)
  simpa using this
theorem nx_ok {n : Nat} {M : Nat → Nat → Int} {xs ys : List Nat} {f : Nat} (e : nxL n M xs f = some ys) : StOk n ys := by
  unfold nxL at e
  split at e
  · cases e
  · injection e with e
    subst e
    exact ⟨List.Pairwise.filter _ List.pairwise_lt_range, fun x hx => List.mem_range.mp (List.mem_filter.mp hx).1⟩
theorem nx_perm {n : Nat} {M : Nat → Nat → Int} {xs : List Nat} {f : Nat} (h : StOk n xs) (hf : f < n) (hx : f ∉ xs) : (f :: xs.filter fun m => decide (M f m = 0)).Perm ((List.range n).filter fun m => decide (m = f) || (decide (m ∈ xs) && decide (M f m = 0))) := by
  rw [List.perm_ext_iff_of_nodup]
  · intro a
    simp only [List.mem_cons, List.mem_filter, List.mem_range, Bool.or_eq_true, Bool.and_eq_true, decide_eq_true_eq]
    constructor
    · rintro (rfl | ⟨h1, h2⟩)
      · exact ⟨hf, .inl rfl⟩
      · exact ⟨h.lt a h1, .inr ⟨h1, h2⟩⟩
    · rintro ⟨_, rfl | h⟩
      · exact .inl rfl
      · exact .inr h
  · rw [List.nodup_cons]
    exact ⟨fun z => hx (List.mem_filter.mp z).1, h.nodup.filter _⟩
  · exact List.nodup_range.filter _
theorem int_map_perm {xs : List Nat} {ns : List Int} {ys : List Nat} (p : ns.Perm (xs.map Int.ofNat)) (s : ns.Pairwise (· ≤ ·)) (q : xs.Perm ys) (u : ys.Pairwise (· < ·)) : ns = ys.map Int.ofNat := by
  refine List.Perm.eq_of_pairwise (le := (· ≤ ·)) (fun a b _ _ h1 h2 => Int.le_antisymm h1 h2) s ?_ (p.trans (q.map _))
  rw [List.pairwise_map]
  exact u.imp fun z => by show Int.ofNat _ ≤ Int.ofNat _; simp only [Int.ofNat_eq_natCast]; omega
section
variable {P : Program} {w : World} {K : PySem.W.Frag} {mg : Str → Option Value} {base : Heap}
def spBehind (K : PySem.W.Frag) : Sp := fun vs H Q _ => ∃ (p l lr d lm t : Addr) (n f : Nat) (M : Nat → Nat → Int) (xs : List Nat), vs = [.ref p, .ref t, nV f] ∧ MarksI K H p l lr d lm ∧ MovesAt H lm n M ∧ SqT K H t (xs.map nV) ∧ StOk n xs ∧ f < n ∧ n ≤ 6 ∧
  (nxL n M xs f = none → Q .non H) ∧ (∀ ys H' u, nxL n M xs f = some ys → Same H H' → H' u = some (.tup (ys.map nV)) → Q (.ref u) H')
theorem ok_Marks_behind (T : Says K mg) : Ok P w K mg base 1 ("Marks", some "behind") ["self", "marks", "fixer"] (spBehind K) := by
  refine FunD.ok (d_Marks_behind T) sc_Marks_behind (fun vs H Q E h => ?len) (fun cdv A outer s H vs Q E hr h => ?bod)
  case len =>
    obtain ⟨p, l, lr, d, lm, t, n, f, M, xs, rfl, _⟩ := h; rfl
  case bod =>
    obtain ⟨p, l, lr, d, lm, t, n, f, M, xs, rfl, ⟨dx, hi⟩, ⟨ms, hlm, hml, hmr⟩, ht, hx, hf, hn, k1, k2⟩ := h
    refine ⟨_, PSs.nox (pss_cons (ps_if (pt_cmpR (k_in (K := K) (by rfl)) (pv 2) (pv 1) (by rfl)) (pss_one (ps_ret pe_non)) pss_nil)
      (pss_cons (ps_setLc (i := 3) (own := [("mark", 4)]) rfl sc_Marks_behind.nd rfl rfl (sw_true rfl rfl rfl (by decide +kernel)) (k_pit (K := K) (by rfl) (pv 1)) (blkOk_by (N := N_Marks_behind) (sc := defScope s_Marks_behind) (by decide +kernel)) (fun _ _ _ _ _ => (pg_name (i := 4) sc_Marks_behind.nd rfl (Or.inl rfl))) (fun _ _ _ _ _ => pts_nil) (fun _ _ _ _ _ => (pe_ix (k_ixL (K := K) (by rfl)) (pe_ix (k_ixL (K := K) (by rfl)) (k_fld (K := K) (by rfl) (pv 0) rfl) (pv 4) (fun _ _ => rfl)) (pv 2) (fun _ _ => rfl))))
      (pss_one (ps_ret (pe_callTy (k_tupleOf (K := K) (by rfl)) (by rfl) (T.free_ 5) (by decide +kernel) (pa_cons (pe_callB (k_sortedI (K := K) (by rfl)) (by rfl) (T.free_ 20) (by decide +kernel) (pa_cons (pe_op op_cat (pe_lst (pa_cons (pv 2) pa_nil)) (pe_lc (own := [("led", 5)]) rfl sc_Marks_behind.nd (k_pil (K := K) (by rfl) (pv 3)) (blkOk_by (N := N_Marks_behind) (sc := defScope s_Marks_behind) (by decide +kernel)) (fun _ _ _ _ _ => (pg_name (i := 5) sc_Marks_behind.nd rfl (Or.inl rfl))) (fun _ _ _ _ _ => (pts_one (pt_cmpR op_notN (pv 5) pe_non (nomark _)))) (fun _ _ _ _ _ => (pv 5)))) pa_nil)) pa_nil)))))), ?_⟩
    refine ⟨_, rfl, _, rfl, t, _, rfl, .inr ht, rfl, flat_nats _, decide (f ∈ xs), by show V.bl (inV (nV f) (xs.map nV)) = _; rw [inV_nat], ?_⟩
    by_cases hfx : f ∈ xs
    · rw [decide_eq_true hfx]
      exact iteT (k1 (by unfold nxL; rw [if_pos hfx]))
    rw [decide_eq_false hfx]
    refine iteF ⟨_, rfl, t, rfl, ⟨_, ht⟩, fun D hD => ?_⟩
    have hxl := hx.len
    refine lcm_tup (xs := xs.map nV) (fun i acc H1 => Same H H1 ∧ H1 D = some (.lst acc) ∧ acc = (xs.take i).map fun m => moveV M m f) ⟨same_new hD, upd_same, rfl⟩ (fun i acc H1 h => sqt_mono h.1 ht) ?_ ?_
    · rintro i y acc H1 hy ⟨s1, hD1, rfl⟩
      obtain ⟨m, hm, rfl⟩ := getElem?_map_some hy
      have hmn := hx.lt m (List.mem_of_getElem? hm)
      obtain ⟨r, hr1⟩ : ∃ r, ms[m]? = some r := ⟨_, List.getElem?_eq_getElem (by omega)⟩
      have a1 : atI (ms.map V.ref) (m : Int) = some (.ref r) := atI_nat (by rw [List.getElem?_map, hr1]; rfl)
      have a2 : atI ((List.range n).map (moveV M m)) (f : Int) = some (moveV M m f) := atI_nat (by rw [List.getElem?_map, List.getElem?_range hf]; rfl)
      have hi' : i < n := by have := lt_of_get hm; omega
      refine ⟨_, rfl, p, _, dx, _, _, rfl, s1 _ _ hi, cl_Marks T, na_Marks_own_moves T, rfl, _, rfl, lm, _, _, _, rfl, rfl, SqL.of (s1 _ _ hlm), a1, _, rfl, r, _, _, _, rfl, rfl, SqL.of (s1 _ _ (hmr m r hr1)), a2, _, hD1, ?_, _, same_upd s1 hD, upd_same, ?_⟩
      · rw [List.length_map, List.length_take]; exact small1000 (by omega)
      · rw [take_of_get hm, List.map_append]; rfl
    rintro acc H1 ⟨s1, hD1, rfl⟩
    rw [List.length_map, List.take_length] at hD1
    -- sorted
    refine ⟨_, rfl, by show 1 ≤ sizeLine; decide, fun l1 hl1 => ?_⟩
    have s2 := same_new (o := .lst [nV f]) hl1
    refine ⟨_, rfl, D, rfl, ⟨_, SqL.of (s2 _ _ hD1)⟩, fun D2 hD2 => ?_⟩
    have e1 : ∀ m : Nat, m ∈ xs → (moveV M m f = if M f m = 0 then nV m else .non) := fun m hm => by
      unfold moveV
      have : f ≠ m := fun z => hfx (z ▸ hm)
      by_cases e : M f m = 0
      · rw [if_pos ⟨this, e⟩, if_pos e]; rfl
      · rw [if_neg (fun z => e z.2), if_neg e]
    have s12 := s1.trans s2
    refine lcf_list (xs := xs.map fun m => moveV M m f) (fun i acc H3 => Same (upd H1 l1 (.lst [nV f])) H3 ∧ H3 D2 = some (.lst acc) ∧ acc = ((xs.take i).filter fun m => decide (M f m = 0)).map nV) ⟨same_new hD2, upd_same, rfl⟩ (fun i acc H3 h => SqL.of (h.1 _ _ (s2 _ _ hD1))) ?_ ?_
    · rintro i y acc H3 hy ⟨s3, hD3, rfl⟩
      obtain ⟨m, hm, rfl⟩ := getElem?_map_some hy
      have hi' : i < n := by have := lt_of_get hm; omega
      have hlen := List.length_filter_le (fun m => decide (M f m = 0)) (xs.take i)
      rw [List.length_take] at hlen
      rw [e1 m (List.mem_of_getElem? hm)]
      refine ⟨_, rfl, rfl, decide (M f m = 0), ?_, ?_⟩
      · by_cases e : M f m = 0
        · rw [if_pos e, decide_eq_true e]; rfl
        · rw [if_neg e, decide_eq_false e]; rfl
      by_cases e : M f m = 0
      · rw [if_pos e, decide_eq_true e]
        refine iteT ⟨_, rfl, _, hD3, by rw [List.length_map]; exact small1000 (by omega), _, same_upd s3 hD2, upd_same, ?_⟩
        rw [take_of_get hm, List.filter_append, List.map_append]; simp [e]
      · rw [if_neg e, decide_eq_false e]
        refine iteF ⟨_, s3, hD3, ?_⟩
        rw [take_of_get hm, List.filter_append]; simp [e]
    rintro acc H3 ⟨s3, hD3, rfl⟩
    rw [List.length_map, List.take_length] at hD3
    have hlen := List.length_filter_le (fun m => decide (M f m = 0)) xs
    refine ⟨l1, D2, _, _, rfl, rfl, s3 _ _ upd_same, hD3, by rw [List.length_map]; show 1 + _ ≤ sizeLine; exact Nat.le_of_lt (small1000 (by omega)), fun l6 hl6 => ?_⟩
    have s36 := same_new (o := .lst ([nV f] ++ (xs.filter fun m => decide (M f m = 0)).map nV)) hl6
    refine ⟨l6, (f :: xs.filter fun m => decide (M f m = 0)).map Int.ofNat, rfl, ?_, by simp; omega, fun ns' pp hperm hsort hpp => ?_⟩
    · refine SqL.of ?_
      rw [upd_same, List.map_map]; rfl
    have hns := int_map_perm hperm hsort (nx_perm hx hf hfx) (List.Pairwise.filter _ List.pairwise_lt_range)
    refine ⟨pp, _, rfl, .inl ⟨SqL.of upd_same, fun tt htt => ?_⟩⟩
    refine k2 _ _ tt (by unfold nxL; rw [if_neg hfx]) ?_ ?_
    · have s6 := s12.trans (s3.trans s36)
      have s7 := same_upd (o := .lst (ns'.map V.int)) s6 (s6.free hpp)
      exact same_upd s7 (s7.free htt)
    · rw [upd_same, hns, List.map_map]; rfl
end
end T85
end

section
set_option Elab.async false
set_option linter.all false
set_option maxRecDepth 100000
set_option maxHeartbeats 4000000
namespace T85
open PySem PySem.Spec L2 Fx
/-! ### the search for states, as a plain function -/
abbrev Row0 := List (Option Nat)
def addS (st : List (List Nat)) (t : List Nat) : List (List Nat) := if t ∈ st then st else st ++ [t]
def rowStep (nx : List Nat → Nat → Option (List Nat)) (s : List Nat) (q : List (List Nat) × Row0) (f : Nat) : List (List Nat) × Row0 := match nx s f with
  | none => (q.1, q.2 ++ [none])
  | some t => (addS q.1 t, q.2 ++ [some ((addS q.1 t).idxOf t)])
def rowRun (nx : List Nat → Nat → Option (List Nat)) (s : List Nat) (st : List (List Nat)) (i : Nat) : List (List Nat) × Row0 := (List.range i).foldl (rowStep nx s) (st, [])
theorem rowRun_succ (nx : List Nat → Nat → Option (List Nat)) (s : List Nat) (st : List (List Nat)) (i : Nat) : rowRun nx s st (i + 1) = rowStep nx s (rowRun nx s st i) i := by
  unfold rowRun; rw [List.range_succ, List.foldl_append]; rfl
def bfs (n : Nat) (nx : List Nat → Nat → Option (List Nat)) : Nat → List (List Nat) → List Row0 → Option (List (List Nat) × List Row0)
  | 0, _, _ => none
  | k + 1, st, rows => if rows.length < st.length then bfs n nx k (rowRun nx (st.getD rows.length []) st n).1 (rows ++ [(rowRun nx (st.getD rows.length []) st n).2]) else some (st, rows)
theorem addS_len (st : List (List Nat)) (t : List Nat) : st.length ≤ (addS st t).length ∧ (addS st t).length ≤ st.length + 1 := by
  unfold addS; split
  · omega
  · rw [List.length_append]; simp
theorem rowStep_len (nx : List Nat → Nat → Option (List Nat)) (s : List Nat) (q : List (List Nat) × Row0) (f : Nat) : (rowStep nx s q f).1.length ≤ q.1.length + 1 ∧ (rowStep nx s q f).2.length = q.2.length + 1 := by
  unfold rowStep
  split
  · simp
  · have := addS_len q.1 ‹_›
    exact ⟨this.2, by simp⟩
theorem rowRun_len (nx : List Nat → Nat → Option (List Nat)) (s : List Nat) (st : List (List Nat)) : ∀ i, (rowRun nx s st i).1.length ≤ st.length + i ∧ (rowRun nx s st i).2.length = i
  | 0 => ⟨Nat.le_refl _, rfl⟩
  | i + 1 => by
    obtain ⟨h1, h2⟩ := rowRun_len nx s st i
    rw [rowRun_succ]
    have := rowStep_len nx s (rowRun nx s st i) i
    omega
theorem addS_pre (st : List (List Nat)) (t : List Nat) : ∃ e, addS st t = st ++ e := by
  unfold addS; split
  · exact ⟨[], (List.append_nil _).symm⟩
  · exact ⟨[t], rfl⟩
theorem rowRun_pre (nx : List Nat → Nat → Option (List Nat)) (s : List Nat) (st : List (List Nat)) : ∀ i, ∃ e, (rowRun nx s st i).1 = st ++ e
  | 0 => ⟨[], (List.append_nil _).symm⟩
  | i + 1 => by
    obtain ⟨e, he⟩ := rowRun_pre nx s st i
    rw [rowRun_succ]
    unfold rowStep
    split
    · exact ⟨e, he⟩
    · obtain ⟨e2, h2⟩ := addS_pre (rowRun nx s st i).1 ‹_›
      exact ⟨e ++ e2, by rw [h2, he, List.append_assoc]⟩
theorem rowRun_get {nx : List Nat → Nat → Option (List Nat)} {s : List Nat} {st : List (List Nat)} {i k : Nat} {t : List Nat} (h : st[k]? = some t) : (rowRun nx s st i).1[k]? = some t := by
  obtain ⟨e, he⟩ := rowRun_pre nx s st i
  rw [he, List.getElem?_append_left (lt_of_get h)]; exact h
def keyT (t : List Nat) : List Key := t.map fun x : Nat => (Sum.inl (x : Int) : Key)
theorem keyT_inj : ∀ {s t : List Nat}, keyT s = keyT t → s = t
  | [], [], _ => rfl
  | [], y :: ys, h => by cases h
  | x :: xs, [], h => by cases h
  | x :: xs, y :: ys, h => by
    have h' : (Sum.inl (x : Int) : Key) :: keyT xs = Sum.inl (y : Int) :: keyT ys := h
    injection h' with h1 h2
    have h1 := Sum.inl.inj h1
    rw [keyT_inj h2, show x = y by omega]
def plT : List (List Nat) → Nat → List (List Key × V)
  | [], _ => []
  | t :: r, k => (keyT t, nV k) :: plT r (k + 1)
theorem plT_len : ∀ (st : List (List Nat)) (k : Nat), (plT st k).length = st.length
  | [], _ => rfl
  | t :: r, k => by simp [plT, plT_len r]
theorem plT_get : ∀ (st : List (List Nat)) (t : List Nat) (k : Nat), valV (plT st k) (keyT t) = if t ∈ st then some (nV (k + st.idxOf t)) else none
  | [], t, k => by simp [plT, valV]
  | s :: r, t, k => by
    by_cases e : s = t
    · subst e
      rw [plT, valV_pos rfl, if_pos (List.mem_cons_self ..)]; simp
    · rw [plT, valV_neg (fun z => e (keyT_inj z)), plT_get r t (k + 1)]
      have e2 : ¬ t = s := fun z => e z.symm
      simp only [List.mem_cons, e2, false_or]
      split
      · have : (s :: r).idxOf t = r.idxOf t + 1 := by
          have hb : (s == t) = false := beq_eq_false_iff_ne.mpr e
          rw [List.idxOf_cons, hb]; rfl
        rw [this, show k + 1 + r.idxOf t = k + (r.idxOf t + 1) by omega]
      · rfl
theorem plT_app : ∀ (st : List (List Nat)) (t : List Nat) (k : Nat), plT (st ++ [t]) k = plT st k ++ [(keyT t, nV (k + st.length))]
  | [], t, k => rfl
  | s :: r, t, k => by
    show (keyT s, nV k) :: plT (r ++ [t]) (k + 1) = _
    rw [plT_app r t (k + 1)]
    show _ = (keyT s, nV k) :: (plT r (k + 1) ++ [(keyT t, nV (k + (r.length + 1)))])
    rw [show k + 1 + r.length = k + (r.length + 1) by omega]
theorem plT_put {st : List (List Nat)} {t : List Nat} (h : t ∉ st) : putK (plT st 0) (keyT t) (nV st.length) = plT (st ++ [t]) 0 := by
  rw [putK_new _ (by rw [plT_get, if_neg h]), plT_app, Nat.zero_add]
def oN : Option Nat → V
  | none => .non
  | some i => nV i
/-- a list of tuples: the states -/
def TupsAt (H : Hp) (us : List Addr) (st : List (List Nat)) : Prop := us.length = st.length ∧ ∀ (j : Nat) u t, us[j]? = some u → st[j]? = some t → H u = some (.tup (t.map nV))
theorem TupsAt.mono {H H' : Hp} {us : List Addr} {st : List (List Nat)} (h : TupsAt H us st) (s : Same H H') : TupsAt H' us st := ⟨h.1, fun j u t a b => s _ _ (h.2 j u t a b)⟩
theorem TupsAt.put {H : Hp} {us : List Addr} {st : List (List Nat)} {b : Addr} {o o' : HO} (h : TupsAt H us st) (hb : H b = some o') (ho : ∀ l, o' ≠ .tup l) : TupsAt (upd H b o) us st :=
  ⟨h.1, fun j u t a c => by
    have z := h.2 j u t a c
    rw [upd_ne (fun e => by rw [e, hb] at z; exact ho _ (Option.some.inj z))]; exact z⟩
theorem TupsAt.snoc {H : Hp} {us : List Addr} {st : List (List Nat)} {u : Addr} {t : List Nat} (h : TupsAt H us st) (hu : H u = some (.tup (t.map nV))) : TupsAt H (us ++ [u]) (st ++ [t]) := by
  refine ⟨by rw [List.length_append, List.length_append, h.1, List.length_singleton, List.length_singleton], fun j v s h1 h2 => ?_⟩
  by_cases hj : j < us.length
  · rw [List.getElem?_append_left hj] at h1
    rw [List.getElem?_append_left (by rw [← h.1]; exact hj)] at h2
    exact h.2 j v s h1 h2
  · have hj' : j = us.length := by have := lt_of_get h1; rw [List.length_append, List.length_singleton] at this; omega
    rw [hj', List.getElem?_append_right (Nat.le_refl _), Nat.sub_self] at h1
    rw [hj', h.1, List.getElem?_append_right (Nat.le_refl _), Nat.sub_self] at h2
    injection h1 with h1
    injection h2 with h2
    rw [← h1, ← h2]; exact hu
/-- a list of lists: the rows; none of them stands in Ex -/
def RowsA (H : Hp) (rs : List Addr) (R : List (List V)) (Ex : List Addr) : Prop := rs.length = R.length ∧ ∀ (j : Nat) r row, rs[j]? = some r → R[j]? = some row → r ∉ Ex ∧ H r = some (.lst row)
theorem RowsA.mono {H H' : Hp} {rs Ex : List Addr} {R : List (List V)} (h : RowsA H rs R Ex) (s : Same H H') : RowsA H' rs R Ex := ⟨h.1, fun j u t a b => ⟨(h.2 j u t a b).1, s _ _ (h.2 j u t a b).2⟩⟩
theorem RowsA.ex {H : Hp} {rs Ex : List Addr} {R : List (List V)} {b : Addr} {o : HO} (h : RowsA H rs R Ex) (hb : b ∈ Ex) : RowsA (upd H b o) rs R Ex := ⟨h.1, fun j u t a c => ⟨(h.2 j u t a c).1, by
    rw [upd_ne (fun e => (h.2 j u t a c).1 (by rw [e]; exact hb))]; exact (h.2 j u t a c).2⟩⟩
theorem RowsA.put {H : Hp} {rs Ex : List Addr} {R : List (List V)} {b : Addr} {o o' : HO} (h : RowsA H rs R Ex) (hb : H b = some o') (ho : ∀ l, o' ≠ .lst l) : RowsA (upd H b o) rs R Ex := ⟨h.1, fun j u t a c => ⟨(h.2 j u t a c).1, by
    have z := (h.2 j u t a c).2
    rw [upd_ne (fun e => by rw [e, hb] at z; exact ho _ (Option.some.inj z))]; exact z⟩⟩
theorem RowsA.sub {H : Hp} {rs Ex Ex' : List Addr} {R : List (List V)} (h : RowsA H rs R Ex) (hs : ∀ x ∈ Ex', x ∈ Ex) : RowsA H rs R Ex' := ⟨h.1, fun j u t a c => ⟨fun z => (h.2 j u t a c).1 (hs _ z), (h.2 j u t a c).2⟩⟩
theorem RowsA.add {H : Hp} {rs Ex : List Addr} {R : List (List V)} {b : Addr} (h : RowsA H rs R Ex) (hb : H b = none) : RowsA H rs R (b :: Ex) := ⟨h.1, fun j u t a c => ⟨fun z => by
    rcases List.mem_cons.mp z with e | e
    · have := (h.2 j u t a c).2; rw [e, hb] at this; cases this
    · exact (h.2 j u t a c).1 e, (h.2 j u t a c).2⟩⟩
theorem RowsA.snoc {H : Hp} {rs Ex : List Addr} {R : List (List V)} {r : Addr} {row : List V} (h : RowsA H rs R Ex) (hr : H r = some (.lst row)) (n : r ∉ Ex) : RowsA H (rs ++ [r]) (R ++ [row]) Ex := by
  refine ⟨by rw [List.length_append, List.length_append, h.1, List.length_singleton, List.length_singleton], fun j v s h1 h2 => ?_⟩
  by_cases hj : j < rs.length
  · rw [List.getElem?_append_left hj] at h1
    rw [List.getElem?_append_left (by rw [← h.1]; exact hj)] at h2
    exact h.2 j v s h1 h2
  · have hj' : j = rs.length := by have := lt_of_get h1; rw [List.length_append, List.length_singleton] at this; omega
    rw [hj', List.getElem?_append_right (Nat.le_refl _), Nat.sub_self] at h1
    rw [hj', h.1, List.getElem?_append_right (Nat.le_refl _), Nat.sub_self] at h2
    injection h1 with h1
    injection h2 with h2
    rw [← h1, ← h2]; exact ⟨n, hr⟩
/-- all states are well made -/
def StsOk (n : Nat) (st : List (List Nat)) : Prop := ∀ t ∈ st, StOk n t
theorem StsOk.add {n : Nat} {st : List (List Nat)} {t : List Nat} (h : StsOk n st) (ht : StOk n t) : StsOk n (addS st t) := by
  intro x hx
  unfold addS at hx
  split at hx
  · exact h x hx
  · rcases List.mem_append.mp hx with z | z
    · exact h x z
    · rw [List.mem_singleton] at z; rw [z]; exact ht
theorem StsOk.row {n : Nat} {M : Nat → Nat → Int} {s : List Nat} {st : List (List Nat)} (h : StsOk n st) : ∀ i, StsOk n (rowRun (nxL n M) s st i).1
  | 0 => h
  | i + 1 => by
    rw [rowRun_succ]
    unfold rowStep
    have ih := StsOk.row (M := M) (s := s) h i
    split
    · exact ih
    · exact ih.add (nx_ok ‹_›)
end T85
end

section
set_option Elab.async false
set_option linter.all false
set_option maxRecDepth 100000
set_option maxHeartbeats 4000000
namespace T85
open PySem PySem.Spec L2 Fx
theorem MovesAt.mono {H H' : Hp} {lm : Addr} {n : Nat} {M : Nat → Nat → Int} (h : MovesAt H lm n M) (s : Same H H') : MovesAt H' lm n M := let ⟨ms, h1, h2, h3⟩ := h; ⟨ms, s _ _ h1, h2, fun j r e => s _ _ (h3 j r e)⟩
section
variable {P : Program} {w : World} {K : PySem.W.Frag} {mg : Str → Option Value} {base : Heap}
def spSteps (K : PySem.W.Frag) : Sp := fun vs H Q _ => ∃ (p l lr d lm : Addr) (n N : Nat) (M : Nat → Nat → Int) (S : List (List Nat)) (R : List Row0), vs = [.ref p, nV n] ∧ MarksI K H p l lr d lm ∧ MovesAt H lm n M ∧ n ≤ 6 ∧ N ≤ 60 ∧ bfs n (nxL n M) N [[]] [] = some (S, R) ∧
  ∀ H' fd rs, Same H H' → H' fd = some (.lst (rs.map V.ref)) → RowsA H' rs (R.map fun r => r.map oN) [] → Q (.ref fd) H'
theorem ok_steps_of (T : Says K mg) : Ok P w K mg base 2 ("steps_of", none) ["marks", "many"] (spSteps K) := by
  have G_Marks_behind := FnOk.mono (k := 1) (ok_Marks_behind (P := P) (w := w) (base := base) T) (by decide)
  refine FunD.ok (d_steps_of T) sc_steps_of (fun vs H Q E h => ?len) (fun cdv A outer s H vs Q E hr h => ?bod)
  case len =>
    obtain ⟨p, l, lr, d, lm, n, N, M, S, R, rfl, _⟩ := h; rfl
  case bod =>
    obtain ⟨p, l, lr, d, lm, n, N, M, S, R, rfl, hI, hMo, hn, hN, hB, k⟩ := h
    have hu := hu_of hr
    refine ⟨_, PSs.nox (pss_cons (ps_par3 (i := 2) (j := 3) (l := 4) rfl sc_steps_of.nd rfl rfl rfl (by decide) (by decide) (by decide) rfl rfl rfl (pa_cons (pe_lst (pa_cons (pe_tup pa_nil) pa_nil)) (pa_cons (pe_dict1T hu (pe_tup pa_nil) pe_int) (pa_cons (pe_lst pa_nil) pa_nil))) (by rfl))
      (pss_cons (ps_while PassesOwn.never (pt_cmpR op_lt (pe_callB (k_len (K := K) (by rfl)) (by rfl) (T.free_ 7) (by decide +kernel) (pa_cons (pv 4) pa_nil)) (pe_callB (k_len (K := K) (by rfl)) (by rfl) (T.free_ 7) (by decide +kernel) (pa_cons (pv 2) pa_nil)) (nomark _)) (pss_cons (ps_set (i := 5) sc_steps_of.nd rfl (Or.inl rfl) (pe_lst pa_nil))
      (pss_cons (ps_for PassesOwn.never rfl (pi_range1 (by rfl) (T.free_ 32) (pa_cons (pv 1) pa_nil)) (pg_name (i := 6) sc_steps_of.nd rfl (Or.inl rfl))
      (pss_cons (ps_set (i := 7) sc_steps_of.nd rfl (Or.inl rfl) (pe_meth (pv 0) (T.cls_ 37) (T.meth_ 46) G_Marks_behind hr (b_Marks_behind T) .nil pass0 (pa_cons (pe_ix (k_ixL (K := K) (by rfl)) (pv 2) (pe_callB (k_len (K := K) (by rfl)) (by rfl) (T.free_ 7) (by decide +kernel) (pa_cons (pv 4) pa_nil)) (fun _ _ => rfl)) (pa_cons (pv 6) pa_nil))))
      (pss_cons (ps_if (pw_and (pt_cmpR op_notN (pv 7) pe_non (nomark _)) (pw_and1 (pt_cmp (pc_dnotin hu (pv 7) (pv 3))))).pt (pss_cons (ps_dput hu (pv 3) (pv 7) (pe_callB (k_len (K := K) (by rfl)) (by rfl) (T.free_ 7) (by decide +kernel) (pa_cons (pv 2) pa_nil)) rfl)
      (pss_one (ps_expr (pe_bm PySem.F.plainAttrs_list PySem.F.slot_list_append PySem.F.type_list_append mt_append (pv 2) (pa_cons (pv 7) pa_nil))))) pss_nil)
      (pss_one (ps_expr (pe_bm PySem.F.plainAttrs_list PySem.F.slot_list_append PySem.F.type_list_append mt_append (pv 5) (pa_cons (pe_ifExp (pt_cmpR op_isN (pv 7) pe_non (nomark _)) pe_non (pe_dget hu (pv 3) (pv 7) (fun _ _ => rfl))) pa_nil)))))))
      (pss_one (ps_expr (pe_bm PySem.F.plainAttrs_list PySem.F.slot_list_append PySem.F.type_list_append mt_append (pv 4) (pa_cons (pv 5) pa_nil)))))))
      (pss_one (ps_ret (pv 4))))), ?_⟩
    obtain ⟨dx, hi'⟩ := id hI
    refine ⟨by show 0 ≤ sizeLine; decide, fun u0 hu0 => ⟨by show 1 ≤ sizeLine; decide, fun a ha => ?_⟩⟩
    have s0 := same_new (o := .tup []) hu0
    have s1 := same_upd (o := .lst [.ref u0]) s0 (s0.free ha)
    have hu0' : (upd (upd H u0 (.tup [])) a (.lst [.ref u0])) u0 = some (.tup []) := by rw [upd_ne (ne_of_none upd_same ha)]; exact upd_same
    have ha1 : (upd (upd H u0 (.tup [])) a (.lst [.ref u0])) a = some (.lst [.ref u0]) := upd_same
    have haH := s0.free ha
    generalize upd (upd H u0 (.tup [])) a (.lst [.ref u0]) = H1 at s1 hu0' ha1 ⊢
    intro pl hpl
    have s2 := same_upd (o := .dT []) s1 (s1.free hpl)
    have s12 := same_new (o := .dT []) hpl
    refine ⟨by show 0 ≤ sizeLine; decide, fun u1 hu1 => ?_⟩
    have hpl2 : (upd (upd H1 pl (.dT [])) u1 (.tup [])) pl = some (.dT []) := by rw [upd_ne (ne_of_none upd_same hu1)]; exact upd_same
    have s3 := same_upd (o := .tup []) s12 (s12.free hu1)
    have s03 := same_upd (o := .tup []) s2 (s2.free hu1)
    refine ⟨hpl2, [], u1, rfl, upd_same, ?_⟩
    have plH := s1.free hpl
    have s4 : Same H (upd (upd (upd H1 pl (.dT [])) u1 (.tup [])) pl (.dT (plT [[]] 0))) := same_upd s03 plH
    have hpl4 : (upd (upd (upd H1 pl (.dT [])) u1 (.tup [])) pl (.dT (plT [[]] 0))) pl = some (.dT (plT [[]] 0)) := upd_same
    have n1 : a ≠ pl := ne_of_none ha1 hpl
    have n2 : u0 ≠ pl := ne_of_none hu0' hpl
    have ha4 : (upd (upd (upd H1 pl (.dT [])) u1 (.tup [])) pl (.dT (plT [[]] 0))) a = some (.lst [.ref u0]) := by rw [upd_ne n1]; exact s3 _ _ ha1
    have hu4 : (upd (upd (upd H1 pl (.dT [])) u1 (.tup [])) pl (.dT (plT [[]] 0))) u0 = some (.tup []) := by rw [upd_ne n2]; exact s3 _ _ hu0'
    show tCons (tLst tNil) tNil _ (upd (upd (upd H1 pl (.dT [])) u1 (.tup [])) pl (.dT (plT [[]] 0))) _
    generalize upd (upd (upd H1 pl (.dT [])) u1 (.tup [])) pl (.dT (plT [[]] 0)) = H4 at s4 hpl4 ha4 hu4
    refine ⟨by show 0 ≤ sizeLine; decide, fun fd hfd => ⟨_, _, _, rfl, ?_⟩⟩
    have nfa : fd ≠ a := ne_of_none' ha4 hfd
    have nfp : fd ≠ pl := ne_of_none' hpl4 hfd
    have fdH := s4.free hfd
    have s5 := same_upd (o := .lst []) s4 fdH
    have s45 := same_new (o := .lst []) hfd
    refine while_m (fun i σ H' => ∃ (v5 v6 v7 : Option V) (us : List Addr) (st : List (List Nat)) (rs : List Addr) (rows : List Row0), σ = [some (.ref p), some (nV n), some (.ref a), some (.ref pl), some (.ref fd), v5, v6, v7] ∧ Same H H' ∧ H' a = some (.lst (us.map V.ref)) ∧ H' pl = some (.dT (plT st 0)) ∧ H' fd = some (.lst (rs.map V.ref)) ∧
      TupsAt H' us st ∧ RowsA H' rs (rows.map fun r => r.map oN) [a, fd] ∧ rows.length = i ∧ StsOk n st ∧ bfs n (nxL n M) (N - i) st rows = some (S, R) ∧ st.length ≤ 1 + 6 * i) N
      ⟨none, none, none, [u0], [[]], [], [], rfl, s5, s45 _ _ ha4, s45 _ _ hpl4, upd_same, ⟨rfl, fun j u t h1 h2 => ?_⟩, ⟨rfl, by simp⟩, rfl, fun t ht => ?_, hB, by simp⟩ ?_
    · cases j with
      | zero => injection h1 with h1; injection h2 with h2; rw [← h1, ← h2]; exact s45 _ _ hu4
      | succ j => simp at h1
    · rw [List.mem_singleton] at ht; rw [ht]; exact ⟨.nil, by simp⟩
    rintro i σ H5 hi ⟨v5, v6, v7, us, st, rs, rows, rfl, sH, hA, hP, hF, hT, hR, hrl, hst, hb, hsl⟩
    refine ⟨_, rfl, fd, _, rfl, .inl (SqL.of hF), _, rfl, a, _, rfl, .inl (SqL.of hA), _, _, rfl, rfl, decide (rows.length < st.length), ?_, ?_⟩
    · rw [List.length_map, List.length_map, hT.1, hR.1, List.length_map]
      show V.bl (decide (((rows.length : Nat) : Int) < ((st.length : Nat) : Int))) = _
      by_cases e : rows.length < st.length
      · rw [decide_eq_true e, decide_eq_true (by omega)]
      · rw [decide_eq_false e, decide_eq_false (by omega)]
    obtain ⟨kk, hkk⟩ : ∃ kk, N - i = kk ∨ N - i = kk := ⟨N - i, .inl rfl⟩
    have hkk : N - i = kk := hkk.elim id id
    rw [hkk] at hb
    cases kk with
    | zero => unfold bfs at hb; cases hb
    | succ kk =>
    unfold bfs at hb
    by_cases e : rows.length < st.length
    · rw [if_pos e] at hb
      rw [decide_eq_true e]
      have hiN : i < N := by omega
      refine iteT ⟨_, wm_nx hiN, ?_⟩
      have hsi : st[i]? = some (st.getD rows.length []) := by rw [hrl, List.getD_eq_getElem?_getD, List.getElem?_eq_getElem (by omega)]; rfl
      have hst0 : StOk n (st.getD rows.length []) := hst _ (List.mem_of_getElem? hsi)
      generalize hs0 : st.getD rows.length [] = s0' at hb hsi hst0
      refine ⟨by show 0 ≤ sizeLine; decide, fun r hr' => ?_⟩
      have nra : r ≠ a := ne_of_none' hA hr'
      have nrf : r ≠ fd := ne_of_none' hF hr'
      have sr := same_new (o := .lst []) hr'
      have sHr := same_upd (o := .lst []) sH (sH.free hr')
      have haN : H a = none := haH
      refine ⟨_, rfl, _, rfl, by omega, by omega, for_range (lo := 0) (n := n) (fun j σ H' => ∃ (v6 v7 : Option V) (us' : List Addr), σ = [some (.ref p), some (nV n), some (.ref a), some (.ref pl), some (.ref fd), some (.ref r), v6, v7] ∧ Same H H' ∧ H' a = some (.lst (us'.map V.ref)) ∧ H' pl = some (.dT (plT (rowRun (nxL n M) s0' st j).1 0)) ∧ H' fd = some (.lst (rs.map V.ref)) ∧
        TupsAt H' us' (rowRun (nxL n M) s0' st j).1 ∧ RowsA H' rs (rows.map fun r => r.map oN) [r, a, fd] ∧ H' r = some (.lst ((rowRun (nxL n M) s0' st j).2.map oN)))
        ⟨v6, v7, us, rfl, sHr, sr _ _ hA, sr _ _ hP, sr _ _ hF, hT.mono sr, (hR.add hr').mono sr, upd_same⟩ ?_ ?_⟩
      · rintro j σ H6 hj ⟨v6, v7, us', rfl, s6, hA6, hP6, hF6, hT6, hR6, hr6⟩
        obtain ⟨u, hu'⟩ : ∃ u, us'[i]? = some u := by
          refine ⟨_, List.getElem?_eq_getElem ?_⟩
          rw [hT6.1]; exact lt_of_get (rowRun_get (i := j) hsi)
        have hut := hT6.2 i u s0' hu' (rowRun_get hsi)
        have hai : atI (us'.map V.ref) (((rs.map V.ref).length : Nat) : Int) = some (.ref u) := atI_nat (by rw [List.getElem?_map, List.length_map, hR.1, List.length_map, hrl, hu']; rfl)
        have hlen := rowRun_len (nxL n M) s0' st j
        refine ⟨_, rfl, p, dx, _, rfl, s6 _ _ hi', rfl, _, rfl, _, rfl, fd, _, rfl, .inl (SqL.of hF6), a, _, _, _, rfl, rfl, SqL.of hA6, hai, _, rfl, p, l, lr, d, lm, u, n, j, M, s0', ?_, hI.mono s6, hMo.mono s6, .inl (.inl hut), hst0, hj, hn, fun e1 => ?_, fun ys H7 w' e1 s7 hw' => ?_⟩
        · rw [Int.zero_add]; rfl
        · have erow : (rowRun (nxL n M) s0' st (j + 1)) = ((rowRun (nxL n M) s0' st j).1, (rowRun (nxL n M) s0' st j).2 ++ [none]) := by rw [rowRun_succ]; unfold rowStep; rw [e1]
          refine ⟨_, rfl, rfl, false, rfl, iteF ?_⟩
          refine ⟨_, rfl, .inl ⟨rfl, _, SqL.of hr6⟩, _, rfl, rfl, true, rfl, iteT ⟨r, _, _, rfl, rfl, hr6, by rw [List.length_map]; exact small1000 (by omega), ?_⟩⟩
          refine ⟨_, _, us', rfl, same_upd s6 (sH.free hr'), by rw [upd_ne nra.symm]; exact hA6, ?_, by rw [upd_ne nrf.symm]; exact hF6, ?_, hR6.ex (by simp), ?_⟩
          · rw [erow, upd_ne (ne_of hP6 hr6 (by intro z; cases z))]; exact hP6
          · rw [erow]; exact hT6.put hr6 (by intro l z; cases z)
          · rw [erow, upd_same, List.map_append]; rfl
        · have e1' := e1
          have erow : (rowRun (nxL n M) s0' st (j + 1)) = (addS (rowRun (nxL n M) s0' st j).1 ys, (rowRun (nxL n M) s0' st j).2 ++ [some ((addS (rowRun (nxL n M) s0' st j).1 ys).idxOf ys)]) := by rw [rowRun_succ]; unfold rowStep; rw [e1']
          generalize rowRun (nxL n M) s0' st j = q at *
          obtain ⟨qs, qr⟩ := q
          have hP7 := s7 _ _ hP6
          have hA7 := s7 _ _ hA6
          have hr7 := s7 _ _ hr6
          have hT7 := hT6.mono s7
          have hR7 := hR6.mono s7
          have hF7 := s7 _ _ hF6
          have s07 := s6.trans s7
          have hw2 : H7 w' = some (.tup ((keyT ys).map kV)) := by rw [hw']; unfold keyT; rw [List.map_map]; rfl
          have g1 := DGet.t (k := keyT ys) hP7 hw2
          rw [plT_get] at g1
          by_cases hmem : ys ∈ qs
          · rw [if_pos hmem, Nat.zero_add] at g1
            have ea : addS qs ys = qs := by unfold addS; rw [if_pos hmem]
            rw [ea] at erow
            refine ⟨_, rfl, rfl, true, rfl, iteT ⟨_, rfl, _, rfl, pl, _, rfl, g1, false, rfl, iteF ?_⟩⟩
            refine ⟨_, rfl, .inl ⟨rfl, _, SqL.of hr7⟩, _, rfl, rfl, false, rfl, iteF ⟨_, rfl, _, rfl, pl, _, rfl, g1, r, _, _, rfl, rfl, hr7, by rw [List.length_map]; exact small1000 (by omega), ?_⟩⟩
            refine ⟨_, _, us', rfl, same_upd s07 (sH.free hr'), by rw [upd_ne nra.symm]; exact hA7, ?_, by rw [upd_ne nrf.symm]; exact hF7, ?_, hR7.ex (by simp), ?_⟩
            · rw [erow, upd_ne (ne_of hP7 hr7 (by intro z; cases z))]; exact hP7
            · rw [erow]; exact hT7.put hr7 (by intro l z; cases z)
            · rw [erow, upd_same, List.map_append]; rfl
          · rw [if_neg hmem] at g1
            have ea : addS qs ys = qs ++ [ys] := by unfold addS; rw [if_neg hmem]
            have eix : (qs ++ [ys]).idxOf ys = qs.length := by rw [List.idxOf_append, if_neg hmem]; simp
            rw [ea, eix] at erow
            have hlen2 : qs.length = us'.length := hT6.1.symm
            refine ⟨_, rfl, rfl, true, rfl, iteT ⟨_, rfl, _, rfl, pl, _, rfl, g1, true, rfl, iteT ?_⟩⟩
            have p1 := DPut.t (k := keyT ys) (v := nV qs.length) hP7 hw2 (by rw [plT_len]; exact small1000 (by have := hlen.1; simp at this; omega))
            rw [plT_put hmem] at p1
            have evl : V.int (((us'.map V.ref).length : Nat) : Int) = nV qs.length := by rw [List.length_map, hlen2]; rfl
            refine ⟨_, rfl, a, _, rfl, .inl (SqL.of hA7), _, rfl, _, rfl, pl, _, rfl, by rw [evl]; exact p1, ?_⟩
            have npa : a ≠ pl := ne_of hA7 hP7 (by intro z; cases z)
            have npr : r ≠ pl := ne_of hr7 hP7 (by intro z; cases z)
            have npf : fd ≠ pl := ne_of hF7 hP7 (by intro z; cases z)
            have hA8 : (upd H7 pl (.dT (plT (qs ++ [ys]) 0))) a = some (.lst (us'.map V.ref)) := by rw [upd_ne npa]; exact hA7
            have hr8 : (upd H7 pl (.dT (plT (qs ++ [ys]) 0))) r = some (.lst (qr.map oN)) := by rw [upd_ne npr]; exact hr7
            have hF8 : (upd H7 pl (.dT (plT (qs ++ [ys]) 0))) fd = some (.lst (rs.map V.ref)) := by rw [upd_ne npf]; exact hF7
            have hP8 : (upd H7 pl (.dT (plT (qs ++ [ys]) 0))) pl = some (.dT (plT (qs ++ [ys]) 0)) := upd_same
            have hw8 : (upd H7 pl (.dT (plT (qs ++ [ys]) 0))) w' = some (.tup (ys.map nV)) := by rw [upd_ne (ne_of hw' hP7 (by intro z; cases z))]; exact hw'
            have hT8 := hT7.put (o := .dT (plT (qs ++ [ys]) 0)) hP7 (by intro l z; cases z)
            have hR8 := hR7.put (o := .dT (plT (qs ++ [ys]) 0)) hP7 (by intro l z; cases z)
            have s08 := same_upd (o := .dT (plT (qs ++ [ys]) 0)) s07 plH
            generalize upd H7 pl (.dT (plT (qs ++ [ys]) 0)) = H8 at hA8 hr8 hF8 hP8 hw8 hT8 hR8 s08 ⊢
            refine ⟨_, rfl, .inl ⟨rfl, _, SqL.of hA8⟩, _, rfl, a, _, _, rfl, rfl, hA8, by rw [List.length_map, ← hlen2]; exact small1000 (by have := hlen.1; simp at this; omega), ?_⟩
            have hA9 : (upd H8 a (.lst (us'.map V.ref ++ [.ref w']))) a = some (.lst ((us' ++ [w']).map V.ref)) := by rw [upd_same, List.map_append]; rfl
            have hr9 : (upd H8 a (.lst (us'.map V.ref ++ [.ref w']))) r = some (.lst (qr.map oN)) := by rw [upd_ne nra]; exact hr8
            have hF9 : (upd H8 a (.lst (us'.map V.ref ++ [.ref w']))) fd = some (.lst (rs.map V.ref)) := by rw [upd_ne nfa]; exact hF8
            have hP9 : (upd H8 a (.lst (us'.map V.ref ++ [.ref w']))) pl = some (.dT (plT (qs ++ [ys]) 0)) := by rw [upd_ne npa.symm]; exact hP8
            have hw9 : (upd H8 a (.lst (us'.map V.ref ++ [.ref w']))) w' = some (.tup (ys.map nV)) := by rw [upd_ne (ne_of hw8 hA8 (by intro z; cases z))]; exact hw8
            have hT9 := (hT8.put (o := .lst (us'.map V.ref ++ [.ref w'])) hA8 (by intro l z; cases z)).snoc hw9
            have hR9 := hR8.ex (o := .lst (us'.map V.ref ++ [.ref w'])) (show a ∈ [r, a, fd] by simp)
            have s09 := same_upd (o := .lst (us'.map V.ref ++ [.ref w'])) s08 haN
            generalize upd H8 a (.lst (us'.map V.ref ++ [.ref w'])) = H9 at hA9 hr9 hF9 hP9 hw9 hT9 hR9 s09 ⊢
            have g9 := DGet.t (k := keyT ys) hP9 (by rw [hw9]; unfold keyT; rw [List.map_map]; rfl)
            rw [plT_get, if_pos (by simp), eix, Nat.zero_add] at g9
            refine ⟨_, rfl, .inl ⟨rfl, _, SqL.of hr9⟩, _, rfl, rfl, false, rfl, iteF ⟨_, rfl, _, rfl, pl, _, rfl, g9, r, _, _, rfl, rfl, hr9, by rw [List.length_map]; exact small1000 (by have := hlen.2; simp at this; omega), ?_⟩⟩
            refine ⟨_, _, us' ++ [w'], rfl, same_upd s09 (sH.free hr'), by rw [upd_ne nra.symm]; exact hA9, ?_, by rw [upd_ne nrf.symm]; exact hF9, ?_, hR9.ex (by simp), ?_⟩
            · rw [erow, upd_ne npr.symm]; exact hP9
            · rw [erow]; exact hT9.put hr9 (by intro l z; cases z)
            · rw [erow, upd_same, List.map_append]; rfl
      · rintro σ H6 ⟨v6, v7, us', rfl, s6, hA6, hP6, hF6, hT6, hR6, hr6⟩
        have hlen := rowRun_len (nxL n M) s0' st n
        refine ⟨_, rfl, .inl ⟨rfl, _, SqL.of hF6⟩, _, rfl, fd, _, _, rfl, rfl, hF6, by rw [List.length_map, hR6.1, List.length_map]; exact small1000 (by omega), ?_⟩
        refine ⟨_, _, _, us', _, rs ++ [r], rows ++ [(rowRun (nxL n M) s0' st n).2], rfl, same_upd s6 fdH, by rw [upd_ne nfa.symm]; exact hA6, by rw [upd_ne nfp.symm]; exact hP6, by rw [upd_same, List.map_append]; rfl, hT6.put hF6 (by intro l z; cases z), ?_, by simp [hrl], hst.row n, by rw [show N - (i + 1) = kk by omega]; exact hb, by have := hlen.1; omega⟩
        rw [List.map_append]
        refine RowsA.snoc ((hR6.sub (by simp)).ex (by simp)) ?_ (by simp; exact ⟨nra, nrf⟩)
        rw [upd_ne nrf]; exact hr6
    · rw [if_neg e] at hb
      injection hb with hb
      injection hb with h1 h2
      rw [decide_eq_false e]
      refine iteF ⟨_, rfl, ?_⟩
      exact k H5 fd rs sH hF (by rw [← h2]; exact hR.sub (by simp))
end
end T85
end

section
set_option Elab.async false
set_option linter.all false
set_option maxRecDepth 100000
set_option maxHeartbeats 4000000
namespace T85
open PySem PySem.Spec L2 Fx
/-! ### classes of states -/
abbrev CK := Nat × List (Option Nat)
def ckOf (marks : List Nat) (m : Nat) (row : Row0) : CK := (m, row.map fun o => o.map fun l => marks.getD l 0)
def addK (ks : List CK) (k : CK) : List CK := if k ∈ ks then ks else ks ++ [k]
def clsStep (marks : List Nat) (q : List CK × List Nat) (p : Nat × Row0) : List CK × List Nat := (addK q.1 (ckOf marks p.1 p.2), q.2 ++ [(addK q.1 (ckOf marks p.1 p.2)).idxOf (ckOf marks p.1 p.2)])
def clsTurn (marks : List Nat) (l : List (Nat × Row0)) : List CK × List Nat := l.foldl (clsStep marks) ([], [])
theorem clsTurn_snoc (marks : List Nat) (l : List (Nat × Row0)) (p : Nat × Row0) : clsTurn marks (l ++ [p]) = clsStep marks (clsTurn marks l) p := by unfold clsTurn; rw [List.foldl_append]; rfl
theorem clsTurn_len (marks : List Nat) (l : List (Nat × Row0)) : (clsTurn marks l).2.length = l.length ∧ (clsTurn marks l).1.length ≤ l.length := by
  have key : ∀ (l : List (Nat × Row0)) (q : List CK × List Nat), (l.foldl (clsStep marks) q).2.length = q.2.length + l.length ∧ (l.foldl (clsStep marks) q).1.length ≤ q.1.length + l.length := by
    intro l
    induction l with
    | nil => intro q; simp
    | cons p l ih =>
      intro q
      obtain ⟨h1, h2⟩ := ih (clsStep marks q p)
      have h3 : (clsStep marks q p).2.length = q.2.length + 1 := by simp [clsStep]
      have h4 : (clsStep marks q p).1.length ≤ q.1.length + 1 := by
        unfold clsStep addK
        dsimp only
        split
        · omega
        · simp
      rw [List.foldl_cons, List.length_cons]
      omega
  simpa [clsTurn] using key l ([], [])
def clsRun (R : List Row0) : Nat → List Nat → Nat → Option (List Nat)
  | 0, _, _ => none
  | k + 1, marks, many => if (clsTurn marks (marks.zip R)).1.length = many then some (clsTurn marks (marks.zip R)).2 else clsRun R k (clsTurn marks (marks.zip R)).2 (clsTurn marks (marks.zip R)).1.length
def oI : Option Nat → Int
  | none => -1
  | some i => (i : Int)
def nkC (k : CK) : NestedKey := .tup [.num (k.1 : Int), .tup (k.2.map fun o => .num (oI o))]
theorem map_oI_inj : ∀ {xs ys : List (Option Nat)}, xs.map (fun o => NestedKey.num (oI o)) = ys.map (fun o => NestedKey.num (oI o)) → xs = ys
  | [], [], _ => rfl
  | [], y :: ys, h => by cases h
  | x :: xs, [], h => by cases h
  | x :: xs, y :: ys, h => by
    injection h with h1 h2
    injection h1 with h1
    rw [map_oI_inj h2]
    cases x <;> cases y <;> simp [oI] at h1 ⊢ <;> omega
theorem nkC_inj {a b : CK} (h : nkC a = nkC b) : a = b := by
  unfold nkC at h
  injection h with h
  injection h with h1 h2
  injection h1 with h1
  injection h2 with h2
  injection h2 with h2
  exact Prod.ext (by omega) (map_oI_inj h2)
def knL : List CK → List Addr → Nat → List NE
  | k :: ks, as, i => (nkC k, as.headD 0, nV i) :: knL ks as.tail (i + 1)
  | [], _, _ => []
theorem knL_len : ∀ (ks : List CK) (as : List Addr) (i : Nat), (knL ks as i).length = ks.length
  | [], _, _ => rfl
  | k :: ks, as, i => by simp [knL, knL_len ks]
theorem knL_get : ∀ (ks : List CK) (as : List Addr) (i : Nat) (k : CK), valN (knL ks as i) (nkC k) = if k ∈ ks then some (nV (i + ks.idxOf k)) else none
  | [], as, i, k => by simp [knL, valN]
  | c :: ks, as, i, k => by
    by_cases e : c = k
    · subst e; simp [knL, valN]
    · have e1 : ¬ nkC c = nkC k := fun z => e (nkC_inj z)
      have e2 : ¬ k = c := fun z => e z.symm
      have h1 : valN (knL (c :: ks) as i) (nkC k) = valN (knL ks as.tail (i + 1)) (nkC k) := by simp [knL, valN, List.find?_cons, e1]
      rw [h1, knL_get ks _ _ k]
      simp only [List.mem_cons, e2, false_or]
      split
      · have hb : (c == k) = false := beq_eq_false_iff_ne.mpr e
        have : (c :: ks).idxOf k = ks.idxOf k + 1 := by rw [List.idxOf_cons, hb]; rfl
        rw [this, show i + 1 + ks.idxOf k = i + (ks.idxOf k + 1) by omega]
      · rfl
theorem knL_app : ∀ (ks : List CK) (as : List Addr) (i : Nat) (k : CK) (a : Addr), as.length = ks.length → knL (ks ++ [k]) (as ++ [a]) i = knL ks as i ++ [(nkC k, a, nV (i + ks.length))]
  | [], as, i, k, a, h => by
    cases as with
    | nil => rfl
    | cons b as => cases h
  | c :: ks, as, i, k, a, h => by
    cases as with
    | nil => cases h
    | cons b as =>
      have ih := knL_app ks as (i + 1) k a (Nat.succ.inj h)
      show (nkC c, b, nV i) :: knL (ks ++ [k]) (as ++ [a]) (i + 1) = (nkC c, b, nV i) :: (knL ks as (i + 1) ++ [(nkC k, a, nV (i + (ks.length + 1)))])
      rw [ih, show i + 1 + ks.length = i + (ks.length + 1) by omega]
theorem knL_put {ks : List CK} {as : List Addr} {k : CK} {a : Addr} (h : k ∉ ks) (hl : as.length = ks.length) : putN (knL ks as 0) (nkC k) a (nV ks.length) = knL (ks ++ [k]) (as ++ [a]) 0 := by
  unfold putN
  rw [knL_get, if_neg h, knL_app _ _ _ _ _ hl, Nat.zero_add]; rfl
theorem depth_oI : ∀ xs : List (Option Nat), NestedKey.depthAll (xs.map fun o => NestedKey.num (oI o)) = 0
  | [] => by simp [NestedKey.depthAll]
  | x :: xs => by simp [NestedKey.depthAll, NestedKey.depth, depth_oI xs]
theorem depth_nkC (k : CK) : (nkC k).depth ≤ 8 := by
  simp [nkC, NestedKey.depth, NestedKey.depthAll, depth_oI]
theorem NkAll.oI {H : Hp} : ∀ xs : List (Option Nat), NkAll H (xs.map fun o => V.int (oI o)) (xs.map fun o => NestedKey.num (oI o))
  | [] => .nil
  | x :: xs => .cons (.int _) (NkAll.oI xs)
theorem nk_C {H : Hp} {t u : Addr} {k : CK} (ht : H t = some (.tup [nV k.1, .ref u])) (hu : H u = some (.tup (k.2.map fun o => V.int (oI o)))) : NkAt H (.ref t) (nkC k) :=
  .tup ht (.cons (.int _) (.cons (.tup hu (NkAll.oI _)) .nil))
end T85
end

section
set_option Elab.async false
set_option linter.all false
set_option maxRecDepth 100000
set_option maxHeartbeats 4000000
namespace T85
open PySem PySem.Spec L2 Fx
section
variable {P : Program} {w : World} {K : PySem.W.Frag} {mg : Str → Option Value} {base : Heap}
structure RowsOk (R : List Row0) : Prop where
  len : R.length ≤ 100
  row : ∀ r ∈ R, r.length ≤ 6
  lt : ∀ r ∈ R, ∀ l, some l ∈ r → l < R.length
def spClasses (K : PySem.W.Frag) : Sp := fun vs H Q _ => ∃ (a : Addr) (rs : List Addr) (R : List Row0) (N : Nat) (out : List Nat), vs = [.ref a] ∧ H a = some (.lst (rs.map V.ref)) ∧ RowsA H rs (R.map fun r => r.map oN) [] ∧ RowsOk R ∧ clsRun R N (List.replicate R.length 0) 1 = some out ∧
  ∀ H' f, Same H H' → H' f = some (.lst (out.map nV)) → Q (.ref f) H'
theorem ok_classes_of (T : Says K mg) : Ok P w K mg base 1 ("classes_of", none) ["steps"] (spClasses K) := by
  refine FunD.ok (d_classes_of T) sc_classes_of (fun vs H Q E h => ?len) (fun cdv A outer s H vs Q E hr h => ?bod)
  case len =>
    obtain ⟨a, rs, R, N, out, rfl, _⟩ := h; rfl
  case bod =>
    obtain ⟨a, rs, R, N, out, rfl, hA, hR, hok, hrun, k⟩ := h
    refine ⟨_, PSs.nox (pss_cons (ps_asg (pe_tup (pa_cons (pe_op op_rep (pe_lst (pa_cons pe_int pa_nil)) (pe_callB (k_len (K := K) (by rfl)) (by rfl) (T.free_ 7) (by decide +kernel) (pa_cons (pv 0) pa_nil))) (pa_cons pe_int pa_nil))) (k_tup (K := K) (n := 2) (by rfl) rfl (pgs_cons (pg_name (i := 1) sc_classes_of.nd rfl (Or.inr rfl)) (pgs_cons (pg_name (i := 2) sc_classes_of.nd rfl (Or.inl rfl)) pgs_nil))))
      (pss_one (ps_while PassesOwn.never (pt_val pe_bl) (pss_cons (ps_par (i := 3) (j := 4) rfl sc_classes_of.nd rfl rfl (by decide) rfl rfl (pa_cons (k_nnew (P := P) (w := w) (by rfl) (by rfl)) (pa_cons (pe_lst pa_nil) pa_nil)) (by rfl))
      (pss_cons (ps_for PassesOwn.never rfl (k_pizip (K := K) (by rfl) (by rfl) (T.free_ 34) (pa_cons (pv 1) (pa_cons (pv 0) pa_nil))) (k_tup (K := K) (n := 2) (by rfl) rfl (pgs_cons (pg_name (i := 5) sc_classes_of.nd rfl (Or.inl rfl)) (pgs_cons (pg_name (i := 6) sc_classes_of.nd rfl (Or.inl rfl)) pgs_nil)))
      (pss_cons (ps_set (i := 7) sc_classes_of.nd rfl (Or.inl rfl) (pe_tup (pa_cons (pv 5) (pa_cons (pe_callTy (k_tupleOf (K := K) (by rfl)) (by rfl) (T.free_ 5) (by decide +kernel) (pa_cons (pe_lc (own := [("led", 8)]) rfl sc_classes_of.nd (k_pil (K := K) (by rfl) (pv 6)) (blkOk_by (N := N_classes_of) (sc := defScope s_classes_of) (by decide +kernel)) (fun _ _ _ _ _ => (pg_name (i := 8) sc_classes_of.nd rfl (Or.inl rfl))) (fun _ _ _ _ _ => pts_nil) (fun _ _ _ _ _ => (pe_ifExp (pt_cmpR op_isN (pv 8) pe_non (nomark _)) (pe_un un_neg pe_int) (pe_ix (k_ixL (K := K) (by rfl)) (pv 1) (pv 8) (fun _ _ => rfl))))) pa_nil)) pa_nil))))
      (pss_cons (ps_if (pt_cmpR (k_nnotin (P := P) (w := w) (by rfl) (by rfl) (u12 hr)) (pv 7) (pv 3) (by rfl)) (pss_one (k_nput (P := P) (w := w) (by rfl) (by rfl) (u12 hr) (pv 3) (pv 7) (pe_callB (k_nlen (P := P) (w := w) (by rfl) (by rfl)) (by rfl) (T.free_ 7) (by decide +kernel) (pa_cons (pv 3) pa_nil)) rfl)) pss_nil)
      (pss_one (ps_expr (pe_bm PySem.F.plainAttrs_list PySem.F.slot_list_append PySem.F.type_list_append mt_append (pv 4) (pa_cons (k_nget (P := P) (w := w) (by rfl) (by rfl) (u12 hr) (pv 3) (pv 7) (fun _ _ => rfl)) pa_nil)))))))
      (pss_cons (ps_if (pt_cmpR op_eq (pe_callB (k_nlen (P := P) (w := w) (by rfl) (by rfl)) (by rfl) (T.free_ 7) (by decide +kernel) (pa_cons (pv 3) pa_nil)) (pv 2) (nomark _)) (pss_one (ps_ret (pv 4))) pss_nil)
      (pss_one (ps_asg (pe_tup (pa_cons (pv 4) (pa_cons (pe_callB (k_nlen (P := P) (w := w) (by rfl) (by rfl)) (by rfl) (T.free_ 7) (by decide +kernel) (pa_cons (pv 3) pa_nil)) pa_nil))) (k_tup (K := K) (n := 2) (by rfl) rfl (pgs_cons (pg_name (i := 1) sc_classes_of.nd rfl (Or.inr rfl)) (pgs_cons (pg_name (i := 2) sc_classes_of.nd rfl (Or.inl rfl)) pgs_nil))))))))))), ?_⟩
    have hrl : rs.length = R.length := by rw [hR.1, List.length_map]
    refine ⟨by show 1 ≤ sizeLine; decide, fun z hz => ?_⟩
    have sz := same_new (o := .lst [.int 0]) hz
    have hlenR := hok.len
    refine ⟨_, rfl, a, _, rfl, .inl (SqL.of (sz _ _ hA)), z, ((R.length : Nat) : Int), _, rfl, by rw [List.length_map, hrl], upd_same, by omega, by omega, by rw [List.length_singleton, Int.toNat_natCast, Nat.one_mul]; exact Nat.le_of_lt (small1000 (by omega)), fun m0 hm0 => ?_⟩
    have er : (List.replicate ((R.length : Nat) : Int).toNat [V.int 0]).flatten = (List.replicate R.length 0).map nV := by
      rw [Int.toNat_natCast, List.map_replicate]
      generalize R.length = q
      induction q with
      | zero => rfl
      | succ q ih => rw [List.replicate_succ, List.replicate_succ, List.flatten_cons, ih]; rfl
    rw [er]
    have sm := same_upd (o := .lst ((List.replicate R.length 0).map nV)) sz (sz.free hm0)
    refine ⟨by show 2 ≤ sizeLine; decide, fun tp htp => ?_⟩
    have st := same_upd (o := .tup [.ref m0, .int 1]) sm (sm.free htp)
    have hm1 : (upd (upd (upd H z (.lst [.int 0])) m0 (.lst ((List.replicate R.length 0).map nV))) tp (.tup [.ref m0, .int 1])) m0 = some (.lst ((List.replicate R.length 0).map nV)) := by rw [upd_ne (ne_of_none upd_same htp)]; exact upd_same
    refine ⟨tp, _, rfl, .inl (.inl upd_same), rfl, _, _, rfl, _, _, rfl, rfl, ?_⟩
    generalize upd (upd (upd H z (.lst [.int 0])) m0 (.lst ((List.replicate R.length 0).map nV))) tp (.tup [.ref m0, .int 1]) = H1 at st hm1 ⊢
    refine while_m (fun i σ H' => ∃ (v3 v4 v5 v6 v7 v8 : Option V) (m : Addr) (marks : List Nat) (many : Nat), σ = [some (.ref a), some (.ref m), some (nV many), v3, v4, v5, v6, v7, v8] ∧ Same H H' ∧ H' m = some (.lst (marks.map nV)) ∧ marks.length = R.length ∧ clsRun R (N - i) marks many = some out) N
      ⟨none, none, none, none, none, none, m0, _, 1, rfl, st, hm1, by simp, hrun⟩ ?_
    rintro i σ H2 hi ⟨v3, v4, v5, v6, v7, v8, m, marks, many, rfl, s2, hm2, hml, hr2⟩
    obtain ⟨kk, hkk⟩ : ∃ kk, N - i = kk := ⟨_, rfl⟩
    rw [hkk] at hr2
    cases kk with
    | zero => unfold clsRun at hr2; cases hr2
    | succ kk =>
    unfold clsRun at hr2
    have hiN : i < N := by omega
    refine ⟨true, rfl, iteT ⟨_, wm_nx hiN, ?_⟩⟩
    intro kd hkd
    have sk := same_new (o := .ext (ndOf P w kd [])) hkd
    have hK0 : NDict P w (upd H2 kd (.ext (ndOf P w kd []))) kd (knL [] [] 0) := ⟨upd_same, by simp [knL]⟩
    refine ⟨by show 0 ≤ sizeLine; decide, fun fd hfd => ⟨_, _, rfl, ?_⟩⟩
    have nkf : fd ≠ kd := ne_of_none' upd_same hfd
    have nfm : fd ≠ m := ne_of_none' (sk _ _ hm2) hfd
    have sf := same_upd (o := .lst []) sk (sk.free hfd)
    have hK1 := hK0.mono (same_new (o := .lst []) hfd)
    have hF1 : (upd (upd H2 kd (.ext (ndOf P w kd []))) fd (.lst [])) fd = some (.lst []) := upd_same
    have fd2 := sk.free hfd
    generalize upd (upd H2 kd (.ext (ndOf P w kd []))) fd (.lst []) = H3 at sf hK1 hF1 ⊢
    have hm3 := sf _ _ hm2
    have s3 := s2.trans sf
    have nmk : m ≠ kd := ne_of hm3 hK1.1 (by intro z; cases z)
    have kdH := s2.free hkd
    have fdH := s2.free fd2
    have hzl : (marks.zip R).length = R.length := by rw [List.length_zip, hml, Nat.min_self]
    refine ⟨_, rfl, _, rfl, m, a, _, _, rfl, SqL.of hm3, SqL.of (s3 _ _ hA), for_zipLL (fun j σ H' => ∃ (v5 v6 v7 v8 : Option V) (as : List Addr), σ = [some (.ref a), some (.ref m), some (nV many), some (.ref kd), some (.ref fd), v5, v6, v7, v8] ∧ Same H H' ∧ H' m = some (.lst (marks.map nV)) ∧
        NDict P w H' kd (knL (clsTurn marks ((marks.zip R).take j)).1 as 0) ∧ as.length = (clsTurn marks ((marks.zip R).take j)).1.length ∧ H' fd = some (.lst ((clsTurn marks ((marks.zip R).take j)).2.map nV)))
      ⟨v5, v6, v7, v8, [], rfl, s3, hm3, hK1, rfl, hF1⟩ (fun j σ H' _ ⟨_, _, _, _, _, _, s, hm', _⟩ => ⟨SqL.of hm', SqL.of (s _ _ hA)⟩) ?_ ?_⟩
    · rintro j x y σ H4 T' hx hy ⟨v5, v6, v7, v8, as, rfl, s4, hm4, hK4, has, hF4⟩ hT'
      obtain ⟨mk, hmk, rfl⟩ := getElem?_map_some hx
      obtain ⟨ra, hra, rfl⟩ := getElem?_map_some hy
      have hj : j < R.length := hrl ▸ lt_of_get hra
      obtain ⟨row, hrow⟩ : ∃ row, R[j]? = some row := ⟨_, List.getElem?_eq_getElem hj⟩
      have hrowm := List.mem_of_getElem? hrow
      have hRrow := (hR.2 j ra (row.map oN) hra (by rw [List.getElem?_map, hrow]; rfl)).2
      have hzj : (marks.zip R)[j]? = some (mk, row) := by rw [List.getElem?_zip_eq_some]; exact ⟨hmk, hrow⟩
      have sT := same_upd (o := .tup [nV mk, .ref ra]) s4 (s4.free hT')
      have sT4 := same_new (o := .tup [nV mk, .ref ra]) hT'
      have hm5 := sT4 _ _ hm4
      have hK5 := hK4.mono sT4
      have hF5 := sT4 _ _ hF4
      refine ⟨_, _, rfl, _, _, rfl, rfl, ?_⟩
      generalize upd H4 T' (.tup [nV mk, .ref ra]) = H5 at sT sT4 hm5 hK5 hF5 ⊢
      have hcl := clsTurn_len marks ((marks.zip R).take j)
      have htl : ((marks.zip R).take j).length = j := by rw [List.length_take, hzl]; omega
      rw [htl] at hcl
      have etake : clsTurn marks ((marks.zip R).take (j + 1)) = clsStep marks (clsTurn marks ((marks.zip R).take j)) (mk, row) := by rw [take_of_get hzj, clsTurn_snoc]
      generalize clsTurn marks ((marks.zip R).take j) = q at *
      obtain ⟨qk, qf⟩ := q
      dsimp only at *
      -- the key
      refine ⟨_, rfl, _, rfl, ra, rfl, ⟨_, SqL.of (sT _ _ hRrow)⟩, fun D hD => ?_⟩
      have hrl6 := hok.row row hrowm
      refine lcm_list (xs := row.map oN) (fun q acc H6 => Same H5 H6 ∧ H6 D = some (.lst acc) ∧ acc = ((row.take q).map fun o => V.int (oI (o.map fun l => marks.getD l 0)))) ⟨same_new hD, upd_same, rfl⟩ (fun q acc H6 h => SqL.of (h.1 _ _ (sT _ _ hRrow))) ?_ ?_
      · rintro q v acc H6 hv ⟨s6, hD6, rfl⟩
        obtain ⟨o, ho, rfl⟩ := getElem?_map_some hv
        have hq6 : q < 6 := by have := lt_of_get ho; omega
        have hlenq : ((row.take q).map fun o => V.int (oI (o.map fun l => marks.getD l 0))).length ≤ 6 := by rw [List.length_map, List.length_take]; omega
        cases o with
        | none =>
          refine ⟨_, rfl, rfl, true, rfl, iteT ⟨1, rfl, _, hD6, small1000 (by omega), _, same_upd s6 hD, upd_same, ?_⟩⟩
          rw [take_of_get ho, List.map_append]; rfl
        | some l =>
          have hl : l < R.length := hok.lt row hrowm l (List.mem_of_getElem? ho)
          have a1 : atI (marks.map nV) (l : Int) = some (nV (marks.getD l 0)) := atI_nat (by rw [List.getElem?_map, List.getElem?_eq_getElem (by omega), List.getD_eq_getElem?_getD, List.getElem?_eq_getElem (by omega)]; rfl)
          refine ⟨_, rfl, rfl, false, rfl, iteF ⟨_, rfl, _, rfl, m, _, _, _, rfl, rfl, SqL.of (s6 _ _ hm5), a1, _, hD6, small1000 (by omega), _, same_upd s6 hD, upd_same, ?_⟩⟩
          rw [take_of_get ho, List.map_append]; rfl
      rintro acc H6 ⟨s6, hD6, rfl⟩
      rw [List.length_map, List.take_length] at hD6
      refine ⟨D, _, rfl, .inl ⟨SqL.of hD6, fun t ht => ⟨by show 2 ≤ sizeLine; decide, fun u hu => ?_⟩⟩⟩
      have st1 := same_new (o := .tup (row.map fun o => V.int (oI (o.map fun l => marks.getD l 0)))) ht
      have st2 := same_new (o := .tup [nV mk, .ref t]) hu
      have s57 := s6.trans (st1.trans st2)
      have hu7 : (upd (upd H6 t (.tup (row.map fun o => V.int (oI (o.map fun l => marks.getD l 0))))) u (.tup [nV mk, .ref t])) u = some (.tup [nV mk, .ref t]) := upd_same
      have ht7 := st2 _ _ (show (upd H6 t (.tup (row.map fun o => V.int (oI (o.map fun l => marks.getD l 0))))) t = _ from upd_same)
      generalize upd (upd H6 t (.tup (row.map fun o => V.int (oI (o.map fun l => marks.getD l 0))))) u (.tup [nV mk, .ref t]) = H7 at s57 hu7 ht7 ⊢
      have hkey : NkAt H7 (.ref u) (nkC (ckOf marks mk row)) := nk_C hu7 (by rw [ht7]; unfold ckOf; rw [List.map_map]; rfl)
      have s7 := sT.trans s57
      have hm7 := s57 _ _ hm5
      have hK7 := hK5.mono s57
      have hF7 := s57 _ _ hF5
      have hval := knL_get qk as 0 (ckOf marks mk row)
      have hstep : clsStep marks (qk, qf) (mk, row) = (addK qk (ckOf marks mk row), qf ++ [(addK qk (ckOf marks mk row)).idxOf (ckOf marks mk row)]) := rfl
      rw [hstep] at etake
      by_cases hmem : ckOf marks mk row ∈ qk
      · rw [if_pos hmem, Nat.zero_add] at hval
        have ea : addK qk (ckOf marks mk row) = qk := by unfold addK; rw [if_pos hmem]
        rw [ea] at etake
        refine ⟨_, rfl, _, rfl, u, kd, _, _, rfl, rfl, hK7, hkey, depth_nkC _, false, by rw [hval]; rfl, iteF ?_⟩
        refine ⟨_, rfl, .inl ⟨rfl, _, SqL.of hF7⟩, _, rfl, _, rfl, kd, u, _, _, _, rfl, rfl, hK7, hkey, depth_nkC _, hval, fd, _, _, rfl, rfl, hF7, by rw [List.length_map]; exact small1000 (by omega), ?_⟩
        refine ⟨_, _, _, _, as, rfl, same_upd s7 fdH, by rw [upd_ne nfm.symm]; exact hm7, ?_, by rw [etake]; exact has, ?_⟩
        · rw [etake]
          exact hK7.x (samex_upd (W := [fd]) (SameX.refl _ _) (.inl (by simp))) (by simp; exact nkf.symm) (fun b xs hb => by rw [List.mem_singleton] at hb; rw [hb, hF7]; intro z; cases z)
        · rw [upd_same, etake, List.map_append]; rfl
      · rw [if_neg hmem] at hval
        have ea : addK qk (ckOf marks mk row) = qk ++ [ckOf marks mk row] := by unfold addK; rw [if_neg hmem]
        have eix : (qk ++ [ckOf marks mk row]).idxOf (ckOf marks mk row) = qk.length := by rw [List.idxOf_append, if_neg hmem]; simp
        rw [ea, eix] at etake
        refine ⟨_, rfl, _, rfl, u, kd, _, _, rfl, rfl, hK7, hkey, depth_nkC _, true, by rw [hval]; rfl, iteT ?_⟩
        have evl : V.int (((knL qk as 0).length : Nat) : Int) = nV qk.length := by rw [knL_len]; rfl
        refine ⟨_, rfl, kd, _, rfl, hK7, _, rfl, _, rfl, kd, _, rfl, ⟨u, _, _, rfl, hK7, hkey, depth_nkC _, by rw [knL_len]; exact small1000 (by omega), rfl⟩, ?_⟩
        rw [evl, knL_put hmem has]
        have hK8 := NPut.dict (v := nV qk.length) hK7 hkey (depth_nkC _)
        rw [knL_put hmem has] at hK8
        have hm8 : (upd H7 kd (.ext (ndOf P w kd (knL (qk ++ [ckOf marks mk row]) (as ++ [u]) 0)))) m = some (.lst (marks.map nV)) := by rw [upd_ne nmk]; exact hm7
        have hF8 : (upd H7 kd (.ext (ndOf P w kd (knL (qk ++ [ckOf marks mk row]) (as ++ [u]) 0)))) fd = some (.lst (qf.map nV)) := by rw [upd_ne nkf]; exact hF7
        have hkey8 : NkAt (upd H7 kd (.ext (ndOf P w kd (knL (qk ++ [ckOf marks mk row]) (as ++ [u]) 0)))) (.ref u) (nkC (ckOf marks mk row)) := hkey.mono fun b xs z => by
          rw [upd_ne (ne_of z hK7.1 (by intro q; cases q))]; exact z
        have s8 := same_upd (o := .ext (ndOf P w kd (knL (qk ++ [ckOf marks mk row]) (as ++ [u]) 0))) s7 kdH
        generalize upd H7 kd (.ext (ndOf P w kd (knL (qk ++ [ckOf marks mk row]) (as ++ [u]) 0))) = H8 at hK8 hm8 hF8 hkey8 s8 ⊢
        have hval8 := knL_get (qk ++ [ckOf marks mk row]) (as ++ [u]) 0 (ckOf marks mk row)
        rw [if_pos (by simp), eix, Nat.zero_add] at hval8
        refine ⟨_, rfl, .inl ⟨rfl, _, SqL.of hF8⟩, _, rfl, _, rfl, kd, u, _, _, _, rfl, rfl, hK8, hkey8, depth_nkC _, hval8, fd, _, _, rfl, rfl, hF8, by rw [List.length_map]; exact small1000 (by omega), ?_⟩
        refine ⟨_, _, _, _, as ++ [u], rfl, same_upd s8 fdH, by rw [upd_ne nfm.symm]; exact hm8, ?_, by rw [etake]; simp [has], ?_⟩
        · rw [etake]
          exact hK8.x (samex_upd (W := [fd]) (SameX.refl _ _) (.inl (by simp))) (by simp; exact nkf.symm) (fun b xs hb => by rw [List.mem_singleton] at hb; rw [hb, hF8]; intro z; cases z)
        · rw [upd_same, etake, List.map_append]; rfl
    · rintro σ H4 ⟨v5, v6, v7, v8, as, rfl, s4, hm4, hK4, has, hF4⟩
      have emin : min (marks.map nV).length (rs.map V.ref).length = R.length := by rw [List.length_map, List.length_map, hml, hrl, Nat.min_self]
      rw [emin, List.take_of_length_le (by rw [hzl]; exact Nat.le_refl _)] at hK4 has hF4
      have hcl := clsTurn_len marks (marks.zip R)
      rw [hzl] at hcl
      generalize clsTurn marks (marks.zip R) = q at *
      obtain ⟨qk, qf⟩ := q
      dsimp only at *
      have evl : V.int (((knL qk as 0).length : Nat) : Int) = nV qk.length := by rw [knL_len]; rfl
      refine ⟨_, rfl, kd, _, rfl, hK4, _, rfl, rfl, decide (qk.length = many), ?_, ?_⟩
      · show V.bl (decide (V.int (((knL qk as 0).length : Nat) : Int) = nV many)) = _
        rw [knL_len]
        by_cases e : qk.length = many
        · rw [decide_eq_true e, e]; simp [nV]
        · rw [decide_eq_false e, decide_eq_false]
          intro z
          have := V.int.inj z
          omega
      by_cases e : qk.length = many
      · rw [decide_eq_true e]
        rw [if_pos e] at hr2
        refine iteT ⟨_, rfl, ?_⟩
        exact k H4 fd s4 (by rw [← Option.some.inj hr2]; exact hF4)
      · rw [decide_eq_false e]
        rw [if_neg e] at hr2
        refine iteF ⟨_, rfl, _, rfl, kd, _, rfl, hK4, by show 2 ≤ sizeLine; decide, fun tq htq => ?_⟩
        have sq := same_new (o := .tup [.ref fd, .int (((knL qk as 0).length : Nat) : Int)]) htq
        refine ⟨tq, _, rfl, .inl (.inl upd_same), rfl, _, _, rfl, _, _, rfl, rfl, ?_⟩
        exact ⟨_, _, _, _, _, _, fd, qf, qk.length, by rw [evl]; rfl, s4.trans sq, sq _ _ hF4, hcl.1, by rw [show N - (i + 1) = kk by omega]; exact hr2⟩
end
end T85
end

section
set_option Elab.async false
set_option linter.all false
set_option maxRecDepth 100000
set_option maxHeartbeats 4000000
namespace T85
open PySem PySem.Spec L2 Fx
def joinKv : List Addr → Nat → List (Key × V)
  | [], _ => []
  | r :: rs, k => ((Sum.inl (k : Int) : Key), .ref r) :: joinKv rs (k + 1)
theorem joinKv_get : ∀ (js : List Addr) (k i : Nat), valV (joinKv js k) ((Sum.inl ((k + i : Nat) : Int) : Key)) = (js[i]?).map V.ref
  | [], k, i => by simp [joinKv, valV]
  | r :: rs, k, 0 => by rw [joinKv, valV_pos (by simp)]; rfl
  | r :: rs, k, i + 1 => by
    rw [joinKv, valV_neg (fun z => by have := Sum.inl.inj z; omega), show k + (i + 1) = k + 1 + i by omega, joinKv_get rs (k + 1) i]; rfl
theorem joinKv_len : ∀ (js : List Addr) (k : Nat), (joinKv js k).length = js.length
  | [], _ => rfl
  | r :: rs, k => by simp [joinKv, joinKv_len rs]
theorem joinKv_app : ∀ (js : List Addr) (r : Addr) (k : Nat), joinKv (js ++ [r]) k = joinKv js k ++ [((Sum.inl ((k + js.length : Nat) : Int) : Key), .ref r)]
  | [], r, k => rfl
  | s :: js, r, k => by
    show _ :: joinKv (js ++ [r]) (k + 1) = _ :: (joinKv js (k + 1) ++ [((Sum.inl ((k + (js.length + 1) : Nat) : Int) : Key), .ref r)])
    rw [joinKv_app js r (k + 1), show k + 1 + js.length = k + (js.length + 1) by omega]
theorem joinKv_put (js : List Addr) (r : Addr) : putK (joinKv js 0) (Sum.inl ((js.length : Nat) : Int) : Key) (.ref r) = joinKv (js ++ [r]) 0 := by
  have h := joinKv_get js 0 js.length
  rw [Nat.zero_add, List.getElem?_eq_none (Nat.le_refl _)] at h
  rw [putK_new _ h, joinKv_app, Nat.zero_add]
section
variable {P : Program} {w : World} {K : PySem.W.Frag} {mg : Str → Option Value} {base : Heap}
def spJoined (K : PySem.W.Frag) : Sp := fun vs H Q _ => ∃ (a c : Addr) (rs : List Addr) (R : List Row0), vs = [.ref a, .ref c] ∧ H a = some (.lst (rs.map V.ref)) ∧ RowsA H rs (R.map fun r => r.map oN) [] ∧ RowsOk R ∧ H c = some (.lst ((List.range R.length).map nV)) ∧
  ∀ H' d js, Same H H' → H' d = some (.dK (joinKv js 0)) → RowsA H' js (R.map fun r => r.map oN) [] → Q (.ref d) H'
theorem ok_joined_steps (T : Says K mg) : Ok P w K mg base 1 ("joined_steps", none) ["steps", "classes"] (spJoined K) := by
  refine FunD.ok (d_joined_steps T) sc_joined_steps (fun vs H Q E h => ?len) (fun cdv A outer s H vs Q E hr h => ?bod)
  case len =>
    obtain ⟨a, c, rs, R, rfl, _⟩ := h; rfl
  case bod =>
    obtain ⟨a, c, rs, R, rfl, hA, hR, hok, hc, k⟩ := h
    have hu := hu_of hr
    have hrl : rs.length = R.length := by rw [hR.1, List.length_map]
    have hlenR := hok.len
    refine ⟨_, PSs.nox (pss_cons (ps_set (i := 2) sc_joined_steps.nd rfl (Or.inl rfl) pe_dnewK)
      (pss_cons (ps_for PassesOwn.never rfl (k_pizip (K := K) (by rfl) (by rfl) (T.free_ 34) (pa_cons (pv 0) (pa_cons (pv 1) pa_nil))) (k_tup (K := K) (n := 2) (by rfl) rfl (pgs_cons (pg_name (i := 3) sc_joined_steps.nd rfl (Or.inl rfl)) (pgs_cons (pg_name (i := 4) sc_joined_steps.nd rfl (Or.inl rfl)) pgs_nil)))
      (pss_one (ps_dput hu (pv 2) (pv 4) (pe_lc (own := [("led", 5)]) rfl sc_joined_steps.nd (k_pil (K := K) (by rfl) (pv 3)) (blkOk_by (N := N_joined_steps) (sc := defScope s_joined_steps) (by decide +kernel)) (fun _ _ _ _ _ => (pg_name (i := 5) sc_joined_steps.nd rfl (Or.inl rfl))) (fun _ _ _ _ _ => pts_nil) (fun _ _ _ _ _ => (pe_ifExp (pt_cmpR op_isN (pv 5) pe_non (nomark _)) pe_non (pe_ix (k_ixL (K := K) (by rfl)) (pv 1) (pv 5) (fun _ _ => rfl))))) rfl)))
      (pss_one (ps_ret (pv 2))))), ?_⟩
    intro d hd
    have sd := same_new (o := .dK []) hd
    have hd1 : (upd H d (.dK [])) d = some (.dK (joinKv [] 0)) := upd_same
    generalize upd H d (.dK []) = H1 at sd hd1 ⊢
    refine ⟨_, rfl, _, rfl, a, c, _, _, rfl, SqL.of (sd _ _ hA), SqL.of (sd _ _ hc), for_zipLL (fun j σ H' => ∃ (v3 v4 v5 : Option V) (js : List Addr), σ = [some (.ref a), some (.ref c), some (.ref d), v3, v4, v5] ∧ Same H H' ∧ H' d = some (.dK (joinKv js 0)) ∧ RowsA H' js ((R.take j).map fun r => r.map oN) [])
      ⟨none, none, none, [], rfl, sd, hd1, rfl, by simp⟩ (fun j σ H' _ ⟨_, _, _, _, _, s, _⟩ => ⟨SqL.of (s _ _ hA), SqL.of (s _ _ hc)⟩) ?_ ?_⟩
    · rintro j x y σ H2 T' hx hy ⟨v3, v4, v5, js, rfl, s2, hd2, hJ2⟩ hT'
      obtain ⟨ra, hra, rfl⟩ := getElem?_map_some hx
      have hj : j < R.length := hrl ▸ lt_of_get hra
      have hyj : y = nV j := by
        rw [List.getElem?_map, List.getElem?_range hj] at hy
        exact (Option.some.inj hy).symm
      subst hyj
      obtain ⟨row, hrow⟩ : ∃ row, R[j]? = some row := ⟨_, List.getElem?_eq_getElem hj⟩
      have hrowm := List.mem_of_getElem? hrow
      have hRrow := (hR.2 j ra (row.map oN) hra (by rw [List.getElem?_map, hrow]; rfl)).2
      have sT := same_upd (o := .tup [.ref ra, nV j]) s2 (s2.free hT')
      have sT2 := same_new (o := .tup [.ref ra, nV j]) hT'
      have hd3 := sT2 _ _ hd2
      have hJ3 := hJ2.mono sT2
      refine ⟨_, _, rfl, _, _, rfl, rfl, ?_⟩
      generalize upd H2 T' (.tup [.ref ra, nV j]) = H3 at sT hd3 hJ3 ⊢
      have hjs : js.length = j := by rw [hJ3.1, List.length_map, List.length_take]; omega
      refine ⟨_, rfl, ra, rfl, ⟨_, SqL.of (sT _ _ hRrow)⟩, fun D hD => ?_⟩
      have hrl6 := hok.row row hrowm
      refine lcm_list (xs := row.map oN) (fun q acc H6 => Same H3 H6 ∧ H6 D = some (.lst acc) ∧ acc = (row.take q).map oN) ⟨same_new hD, upd_same, rfl⟩ (fun q acc H6 h => SqL.of (h.1 _ _ (sT _ _ hRrow))) ?_ ?_
      · rintro q v acc H6 hv ⟨s6, hD6, rfl⟩
        obtain ⟨o, ho, rfl⟩ := getElem?_map_some hv
        have hlenq : ((row.take q).map oN).length ≤ 6 := by rw [List.length_map, List.length_take]; omega
        cases o with
        | none =>
          refine ⟨_, rfl, rfl, true, rfl, iteT ⟨_, hD6, small1000 (by omega), _, same_upd s6 hD, upd_same, ?_⟩⟩
          rw [take_of_get ho, List.map_append]; rfl
        | some l =>
          have hl : l < R.length := hok.lt row hrowm l (List.mem_of_getElem? ho)
          have a1 : atI ((List.range R.length).map nV) (l : Int) = some (nV l) := atI_nat (by rw [List.getElem?_map, List.getElem?_range hl]; rfl)
          refine ⟨_, rfl, rfl, false, rfl, iteF ⟨_, rfl, _, rfl, c, _, _, _, rfl, rfl, SqL.of (s6 _ _ (sT _ _ hc)), a1, _, hD6, small1000 (by omega), _, same_upd s6 hD, upd_same, ?_⟩⟩
          rw [take_of_get ho, List.map_append]; rfl
      rintro acc H6 ⟨s6, hD6, rfl⟩
      rw [List.length_map, List.take_length] at hD6
      have hd6 := s6 _ _ hd3
      have p1 := DPut.k (k := .inl (j : Int)) (v := .ref D) hd6 (by rw [joinKv_len]; exact small1000 (by omega))
      rw [← hjs, joinKv_put] at p1
      refine ⟨_, rfl, _, rfl, d, _, rfl, by rw [hjs] at p1; exact p1, ?_⟩
      have nD : D ≠ d := ne_of_none' hd3 hD
      refine ⟨_, _, _, js ++ [D], rfl, same_upd (sT.trans s6) hd, upd_same, ?_⟩
      rw [take_of_get hrow, List.map_append]
      exact ((hJ3.mono s6).put hd6 (by intro l z; cases z)).snoc (by rw [upd_ne nD]; exact hD6) (by simp)
    · rintro σ H2 ⟨v3, v4, v5, js, rfl, s2, hd2, hJ2⟩
      have emin : min (rs.map V.ref).length ((List.range R.length).map nV).length = R.length := by simp [hrl]
      rw [emin, List.take_length] at hJ2
      exact ⟨_, rfl, k _ _ js s2 hd2 hJ2⟩
end
end T85
end

section
set_option Elab.async false
set_option linter.all false
set_option maxRecDepth 100000
set_option maxHeartbeats 4000000
namespace T85
open PySem PySem.Spec L2 Fx
/-! ### numbers of states -/
def numStep (base : List Nat) (q : Nat × List (List Nat)) (p : Nat × Option Nat) : Option (Nat × List (List Nat)) := match p.2 with
  | none => some q
  | some l => if l < q.1 then some q else if l = q.1 then some (q.1 + 1, q.2 ++ [base ++ [p.1]]) else none
def numFold (base : List Nat) : List (Option Nat) → Nat → Nat × List (List Nat) → Option (Nat × List (List Nat))
  | [], _, q => some q
  | o :: r, f, q => match numStep base q (f, o) with
    | none => none
    | some q' => numFold base r (f + 1) q'
def numRun (R : List Row0) : Nat → Nat → Nat × List (List Nat) → Option (Nat × List (List Nat))
  | 0, _, _ => none
  | k + 1, at_, q => if at_ < q.1 then (match numFold (q.2.getD at_ []) (R.getD at_ []) 0 q with
    | none => none
    | some q' => numRun R k (at_ + 1) q') else some q
/-- the row of numbers as a dict by names -/
def rowD (names : List Str) (row : Row0) : RowD := (names.zip row).map fun p => (p.1, p.2.map Int.ofNat)
theorem oV_N (o : Option Nat) : oV (o.map Int.ofNat) = oN o := by cases o <;> rfl
theorem rowD_none {names : List Str} {row : Row0} {j : Nat} {x : Str} (hn : names.Nodup) (hx : names[j]? = some x) : valV (rowV ((rowD names row).take j)) (.inr x) = none := by
  unfold valV
  rw [List.find?_eq_none.mpr]; rfl
  intro e he
  unfold rowV rowD at he
  obtain ⟨p, hp, rfl⟩ := List.mem_map.mp he
  rw [← List.map_take] at hp
  obtain ⟨q, hq, rfl⟩ := List.mem_map.mp hp
  intro z
  have z := Sum.inr.inj (of_decide_eq_true z)
  dsimp only at z
  obtain ⟨i, hi⟩ := List.mem_iff_getElem?.mp hq
  have hij : i < j := by have := lt_of_get hi; rw [List.length_take] at this; omega
  rw [List.getElem?_take_of_lt hij, List.getElem?_zip_eq_some] at hi
  have := (List.getElem?_inj (i := i) (j := j) (lt_of_get hi.1) hn).mp (by rw [hi.1, hx, z])
  omega
theorem rowD_get {names : List Str} {row : Row0} {j : Nat} {x : Str} {o : Option Nat} (hx : names[j]? = some x) (ho : row[j]? = some o) : (rowD names row)[j]? = some (x, o.map Int.ofNat) := by
  unfold rowD
  rw [List.getElem?_map, (List.getElem?_zip_eq_some (z := (x, o))).mpr ⟨hx, ho⟩]; rfl
def plK (m : Nat) : List (Key × V) := (List.range m).map fun i : Nat => ((Sum.inl (i : Int) : Key), nV i)
theorem plK_get (m l : Nat) : valV (plK m) (Sum.inl (l : Int) : Key) = if l < m then some (nV l) else none := by
  induction m with
  | zero => rfl
  | succ m ih =>
    unfold plK valV at ih ⊢
    rw [List.range_succ, List.map_append, List.find?_append]
    by_cases h : l < m
    · rw [if_pos h] at ih
      rw [if_pos (by omega)]
      cases e : (List.find? (fun kv => decide (kv.1 = (Sum.inl (l : Int) : Key))) ((List.range m).map fun i : Nat => ((Sum.inl (i : Int) : Key), nV i))) with
      | none => rw [e] at ih; cases ih
      | some y => rw [e] at ih; exact ih
    · rw [if_neg h] at ih
      cases e : (List.find? (fun kv => decide (kv.1 = (Sum.inl (l : Int) : Key))) ((List.range m).map fun i : Nat => ((Sum.inl (i : Int) : Key), nV i))) with
      | some y => rw [e] at ih; cases ih
      | none =>
        by_cases h2 : l = m
        · subst h2; simp
        · rw [if_neg (by omega)]
          have : ¬ (Sum.inl (m : Int) : Key) = Sum.inl (l : Int) := fun z => by have := Sum.inl.inj z; omega
          simp [this]
theorem plK_put (m : Nat) : putK (plK m) (Sum.inl (m : Int) : Key) (nV m) = plK (m + 1) := by
  rw [putK_new _ (by rw [plK_get, if_neg (by omega)])]
  unfold plK
  rw [List.range_succ, List.map_append]; rfl
/-- least rows: tuples of names -/
def lstN (names : List Str) (l : List Nat) : List V := l.map fun f => V.str (names.getD f "")
def LeastAt (H : Hp) (us : List Addr) (names : List Str) (L : List (List Nat)) : Prop := us.length = L.length ∧ ∀ (j : Nat) u l, us[j]? = some u → L[j]? = some l → H u = some (.tup (lstN names l))
theorem LeastAt.mono {H H' : Hp} {us : List Addr} {names : List Str} {L : List (List Nat)} (h : LeastAt H us names L) (s : Same H H') : LeastAt H' us names L := ⟨h.1, fun j u t a b => s _ _ (h.2 j u t a b)⟩
theorem LeastAt.put {H : Hp} {us : List Addr} {names : List Str} {L : List (List Nat)} {b : Addr} {o o' : HO} (h : LeastAt H us names L) (hb : H b = some o') (ho : ∀ l, o' ≠ .tup l) : LeastAt (upd H b o) us names L :=
  ⟨h.1, fun j u t a c => by
    have z := h.2 j u t a c
    rw [upd_ne (fun e => by rw [e, hb] at z; exact ho _ (Option.some.inj z))]; exact z⟩
theorem LeastAt.snoc {H : Hp} {us : List Addr} {names : List Str} {L : List (List Nat)} {u : Addr} {t : List Nat} (h : LeastAt H us names L) (hu : H u = some (.tup (lstN names t))) : LeastAt H (us ++ [u]) names (L ++ [t]) := by
  refine ⟨by rw [List.length_append, List.length_append, h.1, List.length_singleton, List.length_singleton], fun j v s h1 h2 => ?_⟩
  by_cases hj : j < us.length
  · rw [List.getElem?_append_left hj] at h1
    rw [List.getElem?_append_left (by rw [← h.1]; exact hj)] at h2
    exact h.2 j v s h1 h2
  · have hj' : j = us.length := by have := lt_of_get h1; rw [List.length_append, List.length_singleton] at this; omega
    rw [hj', List.getElem?_append_right (Nat.le_refl _), Nat.sub_self] at h1
    rw [hj', h.1, List.getElem?_append_right (Nat.le_refl _), Nat.sub_self] at h2
    injection h1 with h1
    injection h2 with h2
    rw [← h1, ← h2]; exact hu
/-- dicts of rows -/
def DictsA (H : Hp) (rs : List Addr) (D : List RowD) : Prop := rs.length = D.length ∧ ∀ (j : Nat) r row, rs[j]? = some r → D[j]? = some row → H r = some (.dK (rowV row))
theorem DictsA.mono {H H' : Hp} {rs : List Addr} {D : List RowD} (h : DictsA H rs D) (s : Same H H') : DictsA H' rs D := ⟨h.1, fun j u t a b => s _ _ (h.2 j u t a b)⟩
theorem DictsA.put {H : Hp} {rs : List Addr} {D : List RowD} {b : Addr} {o : HO} (h : DictsA H rs D) (hb : b ∉ rs) : DictsA (upd H b o) rs D := ⟨h.1, fun j u t a c => by
    rw [upd_ne (fun e => hb (by rw [← e]; exact List.mem_of_getElem? a))]; exact h.2 j u t a c⟩
theorem DictsA.putL {H : Hp} {rs : List Addr} {D : List RowD} {b : Addr} {o : HO} {l : List V} (h : DictsA H rs D) (hb : H b = some (.lst l)) : DictsA (upd H b o) rs D := ⟨h.1, fun j u t a c => by
    have z := h.2 j u t a c
    rw [upd_ne (fun e => by rw [e, hb] at z; cases z)]; exact z⟩
theorem DictsA.snoc {H : Hp} {rs : List Addr} {D : List RowD} {r : Addr} {row : RowD} (h : DictsA H rs D) (hr : H r = some (.dK (rowV row))) : DictsA H (rs ++ [r]) (D ++ [row]) := by
  refine ⟨by rw [List.length_append, List.length_append, h.1, List.length_singleton, List.length_singleton], fun j v s h1 h2 => ?_⟩
  by_cases hj : j < rs.length
  · rw [List.getElem?_append_left hj] at h1
    rw [List.getElem?_append_left (by rw [← h.1]; exact hj)] at h2
    exact h.2 j v s h1 h2
  · have hj' : j = rs.length := by have := lt_of_get h1; rw [List.length_append, List.length_singleton] at this; omega
    rw [hj', List.getElem?_append_right (Nat.le_refl _), Nat.sub_self] at h1
    rw [hj', h.1, List.getElem?_append_right (Nat.le_refl _), Nat.sub_self] at h2
    injection h1 with h1
    injection h2 with h2
    rw [← h1, ← h2]; exact hr
end T85
end

section
set_option Elab.async false
set_option linter.all false
set_option maxRecDepth 100000
set_option maxHeartbeats 4000000
namespace T85
open PySem PySem.Spec L2 Fx
section
variable {P : Program} {w : World} {K : PySem.W.Frag} {mg : Str → Option Value} {base : Heap}
def spNumbered (K : PySem.W.Frag) : Sp := fun vs H Q _ => ∃ (d t : Addr) (js : List Addr) (names : List Str) (R : List Row0) (N m : Nat) (Lo : List (List Nat)), vs = [.ref d, nV 0, .ref t] ∧ H d = some (.dK (joinKv js 0)) ∧ RowsA H js (R.map fun r => r.map oN) [] ∧ RowsOk R ∧ 0 < R.length ∧
  SqT K H t (names.map V.str) ∧ names.Nodup ∧ names.length ≤ 6 ∧ (∀ r ∈ R, r.length = names.length) ∧ numRun R N 0 (1, [[]]) = some (m, Lo) ∧
  ∀ H' u fd ls rs us, Same H H' → H' u = some (.tup [.ref fd, .ref ls]) → H' fd = some (.lst (rs.map V.ref)) → DictsA H' rs ((R.take m).map (rowD names)) → H' ls = some (.lst (us.map V.ref)) → LeastAt H' us names Lo → Q (.ref u) H'
theorem ok_numbered (T : Says K mg) : Ok P w K mg base 1 ("numbered", none) ["steps", "first", "names"] (spNumbered K) := by
  refine FunD.ok (d_numbered T) sc_numbered (fun vs H Q E h => ?len) (fun cdv A outer s H vs Q E hr h => ?bod)
  case len =>
    obtain ⟨d, t, js, names, R, N, m, Lo, rfl, _⟩ := h; rfl
  case bod =>
    obtain ⟨d, t, js, names, R, N, m, Lo, rfl, hd, hJ, hok, hR0, ht, hnd, hn6, hrn, hrun, k⟩ := h
    have hu := hu_of hr
    have hjl : js.length = R.length := by rw [hJ.1, List.length_map]
    have hlenR := hok.len
    refine ⟨_, PSs.nox (pss_cons (ps_asg (pe_tup (pa_cons (pe_lst (pa_cons (pv 1) pa_nil)) (pa_cons (pe_disp (pps_cons (pv 1) pe_int pps_nil) (by rfl) (by rfl) (fun z => by cases z) (by decide)) (pa_cons (pe_lst (pa_cons (pe_tup pa_nil) pa_nil)) (pa_cons (pe_lst pa_nil) pa_nil))))) (k_tup (K := K) (n := 4) (by rfl) rfl (pgs_cons (pg_name (i := 3) sc_numbered.nd rfl (Or.inl rfl)) (pgs_cons (pg_name (i := 4) sc_numbered.nd rfl (Or.inl rfl)) (pgs_cons (pg_name (i := 5) sc_numbered.nd rfl (Or.inl rfl)) (pgs_cons (pg_name (i := 6) sc_numbered.nd rfl (Or.inl rfl)) pgs_nil))))))
      (pss_cons (ps_while PassesOwn.never (pt_cmpR op_lt (pe_callB (k_len (K := K) (by rfl)) (by rfl) (T.free_ 7) (by decide +kernel) (pa_cons (pv 6) pa_nil)) (pe_callB (k_len (K := K) (by rfl)) (by rfl) (T.free_ 7) (by decide +kernel) (pa_cons (pv 3) pa_nil)) (nomark _)) (pss_cons (ps_par (i := 7) (j := 8) rfl sc_numbered.nd rfl rfl (by decide) rfl rfl (pa_cons (pe_callB (k_len (K := K) (by rfl)) (by rfl) (T.free_ 7) (by decide +kernel) (pa_cons (pv 6) pa_nil)) (pa_cons pe_dnewK pa_nil)) (by rfl))
      (pss_cons (ps_for PassesOwn.never rfl (k_pizipM (K := K) true false (by rfl) (by rfl) (T.free_ 34) (pa_cons (pv 2) (pa_cons (pe_dget hu (pv 0) (pe_ix (k_ixL (K := K) (by rfl)) (pv 3) (pv 7) (fun _ _ => rfl)) (fun _ _ => rfl)) pa_nil))) (k_tup (K := K) (n := 2) (by rfl) rfl (pgs_cons (pg_name (i := 9) sc_numbered.nd rfl (Or.inl rfl)) (pgs_cons (pg_name (i := 10) sc_numbered.nd rfl (Or.inl rfl)) pgs_nil)))
      (pss_cons (ps_if (pw_and (pt_cmpR op_notN (pv 10) pe_non (nomark _)) (pw_and1 (pt_cmp (pc_dnotin hu (pv 10) (pv 4))))).pt (pss_cons (ps_dput hu (pv 4) (pv 10) (pe_callB (k_len (K := K) (by rfl)) (by rfl) (T.free_ 7) (by decide +kernel) (pa_cons (pv 3) pa_nil)) rfl)
      (pss_cons (ps_expr (pe_bm PySem.F.plainAttrs_list PySem.F.slot_list_append PySem.F.type_list_append mt_append (pv 3) (pa_cons (pv 10) pa_nil)))
      (pss_one (ps_expr (pe_bm PySem.F.plainAttrs_list PySem.F.slot_list_append PySem.F.type_list_append mt_append (pv 5) (pa_cons (pe_op (k_catT (K := K) (by rfl)) (pe_ix (k_ixL (K := K) (by rfl)) (pv 5) (pv 7) (fun _ _ => rfl)) (pe_tup (pa_cons (pv 9) pa_nil))) pa_nil)))))) pss_nil)
      (pss_one (ps_dput hu (pv 8) (pv 9) (pe_ifExp (pt_cmpR op_isN (pv 10) pe_non (nomark _)) pe_non (pe_dget hu (pv 4) (pv 10) (fun _ _ => rfl))) rfl))))
      (pss_one (ps_expr (pe_bm PySem.F.plainAttrs_list PySem.F.slot_list_append PySem.F.type_list_append mt_append (pv 6) (pa_cons (pv 8) pa_nil)))))))
      (pss_one (ps_ret (pe_tup (pa_cons (pv 6) (pa_cons (pv 5) pa_nil))))))), ?_⟩
    refine ⟨_, rfl, by show 1 ≤ sizeLine; decide, fun od hod => ?_⟩
    have s1 := same_new (o := .lst [nV 0]) hod
    have ho1 : (upd H od (.lst [nV 0])) od = some (.lst [nV 0]) := upd_same
    generalize upd H od (.lst [nV 0]) = H1 at s1 ho1 ⊢
    intro pl hpl
    have hplH := s1.free hpl
    have s2 := same_upd (o := .dK (plK 1)) s1 hplH
    have s12 := same_new (o := .dK (plK 1)) hpl
    refine ⟨_, rfl, upd_same, [((Sum.inl (0 : Int) : Key), nV 0)], rfl, by decide, ?_⟩
    have em : mergeK [] [((Sum.inl (0 : Int) : Key), nV 0)] = plK 1 := rfl
    rw [em]
    have euu : upd (upd H1 pl (.dK [])) pl (.dK (plK 1)) = upd H1 pl (.dK (plK 1)) := by
      funext b
      by_cases e : b = pl
      · rw [e, upd_same, upd_same]
      · rw [upd_ne e, upd_ne e, upd_ne e]
    rw [euu]
    have hp2 : (upd H1 pl (.dK (plK 1))) pl = some (.dK (plK 1)) := upd_same
    have ho2 := s12 _ _ ho1
    generalize upd H1 pl (.dK (plK 1)) = H2 at s2 ho2 hp2 ⊢
    refine ⟨by show 0 ≤ sizeLine; decide, fun u0 hu0 => ⟨by show 1 ≤ sizeLine; decide, fun ls hls => ?_⟩⟩
    have s3 := same_upd (o := .tup []) s2 (s2.free hu0)
    have hlsH := s3.free hls
    have s4 := same_upd (o := .lst [.ref u0]) s3 hlsH
    have s23 := same_new (o := .tup []) hu0
    have s34 := same_new (o := .lst [.ref u0]) hls
    have hu4 := s34 _ _ (show (upd H2 u0 (.tup [])) u0 = some (.tup []) from upd_same)
    have hl4 : (upd (upd H2 u0 (.tup [])) ls (.lst [.ref u0])) ls = some (.lst [.ref u0]) := upd_same
    have ho4 := s34 _ _ (s23 _ _ ho2)
    have hp4 := s34 _ _ (s23 _ _ hp2)
    have nlo : ls ≠ od := ne_of_none' (s23 _ _ ho2) hls
    generalize upd (upd H2 u0 (.tup [])) ls (.lst [.ref u0]) = H4 at s4 hu4 hl4 ho4 hp4 ⊢
    refine ⟨by show 0 ≤ sizeLine; decide, fun fd hfd => ?_⟩
    have hfdH := s4.free hfd
    have s5 := same_upd (o := .lst []) s4 hfdH
    have s45 := same_new (o := .lst []) hfd
    have nfo : fd ≠ od := ne_of_none' ho4 hfd
    have nfl : fd ≠ ls := ne_of_none' hl4 hfd
    have hf5 : (upd H4 fd (.lst [])) fd = some (.lst []) := upd_same
    have hu5 := s45 _ _ hu4
    have hl5 := s45 _ _ hl4
    have ho5 := s45 _ _ ho4
    have hp5 := s45 _ _ hp4
    generalize upd H4 fd (.lst []) = H5 at s5 hf5 hu5 hl5 ho5 hp5 ⊢
    have hodH := hod
    refine ⟨by show 4 ≤ sizeLine; decide, fun tq htq => ?_⟩
    have s6 := same_upd (o := .tup [.ref od, .ref pl, .ref ls, .ref fd]) s5 (s5.free htq)
    have s56 := same_new (o := .tup [.ref od, .ref pl, .ref ls, .ref fd]) htq
    refine ⟨tq, _, rfl, .inl (.inl upd_same), rfl, _, _, rfl, _, _, rfl, _, _, rfl, _, _, rfl, rfl, ?_⟩
    have hf6 := s56 _ _ hf5
    have hu6 := s56 _ _ hu5
    have hl6 := s56 _ _ hl5
    have ho6 := s56 _ _ ho5
    have hp6 := s56 _ _ hp5
    generalize upd H5 tq (.tup [.ref od, .ref pl, .ref ls, .ref fd]) = H6 at s6 hf6 hu6 hl6 ho6 hp6 ⊢
    have nop : od ≠ pl := ne_of ho6 hp6 (by intro z; cases z)
    have nlp : ls ≠ pl := ne_of hl6 hp6 (by intro z; cases z)
    have nfp : fd ≠ pl := ne_of hf6 hp6 (by intro z; cases z)
    refine while_m (fun i σ H' => ∃ (v7 v8 v9 v10 : Option V) (us : List Addr) (L : List (List Nat)) (rs : List Addr) (mi : Nat), σ = [some (.ref d), some (nV 0), some (.ref t), some (.ref od), some (.ref pl), some (.ref ls), some (.ref fd), v7, v8, v9, v10] ∧ Same H H' ∧ H' od = some (.lst ((List.range mi).map nV)) ∧ H' pl = some (.dK (plK mi)) ∧
        H' ls = some (.lst (us.map V.ref)) ∧ LeastAt H' us names L ∧ H' fd = some (.lst (rs.map V.ref)) ∧ DictsA H' rs ((R.take i).map (rowD names)) ∧ pl ∉ rs ∧ i ≤ mi ∧ mi ≤ R.length ∧ L.length = mi ∧ (∀ l ∈ L, l.length ≤ i) ∧ numRun R (N - i) i (mi, L) = some (m, Lo)) N
      ⟨none, none, none, none, [u0], [[]], [], 1, rfl, s6, ho6, hp6, hl6, ⟨rfl, fun j u l h1 h2 => ?_⟩, hf6, ⟨rfl, by simp⟩, by simp, Nat.zero_le _, hR0, rfl, by simp, hrun⟩ ?_
    · cases j with
      | zero => injection h1 with h1; injection h2 with h2; rw [← h1, ← h2]; exact hu6
      | succ j => simp at h1
    rintro i σ H7 hi ⟨v7, v8, v9, v10, us, L, rs, mi, rfl, s7, ho7, hp7, hl7, hLe7, hf7, hD7, hprs, him, hmR, hLl, hLb, hrun7⟩
    have hrsl : rs.length = i := by rw [hD7.1, List.length_map, List.length_take]; omega
    obtain ⟨kk, hkk⟩ : ∃ kk, N - i = kk := ⟨_, rfl⟩
    rw [hkk] at hrun7
    cases kk with
    | zero => unfold numRun at hrun7; cases hrun7
    | succ kk =>
    unfold numRun at hrun7
    refine ⟨_, rfl, fd, _, rfl, .inl (SqL.of hf7), _, rfl, od, _, rfl, .inl (SqL.of ho7), _, _, rfl, rfl, decide (i < mi), ?_, ?_⟩
    · rw [List.length_map, List.length_map, List.length_range, hrsl]
      show V.bl (decide ((i : Int) < (mi : Int))) = _
      by_cases e : i < mi
      · rw [decide_eq_true e, decide_eq_true (by omega)]
      · rw [decide_eq_false e, decide_eq_false (by omega)]
    by_cases e : i < mi
    · rw [if_pos e] at hrun7
      rw [decide_eq_true e]
      refine iteT ⟨_, wm_nx (by omega), ?_⟩
      obtain ⟨row, hrow⟩ : ∃ row, R[i]? = some row := ⟨_, List.getElem?_eq_getElem (by omega)⟩
      obtain ⟨base', hbase⟩ : ∃ b, L[i]? = some b := ⟨_, List.getElem?_eq_getElem (by omega)⟩
      have hrowm := List.mem_of_getElem? hrow
      have e1 : R.getD i [] = row := by rw [List.getD_eq_getElem?_getD, hrow]; rfl
      have e2 : L.getD i [] = base' := by rw [List.getD_eq_getElem?_getD, hbase]; rfl
      dsimp only at hrun7
      rw [e1, e2] at hrun7
      cases hfold : numFold base' row 0 (mi, L) with
      | none => rw [hfold] at hrun7; cases hrun7
      | some q' =>
      rw [hfold] at hrun7
      obtain ⟨mq, Lq⟩ := q'
      dsimp only at hrun7
      obtain ⟨ja, hja⟩ : ∃ ja, js[i]? = some ja := ⟨_, List.getElem?_eq_getElem (by omega)⟩
      have hRow := (hJ.2 i ja (row.map oN) hja (by rw [List.getElem?_map, hrow]; rfl)).2
      have hrl := hrn row hrowm
      refine ⟨_, rfl, fd, _, rfl, .inl (SqL.of hf7), fun rd hrd => ⟨_, _, rfl, ?_⟩⟩
      have sr := same_new (o := .dK []) hrd
      have hrdH := s7.free hrd
      have s8 := same_upd (o := .dK []) s7 hrdH
      have hr8 : (upd H7 rd (.dK [])) rd = some (.dK []) := upd_same
      have ho8 := sr _ _ ho7
      have hp8 := sr _ _ hp7
      have hl8 := sr _ _ hl7
      have hLe8 := hLe7.mono sr
      have hf8 := sr _ _ hf7
      have hD8 := hD7.mono sr
      have nrp : rd ≠ pl := ne_of_none' hp7 hrd
      have hrrs : rd ∉ rs := fun z => by
        obtain ⟨q, hq⟩ := List.mem_iff_getElem?.mp z
        obtain ⟨rw', hrw⟩ : ∃ x, ((R.take i).map (rowD names))[q]? = some x := ⟨_, List.getElem?_eq_getElem (by rw [← hD7.1]; exact lt_of_get hq)⟩
        have := hD7.2 q rd rw' hq hrw
        rw [hrd] at this; cases this
      generalize upd H7 rd (.dK []) = H8 at s8 hr8 ho8 hp8 hl8 hLe8 hf8 hD8 ⊢
      have g1 := DGet.k (k := .inl (i : Int)) (s8 _ _ hd)
      rw [show (i : Int) = ((0 + i : Nat) : Int) by omega, joinKv_get, hja] at g1
      have g1' : DGet H8 d (nV i) (some (.ref ja)) := by
        have : nV i = kV (.inl ((0 + i : Nat) : Int)) := by unfold nV kV; congr 1; omega
        rw [this]; exact g1
      have hai : atI ((List.range mi).map nV) (((rs.map V.ref).length : Nat) : Int) = some (nV i) := atI_nat (by rw [List.length_map, hrsl, List.getElem?_map, List.getElem?_range e]; rfl)
      have eat : some (V.int (((rs.map V.ref).length : Nat) : Int)) = some (nV i) := by rw [List.length_map, hrsl]; rfl
      refine ⟨_, rfl, _, rfl, _, rfl, _, rfl, od, _, _, _, rfl, rfl, SqL.of ho8, hai, d, _, rfl, g1', t, ja, names.map V.str, row.map oN, rfl, sqt_mono s8 ht, SqL.of (s8 _ _ hRow), ?_⟩
      refine for_zipM (t := true) (u := false) (fun j σ H' => ∃ (v9 v10 : Option V) (us' : List Addr) (L' : List (List Nat)) (mj : Nat), σ = [some (.ref d), some (nV 0), some (.ref t), some (.ref od), some (.ref pl), some (.ref ls), some (.ref fd), some (nV i), some (.ref rd), v9, v10] ∧ Same H H' ∧ H' od = some (.lst ((List.range mj).map nV)) ∧ H' pl = some (.dK (plK mj)) ∧
        H' ls = some (.lst (us'.map V.ref)) ∧ LeastAt H' us' names L' ∧ H' fd = some (.lst (rs.map V.ref)) ∧ DictsA H' rs ((R.take i).map (rowD names)) ∧ i < mj ∧ mj ≤ R.length ∧ L'.length = mj ∧ (∀ l ∈ L', l.length ≤ i + 1) ∧ L'[i]? = some base' ∧ H' rd = some (.dK (rowV ((rowD names row).take j))) ∧ numFold base' (row.drop j) j (mj, L') = some (mq, Lq))
        ⟨v9, v10, us, L, mi, by rw [← eat]; rfl, s8, ho8, hp8, hl8, hLe8, hf8, hD8, e, hmR, hLl, fun l hl => Nat.le_succ_of_le (hLb l hl), hbase, hr8, hfold⟩ (fun j σ H' _ ⟨_, _, _, _, _, _, s, _⟩ => ⟨sqt_mono s ht, SqL.of (s _ _ hRow)⟩) ?_ ?_
      · rintro j x y σ H9 T' hx hy ⟨v9, v10, us', L', mj, rfl, s9, ho9, hp9, hl9, hLe9, hf9, hD9, hij, hmj, hLl9, hLb9, hbase9, hr9, hfold9⟩ hT'
        obtain ⟨nm, hnm, rfl⟩ := getElem?_map_some hx
        obtain ⟨o, ho, rfl⟩ := getElem?_map_some hy
        have hjn : j < 6 := by have := lt_of_get hnm; omega
        have sT := same_upd (o := .tup [.str nm, oN o]) s9 (s9.free hT')
        have sT9 := same_new (o := .tup [.str nm, oN o]) hT'
        have ho10 := sT9 _ _ ho9
        have hp10 := sT9 _ _ hp9
        have hl10 := sT9 _ _ hl9
        have hLe10 := hLe9.mono sT9
        have hf10 := sT9 _ _ hf9
        have hD10 := hD9.mono sT9
        have hr10 := sT9 _ _ hr9
        refine ⟨_, _, rfl, _, _, rfl, rfl, ?_⟩
        generalize upd H9 T' (.tup [.str nm, oN o]) = H10 at sT ho10 hp10 hl10 hLe10 hf10 hD10 hr10 ⊢
        have eput : ∀ v, v = oN o → putK (rowV ((rowD names row).take j)) (.inr nm) v = rowV ((rowD names row).take (j + 1)) := fun v ev => by
          rw [putK_new _ (rowD_none hnd hnm), take_of_get (rowD_get hnm ho)]
          unfold rowV
          rw [List.map_append, ev, ← oV_N]; rfl
        have hrlen : (rowV ((rowD names row).take j)).length < sizeLine := by unfold rowV; rw [List.length_map, List.length_take]; exact small1000 (by omega)
        rw [drop_of_get ho] at hfold9
        unfold numFold at hfold9
        have nro : rd ≠ od := ne_of hr10 ho10 (by intro z; cases z)
        have nrl : rd ≠ ls := ne_of hr10 hl10 (by intro z; cases z)
        have nrf : rd ≠ fd := ne_of hr10 hf10 (by intro z; cases z)
        -- row[name] = ..
        have fin : ∀ (H11 : Hp) (us2 : List Addr) (L2 : List (List Nat)) (m2 : Nat) (v : V), v = oN o → Same H H11 → H11 od = some (.lst ((List.range m2).map nV)) → H11 pl = some (.dK (plK m2)) → H11 ls = some (.lst (us2.map V.ref)) → LeastAt H11 us2 names L2 → H11 fd = some (.lst (rs.map V.ref)) → DictsA H11 rs ((R.take i).map (rowD names)) →
            i < m2 → m2 ≤ R.length → L2.length = m2 → (∀ l ∈ L2, l.length ≤ i + 1) → L2[i]? = some base' → H11 rd = some (.dK (rowV ((rowD names row).take j))) → numFold base' (row.drop (j + 1)) (j + 1) (m2, L2) = some (mq, Lq) →
            ∃ H12, DPut H11 rd (.str nm) v H12 ∧ Same H H12 ∧ H12 od = some (.lst ((List.range m2).map nV)) ∧ H12 pl = some (.dK (plK m2)) ∧ H12 ls = some (.lst (us2.map V.ref)) ∧ LeastAt H12 us2 names L2 ∧ H12 fd = some (.lst (rs.map V.ref)) ∧ DictsA H12 rs ((R.take i).map (rowD names)) ∧ i < m2 ∧ m2 ≤ R.length ∧ L2.length = m2 ∧ (∀ l ∈ L2, l.length ≤ i + 1) ∧ L2[i]? = some base' ∧ H12 rd = some (.dK (rowV ((rowD names row).take (j + 1)))) ∧ numFold base' (row.drop (j + 1)) (j + 1) (m2, L2) = some (mq, Lq) := by
          intro H11 us2 L2 m2 v ev a1 a2 a3 a4 a5 a6 a7 a8 a9 a10 a11 a12 a13 a14
          refine ⟨_, DPut.k (k := .inr nm) (v := v) a13 hrlen, same_upd a1 hrdH, by rw [upd_ne nro.symm]; exact a2, by rw [upd_ne nrp.symm]; exact a3, by rw [upd_ne nrl.symm]; exact a4, a5.put a13 (by intro l z; cases z), by rw [upd_ne nrf.symm]; exact a6, a7.put hrrs, a8, a9, a10, a11, a12, ?_, a14⟩
          rw [upd_same, eput v ev]
        cases o with
        | none =>
          obtain ⟨H12, pp, b1, b2, b3, b4, b5, b6, b7, b8, b9, b10, b11, b12, b13, b14⟩ := fin H10 us' L' mj _ rfl sT ho10 hp10 hl10 hLe10 hf10 hD10 hij hmj hLl9 hLb9 hbase9 hr10 hfold9
          refine ⟨_, rfl, rfl, false, rfl, iteF ?_⟩
          refine ⟨_, rfl, rfl, true, rfl, iteT ⟨_, rfl, _, rfl, rd, _, rfl, pp, ?_⟩⟩
          exact ⟨_, _, us', L', mj, rfl, b1, b2, b3, b4, b5, b6, b7, b8, b9, b10, b11, b12, b13, b14⟩
        | some l =>
          have g2 := DGet.k (k := .inl (l : Int)) hp10
          rw [plK_get] at g2
          unfold numStep at hfold9
          dsimp only at hfold9
          by_cases hl : l < mj
          · rw [if_pos hl] at g2 hfold9
            obtain ⟨H12, pp, b1, b2, b3, b4, b5, b6, b7, b8, b9, b10, b11, b12, b13, b14⟩ := fin H10 us' L' mj _ rfl sT ho10 hp10 hl10 hLe10 hf10 hD10 hij hmj hLl9 hLb9 hbase9 hr10 hfold9
            refine ⟨_, rfl, rfl, true, rfl, iteT ⟨_, rfl, _, rfl, pl, _, rfl, g2, false, rfl, iteF ?_⟩⟩
            refine ⟨_, rfl, rfl, false, rfl, iteF ⟨_, rfl, _, rfl, pl, _, rfl, g2, _, rfl, _, rfl, rd, _, rfl, pp, ?_⟩⟩
            exact ⟨_, _, us', L', mj, rfl, b1, b2, b3, b4, b5, b6, b7, b8, b9, b10, b11, b12, b13, b14⟩
          · rw [if_neg hl] at g2 hfold9
            by_cases hl2 : l = mj
            · rw [if_pos hl2] at hfold9
              dsimp only at hfold9
              have hlR : l < R.length := hok.lt row hrowm l (List.mem_of_getElem? ho)
              refine ⟨_, rfl, rfl, true, rfl, iteT ⟨_, rfl, _, rfl, pl, _, rfl, g2, true, rfl, iteT ?_⟩⟩
              have p1 := DPut.k (k := .inl (l : Int)) (v := nV mj) hp10 (by unfold plK; rw [List.length_map, List.length_range]; exact small1000 (by omega))
              have epl : putK (plK mj) (Sum.inl (l : Int) : Key) (nV mj) = plK (mj + 1) := by rw [hl2]; exact plK_put mj
              rw [epl] at p1
              have evl : V.int ((((List.range mj).map nV).length : Nat) : Int) = nV mj := by rw [List.length_map, List.length_range]; rfl
              refine ⟨_, rfl, od, _, rfl, .inl (SqL.of ho10), _, rfl, _, rfl, pl, _, rfl, by rw [evl]; exact p1, ?_⟩
              have s11 := same_upd (o := .dK (plK (mj + 1))) sT hplH
              have ho11 : (upd H10 pl (.dK (plK (mj + 1)))) od = some (.lst ((List.range mj).map nV)) := by rw [upd_ne nop]; exact ho10
              have hp11 : (upd H10 pl (.dK (plK (mj + 1)))) pl = some (.dK (plK (mj + 1))) := upd_same
              have hl11 : (upd H10 pl (.dK (plK (mj + 1)))) ls = some (.lst (us'.map V.ref)) := by rw [upd_ne nlp]; exact hl10
              have hLe11 := hLe10.put (o := .dK (plK (mj + 1))) hp10 (by intro l z; cases z)
              have hf11 : (upd H10 pl (.dK (plK (mj + 1)))) fd = some (.lst (rs.map V.ref)) := by rw [upd_ne nfp]; exact hf10
              have hD11 := hD10.put (o := .dK (plK (mj + 1))) hprs
              have hr11 : (upd H10 pl (.dK (plK (mj + 1)))) rd = some (.dK (rowV ((rowD names row).take j))) := by rw [upd_ne nrp]; exact hr10
              generalize upd H10 pl (.dK (plK (mj + 1))) = H11 at s11 ho11 hp11 hl11 hLe11 hf11 hD11 hr11 ⊢
              refine ⟨_, rfl, .inl ⟨rfl, _, SqL.of ho11⟩, _, rfl, od, _, _, rfl, rfl, ho11, by rw [List.length_map, List.length_range]; exact small1000 (by omega), ?_⟩
              have eoR : (List.range mj).map nV ++ [oN (some l)] = (List.range (mj + 1)).map nV := by rw [List.range_succ, List.map_append, hl2]; rfl
              rw [eoR]
              have s12 := same_upd (o := .lst ((List.range (mj + 1)).map nV)) s11 hodH
              have ho12 : (upd H11 od (.lst ((List.range (mj + 1)).map nV))) od = some (.lst ((List.range (mj + 1)).map nV)) := upd_same
              have hp12 : (upd H11 od (.lst ((List.range (mj + 1)).map nV))) pl = some (.dK (plK (mj + 1))) := by rw [upd_ne nop.symm]; exact hp11
              have hl12 : (upd H11 od (.lst ((List.range (mj + 1)).map nV))) ls = some (.lst (us'.map V.ref)) := by rw [upd_ne nlo]; exact hl11
              have hLe12 := hLe11.put (o := .lst ((List.range (mj + 1)).map nV)) ho11 (by intro l z; cases z)
              have hf12 : (upd H11 od (.lst ((List.range (mj + 1)).map nV))) fd = some (.lst (rs.map V.ref)) := by rw [upd_ne nfo]; exact hf11
              have hD12 := hD11.putL (o := .lst ((List.range (mj + 1)).map nV)) ho11
              have hr12 : (upd H11 od (.lst ((List.range (mj + 1)).map nV))) rd = some (.dK (rowV ((rowD names row).take j))) := by rw [upd_ne nro]; exact hr11
              generalize upd H11 od (.lst ((List.range (mj + 1)).map nV)) = H12 at s12 ho12 hp12 hl12 hLe12 hf12 hD12 hr12 ⊢
              -- least.append(least[at] + (name,))
              obtain ⟨ub, hub⟩ : ∃ ub, us'[i]? = some ub := ⟨_, List.getElem?_eq_getElem (by rw [hLe12.1]; omega)⟩
              have hub12 := hLe12.2 i ub base' hub hbase9
              have hbl := hLb9 base' (List.mem_of_getElem? hbase9)
              have hia : atI (us'.map V.ref) (i : Int) = some (.ref ub) := atI_nat (by rw [List.getElem?_map, hub]; rfl)
              refine ⟨_, rfl, .inl ⟨rfl, _, SqL.of hl12⟩, _, rfl, _, rfl, ls, _, _, _, rfl, rfl, SqL.of hl12, hia, _, rfl, by show 1 ≤ sizeLine; decide, fun tn htn => ?_⟩
              have stn := same_new (o := .tup [.str nm]) htn
              refine cat_getH (stn _ _ hub12) upd_same (by unfold lstN; rw [List.length_map, List.length_singleton]; omega) fun H14 w14 s14 hw14 => ?_
              have s124 := stn.trans s14
              have hl14 := s124 _ _ hl12
              have hLe14 := hLe12.mono s124
              have elst : lstN names base' ++ [V.str nm] = lstN names (base' ++ [j]) := by
                unfold lstN; rw [List.map_append, List.map_cons, List.map_nil, List.getD_eq_getElem?_getD, hnm]; rfl
              rw [elst] at hw14
              refine ⟨ls, _, _, rfl, rfl, hl14, by rw [List.length_map, hLe14.1]; exact small1000 (by omega), ?_⟩
              have nls : ls ≠ rd := nrl.symm
              have hw15 : (upd H14 ls (.lst (us'.map V.ref ++ [.ref w14]))) w14 = some (.tup (lstN names (base' ++ [j]))) := by rw [upd_ne (ne_of hw14 hl14 (by intro z; cases z))]; exact hw14
              have hLe15 := (hLe14.put (o := .lst (us'.map V.ref ++ [.ref w14])) hl14 (by intro l z; cases z)).snoc hw15
              have hl15 : (upd H14 ls (.lst (us'.map V.ref ++ [.ref w14]))) ls = some (.lst ((us' ++ [w14]).map V.ref)) := by rw [upd_same, List.map_append]; rfl
              have ho15 : (upd H14 ls (.lst (us'.map V.ref ++ [.ref w14]))) od = some (.lst ((List.range (mj + 1)).map nV)) := by rw [upd_ne nlo.symm]; exact s124 _ _ ho12
              have hp15 : (upd H14 ls (.lst (us'.map V.ref ++ [.ref w14]))) pl = some (.dK (plK (mj + 1))) := by rw [upd_ne nlp.symm]; exact s124 _ _ hp12
              have hf15 : (upd H14 ls (.lst (us'.map V.ref ++ [.ref w14]))) fd = some (.lst (rs.map V.ref)) := by rw [upd_ne nfl]; exact s124 _ _ hf12
              have hD15 := (hD12.mono s124).putL (o := .lst (us'.map V.ref ++ [.ref w14])) hl14
              have hr15 : (upd H14 ls (.lst (us'.map V.ref ++ [.ref w14]))) rd = some (.dK (rowV ((rowD names row).take j))) := by rw [upd_ne nrl]; exact s124 _ _ hr12
              have s15 := same_upd (o := .lst (us'.map V.ref ++ [.ref w14])) (s12.trans s124) hlsH
              generalize upd H14 ls (.lst (us'.map V.ref ++ [.ref w14])) = H15 at hLe15 hl15 ho15 hp15 hf15 hD15 hr15 s15 ⊢
              have g3 := DGet.k (k := .inl (l : Int)) hp15
              rw [plK_get, if_pos (by omega)] at g3
              obtain ⟨H16, pp, b1, b2, b3, b4, b5, b6, b7, b8, b9, b10, b11, b12, b13, b14⟩ := fin H15 (us' ++ [w14]) (L' ++ [base' ++ [j]]) (mj + 1) _ rfl s15 ho15 hp15 hl15 hLe15 hf15 hD15 (by omega) (by omega) (by simp [hLl9]) (fun x hx => by
                rcases List.mem_append.mp hx with z | z
                · exact hLb9 x z
                · rw [List.mem_singleton] at z
                  rw [z, List.length_append, List.length_singleton]
                  have := hLb base' (List.mem_of_getElem? hbase)
                  omega) (by rw [List.getElem?_append_left (by omega)]; exact hbase9) hr15 hfold9
              refine ⟨_, rfl, rfl, false, rfl, iteF ⟨_, rfl, _, rfl, pl, _, rfl, g3, _, rfl, _, rfl, rd, _, rfl, pp, ?_⟩⟩
              exact ⟨_, _, us' ++ [w14], L' ++ [base' ++ [j]], mj + 1, rfl, b1, b2, b3, b4, b5, b6, b7, b8, b9, b10, b11, b12, b13, b14⟩
            · rw [if_neg hl2] at hfold9
              cases hfold9
      · rintro σ H9 ⟨v9, v10, us', L', mj, rfl, s9, ho9, hp9, hl9, hLe9, hf9, hD9, hij, hmj, hLl9, hLb9, hbase9, hr9, hfold9⟩
        have emin : min (names.map V.str).length (row.map oN).length = row.length := by rw [List.length_map, List.length_map, hrl, Nat.min_self]
        rw [emin] at hr9 hfold9
        rw [List.drop_length] at hfold9
        unfold numFold at hfold9
        have hq := Option.some.inj hfold9
        have hq1 : mj = mq := congrArg Prod.fst hq
        have hq2 : L' = Lq := congrArg Prod.snd hq
        subst hq1 hq2
        have edl : (rowD names row).take row.length = rowD names row := List.take_of_length_le (by unfold rowD; rw [List.length_map, List.length_zip]; omega)
        rw [edl] at hr9
        refine ⟨_, rfl, .inl ⟨rfl, _, SqL.of hf9⟩, _, rfl, fd, _, _, rfl, rfl, hf9, by rw [List.length_map, hrsl]; exact small1000 (by omega), ?_⟩
        refine ⟨_, _, _, _, us', L', rs ++ [rd], mj, rfl, same_upd s9 hfdH, by rw [upd_ne nfo.symm]; exact ho9, by rw [upd_ne nfp.symm]; exact hp9, by rw [upd_ne nfl.symm]; exact hl9, hLe9.put hf9 (by intro l z; cases z), by rw [upd_same, List.map_append]; rfl, ?_, ?_, hij, hmj, hLl9, hLb9, by rw [show N - (i + 1) = kk by omega]; exact hrun7⟩
        · rw [take_of_get hrow, List.map_append]
          exact (hD9.putL hf9).snoc (by rw [upd_ne (ne_of hr9 hf9 (by intro z; cases z))]; exact hr9)
        · intro z
          rcases List.mem_append.mp z with z | z
          · exact hprs z
          · rw [List.mem_singleton] at z; exact nrp z.symm
    · rw [if_neg e] at hrun7
      rw [decide_eq_false e]
      injection hrun7 with h1
      injection h1 with h1 h2
      refine iteF ⟨_, rfl, _, rfl, by show 2 ≤ sizeLine; decide, fun tu htu => ?_⟩
      have st := same_new (o := .tup [.ref fd, .ref ls]) htu
      have eim : i = m := by omega
      refine k _ tu fd ls rs us (s7.trans st) upd_same (st _ _ hf7) ?_ (st _ _ hl7) ?_
      · rw [← eim]; exact hD7.mono st
      · rw [← h2]; exact hLe7.mono st
end
end T85
end

section
set_option Elab.async false
set_option linter.all false
set_option maxRecDepth 100000
set_option maxHeartbeats 4000000
namespace T85
open PySem PySem.Spec L2 Fx
section
variable {P : Program} {w : World} {K : PySem.W.Frag} {mg : Str → Option Value} {base : Heap}
/-! ### the Machine -/
def spMachInit (K : PySem.W.Frag) : Sp := fun vs H Q _ => ∃ (p dx : Addr) (x y z : V), vs = [.ref p, x, y, z] ∧ H p = some (.ins (He.ga K "Machine") dx []) ∧
  ∀ H', SameX [p] H H' → H' p = some (.ins (He.ga K "Machine") dx [("own_fixers", x), ("own_steps", y), ("own_least", z)]) → Q .non H'
theorem ok_Machinedd_initdd (T : Says K mg) : Ok P w K mg base 1 ("Machine", some "__init__") ["self", "fixers", "steps", "least"] (spMachInit K) := by
  refine FunD.ok (d_Machinedd_initdd T) sc_Machinedd_initdd (fun vs H Q E h => ?len) (fun cdv A outer s H vs Q E hr h => ?bod)
  case len =>
    obtain ⟨p, dx, x, y, z, rfl, _⟩ := h; rfl
  case bod =>
    obtain ⟨p, dx, x, y, z, rfl, hi, k⟩ := h
    refine ⟨_, PSs.nox (pss_cons (ps_fld (pv 0) (pv 1) rfl)
      (pss_cons (ps_fld (pv 0) (pv 2) rfl)
      (pss_one (ps_fld (pv 0) (pv 3) rfl)))), ?_⟩
    refine ⟨_, rfl, _, rfl, p, _, dx, _, rfl, hi, cl_Machine T, na_Machine_own_fixers T, (by show 0 < 1000; decide), ?_⟩
    refine ⟨_, rfl, _, rfl, p, _, dx, _, rfl, upd_same, cl_Machine T, na_Machine_own_steps T, (by show 1 < 1000; decide), ?_⟩
    refine ⟨_, rfl, _, rfl, p, _, dx, _, rfl, upd_same, cl_Machine T, na_Machine_own_least T, (by show 2 < 1000; decide), ?_⟩
    exact k _ (samex_upd (samex_upd (samex_upd (SameX.refl _ _) (.inl (by simp))) (.inl (by simp))) (.inl (by simp))) upd_same
/-- a Machine at p -/
structure MachP (K : PySem.W.Frag) (H : Hp) (p t fd ls : Addr) (rs us : List Addr) (names : List Str) (D : List RowD) (L : List (List Nat)) : Prop where
  ins : ∃ dx, H p = some (.ins (He.ga K "Machine") dx [("own_fixers", .ref t), ("own_steps", .ref fd), ("own_least", .ref ls)])
  fix : SqT K H t (names.map V.str)
  stp : H fd = some (.lst (rs.map V.ref))
  dic : DictsA H rs D
  lea : H ls = some (.lst (us.map V.ref))
  lst : LeastAt H us names L
def MachAt (K : PySem.W.Frag) (H : Hp) (p : Addr) (names : List Str) (D : List RowD) (L : List (List Nat)) : Prop := ∃ t fd ls rs us, MachP K H p t fd ls rs us names D L
theorem MachAt.mono {H H' : Hp} {p : Addr} {names : List Str} {D : List RowD} {L : List (List Nat)} (h : MachAt K H p names D L) (s : Same H H') : MachAt K H' p names D L := by
  obtain ⟨t, fd, ls, rs, us, ⟨dx, h1⟩, h2, h3, h4, h5, h6⟩ := h
  exact ⟨t, fd, ls, rs, us, ⟨dx, s _ _ h1⟩, sqt_mono s h2, s _ _ h3, h4.mono s, s _ _ h5, h6.mono s⟩
/-- what the machine of such a book is made of -/
structure GoodM (n : Nat) (M : Nat → Nat → Int) (Ro : List Row0) (Lo : List (List Nat)) : Prop where
  bfs_ : ∃ S, bfs n (nxL n M) 40 [[]] [] = some (S, Ro)
  ok : RowsOk Ro
  cls : clsRun Ro 40 (List.replicate Ro.length 0) 1 = some (List.range Ro.length)
  num : numRun Ro 40 0 (1, [[]]) = some (Ro.length, Lo)
  pos : 0 < Ro.length
  row : ∀ r ∈ Ro, r.length = n
theorem same_x1 {H H' H1 : Hp} {p : Addr} (s : Same H H') (x : SameX [p] H' H1) (hp : H p = none) : Same H H1 := fun a o e => x a o (by
  simp only [List.mem_singleton]
  intro z; rw [z, hp] at e; cases e) (s a o e)
def spMachine (K : PySem.W.Frag) : Sp := fun vs H Q _ => ∃ (bk t q : Addr) (names : List Str) (R : Rs) (Ro : List Row0) (Lo : List (List Nat)), vs = [.ref bk] ∧ BookAt K H bk t q names R ∧ Srt names ∧ names.length ≤ 4 ∧ looseR R ∧ GoodM names.length (matOf names R) Ro Lo ∧
  ∀ H' p, Same H H' → MachAt K H' p names (Ro.map (rowD names)) Lo → Q (.ref p) H'
theorem ok_machine (T : Says K mg) : Ok P w K mg base 7 ("machine", none) ["book"] (spMachine K) := by
  have G_Marksdd_initdd := FnOk.mono (k := 5) (ok_Marksdd_initdd (P := P) (w := w) (base := base) T) (by decide)
  have G_steps_of := FnOk.mono (k := 6) (ok_steps_of (P := P) (w := w) (base := base) T) (by decide)
  have G_classes_of := FnOk.mono (k := 6) (ok_classes_of (P := P) (w := w) (base := base) T) (by decide)
  have G_joined_steps := FnOk.mono (k := 6) (ok_joined_steps (P := P) (w := w) (base := base) T) (by decide)
  have G_numbered := FnOk.mono (k := 6) (ok_numbered (P := P) (w := w) (base := base) T) (by decide)
  have G_Machinedd_initdd := FnOk.mono (k := 5) (ok_Machinedd_initdd (P := P) (w := w) (base := base) T) (by decide)
  refine FunD.ok (d_machine T) sc_machine (fun vs H Q E h => ?len) (fun cdv A outer s H vs Q E hr h => ?bod)
  case len =>
    obtain ⟨bk, t, q, names, R, Ro, Lo, rfl, _⟩ := h; rfl
  case bod =>
    obtain ⟨bk, t, q, names, R, Ro, Lo, rfl, hB, hS, hn, hR, hG, k⟩ := h
    obtain ⟨bx, hb⟩ := hB.ins
    refine ⟨_, PSs.nox (pss_cons (ps_set (i := 1) sc_machine.nd rfl (Or.inl rfl) (k_fld (K := K) (by rfl) (pv 0) rfl))
      (pss_cons (ps_if (pt_cmpR op_gt (pe_callB (k_len (K := K) (by rfl)) (by rfl) (T.free_ 7) (by decide +kernel) (pa_cons (pv 1) pa_nil)) (pe_globI (by rfl) (T.int_ 59)) (nomark _)) (pss_one ps_never) pss_nil)
      (pss_cons (ps_set (i := 2) sc_machine.nd rfl (Or.inl rfl) (pe_call G_steps_of hr (by rfl) (T.glo_ 62) (d_steps_of T).kp (b_steps_of T) .nil pass0 (pa_cons (pe_make (T.mkr_ 60) G_Marksdd_initdd hr (by rfl) (T.glo_ 61) (b_Marksdd_initdd T) .nil pass0 (pa_cons (pv 0) pa_nil)) (pa_cons (pe_callB (k_len (K := K) (by rfl)) (by rfl) (T.free_ 7) (by decide +kernel) (pa_cons (pv 1) pa_nil)) pa_nil))))
      (pss_cons (ps_set (i := 3) sc_machine.nd rfl (Or.inl rfl) (pe_call G_classes_of hr (by rfl) (T.glo_ 63) (d_classes_of T).kp (b_classes_of T) .nil pass0 (pa_cons (pv 2) pa_nil)))
      (pss_cons (ps_set (i := 4) sc_machine.nd rfl (Or.inl rfl) (pe_call G_joined_steps hr (by rfl) (T.glo_ 64) (d_joined_steps T).kp (b_joined_steps T) .nil pass0 (pa_cons (pv 2) (pa_cons (pv 3) pa_nil))))
      (pss_cons (ps_if (pt_cmpR op_gt (pe_callB call_lenD (by rfl) (T.free_ 7) (by decide +kernel) (pa_cons (pv 4) pa_nil)) (pe_globI (by rfl) (T.int_ 65)) (nomark _)) (pss_one ps_never) pss_nil)
      (pss_cons (ps_asg (pe_call G_numbered hr (by rfl) (T.glo_ 66) (d_numbered T).kp (b_numbered T) .nil pass0 (pa_cons (pv 4) (pa_cons (pe_ix (k_ixL (K := K) (by rfl)) (pv 3) pe_int (fun _ _ => rfl)) (pa_cons (pv 1) pa_nil)))) (k_tup (K := K) (n := 2) (by rfl) rfl (pgs_cons (pg_name (i := 5) sc_machine.nd rfl (Or.inl rfl)) (pgs_cons (pg_name (i := 6) sc_machine.nd rfl (Or.inl rfl)) pgs_nil))))
      (pss_one (ps_ret (pe_make (T.mkr_ 67) G_Machinedd_initdd hr (by rfl) (T.glo_ 58) (b_Machinedd_initdd T) .nil pass0 (pa_cons (pv 1) (pa_cons (pv 5) (pa_cons (pv 6) pa_nil))))))))))))), ?_⟩
    refine ⟨_, rfl, bk, _, bx, _, _, rfl, hb, cl_Book T, na_Book_own_fixers T, rfl, ?_⟩
    refine ⟨_, rfl, t, _, rfl, .inr hB.tup, _, _, rfl, rfl, false, ?_, iteF ?_⟩
    · show V.bl (decide ((4 : Int) < ((names.map V.str).length : Nat))) = _
      rw [decide_eq_false (by rw [List.length_map]; omega)]
    obtain ⟨S, hbfs⟩ := hG.bfs_
    obtain ⟨n, hnn⟩ : ∃ n, names.length = n := ⟨_, rfl⟩
    refine ⟨_, rfl, fun p dx hp hdx hne => ?_⟩
    have s0 : Same H (upd (upd H dx (.own p)) p (.ins (He.ga K "Marks") dx [])) := same_upd (same_new hdx) hp
    refine ⟨p, dx, bk, t, q, names, R, rfl, upd_same, hB.mono s0, hS, by omega, hR, fun H1 l lr d lm sx hMk hMo => ⟨rfl, ?_⟩⟩
    have s1 := same_x1 s0 sx hp
    refine ⟨_, rfl, t, _, rfl, .inr (sqt_mono s1 hB.tup), ?_⟩
    refine ⟨p, l, lr, d, lm, names.length, 40, matOf names R, S, Ro, by rw [List.length_map]; rfl, hMk, hMo, by omega, by decide, hbfs, fun H2 fd rs s2 hfd hrs => ?_⟩
    have hok := hG.ok
    refine ⟨_, rfl, fd, rs, Ro, 40, _, rfl, hfd, hrs, hok, hG.cls, fun H3 c s3 hc => ?_⟩
    have hfd3 := s3 _ _ hfd
    have hrs3 := hrs.mono s3
    refine ⟨_, rfl, _, rfl, fd, c, rs, Ro, rfl, hfd3, hrs3, hok, hc, fun H4 dj js s4 hdj hjs => ?_⟩
    have hjl : js.length = Ro.length := by rw [hjs.1, List.length_map]
    have hlenR := hok.len
    refine ⟨_, rfl, dj, _, rfl, hdj, _, _, rfl, rfl, false, ?_, iteF ?_⟩
    · show V.bl (decide ((2000 : Int) < ((joinKv js 0).length : Nat))) = _
      rw [decide_eq_false (by rw [joinKv_len]; omega)]
    have s14 := s1.trans (s2.trans (s3.trans s4))
    have hc0 : atI ((List.range Ro.length).map nV) 0 = some (nV 0) := atI_of (j := 0) rfl (by rw [List.getElem?_map, List.getElem?_range hG.pos]; rfl)
    refine ⟨_, rfl, _, rfl, c, _, _, _, rfl, rfl, SqL.of (s4 _ _ hc), hc0, _, rfl, dj, t, js, names, Ro, 40, _, _, rfl, hdj, hjs, hok, hG.pos, sqt_mono s14 hB.tup, hS.nodup, by omega, hG.row, hG.num, fun H5 u fd2 ls rs2 us s5 hu5 hfd5 hD5 hls5 hL5 => ?_⟩
    refine ⟨u, _, rfl, .inl (.inl hu5), rfl, _, _, rfl, _, _, rfl, rfl, ?_⟩
    refine ⟨_, rfl, _, rfl, _, rfl, fun p2 dx2 hp2 hdx2 hne2 => ?_⟩
    have s6 : Same H5 (upd (upd H5 dx2 (.own p2)) p2 (.ins (He.ga K "Machine") dx2 [])) := same_upd (same_new hdx2) hp2
    refine ⟨p2, dx2, _, _, _, rfl, upd_same, fun H6 sx6 hp6 => ⟨rfl, ?_⟩⟩
    have s56 := same_x1 s6 sx6 hp2
    have s06 := s14.trans (s5.trans s56)
    rw [List.take_length] at hD5
    exact k H6 p2 s06 ⟨t, fd2, ls, rs2, us, ⟨dx2, hp6⟩, sqt_mono s06 hB.tup, s56 _ _ hfd5, hD5.mono s56, s56 _ _ hls5, hL5.mono s56⟩
end
end T85
end

section
set_option Elab.async false
set_option linter.all false
set_option maxRecDepth 100000
set_option maxHeartbeats 4000000
namespace T85
open PySem PySem.Spec L2 Fx
/-! ### steps by numbers -/
def stepN (Ro : List Row0) (s f : Nat) : Option Nat := (Ro.getD s []).getD f none
def walkN (Ro : List Row0) : Option Nat → List Nat → Option Nat
  | o, [] => o
  | none, _ :: fs => walkN Ro none fs
  | some s, f :: fs => walkN Ro (stepN Ro s f) fs
theorem walkN_snoc (Ro : List Row0) : ∀ (fs : List Nat) (o : Option Nat) (f : Nat), walkN Ro o (fs ++ [f]) = (match walkN Ro o fs with | none => none | some s => stepN Ro s f)
  | [], none, f => by simp [walkN]
  | [], some s, f => by simp [walkN]
  | g :: fs, none, f => by simp only [List.cons_append, walkN]; exact walkN_snoc Ro fs none f
  | g :: fs, some s, f => by simp only [List.cons_append, walkN]; exact walkN_snoc Ro fs _ f
theorem step_lt {Ro : List Row0} (ok : RowsOk Ro) {s f l : Nat} (h : stepN Ro s f = some l) : l < Ro.length := by
  unfold stepN at h
  rw [List.getD_eq_getElem?_getD, List.getD_eq_getElem?_getD] at h
  cases e : Ro[s]? with
  | none => rw [e] at h; simp at h
  | some row =>
    rw [e] at h
    cases e2 : row[f]? with
    | none =>
      have h' : (row[f]?).getD none = some l := h
      rw [e2] at h'; cases h'
    | some o =>
      have h' : (row[f]?).getD none = some l := h
      rw [e2] at h'
      have h' : o = some l := h'
      exact ok.lt row (List.mem_of_getElem? e) l (h' ▸ List.mem_of_getElem? e2)
theorem walk_lt {Ro : List Row0} (ok : RowsOk Ro) : ∀ (fs : List Nat) (o : Option Nat) (l : Nat), (∀ k, o = some k → k < Ro.length) → walkN Ro o fs = some l → l < Ro.length
  | [], o, l, h, e => h l (by simpa [walkN] using e)
  | f :: fs, none, l, h, e => walk_lt ok fs none l (by simp) (by simpa [walkN] using e)
  | f :: fs, some s, l, h, e => walk_lt ok fs (stepN Ro s f) l (fun k hk => step_lt ok hk) (by simpa [walkN] using e)
theorem valV_app {κ : Type} [DecidableEq κ] (a b : List (κ × V)) (k : κ) (h : valV a k = none) : valV (a ++ b) k = valV b k := by
  unfold valV at h ⊢
  rw [List.find?_append]
  cases e : a.find? fun kv => decide (kv.1 = k) with
  | none => rfl
  | some y => rw [e] at h; cases h
theorem rowV_get {names : List Str} {row : Row0} {f : Nat} {x : Str} {o : Option Nat} (hn : names.Nodup) (hx : names[f]? = some x) (ho : row[f]? = some o) : valV (rowV (rowD names row)) (.inr x) = some (oN o) := by
  have h1 := rowD_none (row := row) hn hx
  have e : rowD names row = (rowD names row).take f ++ (rowD names row).drop f := (List.take_append_drop _ _).symm
  rw [e]
  unfold rowV at h1 ⊢
  rw [List.map_append, valV_app _ _ _ h1, drop_of_get (rowD_get hx ho), List.map_cons, valV_pos rfl, ← oV_N]
/-- the dicts of a machine -/
theorem dicts_get {H : Hp} {rs : List Addr} {names : List Str} {Ro : List Row0} (h : DictsA H rs (Ro.map (rowD names))) {s : Nat} {row : Row0} (hs : Ro[s]? = some row) : ∃ r, rs[s]? = some r ∧ H r = some (.dK (rowV (rowD names row))) := by
  have hl := lt_of_get hs
  obtain ⟨r, hr⟩ : ∃ r, rs[s]? = some r := ⟨_, List.getElem?_eq_getElem (by rw [h.1, List.length_map]; exact hl)⟩
  exact ⟨r, hr, h.2 s r _ hr (by rw [List.getElem?_map, hs]; rfl)⟩
section
variable {P : Program} {w : World} {K : PySem.W.Frag} {mg : Str → Option Value} {base : Heap}
def spWantState (K : PySem.W.Frag) : Sp := fun vs H Q _ => ∃ (p : Addr) (s : Nat) (names : List Str) (D : List RowD) (L : List (List Nat)), vs = [.ref p, nV s] ∧ MachAt K H p names D L ∧ s < D.length ∧ Q .non H
theorem ok_Machine_want_state (T : Says K mg) : Ok P w K mg base 3 ("Machine", some "want_state") ["self", "state"] (spWantState K) := by
  have G_is_count := FnOk.mono (k := 2) (ok_is_count (P := P) (w := w) (base := base) T) (by decide)
  refine FunD.ok (d_Machine_want_state T) sc_Machine_want_state (fun vs H Q E h => ?len) (fun cdv A outer s H vs Q E hr h => ?bod)
  case len =>
    obtain ⟨p, s, names, D, L, rfl, _⟩ := h; rfl
  case bod =>
    obtain ⟨p, s, names, D, L, rfl, ⟨t, fd, ls, rs, us, ⟨dx, hi⟩, hfx, hst, hdc, hle, hls⟩, hs, k⟩ := h
    refine ⟨_, PSs.nox (pss_one (ps_if (pw_or (pt_not (pt_val (pe_call G_is_count hr (by rfl) (T.glo_ 30) (d_is_count T).kp (b_is_count T) .nil pass0 (pa_cons (pv 1) pa_nil)))) (pw_or1 (pt_cmpR op_ge (pv 1) (pe_callB (k_len (K := K) (by rfl)) (by rfl) (T.free_ 7) (by decide +kernel) (pa_cons (k_fld (K := K) (by rfl) (pv 0) rfl) pa_nil)) (nomark _)))).pt (pss_one ps_never) pss_nil)), ?_⟩
    refine ⟨_, rfl, (s : Int), rfl, true, ?_, ?_⟩
    · show V.bl (decide (0 ≤ (s : Int))) = _; rw [decide_eq_true (by omega)]
    refine iteF ⟨_, rfl, _, rfl, p, _, dx, _, _, rfl, hi, cl_Machine T, na_Machine_own_steps T, rfl, fd, _, rfl, .inl (SqL.of hst), _, _, rfl, rfl, false, ?_, iteF k⟩
    show V.bl (decide ((((rs.map V.ref).length : Nat) : Int) ≤ (s : Int))) = _
    rw [decide_eq_false (by rw [List.length_map, hdc.1]; omega)]
def spStep (K : PySem.W.Frag) : Sp := fun vs H Q _ => ∃ (p : Addr) (s f : Nat) (x : Str) (names : List Str) (Ro : List Row0) (L : List (List Nat)), vs = [.ref p, nV s, .str x] ∧ MachAt K H p names (Ro.map (rowD names)) L ∧ s < Ro.length ∧ names[f]? = some x ∧ names.Nodup ∧ (∀ r ∈ Ro, r.length = names.length) ∧ Q (oN (stepN Ro s f)) H
theorem ok_Machine_step (T : Says K mg) : Ok P w K mg base 4 ("Machine", some "step") ["self", "state", "fixer"] (spStep K) := by
  have G_Machine_want_state := FnOk.mono (k := 3) (ok_Machine_want_state (P := P) (w := w) (base := base) T) (by decide)
  refine FunD.ok (d_Machine_step T) sc_Machine_step (fun vs H Q E h => ?len) (fun cdv A outer s H vs Q E hr h => ?bod)
  case len =>
    obtain ⟨p, s, f, x, names, Ro, L, rfl, _⟩ := h; rfl
  case bod =>
    obtain ⟨p, s, f, x, names, Ro, L, rfl, hM, hs, hf, hnd, hrn, k⟩ := h
    have ⟨t, fd, ls, rs, us, ⟨dx, hi⟩, hfx, hst, hdc, hle, hls⟩ := hM
    have hu := hu_of hr
    refine ⟨_, PSs.nox (pss_cons (ps_expr (pe_meth (pv 0) (T.cls_ 50) (T.meth_ 49) G_Machine_want_state hr (b_Machine_want_state T) .nil pass0 (pa_cons (pv 1) pa_nil)))
      (pss_cons (ps_if (pw_or (pt_not (pt_val (pe_callB (k_isi (K := K) (by rfl)) (by rfl) (T.free_ 0) (by decide +kernel) (pa_cons (pv 2) (pa_cons (pe_bltn (v := .ty "str") (u := .type "str") (by rfl) (T.free_ 6) (by decide +kernel) rfl) pa_nil))))) (pw_or1 (pt_cmpR (k_notIn (K := K) (by rfl)) (pv 2) (k_fld (K := K) (by rfl) (pv 0) rfl) (by rfl)))).pt (pss_one ps_never) pss_nil)
      (pss_one (ps_ret (pe_dget hu (pe_ix (k_ixL (K := K) (by rfl)) (k_fld (K := K) (by rfl) (pv 0) rfl) (pv 1) (fun _ _ => rfl)) (pv 2) (fun _ _ => rfl)))))), ?_⟩
    refine ⟨_, rfl, p, dx, _, rfl, hi, rfl, _, rfl, p, s, names, _, L, rfl, hM, by rw [List.length_map]; exact hs, ?_⟩
    refine ⟨_, rfl, _, _, _, _, true, rfl, .ty "str", .base (.str x), kit_ty (by decide +kernel), true, rfl, iteF ?_⟩
    refine ⟨_, rfl, _, rfl, p, _, dx, _, _, rfl, hi, cl_Machine T, na_Machine_own_fixers T, rfl, t, _, rfl, .inr hfx, rfl, flat_strs _, false, ?_, iteF ?_⟩
    · show V.bl (!inV (.str x) (names.map V.str)) = _
      rw [inV_str, decide_eq_true (List.mem_of_getElem? hf)]; rfl
    obtain ⟨row, hrow⟩ : ∃ row, Ro[s]? = some row := ⟨_, List.getElem?_eq_getElem hs⟩
    obtain ⟨r, hr1, hr2⟩ := dicts_get hdc hrow
    have hrl := hrn row (List.mem_of_getElem? hrow)
    obtain ⟨o, ho⟩ : ∃ o, row[f]? = some o := ⟨_, List.getElem?_eq_getElem (by rw [hrl]; exact lt_of_get hf)⟩
    have g := DGet.k (k := .inr x) hr2
    rw [rowV_get hnd hf ho] at g
    have eo : stepN Ro s f = o := by unfold stepN; rw [List.getD_eq_getElem?_getD, List.getD_eq_getElem?_getD, hrow]; show (row[f]?).getD none = o; rw [ho]; rfl
    rw [eo] at k
    have a1 : atI (rs.map V.ref) (s : Int) = some (.ref r) := atI_nat (by rw [List.getElem?_map, hr1]; rfl)
    exact ⟨_, rfl, p, _, dx, _, _, rfl, hi, cl_Machine T, na_Machine_own_steps T, rfl, _, rfl, fd, _, _, _, rfl, rfl, SqL.of hst, a1, _, rfl, r, _, rfl, g, k⟩
def namesOf (names : List Str) (fs : List Nat) : List Str := fs.map fun f => names.getD f ""
def spStateOf (K : PySem.W.Frag) : Sp := fun vs H Q _ => ∃ (p r : Addr) (fs : List Nat) (names : List Str) (Ro : List Row0) (L : List (List Nat)), vs = [.ref p, .ref r] ∧ MachAt K H p names (Ro.map (rowD names)) L ∧ RowAt K H r (namesOf names fs) ∧ (∀ f ∈ fs, f < names.length) ∧ names.Nodup ∧ (∀ r ∈ Ro, r.length = names.length) ∧ RowsOk Ro ∧ 0 < Ro.length ∧ Q (oN (walkN Ro (some 0) fs)) H
theorem ok_Machine_state_of (T : Says K mg) : Ok P w K mg base 4 ("Machine", some "state_of") ["self", "row"] (spStateOf K) := by
  have G_want_row := FnOk.mono (k := 3) (ok_want_row (P := P) (w := w) (base := base) T) (by decide)
  refine FunD.ok (d_Machine_state_of T) sc_Machine_state_of (fun vs H Q E h => ?len) (fun cdv A outer s H vs Q E hr h => ?bod)
  case len =>
    obtain ⟨p, r, fs, names, Ro, L, rfl, _⟩ := h; rfl
  case bod =>
    obtain ⟨p, r, fs, names, Ro, L, rfl, hM, hR, hfs, hnd, hrn, hok, h0, k⟩ := h
    have ⟨t, fd, ls, rs, us, ⟨dx, hi⟩, hfx, hst, hdc, hle, hls⟩ := hM
    have ⟨dr, t2, hri, ht2⟩ := hR
    have hu := hu_of hr
    have hmem : ∀ f ∈ fs, names[f]? = some (names.getD f "") := fun f hf => by rw [List.getD_eq_getElem?_getD, List.getElem?_eq_getElem (hfs f hf)]; rfl
    refine ⟨_, PSs.nox (pss_cons (ps_expr (pe_call G_want_row hr (by rfl) (T.glo_ 51) (d_want_row T).kp (b_want_row T) .nil pass0 (pa_cons (k_fld (K := K) (by rfl) (pv 0) rfl) (pa_cons (pv 1) pa_nil))))
      (pss_cons (ps_set (i := 2) sc_Machine_state_of.nd rfl (Or.inl rfl) pe_int)
      (pss_cons (ps_for PassesOwn.never rfl (k_pit (K := K) (by rfl) (k_fld (K := K) (by rfl) (pv 1) rfl)) (pg_name (i := 3) sc_Machine_state_of.nd rfl (Or.inl rfl))
      (pss_one (ps_if (pt_cmpR op_notN (pv 2) pe_non (nomark _)) (pss_one (ps_set (i := 2) sc_Machine_state_of.nd rfl (Or.inl rfl) (pe_dget hu (pe_ix (k_ixL (K := K) (by rfl)) (k_fld (K := K) (by rfl) (pv 0) rfl) (pv 2) (fun _ _ => rfl)) (pv 3) (fun _ _ => rfl)))) pss_nil)))
      (pss_one (ps_ret (pv 2)))))), ?_⟩
    refine ⟨_, rfl, p, _, dx, _, _, rfl, hi, cl_Machine T, na_Machine_own_fixers T, rfl, _, rfl, t, r, names, _, rfl, hfx, hR, fun x hx => ?_, ?_⟩
    · obtain ⟨f, hf, rfl⟩ := List.mem_map.mp hx
      exact List.mem_of_getElem? (hmem f hf)
    refine ⟨_, rfl, r, _, dr, _, _, rfl, hri, cl_Row T, na_Row_own_names T, rfl, t2, rfl, ⟨_, ht2⟩, ?_⟩
    refine for_tup (xs := (namesOf names fs).map V.str) (fun i σ H2 => H2 = H ∧ ∃ v3 : Option V, σ = [some (.ref p), some (.ref r), some (oN (walkN Ro (some 0) (fs.take i))), v3]) ⟨rfl, none, rfl⟩ (fun i σ H2 _ ⟨e, _⟩ => e ▸ ht2) ?_ ?_
    · rintro i y σ H2 hy ⟨rfl, v3, rfl⟩
      obtain ⟨x, hx, rfl⟩ := getElem?_map_some hy
      obtain ⟨f, hf, rfl⟩ := getElem?_map_some hx
      have hfm := List.mem_of_getElem? hf
      have hsnoc := walkN_snoc Ro (fs.take i) (some 0) f
      rw [← take_of_get hf] at hsnoc
      cases e : walkN Ro (some 0) (fs.take i) with
      | none =>
        rw [e] at hsnoc
        refine ⟨_, rfl, rfl, false, rfl, iteF ⟨rfl, some (.str (names.getD f "")), ?_⟩⟩
        rw [hsnoc]; rfl
      | some s =>
        rw [e] at hsnoc
        dsimp only at hsnoc
        have hs : s < Ro.length := walk_lt hok _ _ s (fun k hk => by cases hk; exact h0) e
        obtain ⟨row, hrow⟩ : ∃ row, Ro[s]? = some row := ⟨_, List.getElem?_eq_getElem hs⟩
        obtain ⟨r', hr1, hr2⟩ := dicts_get hdc hrow
        have hrl := hrn row (List.mem_of_getElem? hrow)
        obtain ⟨o, ho⟩ : ∃ o, row[f]? = some o := ⟨_, List.getElem?_eq_getElem (by rw [hrl]; exact hfs f hfm)⟩
        have g := DGet.k (k := .inr (names.getD f "")) hr2
        rw [rowV_get hnd (hmem f hfm) ho] at g
        have eo : stepN Ro s f = o := by unfold stepN; rw [List.getD_eq_getElem?_getD, List.getD_eq_getElem?_getD, hrow]; show (row[f]?).getD none = o; rw [ho]; rfl
        rw [eo] at hsnoc
        have a1 : atI (rs.map V.ref) (s : Int) = some (.ref r') := atI_nat (by rw [List.getElem?_map, hr1]; rfl)
        refine ⟨_, rfl, rfl, true, rfl, iteT ⟨_, rfl, p, _, dx, _, _, rfl, hi, cl_Machine T, na_Machine_own_steps T, rfl, _, rfl, fd, _, _, _, rfl, rfl, SqL.of hst, a1, _, rfl, r', _, rfl, g, rfl, some (.str (names.getD f "")), ?_⟩⟩
        rw [hsnoc]; rfl
    · rintro σ H2 ⟨rfl, v3, rfl⟩
      refine ⟨_, rfl, ?_⟩
      rw [List.length_map]
      unfold namesOf
      rw [List.length_map, List.take_length]
      exact k
def spRows (K : PySem.W.Frag) : Sp := fun vs H Q _ => ∃ (p : Addr) (names : List Str) (D : List RowD) (L : List (List Nat)), vs = [.ref p] ∧ MachAt K H p names D L ∧ D.length ≤ 100 ∧ ∀ H' l rs, Same H H' → H' l = some (.lst (rs.map V.ref)) → DictsA H' rs D → Q (.ref l) H'
theorem ok_Machine_rows (T : Says K mg) : Ok P w K mg base 1 ("Machine", some "rows") ["self"] (spRows K) := by
  refine FunD.ok (d_Machine_rows T) sc_Machine_rows (fun vs H Q E h => ?len) (fun cdv A outer s H vs Q E hr h => ?bod)
  case len =>
    obtain ⟨p, names, D, L, rfl, _⟩ := h; rfl
  case bod =>
    obtain ⟨p, names, D, L, rfl, ⟨t, fd, ls, rs, us, ⟨dx, hi⟩, hfx, hst, hdc, hle, hls⟩, hD, k⟩ := h
    refine ⟨_, PSs.nox (pss_one (ps_ret (pe_lc (own := [("row", 1)]) rfl sc_Machine_rows.nd (k_pil (K := K) (by rfl) (k_fld (K := K) (by rfl) (pv 0) rfl)) (blkOk_by (N := N_Machine_rows) (sc := defScope s_Machine_rows) (by decide +kernel)) (fun _ _ _ _ _ => (pg_name (i := 1) sc_Machine_rows.nd rfl (Or.inl rfl))) (fun _ _ _ _ _ => pts_nil) (fun _ _ _ _ _ => (pe_callTy call_dictD (by rfl) (T.free_ 52) (by decide +kernel) (pa_cons (pv 1) pa_nil)))))), ?_⟩
    refine ⟨_, rfl, p, _, dx, _, _, rfl, hi, cl_Machine T, na_Machine_own_steps T, rfl, fd, rfl, ⟨_, SqL.of hst⟩, fun l hl => ?_⟩
    refine lcm_list (xs := rs.map V.ref) (fun i acc H1 => ∃ rs' : List Addr, Same H H1 ∧ H1 l = some (.lst acc) ∧ acc = rs'.map V.ref ∧ DictsA H1 rs' (D.take i)) ⟨[], same_new hl, upd_same, rfl, rfl, by simp⟩ (fun i acc H1 ⟨_, s, _⟩ => SqL.of (s _ _ hst)) ?_ ?_
    · rintro i y acc H1 hy ⟨rs', s1, hl1, rfl, hd1⟩
      obtain ⟨r, hr1, rfl⟩ := getElem?_map_some hy
      have hiD : i < D.length := by rw [← hdc.1]; exact lt_of_get hr1
      obtain ⟨row, hrow⟩ : ∃ row, D[i]? = some row := ⟨_, List.getElem?_eq_getElem hiD⟩
      have hrr := hdc.2 i r row hr1 hrow
      have hrl : rs'.length = i := by rw [hd1.1, List.length_take]; omega
      refine ⟨_, rfl, r, _, rfl, .inl (s1 _ _ hrr), fun q hq => ?_⟩
      have sq := same_new (o := .dK (rowV row)) hq
      have hl2 := sq _ _ hl1
      have hq2 : (upd H1 q (.dK (rowV row))) q = some (.dK (rowV row)) := upd_same
      refine ⟨_, hl2, by rw [List.length_map, hrl]; exact small1000 (by omega), _, rs' ++ [q], same_upd (s1.trans sq) hl, upd_same, by rw [List.map_append]; rfl, ?_⟩
      rw [take_of_get hrow]
      exact ((hd1.mono sq).putL hl2).snoc (by rw [upd_ne (ne_of hq2 hl2 (by intro z; cases z))]; exact hq2)
    · rintro acc H1 ⟨rs', s1, hl1, rfl, hd1⟩
      rw [List.length_map, hdc.1, List.take_length] at hd1
      exact k H1 l rs' s1 hl1 hd1
def spLeast (K : PySem.W.Frag) : Sp := fun vs H Q _ => ∃ (p : Addr) (s : Nat) (names : List Str) (D : List RowD) (L : List (List Nat)) (fs : List Nat), vs = [.ref p, nV s] ∧ MachAt K H p names D L ∧ s < D.length ∧ L[s]? = some fs ∧ fs.length ≤ 400 ∧ (∀ f ∈ fs, f < names.length) ∧ (∀ x ∈ names, NameOk x) ∧
  ∀ H' r, Same H H' → RowAt K H' r (namesOf names fs) → Q (.ref r) H'
theorem ok_Machine_least (T : Says K mg) : Ok P w K mg base 4 ("Machine", some "least") ["self", "state"] (spLeast K) := by
  have G_Machine_want_state := FnOk.mono (k := 3) (ok_Machine_want_state (P := P) (w := w) (base := base) T) (by decide)
  have G_Rowdd_initdd := FnOk.mono (k := 2) (ok_Rowdd_initdd (P := P) (w := w) (base := base) T) (by decide)
  refine FunD.ok (d_Machine_least T) sc_Machine_least (fun vs H Q E h => ?len) (fun cdv A outer s H vs Q E hr h => ?bod)
  case len =>
    obtain ⟨p, s, names, D, L, fs, rfl, _⟩ := h; rfl
  case bod =>
    obtain ⟨p, s, names, D, L, fs, rfl, hM, hs, hL, hfl, hfs, hok, k⟩ := h
    have ⟨t, fd, ls, rs, us, ⟨dx, hi⟩, hfx, hst, hdc, hle, hls⟩ := hM
    refine ⟨_, PSs.nox (pss_cons (ps_expr (pe_meth (pv 0) (T.cls_ 50) (T.meth_ 49) G_Machine_want_state hr (b_Machine_want_state T) .nil pass0 (pa_cons (pv 1) pa_nil)))
      (pss_one (ps_ret (pe_make (T.mkr_ 54) G_Rowdd_initdd hr (by rfl) (T.glo_ 55) (b_Rowdd_initdd T) .nil pass0 (pa_cons (pe_ix (k_ixL (K := K) (by rfl)) (k_fld (K := K) (by rfl) (pv 0) rfl) (pv 1) (fun _ _ => rfl)) pa_nil))))), ?_⟩
    refine ⟨_, rfl, p, dx, _, rfl, hi, rfl, _, rfl, p, s, names, D, L, rfl, hM, hs, ?_⟩
    obtain ⟨u, hu⟩ : ∃ u, us[s]? = some u := ⟨_, List.getElem?_eq_getElem (by rw [hls.1]; exact lt_of_get hL)⟩
    have hut := hls.2 s u fs hu hL
    have a1 : atI (us.map V.ref) (s : Int) = some (.ref u) := atI_nat (by rw [List.getElem?_map, hu]; rfl)
    have enm : lstN names fs = (namesOf names fs).map V.str := by unfold lstN namesOf; rw [List.map_map]; rfl
    rw [enm] at hut
    refine ⟨_, rfl, p, _, dx, _, _, rfl, hi, cl_Machine T, na_Machine_own_least T, rfl, _, rfl, ls, _, _, _, rfl, rfl, SqL.of hle, a1, fun q dq hq hdq hne => ?_⟩
    have s0 : Same H (upd (upd H dq (.own q)) q (.ins (He.ga K "Row") dq [])) := same_upd (same_new hdq) hq
    refine ⟨q, dq, u, namesOf names fs, rfl, upd_same, .inr (.inl (.inl (s0 _ _ hut))), by unfold namesOf; rw [List.length_map]; exact hfl, fun x hx => ?_, fun H1 t1 sx hq1 ht1 => ⟨rfl, ?_⟩⟩
    · obtain ⟨f, hf, rfl⟩ := List.mem_map.mp hx
      have := hfs f hf
      rw [List.getD_eq_getElem?_getD, List.getElem?_eq_getElem this]
      exact hok _ (List.getElem_mem this)
    exact k H1 q (same_x1 s0 sx hq) ⟨dq, t1, hq1, ht1⟩
end
end T85
end

section
set_option Elab.async false
set_option linter.all false
set_option maxRecDepth 100000
set_option maxHeartbeats 4000000
namespace T85
open PySem PySem.Spec L2 Fx
theorem atI_last {xs : List V} {v : V} : atI (xs ++ [v]) (-1) = some v := by
  have e : ixN (xs ++ [v]).length (-1) = some xs.length := by
    unfold ixN
    rw [List.length_append, List.length_singleton]
    simp
    omega
  unfold atI
  rw [e]
  show (xs ++ [v])[xs.length]? = some v
  rw [List.getElem?_append_right (Nat.le_refl _), Nat.sub_self]; rfl
section
variable {te : TE} {tt : TT} {vs : List Nat} {σ : L2.St} {H1 : Hp} {D : Addr} {Qd : Hp → Prop} {j : Nat} {d : Addr} {o : Obj} {kvs : List (Key × V)}
theorem lcf_vals (I : Nat → List V → Hp → Prop) (h0 : I 0 [] (upd H1 D (.lst []))) (hI : ∀ i acc H, I i acc H → H d = some (.frz o (.dK kvs)))
    (hs : ∀ i k x acc H, kvs[i]? = some (k, x) → I i acc H → tt ((wipe σ vs).set j (some x)) H (AppIf te ((wipe σ vs).set j (some x)) D (I (i + 1))))
    (hd : ∀ acc H, I kvs.length acc H → Qd H) (hw : ∀ x, wipe ((wipe σ vs).set j (some x)) vs = wipe σ vs := by intro _; rfl) : LcGoal (Itd d o kvs) (gName j) tt te vs σ H1 D Qd :=
  lc_it walk_values (fun i H => ∃ acc, I i acc H) ⟨[], h0⟩ (fun i H _ ⟨acc, h⟩ => hI i acc H h) (fun i x H H' hi ⟨acc, h⟩ y => by
    obtain ⟨rfl, k, y⟩ := y
    exact ⟨hw x, hs i k x acc _ y h⟩) (fun H ⟨acc, h⟩ => hd acc H h)
end
theorem rowV_at {names : List Str} {row : Row0} {g : Nat} {k : Key} {x : V} (h : (rowV (rowD names row))[g]? = some (k, x)) : ∃ o, row[g]? = some o ∧ x = oN o := by
  unfold rowV rowD at h
  rw [List.getElem?_map, List.getElem?_map] at h
  cases e : (names.zip row)[g]? with
  | none => rw [e] at h; cases h
  | some q =>
    rw [e] at h
    obtain ⟨_, h2⟩ := List.getElem?_zip_eq_some.mp e
    have h := Option.some.inj h
    exact ⟨q.2, h2, by rw [← oV_N]; exact (congrArg Prod.snd h).symm⟩
theorem rowV_len {names : List Str} {row : Row0} (h : row.length = names.length) : (rowV (rowD names row)).length = row.length := by
  unfold rowV rowD; rw [List.length_map, List.length_map, List.length_zip, h, Nat.min_self]
/-- so many rows from each state -/
def sumRow (prev : List Int) (row : Row0) : Int := ((row.filterMap id).map fun l => prev.getD l 0).sum
def ahead (Ro : List Row0) : Nat → List Int
  | 0 => List.replicate Ro.length 1
  | r + 1 => Ro.map (sumRow (ahead Ro r))
theorem ahead_len (Ro : List Row0) : ∀ r, (ahead Ro r).length = Ro.length
  | 0 => by simp [ahead]
  | r + 1 => by simp [ahead]
section
variable {P : Program} {w : World} {K : PySem.W.Frag} {mg : Str → Option Value} {base : Heap}
/-- lists of numbers -/
def NumsA (H : Hp) (fs : List Addr) (A : Nat → List Int) : Prop := ∀ (j : Nat) a, fs[j]? = some a → H a = some (.lst ((A j).map V.int))
def spAhead (K : PySem.W.Frag) : Sp := fun vs H Q _ => ∃ (p : Addr) (runs : Nat) (names : List Str) (Ro : List Row0) (L : List (List Nat)), vs = [.ref p, nV runs] ∧ MachAt K H p names (Ro.map (rowD names)) L ∧ RowsOk Ro ∧ runs ≤ 400 ∧ (∀ r ∈ Ro, r.length = names.length) ∧
  ∀ H' f fs, Same H H' → H' f = some (.lst (fs.map V.ref)) → fs.length = runs + 1 → NumsA H' fs (ahead Ro) → Q (.ref f) H'
theorem ok_Machine_ahead_counts (T : Says K mg) : Ok P w K mg base 1 ("Machine", some "ahead_counts") ["self", "runs"] (spAhead K) := by
  refine FunD.ok (d_Machine_ahead_counts T) sc_Machine_ahead_counts (fun vs H Q E h => ?len) (fun cdv A outer s H vs Q E hr h => ?bod)
  case len =>
    obtain ⟨p, runs, names, Ro, L, rfl, _⟩ := h; rfl
  case bod =>
    obtain ⟨p, runs, names, Ro, L, rfl, hM, hok, hruns, hrn, k⟩ := h
    have ⟨t, fd, ls, rs, us, ⟨dx, hi⟩, hfx, hst, hdc, hle, hls⟩ := hM
    have hlenR := hok.len
    have hrsl : rs.length = Ro.length := by rw [hdc.1, List.length_map]
    refine ⟨_, PSs.nox (pss_cons (ps_set (i := 2) sc_Machine_ahead_counts.nd rfl (Or.inl rfl) (pe_lst (pa_cons (pe_op op_rep (pe_lst (pa_cons pe_int pa_nil)) (pe_callB (k_len (K := K) (by rfl)) (by rfl) (T.free_ 7) (by decide +kernel) (pa_cons (k_fld (K := K) (by rfl) (pv 0) rfl) pa_nil))) pa_nil)))
      (pss_cons (ps_for PassesOwn.never rfl (pi_range1 (by rfl) (T.free_ 32) (pa_cons (pv 1) pa_nil)) (pg_name (i := 3) sc_Machine_ahead_counts.nd rfl (Or.inl rfl))
      (pss_cons (ps_set (i := 4) sc_Machine_ahead_counts.nd rfl (Or.inr rfl) (pe_ix (k_ixL (K := K) (by rfl)) (pv 2) (pe_un un_neg pe_int) (fun _ _ => rfl)))
      (pss_one (ps_expr (pe_bm PySem.F.plainAttrs_list PySem.F.slot_list_append PySem.F.type_list_append mt_append (pv 2) (pa_cons (pe_lc (own := [("row", 6)]) rfl sc_Machine_ahead_counts.nd (k_pil (K := K) (by rfl) (k_fld (K := K) (by rfl) (pv 0) rfl)) (blkOk_by (N := N_Machine_ahead_counts) (sc := defScope s_Machine_ahead_counts) (by decide +kernel)) (fun _ _ _ _ _ => (pg_name (i := 6) sc_Machine_ahead_counts.nd rfl (Or.inl rfl))) (fun _ _ _ _ _ => pts_nil) (fun _ _ _ _ _ => (pe_callB (k_sum (K := K) (by rfl) rfl) (by rfl) (T.free_ 35) (by decide +kernel) (pa_cons (pe_lock (pe_lc (own := [("led", 5)]) rfl sc_Machine_ahead_counts.nd (pi_values (pv 6)) (blkOk_by (by kernel_rfl)) (fun _ _ _ _ _ => (pg_name (i := 5) sc_Machine_ahead_counts.nd rfl (Or.inl rfl))) (fun _ _ _ _ _ => (pts_one (pt_cmpR op_notN (pv 5) pe_non (nomark _)))) (fun _ _ _ _ _ => (pe_ix (k_ixL (K := K) (by rfl)) (pv 4) (pv 5) (fun _ _ => rfl))))) pa_nil)))) pa_nil))))))
      (pss_one (ps_ret (pv 2))))), ?_⟩
    refine ⟨by show 1 ≤ sizeLine; decide, fun z hz => ?_⟩
    have sz := same_new (o := .lst [.int 1]) hz
    refine ⟨_, rfl, p, _, dx, _, _, rfl, sz _ _ hi, cl_Machine T, na_Machine_own_steps T, rfl, fd, _, rfl, .inl (SqL.of (sz _ _ hst)), z, ((Ro.length : Nat) : Int), _, rfl, by rw [List.length_map, hrsl], upd_same, by omega, by omega, by rw [List.length_singleton, Int.toNat_natCast, Nat.one_mul]; exact Nat.le_of_lt (small1000 (by omega)), fun m0 hm0 => ?_⟩
    have er : (List.replicate ((Ro.length : Nat) : Int).toNat [V.int 1]).flatten = (ahead Ro 0).map V.int := by
      rw [Int.toNat_natCast]
      unfold ahead
      rw [List.map_replicate]
      generalize Ro.length = q
      induction q with
      | zero => rfl
      | succ q ih => rw [List.replicate_succ, List.replicate_succ, List.flatten_cons, ih]; rfl
    rw [er]
    have sm := same_upd (o := .lst ((ahead Ro 0).map V.int)) sz (sz.free hm0)
    have hm1 : (upd (upd H z (.lst [.int 1])) m0 (.lst ((ahead Ro 0).map V.int))) m0 = some (.lst ((ahead Ro 0).map V.int)) := upd_same
    generalize upd (upd H z (.lst [.int 1])) m0 (.lst ((ahead Ro 0).map V.int)) = H1 at sm hm1 ⊢
    refine ⟨by show 1 ≤ sizeLine; decide, fun f hf => ?_⟩
    have sf := same_upd (o := .lst [.ref m0]) sm (sm.free hf)
    have hfH := sm.free hf
    have hm2 := same_new (o := .lst [.ref m0]) hf _ _ hm1
    have nmf : m0 ≠ f := ne_of_none hm1 hf
    have hf2 : (upd H1 f (.lst [.ref m0])) f = some (.lst [.ref m0]) := upd_same
    generalize upd H1 f (.lst [.ref m0]) = H2 at sf hm2 hf2 ⊢
    refine ⟨_, rfl, _, rfl, by omega, by omega, for_range (lo := 0) (n := runs) (fun i σ H' => ∃ (v3 v4 v5 v6 : Option V) (fs : List Addr), σ = [some (.ref p), some (nV runs), some (.ref f), v3, v4, v5, v6] ∧ Same H H' ∧ H' f = some (.lst (fs.map V.ref)) ∧ fs.length = i + 1 ∧ f ∉ fs ∧ NumsA H' fs (ahead Ro))
      ⟨none, none, none, none, [m0], rfl, sf, hf2, rfl, by simp; exact nmf.symm, fun j a ha => ?_⟩ ?_ ?_⟩
    · cases j with
      | zero => injection ha with ha; rw [← ha]; exact hm2
      | succ j => simp at ha
    · rintro i σ H3 hir ⟨v3, v4, v5, v6, fs, rfl, s3, hf3, hfl, hff, hN3⟩
      obtain ⟨la, hla⟩ : ∃ la, fs[i]? = some la := ⟨_, List.getElem?_eq_getElem (by omega)⟩
      have hlast := hN3 i la hla
      have efs : fs = fs.take i ++ [la] := by
        have := take_of_get hla
        rw [List.take_of_length_le (by omega)] at this
        exact this
      have ha : atI (fs.map V.ref) (-1) = some (.ref la) := by rw [efs, List.map_append]; exact atI_last
      refine ⟨_, rfl, 1, rfl, f, _, _, _, rfl, rfl, SqL.of hf3, ha, ?_⟩
      refine ⟨_, rfl, .inl ⟨rfl, _, SqL.of hf3⟩, _, rfl, p, _, dx, _, _, rfl, s3 _ _ hi, cl_Machine T, na_Machine_own_steps T, rfl, fd, rfl, ⟨_, SqL.of (s3 _ _ hst)⟩, fun D hD => ?_⟩
      refine lcm_list (xs := rs.map V.ref) (fun q acc H4 => Same H3 H4 ∧ H4 D = some (.lst acc) ∧ acc = ((Ro.take q).map (sumRow (ahead Ro i))).map V.int) ⟨same_new hD, upd_same, rfl⟩ (fun q acc H4 h => SqL.of (h.1 _ _ (s3 _ _ hst))) ?_ ?_
      · rintro q y acc H4 hy ⟨s4, hD4, rfl⟩
        obtain ⟨r, hr1, rfl⟩ := getElem?_map_some hy
        have hq : q < Ro.length := by rw [← hrsl]; exact lt_of_get hr1
        obtain ⟨row, hrow⟩ : ∃ row, Ro[q]? = some row := ⟨_, List.getElem?_eq_getElem hq⟩
        have hrr := s4 _ _ (s3 _ _ (hdc.2 q r _ hr1 (by rw [List.getElem?_map, hrow]; rfl)))
        have hla4 := s4 _ _ hlast
        have hrl := hrn row (List.mem_of_getElem? hrow)
        have hr6 := hok.row row (List.mem_of_getElem? hrow)
        refine ⟨r, _, hrr, True.intro, fun od => ?_⟩
        have nlr : la ≠ r := ne_of hla4 hrr (by intro z; cases z)
        have hla5 : (upd H4 r (.frz od (.dK (rowV (rowD names row))))) la = some (.lst ((ahead Ro i).map V.int)) := by rw [upd_ne nlr]; exact hla4
        have hr5 : (upd H4 r (.frz od (.dK (rowV (rowD names row))))) r = some (.frz od (.dK (rowV (rowD names row)))) := upd_same
        have ndr : D ≠ r := ne_of hD4 hrr (by intro z; cases z)
        have hD5 : (upd H4 r (.frz od (.dK (rowV (rowD names row))))) D = some (.lst (((Ro.take q).map (sumRow (ahead Ro i))).map V.int)) := by rw [upd_ne ndr]; exact hD4
        have back : ∀ H6, Same (upd H4 r (.frz od (.dK (rowV (rowD names row))))) H6 → Same H4 (upd H6 r (.dK (rowV (rowD names row)))) := fun H6 s a o e => by
          by_cases ea : a = r
          · rw [ea, upd_same, ← hrr, ← ea]; exact e
          · rw [upd_ne ea]; exact s a o (by rw [upd_ne ea]; exact e)
        generalize upd H4 r (.frz od (.dK (rowV (rowD names row)))) = H5 at hla5 hr5 hD5 back ⊢
        refine ⟨_, rfl, r, od, _, rfl, hr5, fun D2 hD2 => ?_⟩
        refine lcf_vals (fun g acc H6 => Same H5 H6 ∧ H6 D2 = some (.lst acc) ∧ acc = ((((row.take g).filterMap id).map fun l => (ahead Ro i).getD l 0)).map V.int) ⟨same_new hD2, upd_same, rfl⟩ (fun g acc H6 h => h.1 _ _ hr5) ?_ ?_
        · rintro g kk x acc H6 hg ⟨s6, hD6, rfl⟩
          obtain ⟨o, ho, rfl⟩ := rowV_at hg
          have hlenf : ((row.take g).filterMap id).length ≤ 6 := Nat.le_trans (List.length_filterMap_le ..) (by rw [List.length_take]; omega)
          cases o with
          | none =>
            refine ⟨_, rfl, rfl, false, rfl, iteF ⟨_, s6, hD6, ?_⟩⟩
            rw [take_of_get ho, List.filterMap_append]; simp
          | some l =>
            have hl := hok.lt row (List.mem_of_getElem? hrow) l (List.mem_of_getElem? ho)
            have al := ahead_len Ro i
            have a1 : atI ((ahead Ro i).map V.int) (l : Int) = some (.int ((ahead Ro i).getD l 0)) := atI_nat (by rw [List.getElem?_map, List.getD_eq_getElem?_getD, List.getElem?_eq_getElem (by omega)]; rfl)
            refine ⟨_, rfl, rfl, true, rfl, iteT ⟨_, rfl, _, rfl, la, _, _, _, rfl, rfl, SqL.of (s6 _ _ hla5), a1, _, hD6, by rw [List.length_map, List.length_map]; exact small1000 (by omega), _, same_upd s6 hD2, upd_same, ?_⟩⟩
            rw [take_of_get ho, List.filterMap_append, List.map_append, List.map_append]; rfl
        · rintro acc H6 ⟨s6, hD6, rfl⟩
          rw [rowV_len hrl, List.take_length] at hD6
          have nd2 : D2 ≠ r := ne_of_none' hr5 hD2
          have sb := back H6 s6
          refine ⟨s6 _ _ hr5, D2, ((row.filterMap id).map fun l => (ahead Ro i).getD l 0), rfl, SqL.of (by rw [upd_ne nd2]; exact hD6), ?_⟩
          refine ⟨_, sb _ _ hD4, by rw [List.length_map, List.length_map, List.length_take]; exact small1000 (by omega), _, same_upd (s4.trans sb) hD, upd_same, ?_⟩
          rw [take_of_get hrow, List.map_append, List.map_append]; rfl
      · rintro acc H4 ⟨s4, hD4, rfl⟩
        rw [List.length_map, hrsl, List.take_length] at hD4
        have nDf : D ≠ f := ne_of_none' hf3 hD
        refine ⟨f, _, _, rfl, rfl, s4 _ _ hf3, by rw [List.length_map, hfl]; exact small1000 (by omega), ?_⟩
        refine ⟨_, _, _, _, fs ++ [D], rfl, same_upd (s3.trans s4) hfH, by rw [upd_same, List.map_append]; rfl, by simp [hfl], by simp; exact ⟨hff, nDf.symm⟩, snoc_all (fun j a ha => ?_) ?_⟩
        · have naf : a ≠ f := fun e => hff (e ▸ List.mem_of_getElem? ha)
          rw [upd_ne naf]; exact s4 _ _ (hN3 j a ha)
        · rw [hfl, upd_ne nDf]; exact hD4
    · rintro σ H3 ⟨v3, v4, v5, v6, fs, rfl, s3, hf3, hfl, hff, hN3⟩
      exact ⟨_, rfl, k H3 f fs s3 hf3 hfl hN3⟩
end
end T85
end

section
set_option Elab.async false
set_option linter.all false
set_option maxRecDepth 100000
set_option maxHeartbeats 4000000
namespace T85
open PySem PySem.Spec L2 Fx
/-! ### data of texts -/
section
variable {K : PySem.W.Frag}
theorem dp_strs {H : Hp} : ∀ {l : List Str}, DpAll K H (l.map V.str) (l.map PyData.str)
  | [] => .nil
  | x :: r => .cons (.str x) (dp_strs (l := r))
theorem depth_strs : ∀ l : List Str, PyData.depthAll (l.map PyData.str) = 0
  | [] => rfl
  | x :: r => by
    show max 0 (PyData.depthAll (r.map PyData.str)) = 0
    rw [depth_strs r]; rfl
theorem can_strs : ∀ {l : List Str}, (∀ x ∈ l, PyData.strOk x = true) → PyData.canLayAll0 (l.map PyData.str) = true
  | [], _ => rfl
  | x :: r, h => by
    show (PyData.strOk x && PyData.canLayAll0 (r.map PyData.str)) = true
    rw [h x (List.mem_cons_self ..), can_strs fun y hy => h y (List.mem_cons_of_mem _ hy)]; rfl
theorem shaped_tup {l : List Str} (h : ∀ x ∈ l, PyData.strOk x = true) : SeqAt.shaped (.tuple (l.map PyData.str)) = true := by
  show (PyData.canLayAll0 (l.map PyData.str) && decide (PyData.depthAll (l.map PyData.str) + 1 ≤ 64)) = true
  rw [can_strs h, depth_strs]; rfl
theorem letters_ok : ∀ c ∈ (Str.ofString "abcdefghijklmnopqrstuvwxyz").cps.toList, c < 0x110000 := by decide +kernel
theorem NameOk.ok {x : Str} (h : NameOk x) : PyData.strOk x = true := by
  unfold PyData.strOk
  rw [Array.all_eq_true]
  intro i hi
  exact decide_eq_true (letters_ok _ (h.2.2 _ (by simp)))
end
section
variable {P : Program} {w : World} {K : PySem.W.Frag} {mg : Str → Option Value} {base : Heap}
theorem ok_Machine_fixers (T : Says K mg) : FnOk P w K mg base CX0 1 (gAd K ("Machine", some "fixers")) (fdOf K (gAd K ("Machine", some "fixers"))) ["self"] (getSp (He.ga K "Machine") "own_fixers") := get_ok (x := "") (d_Machine_fixers T) sc_Machine_fixers rfl rfl (cl_Machine T) (na_Machine_own_fixers T)
def spCount (K : PySem.W.Frag) : Sp := fun vs H Q _ => ∃ (p : Addr) (runs : Nat) (names : List Str) (Ro : List Row0) (L : List (List Nat)), vs = [.ref p, nV runs] ∧ MachAt K H p names (Ro.map (rowD names)) L ∧ RowsOk Ro ∧ 0 < Ro.length ∧ runs ≤ 400 ∧ (∀ r ∈ Ro, r.length = names.length) ∧
  ∀ H', Same H H' → Q (.int ((ahead Ro runs).getD 0 0)) H'
theorem ok_Machine_count (T : Says K mg) : Ok P w K mg base 4 ("Machine", some "count") ["self", "runs"] (spCount K) := by
  have G_want_runs := FnOk.mono (k := 3) (ok_want_runs (P := P) (w := w) (base := base) T) (by decide)
  have G_Machine_ahead_counts := FnOk.mono (k := 3) (ok_Machine_ahead_counts (P := P) (w := w) (base := base) T) (by decide)
  refine FunD.ok (d_Machine_count T) sc_Machine_count (fun vs H Q E h => ?len) (fun cdv A outer s H vs Q E hr h => ?bod)
  case len =>
    obtain ⟨p, runs, names, Ro, L, rfl, _⟩ := h; rfl
  case bod =>
    obtain ⟨p, runs, names, Ro, L, rfl, hM, hok, h0, hruns, hrn, k⟩ := h
    have ⟨t, fd, ls, rs, us, ⟨dx, hi⟩, hfx, hst, hdc, hle, hls⟩ := hM
    refine ⟨_, PSs.nox (pss_cons (ps_expr (pe_call G_want_runs hr (by rfl) (T.glo_ 56) (d_want_runs T).kp (b_want_runs T) .nil pass0 (pa_cons (pv 1) pa_nil)))
      (pss_one (ps_ret (pe_ix (k_ixL (K := K) (by rfl)) (pe_ix (k_ixL (K := K) (by rfl)) (pe_meth (pv 0) (T.cls_ 50) (T.meth_ 57) G_Machine_ahead_counts hr (b_Machine_ahead_counts T) .nil pass0 (pa_cons (pv 1) pa_nil)) (pv 1) (fun _ _ => rfl)) pe_int (fun _ _ => rfl))))), ?_⟩
    refine ⟨_, rfl, _, rfl, by omega, by omega, ?_⟩
    refine ⟨_, rfl, p, dx, _, rfl, hi, rfl, _, rfl, p, runs, names, Ro, L, rfl, hM, hok, hruns, hrn, fun H1 f fs s1 hf hfl hN => ?_⟩
    obtain ⟨a, ha⟩ : ∃ a, fs[runs]? = some a := ⟨_, List.getElem?_eq_getElem (by omega)⟩
    have a1 : atI (fs.map V.ref) (runs : Int) = some (.ref a) := atI_nat (by rw [List.getElem?_map, ha]; rfl)
    have a2 : atI ((ahead Ro runs).map V.int) 0 = some (.int ((ahead Ro runs).getD 0 0)) := atI_of (j := 0) rfl (by
      have := ahead_len Ro runs
      rw [List.getElem?_map, List.getD_eq_getElem?_getD, List.getElem?_eq_getElem (by omega)]; rfl)
    exact ⟨_, rfl, f, _, _, _, rfl, rfl, SqL.of hf, a1, a, _, _, _, rfl, rfl, SqL.of (hN runs a ha), a2, k H1 s1⟩
def spLen (K : PySem.W.Frag) : Sp := fun vs H Q _ => ∃ (p : Addr) (names : List Str) (D : List RowD) (L : List (List Nat)), vs = [.ref p] ∧ MachAt K H p names D L ∧ Q (nV D.length) H
theorem ok_Machinedd_lendd (T : Says K mg) : Ok P w K mg base 1 ("Machine", some "__len__") ["self"] (spLen K) := by
  refine FunD.ok (d_Machinedd_lendd T) sc_Machinedd_lendd (fun vs H Q E h => ?len) (fun cdv A outer s H vs Q E hr h => ?bod)
  case len =>
    obtain ⟨p, names, D, L, rfl, _⟩ := h; rfl
  case bod =>
    obtain ⟨p, names, D, L, rfl, ⟨t, fd, ls, rs, us, ⟨dx, hi⟩, hfx, hst, hdc, hle, hls⟩, k⟩ := h
    refine ⟨_, PSs.nox (pss_one (ps_ret (pe_callB (k_len (K := K) (by rfl)) (by rfl) (T.free_ 7) (by decide +kernel) (pa_cons (k_fld (K := K) (by rfl) (pv 0) rfl) pa_nil)))), ?_⟩
    refine ⟨_, rfl, p, _, dx, _, _, rfl, hi, cl_Machine T, na_Machine_own_steps T, rfl, fd, _, rfl, .inl (SqL.of hst), ?_⟩
    rw [List.length_map, hdc.1]; exact k
/-- two machines of the same rows -/
def SameM (K : PySem.W.Frag) (a b : Addr) (H : Hp) : Prop := ∃ (names : List Str) (Ro : List Row0) (L L' : List (List Nat)), MachAt K H a names (Ro.map (rowD names)) L ∧ MachAt K H b names (Ro.map (rowD names)) L' ∧ names.Nodup ∧ (∀ x ∈ names, NameOk x) ∧ (∀ r ∈ Ro, r.length = names.length)
theorem rowV_self {names : List Str} {row : Row0} (hn : names.Nodup) (hl : row.length = names.length) : ∀ p ∈ rowV (rowD names row), ∃ u, valV (rowV (rowD names row)) p.1 = some u ∧ (p.2 = u ∧ flatB p.2 = true) := by
  intro p hp
  obtain ⟨g, hg⟩ := List.mem_iff_getElem?.mp hp
  obtain ⟨k, x⟩ := p
  obtain ⟨o, ho, rfl⟩ := rowV_at hg
  have hgn : g < names.length := by have := lt_of_get ho; omega
  have hnm : names[g]? = some names[g] := List.getElem?_eq_getElem hgn
  have := rowD_get hnm ho
  have h2 : (rowV (rowD names row))[g]? = some ((Sum.inr names[g] : Key), oN o) := by
    unfold rowV; rw [List.getElem?_map, this, ← oV_N]; rfl
  rw [hg] at h2
  have hk : k = Sum.inr names[g] := congrArg Prod.fst (Option.some.inj h2)
  subst hk
  exact ⟨_, rowV_get hn hnm ho, rfl, by cases o <;> rfl⟩
theorem eqR_rows {H : Hp} {fd fd' : Addr} {rs rs' : List Addr} {names : List Str} {Ro : List Row0} (h1 : H fd = some (.lst (rs.map V.ref))) (h2 : H fd' = some (.lst (rs'.map V.ref))) (d1 : DictsA H rs (Ro.map (rowD names))) (d2 : DictsA H rs' (Ro.map (rowD names))) (hn : names.Nodup) (hl : ∀ r ∈ Ro, r.length = names.length) :
    EqR K H (EqV K H 2) (.ref fd) (.ref fd') := by
  refine .inl ⟨fd, fd', _, _, rfl, rfl, SqL.of h1, SqL.of h2, ?_⟩
  have key : ∀ (m : Nat) (as bs : List Addr) (D : List Row0), as.length = m → as.length = D.length → bs.length = D.length → (∀ (j : Nat) r row, as[j]? = some r → D[j]? = some row → H r = some (.dK (rowV (rowD names row)))) → (∀ (j : Nat) r row, bs[j]? = some r → D[j]? = some row → H r = some (.dK (rowV (rowD names row)))) → (∀ r ∈ D, r.length = names.length) → Paired (EqV K H 2) (as.map V.ref) (bs.map V.ref) := by
    intro m
    induction m with
    | zero =>
      intro as bs D h0 h1 h2 _ _ _
      cases as with
      | cons a as => simp at h0
      | nil =>
        cases bs with
        | nil => exact .nil
        | cons b bs => simp at h1 h2; omega
    | succ m ih =>
      intro as bs D h0 h1 h2 ha hb hl
      cases as with
      | nil => simp at h0
      | cons a as =>
        cases D with
        | nil => simp at h1
        | cons r D =>
          cases bs with
          | nil => simp at h2
          | cons b bs =>
            refine .cons ?_ (ih as bs D (by simpa using h0) (by simpa using h1) (by simpa using h2) (fun j => ha (j + 1)) (fun j => hb (j + 1)) fun x hx => hl x (List.mem_cons_of_mem _ hx))
            refine .inr (.inr (.inr ⟨a, b, _, _, rfl, rfl, ha 0 a r rfl rfl, hb 0 b r rfl rfl, rfl, fun p hp => ?_⟩))
            obtain ⟨u, e1, e2, e3⟩ := rowV_self hn (hl r (List.mem_cons_self ..)) p hp
            exact ⟨u, e1, .inl ⟨e2, e3⟩⟩
  refine key _ rs rs' Ro rfl (by rw [d1.1, List.length_map]) (by rw [d2.1, List.length_map]) (fun j r row a b => d1.2 j r _ a (by rw [List.getElem?_map, b]; rfl)) (fun j r row a b => d2.2 j r _ a (by rw [List.getElem?_map, b]; rfl)) hl
theorem ok_Machinedd_eqdd (T : Says K mg) : Ok P w K mg base 1 ("Machine", some "__eq__") ["self", "other"] (spEq (SameM K)) := by
  refine FunD.ok (d_Machinedd_eqdd T) sc_Machinedd_eqdd (fun vs H Q E h => ?len) (fun cdv A outer s H vs Q E hr h => ?bod)
  case len =>
    obtain ⟨a, b, rfl, _⟩ := h; rfl
  case bod =>
    obtain ⟨a, b, rfl, ⟨names, Ro, L, L', ⟨t, fd, ls, rs, us, ⟨dx, hi⟩, hfx, hst, hdc, hle, hls⟩, ⟨t', fd', ls', rs', us', ⟨dx', hi'⟩, hfx', hst', hdc', hle', hls'⟩, hnd, hok, hrn⟩, k⟩ := h
    have hsh := shaped_tup (l := names) fun x hx => (hok x hx).ok
    refine ⟨_, PSs.nox (pss_one (ps_ret (pe_and (pe_callB (k_isi (K := K) (by rfl)) (by rfl) (T.free_ 0) (by decide +kernel) (pa_cons (pv 1) (pa_cons (pe_glob (v := .ref (He.ga K "Machine")) (by rfl) (T.glo_ 58) rfl) pa_nil))) (pe_and (pe_cmpR (k_eqD (K := K) (by rfl) hr.units) (k_fld (K := K) (by rfl) (pv 0) rfl) (k_fld (K := K) (by rfl) (pv 1) rfl) (nomark _)) (pe_one (pe_cmpR (k_eqV (K := K) (by rfl) (u64 hr)) (k_fld (K := K) (by rfl) (pv 0) rfl) (k_fld (K := K) (by rfl) (pv 1) rfl) (nomark _))))))), ?_⟩
    refine ⟨_, rfl, .ref b, .ref (He.ga K "Machine"), .ref (He.ga K "Machine"), .ref (He.ga K "Machine"), true, rfl, .own _, clsOk_ins (chk_Machine T) (cl_Machine T) hi', ?_, ?_⟩
    · unfold PySem.W.kitOne
      rw [if_pos (by simp)]
    refine ⟨true, rfl, iteT ?_⟩
    refine ⟨_, rfl, a, _, dx, _, _, rfl, hi, cl_Machine T, na_Machine_own_fixers T, rfl, _, rfl, b, _, dx', _, _, rfl, hi', cl_Machine T, na_Machine_own_fixers T, rfl, _, _, .tup hfx dp_strs, .tup hfx' dp_strs, hsh, hsh, true, ?_, iteT ?_⟩
    · rw [SeqAt.eqv_refl _ (SeqAt.canLay_of_shaped hsh)]
    exact ⟨_, rfl, a, _, dx, _, _, rfl, hi, cl_Machine T, na_Machine_own_steps T, rfl, _, rfl, b, _, dx', _, _, rfl, hi', cl_Machine T, na_Machine_own_steps T, rfl, 2, by decide, eqR_rows hst hst' hdc hdc' hnd hrn, k H Ext.rfl'⟩
end
end T85
end

section
set_option Elab.async false
set_option linter.all false
set_option maxRecDepth 100000
set_option maxHeartbeats 4000000
namespace T85
open PySem PySem.Spec L2 Fx
/-! ### the law's own states -/
def lawStep (nx : List Nat → Nat → Option (List Nat)) (base s : List Nat) (q : List (List Nat) × List (List Nat) × Row0) (f : Nat) : List (List Nat) × List (List Nat) × Row0 := match nx s f with
  | none => (q.1, q.2.1, q.2.2 ++ [none])
  | some t => if t ∈ q.1 then (q.1, q.2.1, q.2.2 ++ [some (q.1.idxOf t)]) else (q.1 ++ [t], q.2.1 ++ [base ++ [f]], q.2.2 ++ [some q.1.length])
def lawRow (nx : List Nat → Nat → Option (List Nat)) (base s : List Nat) (st L : List (List Nat)) (i : Nat) : List (List Nat) × List (List Nat) × Row0 := (List.range i).foldl (lawStep nx base s) (st, L, [])
theorem lawRow_succ (nx : List Nat → Nat → Option (List Nat)) (base s : List Nat) (st L : List (List Nat)) (i : Nat) : lawRow nx base s st L (i + 1) = lawStep nx base s (lawRow nx base s st L i) i := by
  unfold lawRow; rw [List.range_succ, List.foldl_append]; rfl
def lawBfs (n : Nat) (nx : List Nat → Nat → Option (List Nat)) : Nat → List (List Nat) → List (List Nat) → List Row0 → Option (List (List Nat) × List Row0)
  | 0, _, _, _ => none
  | k + 1, st, L, rows => if rows.length < st.length then lawBfs n nx k (lawRow nx (L.getD rows.length []) (st.getD rows.length []) st L n).1 (lawRow nx (L.getD rows.length []) (st.getD rows.length []) st L n).2.1 (rows ++ [(lawRow nx (L.getD rows.length []) (st.getD rows.length []) st L n).2.2]) else some (L, rows)
/-- what holds along the fixers of a row -/
structure LawInv (st L : List (List Nat)) (i : Nat) (q : List (List Nat) × List (List Nat) × Row0) : Prop where
  st_ : ∃ e, q.1 = st ++ e
  l_ : ∃ e, q.2.1 = L ++ e
  len : q.1.length ≤ st.length + i
  eq : q.1.length = q.2.1.length
  row : q.2.2.length = i
theorem lawInv {nx : List Nat → Nat → Option (List Nat)} {base s : List Nat} {st L : List (List Nat)} (h : st.length = L.length) : ∀ i, LawInv st L i (lawRow nx base s st L i)
  | 0 => ⟨⟨[], by simp [lawRow]⟩, ⟨[], by simp [lawRow]⟩, by simp [lawRow], by simpa [lawRow] using h, rfl⟩
  | i + 1 => by
    obtain ⟨⟨e1, h1⟩, ⟨e2, h2⟩, h3, h4, h5⟩ := lawInv (nx := nx) (base := base) (s := s) h i
    rw [lawRow_succ]
    unfold lawStep
    split
    · exact ⟨⟨e1, h1⟩, ⟨e2, h2⟩, by dsimp only; omega, h4, by simp [h5]⟩
    · split
      · exact ⟨⟨e1, h1⟩, ⟨e2, h2⟩, by dsimp only; omega, h4, by simp [h5]⟩
      · exact ⟨⟨e1 ++ [‹_›], by dsimp only; rw [h1, List.append_assoc]⟩, ⟨e2 ++ [base ++ [i]], by dsimp only; rw [h2, List.append_assoc]⟩, by simp; omega, by simp [h4], by simp [h5]⟩
theorem eqvAll_strs : ∀ xs ys : List Str, PyData.eqvAll (xs.map PyData.str) (ys.map PyData.str) = decide (xs = ys)
  | [], [] => by simp [PyData.eqvAll]
  | [], y :: ys => by simp [PyData.eqvAll]
  | x :: xs, [] => by simp [PyData.eqvAll]
  | x :: xs, y :: ys => by
    rw [List.map_cons, List.map_cons, PyData.eqvAll, eqvAll_strs xs ys]
    by_cases e : x = y
    · subst e; simp [PyData.eqv]
    · simp [PyData.eqv, e]
theorem eqv_tup (xs ys : List Str) : PyData.eqv (.tuple (xs.map PyData.str)) (.tuple (ys.map PyData.str)) = decide (xs = ys) := by
  rw [PyData.eqv, eqvAll_strs]
theorem any_tup (l : List (List Str)) (x : List Str) : ((l.map fun t => PyData.tuple (t.map PyData.str)).any fun z => PyData.eqv z (.tuple (x.map PyData.str))) = decide (x ∈ l) := by
  induction l with
  | nil => rfl
  | cons y l ih =>
    rw [List.map_cons, List.any_cons, ih, eqv_tup]
    by_cases e : y = x
    · subst e; simp
    · have e2 : ¬ x = y := fun z => e z.symm
      simp [e, e2]
theorem shaped_tups {l : List (List Str)} (h : ∀ t ∈ l, ∀ x ∈ t, PyData.strOk x = true) : SeqAt.shaped (.list (l.map fun t => PyData.tuple (t.map PyData.str))) = true := by
  have h1 : PyData.canLayAll0 (l.map fun t => PyData.tuple (t.map PyData.str)) = true := by
    induction l with
    | nil => rfl
    | cons t l ih =>
      show (PyData.canLayAll0 (t.map PyData.str) && PyData.canLayAll0 (l.map fun t => PyData.tuple (t.map PyData.str))) = true
      rw [can_strs (h t (List.mem_cons_self ..)), ih fun u hu => h u (List.mem_cons_of_mem _ hu)]; rfl
  have h2 : ∀ l : List (List Str), PyData.depthAll (l.map fun t => PyData.tuple (t.map PyData.str)) ≤ 1 := by
    intro l
    induction l with
    | nil => exact Nat.zero_le _
    | cons t l ih =>
      show max (PyData.depthAll (t.map PyData.str) + 1) (PyData.depthAll (l.map fun t => PyData.tuple (t.map PyData.str))) ≤ 1
      rw [depth_strs]; omega
  show (PyData.canLayAll0 _ && decide (PyData.depthAll _ + 1 ≤ 64)) = true
  have := h2 l
  rw [h1, decide_eq_true (by omega)]; rfl
theorem namesOf_inj {names : List Str} (hn : names.Nodup) : ∀ {s t : List Nat}, (∀ f ∈ s, f < names.length) → (∀ f ∈ t, f < names.length) → namesOf names s = namesOf names t → s = t
  | [], [], _, _, _ => rfl
  | [], y :: t, _, _, h => by cases h
  | x :: s, [], _, _, h => by cases h
  | x :: s, y :: t, h1, h2, h => by
    have h' : names.getD x "" :: namesOf names s = names.getD y "" :: namesOf names t := h
    injection h' with a b
    have hx := h1 x (List.mem_cons_self ..)
    have hy := h2 y (List.mem_cons_self ..)
    rw [List.getD_eq_getElem?_getD, List.getD_eq_getElem?_getD, List.getElem?_eq_getElem hx, List.getElem?_eq_getElem hy] at a
    have a : names[x] = names[y] := a
    have : x = y := (List.getElem?_inj (i := x) (j := y) hx hn).mp (by rw [List.getElem?_eq_getElem hx, List.getElem?_eq_getElem hy, a])
    rw [this, namesOf_inj hn (fun f hf => h1 f (List.mem_cons_of_mem _ hf)) (fun f hf => h2 f (List.mem_cons_of_mem _ hf)) b]
theorem namesOf_mem {names : List Str} (hn : names.Nodup) {s : List Nat} (hs : ∀ f ∈ s, f < names.length) {f : Nat} {x : Str} (hf : names[f]? = some x) : x ∈ namesOf names s ↔ f ∈ s := by
  constructor
  · intro h
    obtain ⟨g, hg, e⟩ := List.mem_map.mp h
    have hgl := hs g hg
    rw [List.getD_eq_getElem?_getD, List.getElem?_eq_getElem hgl] at e
    have : g = f := (List.getElem?_inj (i := g) (j := f) hgl hn).mp (by rw [List.getElem?_eq_getElem hgl, hf]; exact congrArg some e)
    rw [← this]; exact hg
  · intro h
    exact List.mem_map.mpr ⟨f, h, by rw [List.getD_eq_getElem?_getD, hf]; rfl⟩
end T85
end

section
set_option Elab.async false
set_option linter.all false
set_option maxRecDepth 100000
set_option maxHeartbeats 4000000
namespace T85
open PySem PySem.Spec L2 Fx
theorem putK_last {κ : Type} [DecidableEq κ] {a : List (κ × V)} {k : κ} {v0 v : V} (h : valV a k = none) : putK (a ++ [(k, v0)]) k v = a ++ [(k, v)] := by
  unfold putK
  rw [if_pos (by simp), List.map_append]
  have : a.map (fun kv => if kv.1 = k then (kv.1, v) else kv) = a := by
    refine (List.map_congr_left fun p hp => ?_).trans (List.map_id a)
    rw [if_neg]; rfl
    intro e
    unfold valV at h
    cases e2 : a.find? fun kv => decide (kv.1 = k) with
    | some y => rw [e2] at h; cases h
    | none =>
      have := List.find?_eq_none.mp e2 p hp
      simp [e] at this
  rw [this]; simp
theorem rowD_snoc {names : List Str} {row : Row0} {j : Nat} {x : Str} {o : Option Nat} (hx : names[j]? = some x) (hl : row.length = j) : rowD names (row ++ [o]) = rowD names row ++ [(x, o.map Int.ofNat)] := by
  have e : names = names.take j ++ names.drop j := (List.take_append_drop _ _).symm
  have hjl := lt_of_get hx
  have htl : (names.take j).length = row.length := by rw [List.length_take, hl]; omega
  have h1 : names.zip row = (names.take j).zip row := by
    have : (names.take j ++ names.drop j).zip (row ++ []) = (names.take j).zip row ++ (names.drop j).zip [] := List.zip_append htl
    rw [List.append_nil, ← e, List.zip_nil_right, List.append_nil] at this
    exact this
  have h2 : names.zip (row ++ [o]) = (names.take j).zip row ++ [(x, o)] := by
    have : (names.take j ++ names.drop j).zip (row ++ [o]) = (names.take j).zip row ++ (names.drop j).zip [o] := List.zip_append htl
    rw [← e, drop_of_get hx, List.zip_cons_cons, List.zip_nil_right] at this
    exact this
  unfold rowD
  rw [h2, h1, List.map_append]; rfl
theorem rowD_noneL {names : List Str} {row : Row0} {j : Nat} {x : Str} (hn : names.Nodup) (hx : names[j]? = some x) (hl : row.length = j) : valV (rowV (rowD names row)) (.inr x) = none := by
  have := rowD_none (row := row) hn hx
  rw [List.take_of_length_le (by unfold rowD; rw [List.length_map, List.length_zip]; omega)] at this
  exact this
theorem rowV_snoc {names : List Str} {row : Row0} {j : Nat} {x : Str} {o : Option Nat} (hx : names[j]? = some x) (hl : row.length = j) : rowV (rowD names (row ++ [o])) = rowV (rowD names row) ++ [((Sum.inr x : Key), oN o)] := by
  rw [rowD_snoc hx hl]; unfold rowV; rw [List.map_append, ← oV_N]; rfl
theorem idxOf_first : ∀ (l : List (List Nat)) (x : List Nat) (m : Nat), m < l.idxOf x → l[m]? ≠ some x
  | [], x, m, h => by simp
  | y :: l, x, m, h => by
    by_cases e : y = x
    · subst e; simp at h
    · have hb : (y == x) = false := beq_eq_false_iff_ne.mpr e
      have hi : (y :: l).idxOf x = l.idxOf x + 1 := by rw [List.idxOf_cons, hb]; rfl
      cases m with
      | zero => intro z; exact e (Option.some.inj z)
      | succ m => exact idxOf_first l x m (by omega)
theorem idxOf_at : ∀ (l : List (List Nat)) (x : List Nat), x ∈ l → l[l.idxOf x]? = some x
  | [], x, h => by cases h
  | y :: l, x, h => by
    by_cases e : y = x
    · subst e; simp
    · have hb : (y == x) = false := beq_eq_false_iff_ne.mpr e
      have hi : (y :: l).idxOf x = l.idxOf x + 1 := by rw [List.idxOf_cons, hb]; rfl
      rw [hi]
      exact idxOf_at l x ((List.mem_cons.mp h).resolve_left fun z => e z.symm)
/-- pairs of texts -/
def PairsS (H : Hp) (us : List Addr) (pl : List (Str × Str)) : Prop := us.length = pl.length ∧ ∀ (j : Nat) u p, us[j]? = some u → pl[j]? = some p → H u = some (.tup [.str p.1, .str p.2])
theorem PairsS.mono {H H' : Hp} {us : List Addr} {pl : List (Str × Str)} (h : PairsS H us pl) (s : Same H H') : PairsS H' us pl := ⟨h.1, fun j u p a b => s _ _ (h.2 j u p a b)⟩
section
variable {P : Program} {w : World} {K : PySem.W.Frag} {mg : Str → Option Value} {base : Heap}
theorem dp_pairs {H : Hp} : ∀ {us : List Addr} {pl : List (Str × Str)}, PairsS H us pl → DpAll K H (us.map V.ref) ((pl.map fun p => [p.1, p.2]).map fun t => PyData.tuple (t.map PyData.str))
  | [], [], _ => .nil
  | [], p :: pl, h => by have := h.1; simp at this
  | u :: us, [], h => by have := h.1; simp at this
  | u :: us, p :: pl, h => .cons (.tup (.inl (.inl (h.2 0 u p rfl rfl))) (.cons (.str _) (.cons (.str _) .nil))) (dp_pairs ⟨by simpa using h.1, fun j => h.2 (j + 1)⟩)
theorem dp_least {H : Hp} {names : List Str} : ∀ {us : List Addr} {L : List (List Nat)}, LeastAt H us names L → DpAll K H (us.map V.ref) ((L.map (namesOf names)).map fun t => PyData.tuple (t.map PyData.str))
  | [], [], _ => .nil
  | [], p :: pl, h => by have := h.1; simp at this
  | u :: us, [], h => by have := h.1; simp at this
  | u :: us, p :: pl, h => .cons (.tup (.inl (.inl (h.2 0 u p rfl rfl))) (by
      have : lstN names p = (namesOf names p).map V.str := by unfold lstN namesOf; rw [List.map_map]; rfl
      rw [this]; exact dp_strs)) (dp_least ⟨by simpa using h.1, fun j => h.2 (j + 1)⟩)
/-- the law's pairs say what the pushes say -/
def RelOk (ns : List Str) (M : Nat → Nat → Int) (pl : List (Str × Str)) : Prop := ∀ m f, m < ns.length → f < ns.length → m ≠ f → ((ns.getD m "", ns.getD f "") ∈ pl ↔ M f m = 0)
def spLawStates (K : PySem.W.Frag) : Sp := fun vs H Q _ => ∃ (a pr : Addr) (fs ns : List Str) (us : List Addr) (pl : List (Str × Str)) (M : Nat → Nat → Int) (Ro : List Row0) (N : Nat) (Lo : List (List Nat)), vs = [.ref a, .ref pr] ∧ H a = some (.lst (fs.map V.str)) ∧ H pr = some (.lst (us.map V.ref)) ∧ PairsS H us pl ∧
  ns.Perm fs ∧ Srt ns ∧ ns.length ≤ 6 ∧ (∀ x ∈ ns, NameOk x) ∧ (∀ p ∈ pl, p.1 ∈ ns ∧ p.2 ∈ ns) ∧ RelOk ns M pl ∧ N ≤ 60 ∧ lawBfs ns.length (nxL ns.length M) N [[]] [[]] [] = some (Lo, Ro) ∧
  ∀ H' u fd ls rs us, Same H H' → H' u = some (.tup [.ref ls, .ref fd]) → H' fd = some (.lst (rs.map V.ref)) → DictsA H' rs (Ro.map (rowD ns)) → H' ls = some (.lst (us.map V.ref)) → LeastAt H' us ns Lo → Q (.ref u) H'
theorem ok__law_states (T : Says K mg) : Ok P w K mg base 1 ("_law_states", none) ["_law_names_here", "_law_pairs"] (spLawStates K) := by
  refine FunD.ok (d__law_states T) sc__law_states (fun vs H Q E h => ?len) (fun cdv A outer s H vs Q E hr h => ?bod)
  case len =>
    obtain ⟨a, pr, fs, ns, us, pl, M, Ro, N, Lo, rfl, _⟩ := h; rfl
  case bod =>
    obtain ⟨a, pr, fs, ns, pus, pl, M, Ro, N, Lo, rfl, ha, hpr, hPS, hperm, hS, hn6, hok, hplm, hrel, hN, hrun, k⟩ := h
    have hu := hu_of hr
    have hnd := hS.nodup
    obtain ⟨n, hnn⟩ : ∃ n, ns.length = n := ⟨_, rfl⟩
    rw [hnn] at hrun
    have hget : ∀ f, f < n → ns[f]? = some (ns.getD f "") := fun f hf => by rw [List.getD_eq_getElem?_getD, List.getElem?_eq_getElem (by omega)]; rfl
    refine ⟨_, PSs.nox (pss_cons (ps_asg (pe_tup (pa_cons (pe_callB (k_sortedS (K := K) (by rfl)) (by rfl) (T.free_ 20) (by decide +kernel) (pa_cons (pv 0) pa_nil)) (pa_cons (pe_lst (pa_cons (pe_tup pa_nil) pa_nil)) (pa_cons (pe_lst (pa_cons (pe_tup pa_nil) pa_nil)) (pa_cons (pe_lst pa_nil) pa_nil))))) (k_tup (K := K) (n := 4) (by rfl) rfl (pgs_cons (pg_name (i := 2) sc__law_states.nd rfl (Or.inl rfl)) (pgs_cons (pg_name (i := 3) sc__law_states.nd rfl (Or.inr rfl)) (pgs_cons (pg_name (i := 4) sc__law_states.nd rfl (Or.inl rfl)) (pgs_cons (pg_name (i := 5) sc__law_states.nd rfl (Or.inl rfl)) pgs_nil))))))
      (pss_cons (ps_while PassesOwn.never (pt_cmpR op_lt (pe_callB (k_len (K := K) (by rfl)) (by rfl) (T.free_ 7) (by decide +kernel) (pa_cons (pv 5) pa_nil)) (pe_callB (k_len (K := K) (by rfl)) (by rfl) (T.free_ 7) (by decide +kernel) (pa_cons (pv 3) pa_nil)) (nomark _)) (pss_cons (ps_asg (pe_tup (pa_cons (pe_callB (k_len (K := K) (by rfl)) (by rfl) (T.free_ 7) (by decide +kernel) (pa_cons (pv 5) pa_nil)) (pa_cons pe_dnewK pa_nil))) (k_tup (K := K) (n := 2) (by rfl) rfl (pgs_cons (pg_name (i := 6) sc__law_states.nd rfl (Or.inr rfl)) (pgs_cons (pg_name (i := 7) sc__law_states.nd rfl (Or.inl rfl)) pgs_nil))))
      (pss_cons (ps_for PassesOwn.never rfl (k_pil (K := K) (by rfl) (pv 2)) (pg_name (i := 8) sc__law_states.nd rfl (Or.inr rfl))
      (pss_cons (ps_dput hu (pv 7) (pv 8) pe_non rfl)
      (pss_one (ps_if (pt_cmpR (k_notIn (K := K) (by rfl)) (pv 8) (pe_ix (k_ixL (K := K) (by rfl)) (pv 3) (pv 6) (fun _ _ => rfl)) (by rfl)) (pss_cons (ps_set (i := 9) sc__law_states.nd rfl (Or.inl rfl) (pe_callTy (k_tupleOf (K := K) (by rfl)) (by rfl) (T.free_ 5) (by decide +kernel) (pa_cons (pe_lc (own := [("_law_one", 10)]) rfl sc__law_states.nd (k_pil (K := K) (by rfl) (pv 2)) (blkOk_by (N := N__law_states) (sc := defScope s__law_states) (by decide +kernel)) (fun _ _ _ _ _ => (pg_name (i := 10) sc__law_states.nd rfl (Or.inl rfl))) (fun _ _ _ _ _ => (pts_one (pw_or (pt_cmpR op_eq (pv 10) (pv 8) (nomark _)) (pw_or1 (pw_and (pt_cmpR (k_in (K := K) (by rfl)) (pv 10) (pe_ix (k_ixL (K := K) (by rfl)) (pv 3) (pv 6) (fun _ _ => rfl)) (by rfl)) (pw_and1 (pt_cmpR (k_inD (K := K) (by rfl) (u65 hr)) (pe_tup (pa_cons (pv 10) (pa_cons (pv 8) pa_nil))) (pv 1) (by rfl)))).pt)).pt)) (fun _ _ _ _ _ => (pv 10))) pa_nil)))
      (pss_cons (ps_if (pt_cmpR (k_notInD (K := K) (by rfl) (u65 hr)) (pv 9) (pv 3) (by rfl)) (pss_cons (ps_expr (pe_bm PySem.F.plainAttrs_list PySem.F.slot_list_append PySem.F.type_list_append mt_append (pv 3) (pa_cons (pv 9) pa_nil)))
      (pss_one (ps_expr (pe_bm PySem.F.plainAttrs_list PySem.F.slot_list_append PySem.F.type_list_append mt_append (pv 4) (pa_cons (pe_op (k_catT (K := K) (by rfl)) (pe_ix (k_ixL (K := K) (by rfl)) (pv 4) (pv 6) (fun _ _ => rfl)) (pe_tup (pa_cons (pv 8) pa_nil))) pa_nil))))) pss_nil)
      (pss_one (ps_dput hu (pv 7) (pv 8) (pe_bm PySem.F.plainAttrs_list PySem.F.slot_list_index PySem.F.type_list_index (k_indexD (K := K) (by rfl) (u65 hr)) (pv 3) (pa_cons (pv 9) pa_nil)) rfl)))) pss_nil))))
      (pss_one (ps_expr (pe_bm PySem.F.plainAttrs_list PySem.F.slot_list_append PySem.F.type_list_append mt_append (pv 5) (pa_cons (pv 7) pa_nil)))))))
      (pss_one (ps_ret (pe_tup (pa_cons (pv 4) (pa_cons (pv 5) pa_nil))))))), ?_⟩
    refine ⟨_, rfl, a, fs, rfl, SqL.of ha, by rw [← hperm.length_eq]; omega, fun ys od hys hsy hod => ?_⟩
    have eys : ys = ns := sorted_eq (hys.trans hperm.symm) hsy hS
    rw [eys]
    have s1 := same_new (o := .lst (ns.map V.str)) hod
    have ho1 : (upd H od (.lst (ns.map V.str))) od = some (.lst (ns.map V.str)) := upd_same
    generalize upd H od (.lst (ns.map V.str)) = H1 at s1 ho1 ⊢
    refine ⟨by show 0 ≤ sizeLine; decide, fun u0 hu0 => ⟨by show 1 ≤ sizeLine; decide, fun sa hsa => ?_⟩⟩
    have nsaod : sa ≠ od := ne_of_none' (same_new (o := .tup []) hu0 _ _ ho1) hsa
    have s2 := same_upd (o := .tup []) s1 (s1.free hu0)
    have hsaH := s2.free hsa
    have s3 := same_upd (o := .lst [.ref u0]) s2 hsaH
    have s13 := same_upd (o := .lst [.ref u0]) (same_new (o := .tup []) hu0) ((same_new (o := .tup []) hu0).free hsa)
    have hu2 := same_new (o := .lst [.ref u0]) hsa _ _ (show (upd H1 u0 (.tup [])) u0 = some (.tup []) from upd_same)
    have hsa2 : (upd (upd H1 u0 (.tup [])) sa (.lst [.ref u0])) sa = some (.lst [.ref u0]) := upd_same
    have ho2 := s13 _ _ ho1
    generalize upd (upd H1 u0 (.tup [])) sa (.lst [.ref u0]) = H2 at s3 hu2 hsa2 ho2 ⊢
    refine ⟨by show 0 ≤ sizeLine; decide, fun u1 hu1 => ⟨by show 1 ≤ sizeLine; decide, fun ls hls => ?_⟩⟩
    have s4 := same_upd (o := .tup []) s3 (s3.free hu1)
    have hlsH := s4.free hls
    have s5 := same_upd (o := .lst [.ref u1]) s4 hlsH
    have s25 := same_upd (o := .lst [.ref u1]) (same_new (o := .tup []) hu1) ((same_new (o := .tup []) hu1).free hls)
    have hu3 := same_new (o := .lst [.ref u1]) hls _ _ (show (upd H2 u1 (.tup [])) u1 = some (.tup []) from upd_same)
    have hls3 : (upd (upd H2 u1 (.tup [])) ls (.lst [.ref u1])) ls = some (.lst [.ref u1]) := upd_same
    have nls : ls ≠ sa := ne_of_none' (same_new (o := .tup []) hu1 _ _ hsa2) hls
    have hlsod : ls ≠ od := ne_of_none' (same_new (o := .tup []) hu1 _ _ ho2) hls
    have hu02 := s25 _ _ hu2
    have hsa3 := s25 _ _ hsa2
    have ho3 := s25 _ _ ho2
    generalize upd (upd H2 u1 (.tup [])) ls (.lst [.ref u1]) = H3 at s5 hu3 hls3 hu02 hsa3 ho3 ⊢
    refine ⟨by show 0 ≤ sizeLine; decide, fun fd hfd => ?_⟩
    have hfdH := s5.free hfd
    have s6 := same_upd (o := .lst []) s5 hfdH
    have s36 := same_new (o := .lst []) hfd
    have nfs : fd ≠ sa := ne_of_none' hsa3 hfd
    have nfl : fd ≠ ls := ne_of_none' hls3 hfd
    have nfo : fd ≠ od := ne_of_none' ho3 hfd
    have hf4 : (upd H3 fd (.lst [])) fd = some (.lst []) := upd_same
    have hu13 := s36 _ _ hu3
    have hu04 := s36 _ _ hu02
    have hsa4 := s36 _ _ hsa3
    have hls4 := s36 _ _ hls3
    have ho4 := s36 _ _ ho3
    generalize upd H3 fd (.lst []) = H4 at s6 hf4 hu13 hu04 hsa4 hls4 ho4 ⊢
    refine ⟨by show 4 ≤ sizeLine; decide, fun tq htq => ?_⟩
    have s7 := same_upd (o := .tup [.ref od, .ref sa, .ref ls, .ref fd]) s6 (s6.free htq)
    have s47 := same_new (o := .tup [.ref od, .ref sa, .ref ls, .ref fd]) htq
    refine ⟨tq, _, rfl, .inl (.inl upd_same), rfl, _, _, rfl, _, _, rfl, _, _, rfl, _, _, rfl, rfl, ?_⟩
    have hf5 := s47 _ _ hf4
    have hu15 := s47 _ _ hu13
    have hu05 := s47 _ _ hu04
    have hsa5 := s47 _ _ hsa4
    have hls5 := s47 _ _ hls4
    have ho5 := s47 _ _ ho4
    generalize upd H4 tq (.tup [.ref od, .ref sa, .ref ls, .ref fd]) = H5 at s7 hf5 hu15 hu05 hsa5 hls5 ho5 ⊢
    have hpl : ∀ {H' : Hp}, Same H H' → Dp K H' (.ref pr) (.list ((pl.map fun p => [p.1, p.2]).map fun t => PyData.tuple (t.map PyData.str))) := fun s => .lst (SqL.of (s _ _ hpr)) (dp_pairs (hPS.mono s))
    have shpl : SeqAt.shaped (.list ((pl.map fun p => [p.1, p.2]).map fun t => PyData.tuple (t.map PyData.str))) = true := shaped_tups (by
      intro t ht x hx
      obtain ⟨p, hp, rfl⟩ := List.mem_map.mp ht
      obtain ⟨h1, h2⟩ := hplm p hp
      rcases List.mem_cons.mp hx with z | z
      · rw [z]; exact (hok _ h1).ok
      · rw [List.mem_singleton.mp z]; exact (hok _ h2).ok)
    have okn : ∀ f, f < n → PyData.strOk (ns.getD f "") = true := fun f hf => (hok _ (List.mem_of_getElem? (hget f hf))).ok
    refine while_m (fun i σ H' => ∃ (v6 v7 v8 v9 v10 : Option V) (su : List Addr) (st : List (List Nat)) (lu : List Addr) (L : List (List Nat)) (rs : List Addr) (rows : List Row0), σ = [some (.ref a), some (.ref pr), some (.ref od), some (.ref sa), some (.ref ls), some (.ref fd), v6, v7, v8, v9, v10] ∧ Same H H' ∧ H' od = some (.lst (ns.map V.str)) ∧ H' sa = some (.lst (su.map V.ref)) ∧ LeastAt H' su ns st ∧
        H' ls = some (.lst (lu.map V.ref)) ∧ LeastAt H' lu ns L ∧ H' fd = some (.lst (rs.map V.ref)) ∧ DictsA H' rs (rows.map (rowD ns)) ∧ rows.length = i ∧ StsOk n st ∧ st.length = L.length ∧ st.length ≤ 1 + 6 * i ∧ (∀ l ∈ L, l.length ≤ i) ∧ lawBfs n (nxL n M) (N - i) st L rows = some (Lo, Ro)) N
      ⟨none, none, none, none, none, [u0], [[]], [u1], [[]], [], [], rfl, s7, ho5, hsa5, ⟨rfl, fun j u l h1 h2 => ?_⟩, hls5, ⟨rfl, fun j u l h1 h2 => ?_⟩, hf5, ⟨rfl, by simp⟩, rfl, fun t ht => ?_, rfl, by simp, by simp, hrun⟩ ?_
    · cases j with
      | zero => injection h1 with h1; injection h2 with h2; rw [← h1, ← h2]; exact hu05
      | succ j => simp at h1
    · cases j with
      | zero => injection h1 with h1; injection h2 with h2; rw [← h1, ← h2]; exact hu15
      | succ j => simp at h1
    · rw [List.mem_singleton] at ht; rw [ht]; exact ⟨.nil, by simp⟩
    rintro i σ H6 hi ⟨v6, v7, v8, v9, v10, su, st, lu, L, rs, rows, rfl, sH, ho6, hsa6, hSt6, hls6, hLe6, hf6, hD6, hrl, hst, hstL, hsl, hLb, hb⟩
    have hrsl : rs.length = i := by rw [hD6.1, List.length_map, hrl]
    have hsul : su.length = st.length := hSt6.1
    obtain ⟨kk, hkk⟩ : ∃ kk, N - i = kk := ⟨_, rfl⟩
    rw [hkk] at hb
    cases kk with
    | zero => unfold lawBfs at hb; cases hb
    | succ kk =>
    unfold lawBfs at hb
    refine ⟨_, rfl, fd, _, rfl, .inl (SqL.of hf6), _, rfl, sa, _, rfl, .inl (SqL.of hsa6), _, _, rfl, rfl, decide (rows.length < st.length), ?_, ?_⟩
    · rw [List.length_map, List.length_map, hrsl, hsul]
      show V.bl (decide ((i : Int) < ((st.length : Nat) : Int))) = _
      rw [hrl]
      by_cases e : i < st.length
      · rw [decide_eq_true e, decide_eq_true (by omega)]
      · rw [decide_eq_false e, decide_eq_false (by omega)]
    by_cases e : rows.length < st.length
    · rw [if_pos e] at hb
      rw [decide_eq_true e]
      refine iteT ⟨_, wm_nx (by omega), ?_⟩
      have hsi : st[i]? = some (st.getD rows.length []) := by rw [hrl, List.getD_eq_getElem?_getD, List.getElem?_eq_getElem (by omega)]; rfl
      have hLi : L[i]? = some (L.getD rows.length []) := by rw [hrl, List.getD_eq_getElem?_getD, List.getElem?_eq_getElem (by omega)]; rfl
      have hst0 : StOk n (st.getD rows.length []) := hst _ (List.mem_of_getElem? hsi)
      generalize hs0 : st.getD rows.length [] = s0' at hb hsi hst0
      generalize hb0 : L.getD rows.length [] = b0 at hb hLi
      have hi1 : i < st.length := by omega
      refine ⟨_, rfl, fd, _, rfl, .inl (SqL.of hf6), fun rd hrd => ⟨by show 2 ≤ sizeLine; decide, fun tr htr => ?_⟩⟩
      have sr := same_new (o := .dK []) hrd
      have hrdH := sH.free hrd
      have sr2 := same_upd (o := .tup [.int (((rs.map V.ref).length : Nat) : Int), .ref rd]) sr (sr.free htr)
      have s8 : Same H (upd (upd H6 rd (.dK [])) tr (.tup [.int (((rs.map V.ref).length : Nat) : Int), .ref rd])) := sH.trans sr2
      have hr8 := same_new (o := .tup [.int (((rs.map V.ref).length : Nat) : Int), .ref rd]) htr _ _ (show (upd H6 rd (.dK [])) rd = some (.dK []) from upd_same)
      have hrrs : rd ∉ rs := fun z => by
        obtain ⟨q, hq⟩ := List.mem_iff_getElem?.mp z
        obtain ⟨rw', hrw⟩ : ∃ x, (rows.map (rowD ns))[q]? = some x := ⟨_, List.getElem?_eq_getElem (by rw [← hD6.1]; exact lt_of_get hq)⟩
        have := hD6.2 q rd rw' hq hrw
        rw [hrd] at this; cases this
      refine ⟨tr, _, rfl, .inl (.inl upd_same), rfl, _, _, rfl, _, _, rfl, rfl, ?_⟩
      have ho8 := sr2 _ _ ho6
      have hsa8 := sr2 _ _ hsa6
      have hSt8 := hSt6.mono sr2
      have hls8 := sr2 _ _ hls6
      have hLe8 := hLe6.mono sr2
      have hf8 := sr2 _ _ hf6
      have hD8 := hD6.mono sr2
      generalize upd (upd H6 rd (.dK [])) tr (.tup [.int (((rs.map V.ref).length : Nat) : Int), .ref rd]) = H8 at s8 hr8 ho8 hsa8 hSt8 hls8 hLe8 hf8 hD8 ⊢
      have eat : V.int (((rs.map V.ref).length : Nat) : Int) = nV i := by rw [List.length_map, hrsl]; rfl
      rw [eat]
      have hinv := lawInv (nx := nxL n M) (base := b0) (s := s0') hstL
      refine ⟨_, rfl, od, rfl, ⟨_, SqL.of ho8⟩, for_list (xs := ns.map V.str) (fun j σ H' => ∃ (v8 v9 v10 : Option V) (su' lu' : List Addr), σ = [some (.ref a), some (.ref pr), some (.ref od), some (.ref sa), some (.ref ls), some (.ref fd), some (nV i), some (.ref rd), v8, v9, v10] ∧ Same H H' ∧ H' od = some (.lst (ns.map V.str)) ∧
          H' sa = some (.lst (su'.map V.ref)) ∧ LeastAt H' su' ns (lawRow (nxL n M) b0 s0' st L j).1 ∧ H' ls = some (.lst (lu'.map V.ref)) ∧ LeastAt H' lu' ns (lawRow (nxL n M) b0 s0' st L j).2.1 ∧ H' fd = some (.lst (rs.map V.ref)) ∧ DictsA H' rs (rows.map (rowD ns)) ∧
          H' rd = some (.dK (rowV (rowD ns (lawRow (nxL n M) b0 s0' st L j).2.2))) ∧ StsOk n (lawRow (nxL n M) b0 s0' st L j).1 ∧ (∀ l ∈ (lawRow (nxL n M) b0 s0' st L j).2.1, l.length ≤ i + 1))
        ⟨v8, v9, v10, su, lu, rfl, s8, ho8, hsa8, hSt8, hls8, hLe8, hf8, hD8, by simpa [lawRow, rowD, rowV] using hr8, hst, fun l hl => Nat.le_succ_of_le (hLb l hl)⟩ (fun j σ H' _ ⟨_, _, _, _, _, _, _, h, _⟩ => SqL.of h) ?_ ?_⟩
      · rintro j x σ H9 hx ⟨v8, v9, v10, su', lu', rfl, s9, ho9, hsa9, hSt9, hls9, hLe9, hf9, hD9, hr9, hst9, hLb9⟩
        obtain ⟨nm, hnm, rfl⟩ := getElem?_map_some hx
        have hjn : j < n := hnn ▸ lt_of_get hnm
        have hinvj := hinv j
        obtain ⟨⟨ex1, hex1⟩, ⟨ex2, hex2⟩, hql, hqe, hqr⟩ := hinvj
        have hstep := lawRow_succ (nxL n M) b0 s0' st L j
        generalize lawRow (nxL n M) b0 s0' st L j = q at *
        obtain ⟨qs, qL, qr⟩ := q
        dsimp only at *
        have hsi9 : qs[i]? = some s0' := by rw [hex1, List.getElem?_append_left hi1]; exact hsi
        have hLi9 : qL[i]? = some b0 := by rw [hex2, List.getElem?_append_left (by omega)]; exact hLi
        have nrs : rd ≠ sa := ne_of hr9 hsa9 (by intro z; cases z)
        have nrl : rd ≠ ls := ne_of hr9 hls9 (by intro z; cases z)
        have nrf : rd ≠ fd := ne_of hr9 hf9 (by intro z; cases z)
        have nro : rd ≠ od := ne_of hr9 ho9 (by intro z; cases z)
        have hlenr : (rowV (rowD ns qr)).length ≤ 6 := by unfold rowV rowD; rw [List.length_map, List.length_map, List.length_zip]; omega
        have p1 := DPut.k (k := .inr nm) (v := .non) hr9 (small1000 (by omega))
        rw [putK_new _ (rowD_noneL hnd hnm hqr)] at p1
        refine ⟨_, rfl, _, rfl, rd, _, rfl, p1, ?_⟩
        have s10 := same_upd (o := .dK (rowV (rowD ns qr) ++ [((Sum.inr nm : Key), V.non)])) s9 hrdH
        have hr10 : (upd H9 rd (.dK (rowV (rowD ns qr) ++ [((Sum.inr nm : Key), V.non)]))) rd = some (.dK (rowV (rowD ns qr) ++ [((Sum.inr nm : Key), V.non)])) := upd_same
        have ho10 : (upd H9 rd (.dK (rowV (rowD ns qr) ++ [((Sum.inr nm : Key), V.non)]))) od = some (.lst (ns.map V.str)) := by rw [upd_ne nro.symm]; exact ho9
        have hsa10 : (upd H9 rd (.dK (rowV (rowD ns qr) ++ [((Sum.inr nm : Key), V.non)]))) sa = some (.lst (su'.map V.ref)) := by rw [upd_ne nrs.symm]; exact hsa9
        have hls10 : (upd H9 rd (.dK (rowV (rowD ns qr) ++ [((Sum.inr nm : Key), V.non)]))) ls = some (.lst (lu'.map V.ref)) := by rw [upd_ne nrl.symm]; exact hls9
        have hf10 : (upd H9 rd (.dK (rowV (rowD ns qr) ++ [((Sum.inr nm : Key), V.non)]))) fd = some (.lst (rs.map V.ref)) := by rw [upd_ne nrf.symm]; exact hf9
        have hSt10 := hSt9.put (o := .dK (rowV (rowD ns qr) ++ [((Sum.inr nm : Key), V.non)])) hr9 (by intro l z; cases z)
        have hLe10 := hLe9.put (o := .dK (rowV (rowD ns qr) ++ [((Sum.inr nm : Key), V.non)])) hr9 (by intro l z; cases z)
        have hD10 := hD9.put (o := .dK (rowV (rowD ns qr) ++ [((Sum.inr nm : Key), V.non)])) hrrs
        generalize upd H9 rd (.dK (rowV (rowD ns qr) ++ [((Sum.inr nm : Key), V.non)])) = H10 at s10 hr10 ho10 hsa10 hls10 hf10 hSt10 hLe10 hD10 ⊢
        obtain ⟨u, hu'⟩ : ∃ u, su'[i]? = some u := ⟨_, List.getElem?_eq_getElem (by rw [hSt10.1]; exact lt_of_get hsi9)⟩
        have hut := hSt10.2 i u s0' hu' hsi9
        have elst : lstN ns s0' = (namesOf ns s0').map V.str := by unfold lstN namesOf; rw [List.map_map]; rfl
        rw [elst] at hut
        have hui : atI (su'.map V.ref) (i : Int) = some (.ref u) := atI_nat (by rw [List.getElem?_map, hu']; rfl)
        have hmem : decide (nm ∈ namesOf ns s0') = decide (j ∈ s0') := by
          have := namesOf_mem hnd (s := s0') (fun f hf => hnn ▸ hst0.lt f hf) hnm
          by_cases z : j ∈ s0'
          · rw [decide_eq_true z, decide_eq_true (this.mpr z)]
          · rw [decide_eq_false z, decide_eq_false (fun y => z (this.mp y))]
        refine ⟨_, rfl, _, rfl, _, rfl, sa, _, _, _, rfl, rfl, SqL.of hsa10, hui, u, _, rfl, .inr (.inl (.inl hut)), rfl, flat_strs _, !decide (j ∈ s0'), ?_, ?_⟩
        · show V.bl (!inV (.str nm) ((namesOf ns s0').map V.str)) = _
          rw [inV_str, hmem]
        by_cases hjs : j ∈ s0'
        · have enx : nxL n M s0' j = none := by unfold nxL; rw [if_pos hjs]
          have hstep' : lawStep (nxL n M) b0 s0' (qs, qL, qr) j = (qs, qL, qr ++ [none]) := by unfold lawStep; rw [enx]
          rw [hstep'] at hstep
          rw [decide_eq_true hjs]
          refine iteF ?_
          exact ⟨_, _, _, su', lu', rfl, s10, ho10, hsa10, by rw [hstep]; exact hSt10, hls10, by rw [hstep]; exact hLe10, hf10, hD10, by rw [hstep, rowV_snoc hnm hqr]; exact hr10, by rw [hstep]; exact hst9, by rw [hstep]; exact hLb9⟩
        · rw [decide_eq_false hjs]
          refine iteT ?_
          have enx : nxL n M s0' j = some ((List.range n).filter fun m => decide (m = j) || (decide (m ∈ s0') && decide (M j m = 0))) := by unfold nxL; rw [if_neg hjs]
          have hyok := nx_ok enx
          refine ⟨_, rfl, od, rfl, ⟨_, SqL.of ho10⟩, fun D hD => ?_⟩
          refine lcf_list (xs := ns.map V.str) (fun g acc H11 => Same H10 H11 ∧ H11 D = some (.lst acc) ∧ acc = (namesOf ns ((List.range g).filter fun m => decide (m = j) || (decide (m ∈ s0') && decide (M j m = 0)))).map V.str) ⟨same_new hD, upd_same, rfl⟩ (fun g acc H11 h => SqL.of (h.1 _ _ ho10)) ?_ ?_
          · rintro g y acc H11 hy ⟨s11, hD11, rfl⟩
            obtain ⟨xm, hxm, rfl⟩ := getElem?_map_some hy
            have hgn : g < n := hnn ▸ lt_of_get hxm
            have exm : xm = ns.getD g "" := by have := hget g hgn; rw [hxm] at this; exact Option.some.inj this
            have exj : nm = ns.getD j "" := by have := hget j hjn; rw [hnm] at this; exact Option.some.inj this
            have hlen : ((namesOf ns ((List.range g).filter fun m => decide (m = j) || (decide (m ∈ s0') && decide (M j m = 0)))).map V.str).length < sizeLine := by
              unfold namesOf
              rw [List.length_map, List.length_map]
              have := List.length_filter_le (fun m => decide (m = j) || (decide (m ∈ s0') && decide (M j m = 0))) (List.range g)
              rw [List.length_range] at this
              exact small1000 (by omega)
            have eT : (decide (g = j) || (decide (g ∈ s0') && decide (M j g = 0))) = true → (namesOf ns ((List.range g).filter fun m => decide (m = j) || (decide (m ∈ s0') && decide (M j m = 0)))).map V.str ++ [V.str xm] = (namesOf ns ((List.range (g + 1)).filter fun m => decide (m = j) || (decide (m ∈ s0') && decide (M j m = 0)))).map V.str := fun z => by
              rw [List.range_succ, List.filter_append]
              unfold namesOf
              rw [List.map_append, List.map_append, exm]
              simp only [List.filter_cons, z, if_true, List.filter_nil, List.map_cons, List.map_nil]
            have eF : (decide (g = j) || (decide (g ∈ s0') && decide (M j g = 0))) = false → (namesOf ns ((List.range g).filter fun m => decide (m = j) || (decide (m ∈ s0') && decide (M j m = 0)))).map V.str = (namesOf ns ((List.range (g + 1)).filter fun m => decide (m = j) || (decide (m ∈ s0') && decide (M j m = 0)))).map V.str := fun z => by
              rw [List.range_succ, List.filter_append]
              simp only [List.filter_cons, z, List.filter_nil, List.append_nil]
              simp
            have e1 : decide (V.str xm = V.str nm) = decide (g = j) := by
              by_cases z : g = j
              · subst z; rw [exm, exj]; simp
              · rw [decide_eq_false z, decide_eq_false]
                intro y
                have y := V.str.inj y
                exact z ((List.getElem?_inj (i := g) (j := j) (lt_of_get hxm) hnd).mp (by rw [hxm, hnm, y]))
            have hmem2 : decide (xm ∈ namesOf ns s0') = decide (g ∈ s0') := by
              have := namesOf_mem hnd (s := s0') (fun f hf => hnn ▸ hst0.lt f hf) hxm
              by_cases z : g ∈ s0'
              · rw [decide_eq_true z, decide_eq_true (this.mpr z)]
              · rw [decide_eq_false z, decide_eq_false (fun y => z (this.mp y))]
            have hut11 := s11 _ _ hut
            refine ⟨_, rfl, _, rfl, rfl, decide (g = j), by rw [← e1], ?_⟩
            by_cases c1 : g = j
            · rw [decide_eq_true c1]
              refine iteT (iteT ⟨_, rfl, _, hD11, hlen, _, same_upd s11 hD, upd_same, eT (by simp [c1])⟩)
            rw [decide_eq_false c1]
            refine iteF ⟨_, rfl, _, rfl, _, rfl, sa, _, _, _, rfl, rfl, SqL.of (s11 _ _ hsa10), hui, u, _, rfl, .inr (.inl (.inl hut11)), rfl, flat_strs _, decide (g ∈ s0'), ?_, ?_⟩
            · show V.bl (inV (.str xm) ((namesOf ns s0').map V.str)) = _
              rw [inV_str, hmem2]
            by_cases c2 : g ∈ s0'
            · rw [decide_eq_true c2]
              refine iteT ⟨_, rfl, _, rfl, by show 2 ≤ sizeLine; decide, fun tp htp => ?_⟩
              have stp := same_new (o := .tup [.str xm, .str nm]) htp
              have hD12 := stp _ _ hD11
              have s12 := s11.trans stp
              have ytp : (upd H11 tp (.tup [.str xm, .str nm])) tp = some (.tup [.str xm, .str nm]) := upd_same
              generalize upd H11 tp (.tup [.str xm, .str nm]) = H12 at hD12 s12 ytp ⊢
              have shx : SeqAt.shaped (.tuple ([xm, nm].map PyData.str)) = true := shaped_tup (by
                intro x hx
                rcases List.mem_cons.mp hx with z | z
                · rw [z, exm]; exact okn g hgn
                · rw [List.mem_singleton.mp z, exj]; exact okn j hjn)
              have epl : decide ([xm, nm] ∈ pl.map fun p => [p.1, p.2]) = decide (M j g = 0) := by
                have hr := hrel g j (by omega) (by omega) c1
                have : ([xm, nm] ∈ pl.map fun p => [p.1, p.2]) ↔ (xm, nm) ∈ pl := by
                  rw [List.mem_map]
                  constructor
                  · rintro ⟨p, hp, e⟩
                    injection e with a1 a2
                    injection a2 with a2
                    have : p = (xm, nm) := Prod.ext a1 a2
                    rw [← this]; exact hp
                  · intro h; exact ⟨_, h, rfl⟩
                rw [← exm, ← exj] at hr
                by_cases z : M j g = 0
                · rw [decide_eq_true z, decide_eq_true (this.mpr (hr.mpr z))]
                · rw [decide_eq_false z, decide_eq_false (fun y => z (hr.mp (this.mp y)))]
              refine ⟨_, rfl, _, _, .tup (.inl (.inl ytp)) (.cons (.str _) (.cons (.str _) .nil)), hpl (s10.trans s12), shx, shpl, decide (M j g = 0), by have z := any_tup (pl.map fun p => [p.1, p.2]) [xm, nm]; rw [epl] at z; exact congrArg V.bl z, ?_⟩
              by_cases c3 : M j g = 0
              · rw [decide_eq_true c3]
                exact iteT ⟨_, rfl, _, hD12, hlen, _, same_upd s12 hD, upd_same, eT (by simp [c2, c3])⟩
              · rw [decide_eq_false c3]
                exact iteF ⟨_, s12, hD12, eF (by simp [c1, c3])⟩
            · rw [decide_eq_false c2]
              refine iteF ?_
              exact ⟨_, s11, hD11, eF (by simp [c1, c2])⟩
          rintro acc H11 ⟨s11, hD11, rfl⟩
          rw [List.length_map, hnn] at hD11
          generalize hys : (List.range n).filter (fun m => decide (m = j) || (decide (m ∈ s0') && decide (M j m = 0))) = ys at enx hyok hD11
          refine ⟨D, _, rfl, .inl ⟨SqL.of hD11, fun wt hwt => ?_⟩⟩
          have s12 := s11.trans (same_new (o := .tup ((namesOf ns ys).map V.str)) hwt)
          have hw12 : (upd H11 wt (.tup ((namesOf ns ys).map V.str))) wt = some (.tup ((namesOf ns ys).map V.str)) := upd_same
          generalize upd H11 wt (.tup ((namesOf ns ys).map V.str)) = H12 at s12 hw12 ⊢
          have s012 := s10.trans s12
          have hsa12 := s12 _ _ hsa10
          have hSt12 := hSt10.mono s12
          have hls12 := s12 _ _ hls10
          have hLe12 := hLe10.mono s12
          have hf12 := s12 _ _ hf10
          have hD12 := hD10.mono s12
          have hr12 := s12 _ _ hr10
          have ho12 := s12 _ _ ho10
          have okT : ∀ (S : List (List Nat)), StsOk n S → ∀ t ∈ S.map (namesOf ns), ∀ x ∈ t, PyData.strOk x = true := fun S hS t ht x hx => by
            obtain ⟨t0, h0, rfl⟩ := List.mem_map.mp ht
            obtain ⟨f, hf, rfl⟩ := List.mem_map.mp hx
            exact okn f ((hS t0 h0).lt f hf)
          have shw : SeqAt.shaped (.tuple ((namesOf ns ys).map PyData.str)) = true := shaped_tup fun x hx => by
            obtain ⟨f, hf, rfl⟩ := List.mem_map.mp hx
            exact okn f (hyok.lt f hf)
          have dpw : ∀ {H' : Hp}, Same H12 H' → Dp K H' (.ref wt) (.tuple ((namesOf ns ys).map PyData.str)) := fun s => .tup (.inl (.inl (s _ _ hw12))) dp_strs
          have ememN : ∀ (S : List (List Nat)), StsOk n S → (namesOf ns ys ∈ S.map (namesOf ns) ↔ ys ∈ S) := fun S hS => by
            constructor
            · intro h
              obtain ⟨t, ht, e⟩ := List.mem_map.mp h
              have := namesOf_inj hnd (fun f hf => hnn ▸ (hS t ht).lt f hf) (fun f hf => hnn ▸ hyok.lt f hf) e
              rw [← this]; exact ht
            · intro h; exact List.mem_map.mpr ⟨ys, h, rfl⟩
          have any2 := any_tup (qs.map (namesOf ns)) (namesOf ns ys)
          have emd : decide (namesOf ns ys ∈ qs.map (namesOf ns)) = decide (ys ∈ qs) := by
            have := ememN qs hst9
            by_cases z : ys ∈ qs
            · rw [decide_eq_true z, decide_eq_true (this.mpr z)]
            · rw [decide_eq_false z, decide_eq_false (fun y => z (this.mp y))]
          rw [emd] at any2
          -- line[name] = states.index(led)
          have ixf : ∀ (S2 : List (List Nat)), StsOk n S2 → ys ∈ S2 → ((S2.map (namesOf ns)).map fun t => PyData.tuple (t.map PyData.str))[S2.idxOf ys]? = some (.tuple ((namesOf ns ys).map PyData.str)) ∧ ∀ (m : Nat) (z' : PyData), m < S2.idxOf ys → ((S2.map (namesOf ns)).map fun t => PyData.tuple (t.map PyData.str))[m]? = some z' → PyData.eqv z' (.tuple ((namesOf ns ys).map PyData.str)) = false := fun S2 hS2 hy => by
            refine ⟨by rw [List.getElem?_map, List.getElem?_map, idxOf_at S2 ys hy]; rfl, fun m z' hm hz => ?_⟩
            rw [List.getElem?_map, List.getElem?_map] at hz
            cases e0 : S2[m]? with
            | none => rw [e0] at hz; cases hz
            | some t =>
              rw [e0] at hz
              have hz := Option.some.inj hz
              rw [← hz, eqv_tup]
              refine decide_eq_false fun y => ?_
              have := namesOf_inj hnd (fun f hf => hnn ▸ (hS2 t (List.mem_of_getElem? e0)).lt f hf) (fun f hf => hnn ▸ hyok.lt f hf) y
              exact idxOf_first S2 ys m hm (by rw [e0, this])
          have eqr : PyData.eqv (.tuple ((namesOf ns ys).map PyData.str)) (.tuple ((namesOf ns ys).map PyData.str)) = true := by rw [eqv_tup]; simp
          refine ⟨_, rfl, _, rfl, _, _, dpw (Same.refl _), .lst (SqL.of hsa12) (dp_least hSt12), shw, shaped_tups (okT qs hst9), !decide (ys ∈ qs), by rw [any2], ?_⟩
          by_cases hmq : ys ∈ qs
          · rw [decide_eq_true hmq]
            refine iteF ?_
            have hstep' : lawStep (nxL n M) b0 s0' (qs, qL, qr) j = (qs, qL, qr ++ [some (qs.idxOf ys)]) := by unfold lawStep; rw [enx]; dsimp only; rw [if_pos hmq]
            rw [hstep'] at hstep
            obtain ⟨x1, x2⟩ := ixf qs hst9 hmq
            have p2 := DPut.k (k := .inr nm) (v := nV (qs.idxOf ys)) hr12 (by rw [List.length_append, List.length_singleton]; exact small1000 (by omega))
            rw [putK_last (rowD_noneL hnd hnm hqr)] at p2
            refine ⟨_, rfl, .inl ⟨rfl, _, SqL.of hsa12⟩, _, rfl, sa, .ref wt, _, _, qs.idxOf ys, _, rfl, rfl, .lst (SqL.of hsa12) (dp_least hSt12), dpw (Same.refl _), shaped_tups (okT qs hst9), shw, x1, eqr, x2, _, rfl, _, rfl, rd, _, rfl, p2, ?_⟩
            refine ⟨_, _, _, su', lu', rfl, same_upd s012 hrdH, by rw [upd_ne nro.symm]; exact ho12, by rw [upd_ne nrs.symm]; exact hsa12, by rw [hstep]; exact hSt12.put hr12 (by intro l z; cases z), by rw [upd_ne nrl.symm]; exact hls12, by rw [hstep]; exact hLe12.put hr12 (by intro l z; cases z), by rw [upd_ne nrf.symm]; exact hf12, hD12.put hrrs, by rw [hstep, upd_same, rowV_snoc hnm hqr]; rfl, by rw [hstep]; exact hst9, by rw [hstep]; exact hLb9⟩
          · rw [decide_eq_false hmq]
            refine iteT ?_
            have hstep' : lawStep (nxL n M) b0 s0' (qs, qL, qr) j = (qs ++ [ys], qL ++ [b0 ++ [j]], qr ++ [some qs.length]) := by unfold lawStep; rw [enx]; dsimp only; rw [if_neg hmq]
            rw [hstep'] at hstep
            have hS2 : StsOk n (qs ++ [ys]) := fun t ht => by
              rcases List.mem_append.mp ht with z | z
              · exact hst9 t z
              · rw [List.mem_singleton.mp z]; exact hyok
            have eix : (qs ++ [ys]).idxOf ys = qs.length := by rw [List.idxOf_append, if_neg hmq]; simp
            have nsl : sa ≠ ls := nls.symm
            have hw12' : H12 wt = some (.tup (lstN ns ys)) := by rw [hw12]; unfold lstN namesOf; rw [List.map_map]; rfl
            refine ⟨_, rfl, .inl ⟨rfl, _, SqL.of hsa12⟩, _, rfl, sa, _, _, rfl, rfl, hsa12, by rw [List.length_map, hSt12.1]; exact small1000 (by omega), ?_⟩
            have hw13 : (upd H12 sa (.lst (su'.map V.ref ++ [.ref wt]))) wt = some (.tup (lstN ns ys)) := by rw [upd_ne (ne_of hw12' hsa12 (by intro z; cases z))]; exact hw12'
            have hsa13 : (upd H12 sa (.lst (su'.map V.ref ++ [.ref wt]))) sa = some (.lst ((su' ++ [wt]).map V.ref)) := by rw [upd_same, List.map_append]; rfl
            have hSt13 := (hSt12.put (o := .lst (su'.map V.ref ++ [.ref wt])) hsa12 (by intro l z; cases z)).snoc hw13
            have hls13 : (upd H12 sa (.lst (su'.map V.ref ++ [.ref wt]))) ls = some (.lst (lu'.map V.ref)) := by rw [upd_ne nls]; exact hls12
            have hLe13 := hLe12.put (o := .lst (su'.map V.ref ++ [.ref wt])) hsa12 (by intro l z; cases z)
            have hf13 : (upd H12 sa (.lst (su'.map V.ref ++ [.ref wt]))) fd = some (.lst (rs.map V.ref)) := by rw [upd_ne nfs]; exact hf12
            have hD13 := hD12.putL (o := .lst (su'.map V.ref ++ [.ref wt])) hsa12
            have hr13 : (upd H12 sa (.lst (su'.map V.ref ++ [.ref wt]))) rd = some (.dK (rowV (rowD ns qr) ++ [((Sum.inr nm : Key), V.non)])) := by rw [upd_ne nrs]; exact hr12
            have ho13 : (upd H12 sa (.lst (su'.map V.ref ++ [.ref wt]))) od = some (.lst (ns.map V.str)) := by rw [upd_ne nsaod.symm]; exact ho12
            have s13 := same_upd (o := .lst (su'.map V.ref ++ [.ref wt])) s012 hsaH
            generalize upd H12 sa (.lst (su'.map V.ref ++ [.ref wt])) = H13 at hw13 hsa13 hSt13 hls13 hLe13 hf13 hD13 hr13 ho13 s13 ⊢
            obtain ⟨ub, hub⟩ : ∃ ub, lu'[i]? = some ub := ⟨_, List.getElem?_eq_getElem (by rw [hLe13.1]; exact lt_of_get hLi9)⟩
            have hub13 := hLe13.2 i ub b0 hub hLi9
            have hbl : b0.length ≤ i := hLb b0 (List.mem_of_getElem? hLi)
            have hia : atI (lu'.map V.ref) (i : Int) = some (.ref ub) := atI_nat (by rw [List.getElem?_map, hub]; rfl)
            refine ⟨_, rfl, .inl ⟨rfl, _, SqL.of hls13⟩, _, rfl, _, rfl, ls, _, _, _, rfl, rfl, SqL.of hls13, hia, _, rfl, by show 1 ≤ sizeLine; decide, fun tn htn => ?_⟩
            have stn := same_new (o := .tup [.str nm]) htn
            refine cat_getH (stn _ _ hub13) upd_same (by unfold lstN; rw [List.length_map, List.length_singleton]; omega) fun H14 w14 s14 hw14 => ?_
            have s124 := stn.trans s14
            have hls14 := s124 _ _ hls13
            have hLe14 := hLe13.mono s124
            have elst2 : lstN ns b0 ++ [V.str nm] = lstN ns (b0 ++ [j]) := by
              unfold lstN; rw [List.map_append, List.map_cons, List.map_nil, List.getD_eq_getElem?_getD, hnm]; rfl
            rw [elst2] at hw14
            refine ⟨ls, _, _, rfl, rfl, hls14, by rw [List.length_map, hLe14.1]; exact small1000 (by omega), ?_⟩
            have hw15 : (upd H14 ls (.lst (lu'.map V.ref ++ [.ref w14]))) w14 = some (.tup (lstN ns (b0 ++ [j]))) := by rw [upd_ne (ne_of hw14 hls14 (by intro z; cases z))]; exact hw14
            have hLe15 := (hLe14.put (o := .lst (lu'.map V.ref ++ [.ref w14])) hls14 (by intro l z; cases z)).snoc hw15
            have hls15 : (upd H14 ls (.lst (lu'.map V.ref ++ [.ref w14]))) ls = some (.lst ((lu' ++ [w14]).map V.ref)) := by rw [upd_same, List.map_append]; rfl
            have hsa15 : (upd H14 ls (.lst (lu'.map V.ref ++ [.ref w14]))) sa = some (.lst ((su' ++ [wt]).map V.ref)) := by rw [upd_ne nsl]; exact s124 _ _ hsa13
            have hSt15 := (hSt13.mono s124).put (o := .lst (lu'.map V.ref ++ [.ref w14])) hls14 (by intro l z; cases z)
            have hf15 : (upd H14 ls (.lst (lu'.map V.ref ++ [.ref w14]))) fd = some (.lst (rs.map V.ref)) := by rw [upd_ne nfl]; exact s124 _ _ hf13
            have hD15 := (hD13.mono s124).putL (o := .lst (lu'.map V.ref ++ [.ref w14])) hls14
            have hr15 : (upd H14 ls (.lst (lu'.map V.ref ++ [.ref w14]))) rd = some (.dK (rowV (rowD ns qr) ++ [((Sum.inr nm : Key), V.non)])) := by rw [upd_ne nrl]; exact s124 _ _ hr13
            have ho15 : (upd H14 ls (.lst (lu'.map V.ref ++ [.ref w14]))) od = some (.lst (ns.map V.str)) := by rw [upd_ne hlsod.symm]; exact s124 _ _ ho13
            have hw16 : (upd H14 ls (.lst (lu'.map V.ref ++ [.ref w14]))) wt = some (.tup ((namesOf ns ys).map V.str)) := by
              have z := s124 _ _ hw13
              rw [upd_ne (ne_of z hls14 (by intro z; cases z)), z]; unfold lstN namesOf; rw [List.map_map]; rfl
            have s15 := same_upd (o := .lst (lu'.map V.ref ++ [.ref w14])) (s13.trans s124) hlsH
            generalize upd H14 ls (.lst (lu'.map V.ref ++ [.ref w14])) = H15 at hLe15 hls15 hsa15 hSt15 hf15 hD15 hr15 ho15 hw16 s15 ⊢
            obtain ⟨x1, x2⟩ := ixf (qs ++ [ys]) hS2 (by simp)
            rw [eix] at x1 x2
            have p2 := DPut.k (k := .inr nm) (v := nV qs.length) hr15 (by rw [List.length_append, List.length_singleton]; exact small1000 (by omega))
            rw [putK_last (rowD_noneL hnd hnm hqr)] at p2
            refine ⟨_, rfl, .inl ⟨rfl, _, SqL.of hsa15⟩, _, rfl, sa, .ref wt, _, _, qs.length, _, rfl, rfl, .lst (SqL.of hsa15) (dp_least hSt15), .tup (.inl (.inl hw16)) dp_strs, shaped_tups (okT _ hS2), shw, x1, eqr, x2, _, rfl, _, rfl, rd, _, rfl, p2, ?_⟩
            refine ⟨_, _, _, su' ++ [wt], lu' ++ [w14], rfl, same_upd s15 hrdH, by rw [upd_ne nro.symm]; exact ho15, by rw [upd_ne nrs.symm]; exact hsa15, by rw [hstep]; exact hSt15.put hr15 (by intro l z; cases z), by rw [upd_ne nrl.symm]; exact hls15, by rw [hstep]; exact hLe15.put hr15 (by intro l z; cases z), by rw [upd_ne nrf.symm]; exact hf15, hD15.put hrrs, by rw [hstep, upd_same, rowV_snoc hnm hqr]; rfl, by rw [hstep]; exact hS2, ?_⟩
            rw [hstep]
            intro l hl
            rcases List.mem_append.mp hl with z | z
            · exact hLb9 l z
            · rw [List.mem_singleton.mp z, List.length_append, List.length_singleton]; omega
      · rintro σ H9 ⟨v8, v9, v10, su', lu', rfl, s9, ho9, hsa9, hSt9, hls9, hLe9, hf9, hD9, hr9, hst9, hLb9⟩
        rw [List.length_map, hnn] at hSt9 hLe9 hr9 hst9 hLb9
        have hinvj := hinv n
        obtain ⟨_, _, hql, hqe, hqr⟩ := hinvj
        refine ⟨_, rfl, .inl ⟨rfl, _, SqL.of hf9⟩, _, rfl, fd, _, _, rfl, rfl, hf9, by rw [List.length_map, hrsl]; exact small1000 (by omega), ?_⟩
        refine ⟨_, _, _, _, _, su', _, lu', _, rs ++ [rd], rows ++ [(lawRow (nxL n M) b0 s0' st L n).2.2], rfl, same_upd s9 hfdH, ?_, by rw [upd_ne nfs.symm]; exact hsa9, hSt9.put hf9 (by intro l z; cases z), by rw [upd_ne nfl.symm]; exact hls9, hLe9.put hf9 (by intro l z; cases z), by rw [upd_same, List.map_append]; rfl, ?_, by simp [hrl], hst9, hqe, by omega, hLb9, by rw [show N - (i + 1) = kk by omega]; exact hb⟩
        · rw [upd_ne nfo.symm]; exact ho9
        · rw [List.map_append]
          exact (hD9.putL hf9).snoc (by rw [upd_ne (ne_of hr9 hf9 (by intro z; cases z))]; exact hr9)
    · rw [if_neg e] at hb
      rw [decide_eq_false e]
      injection hb with h1
      injection h1 with h1 h2
      refine iteF ⟨_, rfl, _, rfl, by show 2 ≤ sizeLine; decide, fun tu htu => ?_⟩
      have stt := same_new (o := .tup [.ref ls, .ref fd]) htu
      exact k _ tu fd ls rs lu (sH.trans stt) upd_same (stt _ _ hf6) (by rw [← h2]; exact hD6.mono stt) (stt _ _ hls6) (by rw [← h1]; exact hLe6.mono stt)
end
end T85
end

section
set_option Elab.async false
set_option linter.all false
set_option maxRecDepth 100000
set_option maxHeartbeats 4000000
namespace T85
open PySem PySem.Spec L2 Fx
/-! ### the law's own counts -/
def bump (m : Int) (lt : List Int) (o : Option Nat) : List Int := match o with
  | none => lt
  | some l => lt.set l (lt.getD l 0 + m)
def fwdRow (lt : List Int) (p : Int × Row0) : List Int := p.2.foldl (bump p.1) lt
def fwdStep (Ro : List Row0) (now : List Int) : List Int := (now.zip Ro).foldl fwdRow (List.replicate Ro.length 0)
def fwd (Ro : List Row0) : Nat → List Int
  | 0 => 1 :: List.replicate (Ro.length - 1) 0
  | r + 1 => fwdStep Ro (fwd Ro r)
theorem bump_len (m : Int) (lt : List Int) (o : Option Nat) : (bump m lt o).length = lt.length := by cases o <;> simp [bump]
theorem foldl_bump_len (m : Int) : ∀ (row : Row0) (lt : List Int), (row.foldl (bump m) lt).length = lt.length
  | [], lt => rfl
  | o :: row, lt => by rw [List.foldl_cons, foldl_bump_len m row, bump_len]
theorem fwdRow_len (lt : List Int) (p : Int × Row0) : (fwdRow lt p).length = lt.length := foldl_bump_len _ _ _
theorem foldl_row_len : ∀ (l : List (Int × Row0)) (lt : List Int), (l.foldl fwdRow lt).length = lt.length
  | [], lt => rfl
  | p :: l, lt => by rw [List.foldl_cons, foldl_row_len l, fwdRow_len]
theorem fwd_len {Ro : List Row0} (h : 0 < Ro.length) : ∀ r, (fwd Ro r).length = Ro.length
  | 0 => by simp [fwd]; omega
  | r + 1 => by unfold fwd fwdStep; rw [foldl_row_len]; simp
theorem rep_int (n : Nat) (z : Int) : (List.replicate ((n : Nat) : Int).toNat [V.int z]).flatten = (List.replicate n z).map V.int := by
  rw [Int.toNat_natCast, List.map_replicate]
  induction n with
  | zero => rfl
  | succ q ih => rw [List.replicate_succ, List.replicate_succ, List.flatten_cons, ih]; rfl
section
variable {P : Program} {w : World} {K : PySem.W.Frag} {mg : Str → Option Value} {base : Heap}
def spLawCount (K : PySem.W.Frag) : Sp := fun vs H Q _ => ∃ (a : Addr) (laps : Nat) (rs : List Addr) (names : List Str) (Ro : List Row0), vs = [.ref a, nV laps] ∧ H a = some (.lst (rs.map V.ref)) ∧ DictsA H rs (Ro.map (rowD names)) ∧ RowsOk Ro ∧ 0 < Ro.length ∧ laps ≤ 400 ∧ (∀ r ∈ Ro, r.length = names.length) ∧
  ∀ H', Same H H' → Q (.int (fwd Ro laps).sum) H'
theorem ok__law_count (T : Says K mg) : Ok P w K mg base 1 ("_law_count", none) ["_law_rows", "_law_laps"] (spLawCount K) := by
  refine FunD.ok (d__law_count T) sc__law_count (fun vs H Q E h => ?len) (fun cdv A outer s H vs Q E hr h => ?bod)
  case len =>
    obtain ⟨a, laps, rs, names, Ro, rfl, _⟩ := h; rfl
  case bod =>
    obtain ⟨a, laps, rs, names, Ro, rfl, ha, hdc, hok, h0, hlaps, hrn, k⟩ := h
    have hlenR := hok.len
    have hrsl : rs.length = Ro.length := by rw [hdc.1, List.length_map]
    refine ⟨_, PSs.nox (pss_cons (ps_set (i := 2) sc__law_count.nd rfl (Or.inl rfl) (pe_op op_cat (pe_lst (pa_cons pe_int pa_nil)) (pe_op op_rep (pe_lst (pa_cons pe_int pa_nil)) (pe_op op_sub (pe_callB (k_len (K := K) (by rfl)) (by rfl) (T.free_ 7) (by decide +kernel) (pa_cons (pv 0) pa_nil)) pe_int))))
      (pss_cons (ps_for PassesOwn.never rfl (pi_range1 (by rfl) (T.free_ 32) (pa_cons (pv 1) pa_nil)) (pg_name (i := 3) sc__law_count.nd rfl (Or.inl rfl))
      (pss_cons (ps_set (i := 4) sc__law_count.nd rfl (Or.inl rfl) (pe_op op_rep (pe_lst (pa_cons pe_int pa_nil)) (pe_callB (k_len (K := K) (by rfl)) (by rfl) (T.free_ 7) (by decide +kernel) (pa_cons (pv 0) pa_nil))))
      (pss_cons (ps_for PassesOwn.never rfl (k_pienum (K := K) (by rfl) (by rfl) (T.free_ 13) (pa_cons (pv 2) pa_nil)) (k_tup (K := K) (n := 2) (by rfl) rfl (pgs_cons (pg_name (i := 5) sc__law_count.nd rfl (Or.inl rfl)) (pgs_cons (pg_name (i := 6) sc__law_count.nd rfl (Or.inl rfl)) pgs_nil)))
      (pss_one (ps_lock (ps_for PassesOwn.never rfl (pi_values (pe_ix (k_ixL (K := K) (by rfl)) (pv 0) (pv 5) (fun _ _ => rfl))) (pg_name (i := 7) sc__law_count.nd rfl (Or.inl rfl))
      (pss_one (ps_if (pt_cmpR op_notN (pv 7) pe_non (nomark _)) (pss_one (ps_asg (pe_op op_add (pe_ix (k_ixL (K := K) (by rfl)) (pv 4) (pv 7) (fun _ _ => rfl)) (pv 6)) (pg_sub (pv 4) (pv 7) set_list))) pss_nil))))))
      (pss_one (ps_set (i := 2) sc__law_count.nd rfl (Or.inl rfl) (pv 4))))))
      (pss_one (ps_ret (pe_callB (k_sum (K := K) (by rfl) rfl) (by rfl) (T.free_ 35) (by decide +kernel) (pa_cons (pv 2) pa_nil)))))), ?_⟩
    refine ⟨by show 1 ≤ sizeLine; decide, fun z1 hz1 => ⟨by show 1 ≤ sizeLine; decide, fun z2 hz2 => ?_⟩⟩
    have s1 := same_new (o := .lst [.int 1]) hz1
    have s2 := same_new (o := .lst [.int 0]) hz2
    have s02 := s1.trans s2
    have hz12 := s2 _ _ (show (upd H z1 (.lst [.int 1])) z1 = some (.lst [.int 1]) from upd_same)
    have hz22 : (upd (upd H z1 (.lst [.int 1])) z2 (.lst [.int 0])) z2 = some (.lst [.int 0]) := upd_same
    generalize upd (upd H z1 (.lst [.int 1])) z2 (.lst [.int 0]) = H2 at s02 hz12 hz22 ⊢
    refine ⟨_, rfl, a, _, rfl, .inl (SqL.of (s02 _ _ ha)), _, _, rfl, rfl, ?_⟩
    have ek : (((rs.map V.ref).length : Nat) : Int) - 1 = ((Ro.length - 1 : Nat) : Int) := by rw [List.length_map, hrsl]; omega
    refine ⟨z2, ((Ro.length - 1 : Nat) : Int), _, rfl, congrArg V.int ek, hz22, by omega, by omega, by rw [List.length_singleton, Int.toNat_natCast, Nat.one_mul]; exact Nat.le_of_lt (small1000 (by omega)), fun z3 hz3 => ?_⟩
    rw [rep_int]
    have s3 := same_new (o := .lst ((List.replicate (Ro.length - 1) 0).map V.int)) hz3
    have s03 := s02.trans s3
    refine ⟨z1, z3, _, _, rfl, rfl, s3 _ _ hz12, upd_same, by rw [List.length_map, List.length_replicate]; show 1 + _ ≤ sizeLine; exact Nat.le_of_lt (small1000 (by omega)), fun nw hnw => ?_⟩
    have s04 := same_upd (o := .lst ([V.int 1] ++ (List.replicate (Ro.length - 1) 0).map V.int)) s03 (s03.free hnw)
    have e0 : [V.int 1] ++ (List.replicate (Ro.length - 1) 0).map V.int = (fwd Ro 0).map V.int := rfl
    rw [e0] at s04 ⊢
    have hn4 : (upd (upd H2 z3 (.lst ((List.replicate (Ro.length - 1) 0).map V.int))) nw (.lst ((fwd Ro 0).map V.int))) nw = some (.lst ((fwd Ro 0).map V.int)) := upd_same
    generalize upd (upd H2 z3 (.lst ((List.replicate (Ro.length - 1) 0).map V.int))) nw (.lst ((fwd Ro 0).map V.int)) = H4 at s04 hn4 ⊢
    refine ⟨_, rfl, _, rfl, by omega, by omega, for_range (lo := 0) (n := laps) (fun i σ H' => ∃ (v3 v4 v5 v6 v7 : Option V) (nw : Addr), σ = [some (.ref a), some (nV laps), some (.ref nw), v3, v4, v5, v6, v7] ∧ Same H H' ∧ H' nw = some (.lst ((fwd Ro i).map V.int)))
      ⟨none, none, none, none, none, nw, rfl, s04, hn4⟩ ?_ ?_⟩
    · rintro i σ H5 hil ⟨v3, v4, v5, v6, v7, nw, rfl, s5, hn5⟩
      have hfl := fwd_len h0 i
      refine ⟨by show 1 ≤ sizeLine; decide, fun z hz => ?_⟩
      have sz := same_new (o := .lst [.int 0]) hz
      have s5z := s5.trans sz
      refine ⟨_, rfl, a, _, rfl, .inl (SqL.of (s5z _ _ ha)), z, ((Ro.length : Nat) : Int), _, rfl, by rw [List.length_map, hrsl], upd_same, by omega, by omega, by rw [List.length_singleton, Int.toNat_natCast, Nat.one_mul]; exact Nat.le_of_lt (small1000 (by omega)), fun lt hlt => ?_⟩
      rw [rep_int]
      have ltH := s5z.free hlt
      have s6 := same_upd (o := .lst ((List.replicate Ro.length 0).map V.int)) s5z ltH
      have hn6 := same_new (o := .lst ((List.replicate Ro.length 0).map V.int)) hlt _ _ (sz _ _ hn5)
      have nnl : nw ≠ lt := ne_of_none (sz _ _ hn5) hlt
      have hl6 : (upd (upd H5 z (.lst [.int 0])) lt (.lst ((List.replicate Ro.length 0).map V.int))) lt = some (.lst ((List.replicate Ro.length 0).map V.int)) := upd_same
      generalize upd (upd H5 z (.lst [.int 0])) lt (.lst ((List.replicate Ro.length 0).map V.int)) = H6 at s6 hn6 hl6 ⊢
      have hzl : ((fwd Ro i).zip Ro).length = Ro.length := by rw [List.length_zip, hfl, Nat.min_self]
      refine ⟨_, rfl, nw, _, rfl, SqL.of hn6, for_enumL (xs := (fwd Ro i).map V.int) (fun q σ H' => ∃ (v5 v6 v7 : Option V), σ = [some (.ref a), some (nV laps), some (.ref nw), some (.int (0 + (i : Int))), some (.ref lt), v5, v6, v7] ∧ Same H H' ∧ H' nw = some (.lst ((fwd Ro i).map V.int)) ∧ H' lt = some (.lst (((((fwd Ro i).zip Ro).take q).foldl fwdRow (List.replicate Ro.length 0)).map V.int)))
        ⟨v5, v6, v7, rfl, s6, hn6, hl6⟩ (fun q σ H' _ ⟨_, _, _, _, _, h, _⟩ => SqL.of h) ?_ ?_⟩
      · rintro q x σ H7 T' hx ⟨v5, v6, v7, rfl, s7, hn7, hl7⟩ hT'
        obtain ⟨m, hm, rfl⟩ := getElem?_map_some hx
        have hq : q < Ro.length := by rw [← hfl]; exact lt_of_get hm
        obtain ⟨row, hrow⟩ : ∃ row, Ro[q]? = some row := ⟨_, List.getElem?_eq_getElem hq⟩
        obtain ⟨r, hr1, hr2⟩ := dicts_get hdc hrow
        have hrl := hrn row (List.mem_of_getElem? hrow)
        have sT := same_new (o := .tup [.int (q : Nat), .int m]) hT'
        have s8 := s7.trans sT
        have hn8 := sT _ _ hn7
        have hl8 := sT _ _ hl7
        refine ⟨_, _, rfl, _, _, rfl, rfl, ?_⟩
        generalize upd H7 T' (.tup [.int (q : Nat), .int m]) = H8 at s8 hn8 hl8 ⊢
        have hzq : ((fwd Ro i).zip Ro)[q]? = some (m, row) := by rw [List.getElem?_zip_eq_some]; exact ⟨hm, hrow⟩
        rw [take_of_get hzq, List.foldl_append]
        have hll := foldl_row_len (((fwd Ro i).zip Ro).take q) (List.replicate Ro.length 0)
        rw [List.length_replicate] at hll
        generalize (((fwd Ro i).zip Ro).take q).foldl fwdRow (List.replicate Ro.length 0) = cur at hl8 hll ⊢
        have hr8 := s8 _ _ hr2
        have hai : atI (rs.map V.ref) ((q : Nat) : Int) = some (.ref r) := atI_nat (by rw [List.getElem?_map, hr1]; rfl)
        have nlr : lt ≠ r := ne_of hl8 hr8 (by intro z; cases z)
        have nnr : nw ≠ r := ne_of hn8 hr8 (by intro z; cases z)
        refine ⟨r, _, hr8, True.intro, fun od => ?_⟩
        have nar : a ≠ r := ne_of (s8 _ _ ha) hr8 (by intro z; cases z)
        have ha9 : (upd H8 r (.frz od (.dK (rowV (rowD names row))))) a = some (.lst (rs.map V.ref)) := by rw [upd_ne nar]; exact s8 _ _ ha
        have hr9 : (upd H8 r (.frz od (.dK (rowV (rowD names row))))) r = some (.frz od (.dK (rowV (rowD names row)))) := upd_same
        have hl9 : (upd H8 r (.frz od (.dK (rowV (rowD names row))))) lt = some (.lst (cur.map V.int)) := by rw [upd_ne nlr]; exact hl8
        have hn9 : (upd H8 r (.frz od (.dK (rowV (rowD names row))))) nw = some (.lst ((fwd Ro i).map V.int)) := by rw [upd_ne nnr]; exact hn8
        have back : ∀ H', SameX [lt] (upd H8 r (.frz od (.dK (rowV (rowD names row))))) H' → Same H (upd H' r (.dK (rowV (rowD names row)))) := fun H' sx b o e => by
          by_cases eb : b = r
          · rw [eb, upd_same, ← hr2, ← eb]; exact e
          · rw [upd_ne eb]
            exact sx b o (by simp only [List.mem_singleton]; intro z; rw [z, ltH] at e; cases e) (by rw [upd_ne eb]; exact s8 _ _ e)
        generalize upd H8 r (.frz od (.dK (rowV (rowD names row)))) = H9 at ha9 hr9 hl9 hn9 back ⊢
        refine ⟨_, rfl, _, rfl, a, _, _, _, rfl, rfl, SqL.of ha9, hai, r, od, _, rfl, hr9, for_it walk_values (fun g σ H' => ∃ v7 : Option V, σ = [some (.ref a), some (nV laps), some (.ref nw), some (.int (0 + (i : Int))), some (.ref lt), some (.int (q : Nat)), some (.int m), v7] ∧ SameX [lt] H9 H' ∧ H' r = some (.frz od (.dK (rowV (rowD names row)))) ∧ H' nw = some (.lst ((fwd Ro i).map V.int)) ∧ H' lt = some (.lst (((row.take g).foldl (bump m) cur).map V.int)))
          ⟨v7, rfl, SameX.refl _ _, hr9, hn9, hl9⟩ (fun g σ H' _ ⟨_, _, _, h, _⟩ => h) ?_ ?_⟩
        · rintro g x σ H10 _ hg ⟨v7, rfl, s10, hr10, hn10, hl10⟩ ⟨rfl, kk, hkv⟩
          obtain ⟨o, ho, rfl⟩ := rowV_at hkv
          rw [take_of_get ho, List.foldl_append]
          have hcl := foldl_bump_len m (row.take g) cur
          generalize (row.take g).foldl (bump m) cur = cg at hl10 hcl ⊢
          cases o with
          | none =>
            refine ⟨_, rfl, rfl, false, rfl, iteF ⟨_, rfl, s10, hr10, hn10, ?_⟩⟩
            exact hl10
          | some l =>
            have hl := hok.lt row (List.mem_of_getElem? hrow) l (List.mem_of_getElem? ho)
            have a1 : atI (cg.map V.int) (l : Int) = some (.int (cg.getD l 0)) := atI_nat (by rw [List.getElem?_map, List.getD_eq_getElem?_getD, List.getElem?_eq_getElem (by omega)]; rfl)
            have hix : ixN (cg.map V.int).length (l : Int) = some l := by
              unfold ixN; rw [if_pos (by omega), if_pos (by rw [List.length_map]; omega)]; rfl
            refine ⟨_, rfl, rfl, true, rfl, iteT ⟨_, rfl, _, rfl, lt, _, _, _, rfl, rfl, SqL.of hl10, a1, _, rfl, _, _, rfl, rfl, ?_⟩⟩
            refine ⟨_, rfl, _, rfl, lt, _, _, l, rfl, rfl, hl10, hix, ?_⟩
            refine ⟨_, rfl, samex_upd s10 (.inl (by simp)), by rw [upd_ne nlr.symm]; exact hr10, by rw [upd_ne nnl]; exact hn10, ?_⟩
            rw [upd_same, ← List.map_set]; rfl
        · rintro σ H10 ⟨v7, rfl, s10, hr10, hn10, hl10⟩
          rw [rowV_len hrl, List.take_length] at hl10
          refine ⟨hr10, _, _, _, rfl, back H10 s10, by rw [upd_ne nnr]; exact hn10, ?_⟩
          rw [upd_ne nlr]; exact hl10
      · rintro σ H7 ⟨v5, v6, v7, rfl, s7, hn7, hl7⟩
        rw [List.length_map, hfl, List.take_of_length_le (by rw [hzl]; exact Nat.le_refl _)] at hl7
        exact ⟨_, rfl, _, _, _, _, _, lt, rfl, s7, hl7⟩
    · rintro σ H5 ⟨v3, v4, v5, v6, v7, nw, rfl, s5, hn5⟩
      exact ⟨_, rfl, nw, _, rfl, SqL.of hn5, k H5 s5⟩
end
end T85
end

section
set_option Elab.async false
set_option linter.all false
set_option maxRecDepth 100000
set_option maxHeartbeats 4000000
namespace T85
open PySem PySem.Spec L2 Fx
theorem hide_at {H : Hp} {W : List Addr} {b : Addr} {o : HO} (h : H b = some o) (n : b ∉ W) : hide W H b = some o := by unfold hide; rw [if_neg n]; exact h
section
variable {P : Program} {w : World} {K : PySem.W.Frag} {mg : Str → Option Value} {base : Heap}
def spLawWalk (K : PySem.W.Frag) : Sp := fun vs H Q _ => ∃ (p a b : Addr) (m : Nat) (rs : List Addr) (fs ns : List Str) (Ro : List Row0), vs = [.ref p, .ref a, .ref b, nV m] ∧ PotOk H p ∧ H a = some (.lst (rs.map V.ref)) ∧ DictsA H rs (Ro.map (rowD ns)) ∧ RowsOk Ro ∧ 0 < Ro.length ∧ (∀ r ∈ Ro, r.length = ns.length) ∧
  H b = some (.lst (fs.map V.str)) ∧ (∀ x ∈ fs, x ∈ ns) ∧ fs.length ≤ 6 ∧ 1 ≤ fs.length ∧ ns.Nodup ∧ (∀ x ∈ ns, NameOk x) ∧ m ≤ 100 ∧
  ∀ H' u r gs, SameX [p] H H' → PotOk H' p → H' u = some (.tup [.ref r, oN (walkN Ro (some 0) gs)]) → RowAt K H' r (namesOf ns gs) → (∀ g ∈ gs, g < ns.length) → Q (.ref u) H'
theorem ok__law_walk (T : Says K mg) : Ok P w K mg base 4 ("_law_walk", none) ["_law_pot_here", "_law_rows", "_law_names_here", "_law_many"] (spLawWalk K) := by
  have G__law_pick := FnOk.mono (k := 3) (ok__law_pick (P := P) (w := w) (base := base) T) (by decide)
  have G__law_draw := FnOk.mono (k := 3) (ok__law_draw (P := P) (w := w) (base := base) T) (by decide)
  have G_Rowdd_initdd := FnOk.mono (k := 2) (ok_Rowdd_initdd (P := P) (w := w) (base := base) T) (by decide)
  refine FunD.ok (d__law_walk T) sc__law_walk (fun vs H Q E h => ?len) (fun cdv A outer s H vs Q E hr h => ?bod)
  case len =>
    obtain ⟨p, a, b, m, rs, fs, ns, Ro, rfl, _⟩ := h; rfl
  case bod =>
    obtain ⟨p, a, b, m, rs, fs, ns, Ro, rfl, hp, ha, hdc, hok, h0, hrn, hb, hfs, hf6, hf1, hnd, hnok, hm, k⟩ := h
    have hu := hu_of hr
    have hrsl : rs.length = Ro.length := by rw [hdc.1, List.length_map]
    have ⟨pa, pb, hp0, _⟩ := hp
    have hap : a ≠ p := fun e => by
      rw [e, hp0] at ha
      have ha := HO.lst.inj (Option.some.inj ha)
      cases rs with
      | nil => simp at hrsl; omega
      | cons x rs => cases ha
    have hbp : b ≠ p := fun e => by
      rw [e, hp0] at hb
      have hb := HO.lst.inj (Option.some.inj hb)
      cases fs with
      | nil => simp at hf1
      | cons x rs => cases hb
    have hkeep : ∀ {H' : Hp}, SameX [p] H H' → H' a = some (.lst (rs.map V.ref)) ∧ H' b = some (.lst (fs.map V.str)) ∧ DictsA H' rs (Ro.map (rowD ns)) := fun s =>
      ⟨s _ _ (by simp [hap]) ha, s _ _ (by simp [hbp]) hb, hdc.1, fun j r row h1 h2 => by
        have z := hdc.2 j r row h1 h2
        exact s _ _ (by simp only [List.mem_singleton]; intro e; rw [e, hp0] at z; cases z) z⟩
    refine ⟨_, PSs.nox (pss_cons (ps_asg (pe_tup (pa_cons (pe_lst pa_nil) (pa_cons pe_int pa_nil))) (k_tup (K := K) (n := 2) (by rfl) rfl (pgs_cons (pg_name (i := 4) sc__law_walk.nd rfl (Or.inl rfl)) (pgs_cons (pg_name (i := 5) sc__law_walk.nd rfl (Or.inr rfl)) pgs_nil))))
      (pss_cons (ps_for PassesOwn.never rfl (pi_range1 (by rfl) (T.free_ 32) (pa_cons (pv 3) pa_nil)) (pg_name (i := 6) sc__law_walk.nd rfl (Or.inl rfl))
      (pss_cons (ps_setLc (i := 7) (own := [("_law_name", 8)]) rfl sc__law_walk.nd rfl rfl (sw_true rfl rfl rfl (by decide +kernel)) (k_pil (K := K) (by rfl) (pv 2)) (blkOk_by (N := N__law_walk) (sc := defScope s__law_walk) (by decide +kernel)) (fun _ _ _ _ _ => (pg_name (i := 8) sc__law_walk.nd rfl (Or.inl rfl))) (fun _ _ _ _ _ => (pts_one (pt_cmpR op_notN (pe_dget hu (pe_ix (k_ixL (K := K) (by rfl)) (pv 1) (pv 5) (fun _ _ => rfl)) (pv 8) (fun _ _ => rfl)) pe_non (nomark _)))) (fun _ _ _ _ _ => (pv 8)))
      (pss_one (ps_if (pt_cmpR (k_neD (K := K) (by rfl) hr.units) (pv 7) (pe_lst pa_nil) (nomark _)) (pss_cons (ps_expr (pe_bm PySem.F.plainAttrs_list PySem.F.slot_list_append PySem.F.type_list_append mt_append (pv 4) (pa_cons (pe_call G__law_pick hr (by rfl) (T.glo_ 72) (d__law_pick T).kp (b__law_pick T) .nil pass0 (pa_cons (pv 0) (pa_cons (pv 7) pa_nil))) pa_nil)))
      (pss_one (ps_set (i := 5) sc__law_walk.nd rfl (Or.inr rfl) (pe_dget hu (pe_ix (k_ixL (K := K) (by rfl)) (pv 1) (pv 5) (fun _ _ => rfl)) (pe_ix (k_ixL (K := K) (by rfl)) (pv 4) (pe_un un_neg pe_int) (fun _ _ => rfl)) (fun _ _ => rfl))))) pss_nil))))
      (pss_cons (ps_if (pt_cmpR op_eq (pe_call G__law_draw hr (by rfl) (T.glo_ 71) (d__law_draw T).kp (b__law_draw T) .nil pass0 (pa_cons (pv 0) (pa_cons pe_int pa_nil))) pe_int (nomark _)) (pss_cons (ps_expr (pe_bm PySem.F.plainAttrs_list PySem.F.slot_list_append PySem.F.type_list_append mt_append (pv 4) (pa_cons (pe_call G__law_pick hr (by rfl) (T.glo_ 72) (d__law_pick T).kp (b__law_pick T) .nil pass0 (pa_cons (pv 0) (pa_cons (pv 2) pa_nil))) pa_nil)))
      (pss_one (ps_set (i := 5) sc__law_walk.nd rfl (Or.inr rfl) (pe_dget hu (pe_ix (k_ixL (K := K) (by rfl)) (pv 1) (pv 5) (fun _ _ => rfl)) (pe_ix (k_ixL (K := K) (by rfl)) (pv 4) (pe_un un_neg pe_int) (fun _ _ => rfl)) (fun _ _ => rfl))))) pss_nil)
      (pss_one (ps_ret (pe_tup (pa_cons (pe_make (T.mkr_ 54) G_Rowdd_initdd hr (by rfl) (T.glo_ 55) (b_Rowdd_initdd T) .nil pass0 (pa_cons (pv 4) pa_nil)) (pa_cons (pv 5) pa_nil)))))))), ?_⟩
    refine ⟨by show 0 ≤ sizeLine; decide, fun la hla => ⟨by show 2 ≤ sizeLine; decide, fun tq htq => ?_⟩⟩
    have s1 := same_new (o := .lst []) hla
    have s2 := same_upd (o := .tup [.ref la, .int 0]) s1 (s1.free htq)
    have hl2 := same_new (o := .tup [.ref la, .int 0]) htq _ _ (show (upd H la (.lst [])) la = some (.lst []) from upd_same)
    refine ⟨tq, _, rfl, .inl (.inl upd_same), rfl, _, _, rfl, _, _, rfl, rfl, ?_⟩
    generalize upd (upd H la (.lst [])) tq (.tup [.ref la, .int 0]) = H2 at s2 hl2 ⊢
    have hlp : la ≠ p := fun e => by rw [e, hp0] at hla; cases hla
    refine ⟨_, rfl, _, rfl, by omega, by omega, for_range (lo := 0) (n := m) (fun i σ H' => ∃ (v6 v7 v8 : Option V) (gs : List Nat) (s : Nat), σ = [some (.ref p), some (.ref a), some (.ref b), some (nV m), some (.ref la), some (nV s), v6, v7, v8] ∧ SameX [p] H H' ∧ PotOk H' p ∧ H' la = some (.lst ((namesOf ns gs).map V.str)) ∧ gs.length ≤ i ∧ (∀ g ∈ gs, g < ns.length) ∧ walkN Ro (some 0) gs = some s ∧ s < Ro.length)
      ⟨none, none, none, [], 0, rfl, same_toX s2 _, hp.mono s2, hl2, Nat.le_refl _, by simp, rfl, h0⟩ ?_ ?_⟩
    · rintro i σ H3 him ⟨v6, v7, v8, gs, s, rfl, s3, hp3, hl3, hgl, hgn, hw3, hs3⟩
      obtain ⟨ha3, hb3, hd3⟩ := hkeep s3
      obtain ⟨row, hrow⟩ : ∃ row, Ro[s]? = some row := ⟨_, List.getElem?_eq_getElem hs3⟩
      obtain ⟨r, hr1, hr2⟩ := dicts_get hd3 hrow
      have hrl := hrn row (List.mem_of_getElem? hrow)
      have a1 : atI (rs.map V.ref) (s : Int) = some (.ref r) := atI_nat (by rw [List.getElem?_map, hr1]; rfl)
      refine ⟨_, rfl, b, rfl, ⟨_, SqL.of hb3⟩, fun D hD => ?_⟩
      refine lcf_list (xs := fs.map V.str) (fun q acc H4 => Same H3 H4 ∧ H4 D = some (.lst acc) ∧ ∃ xs : List Str, acc = xs.map V.str ∧ xs.length ≤ q ∧ ∀ x ∈ xs, ∃ f l, ns[f]? = some x ∧ stepN Ro s f = some l) ⟨same_new hD, upd_same, [], rfl, Nat.le_refl _, by simp⟩ (fun q acc H4 h => SqL.of (h.1 _ _ hb3)) ?_ ?_
      · rintro q y acc H4 hy ⟨s4, hD4, xs, rfl, hxl, hxs⟩
        obtain ⟨x, hx, rfl⟩ := getElem?_map_some hy
        have hq6 : q < 6 := by have := lt_of_get hx; omega
        obtain ⟨f, hf⟩ := List.mem_iff_getElem?.mp (hfs x (List.mem_of_getElem? hx))
        obtain ⟨o, ho⟩ : ∃ o, row[f]? = some o := ⟨_, List.getElem?_eq_getElem (by rw [hrl]; exact lt_of_get hf)⟩
        have g := DGet.k (k := .inr x) (s4 _ _ hr2)
        rw [rowV_get hnd hf ho] at g
        have eo : stepN Ro s f = o := by unfold stepN; rw [List.getD_eq_getElem?_getD, List.getD_eq_getElem?_getD, hrow]; show (row[f]?).getD none = o; rw [ho]; rfl
        refine ⟨_, rfl, _, rfl, a, _, _, _, rfl, rfl, SqL.of (s4 _ _ ha3), a1, _, rfl, r, _, rfl, g, rfl, ?_⟩
        cases o with
        | none =>
          exact ⟨false, rfl, iteF ⟨_, s4, hD4, xs, rfl, Nat.le_succ_of_le hxl, hxs⟩⟩
        | some l =>
          refine ⟨true, rfl, iteT ⟨_, rfl, _, hD4, by rw [List.length_map]; exact small1000 (by omega), _, same_upd s4 hD, upd_same, xs ++ [x], by rw [List.map_append]; rfl, by simp; omega, fun y hy => ?_⟩⟩
          rcases List.mem_append.mp hy with z | z
          · exact hxs y z
          · rw [List.mem_singleton.mp z]; exact ⟨f, l, hf, eo⟩
      rintro acc H4 ⟨s4, hD4, xs, rfl, hxl, hxs⟩
      rw [List.length_map] at hxl
      have okx : ∀ x ∈ xs, PyData.strOk x = true := fun x hx => by
        obtain ⟨f, l, h1, _⟩ := hxs x hx
        exact (hnok x (List.mem_of_getElem? h1)).ok
      have shx : ∀ l : List Str, (∀ x ∈ l, PyData.strOk x = true) → SeqAt.shaped (.list (l.map PyData.str)) = true := fun l h => by
        show (PyData.canLayAll0 (l.map PyData.str) && decide (PyData.depthAll (l.map PyData.str) + 1 ≤ 64)) = true
        rw [can_strs h, depth_strs]; rfl
      have npD : p ≠ D := hp3.ne hD
      refine ⟨_, rfl, by show 0 ≤ sizeLine; decide, fun z hz => ?_⟩
      have sz := same_new (o := .lst []) hz
      have s5 := s4.trans sz
      have hD5 := sz _ _ hD4
      have hz5 : (upd H4 z (.lst [])) z = some (.lst (([] : List Str).map V.str)) := upd_same
      generalize upd H4 z (.lst []) = H5 at s5 hD5 hz5 ⊢
      have s05 : SameX [p] H H5 := s3.trans (same_toX s5 _)
      have hp5 := hp3.mono s5
      have hl5 := s5 _ _ hl3
      refine ⟨_, _, .lst (SqL.of hD5) dp_strs, .lst (SqL.of hz5) dp_strs, shx xs okx, shx [] (by simp), !decide (xs = []), by rw [show PyData.eqv (.list (xs.map PyData.str)) (.list (([] : List Str).map PyData.str)) = decide (xs = []) from by rw [PyData.eqv, eqvAll_strs]], ?_⟩
      by_cases e : xs = []
      · rw [decide_eq_true e]
        refine iteF ?_
        exact ⟨_, _, _, gs, s, rfl, s05, hp5, hl5, Nat.le_succ_of_le hgl, hgn, hw3, hs3⟩
      · rw [decide_eq_false e]
        refine iteT ?_
        have hx1 : 1 ≤ xs.length := by cases xs with | nil => exact absurd rfl e | cons x xs => simp
        refine ⟨_, rfl, .inl ⟨rfl, _, SqL.of hl5⟩, _, rfl, _, rfl, p, .ref D, rfl, hp5, .inr ⟨D, xs.map V.str, rfl, SqL.of (hide_at hD5 (by simp [npD.symm])), by rw [List.length_map]; exact hx1, by rw [List.length_map]; omega, fun H6 x s6 hp6 hx => ?_⟩⟩
        obtain ⟨nm, hnm, rfl⟩ := List.mem_map.mp hx
        obtain ⟨f, l, hf, hstep⟩ := hxs nm hnm
        have hl6 := s6 _ _ (by simp [hlp]) hl5
        refine ⟨la, _, _, rfl, rfl, hl6, by unfold namesOf; rw [List.length_map, List.length_map]; exact small1000 (by omega), ?_⟩
        have enm : nm = ns.getD f "" := by rw [List.getD_eq_getElem?_getD, hf]; rfl
        have eL : (namesOf ns gs).map V.str ++ [V.str nm] = (namesOf ns (gs ++ [f])).map V.str := by
          unfold namesOf; rw [List.map_append, List.map_append, enm]; rfl
        have s06 := s05.trans s6
        have hl7 : (upd H6 la (.lst ((namesOf ns gs).map V.str ++ [V.str nm]))) la = some (.lst ((namesOf ns gs).map V.str ++ [V.str nm])) := upd_same
        have s07 : SameX [p] H (upd H6 la (.lst ((namesOf ns gs).map V.str ++ [V.str nm]))) := samex_upd s06 (.inr hla)
        have hp7 := hp6.upd (o := .lst ((namesOf ns gs).map V.str ++ [V.str nm])) hlp.symm
        generalize upd H6 la (.lst ((namesOf ns gs).map V.str ++ [V.str nm])) = H7 at hl7 s07 hp7 ⊢
        obtain ⟨ha7, hb7, hd7⟩ := hkeep s07
        obtain ⟨r', hr1', hr2'⟩ := dicts_get hd7 hrow
        have a1' : atI (rs.map V.ref) (s : Int) = some (.ref r') := atI_nat (by rw [List.getElem?_map, hr1']; rfl)
        obtain ⟨o, ho⟩ : ∃ o, row[f]? = some o := ⟨_, List.getElem?_eq_getElem (by rw [hrl]; exact lt_of_get hf)⟩
        have eo : stepN Ro s f = o := by unfold stepN; rw [List.getD_eq_getElem?_getD, List.getD_eq_getElem?_getD, hrow]; show (row[f]?).getD none = o; rw [ho]; rfl
        have g := DGet.k (k := .inr nm) hr2'
        rw [rowV_get hnd hf ho, ← eo, hstep] at g
        refine ⟨_, rfl, _, rfl, a, _, _, _, rfl, rfl, SqL.of ha7, a1', _, rfl, 1, rfl, la, _, _, _, rfl, rfl, SqL.of hl7, atI_last, r', _, rfl, g, ?_⟩
        refine ⟨_, _, _, gs ++ [f], l, rfl, s07, hp7, by rw [hl7, eL], by simp; omega, fun g hg => ?_, by rw [walkN_snoc, hw3]; exact hstep, step_lt hok hstep⟩
        rcases List.mem_append.mp hg with z | z
        · exact hgn g z
        · rw [List.mem_singleton.mp z]; exact lt_of_get hf
    · rintro σ H3 ⟨v6, v7, v8, gs, s, rfl, s3, hp3, hl3, hgl, hgn, hw3, hs3⟩
      have hdraw := True.intro
      refine ⟨_, rfl, p, 3, rfl, hp3, by decide, by decide, fun H4 d s4 hp4 hd0 hd3 => ⟨rfl, decide (d = 0), ?_, ?_⟩⟩
      · show V.bl (decide (V.int d = V.int 0)) = _
        by_cases e : d = 0
        · subst e; simp
        · rw [decide_eq_false e, decide_eq_false (fun z => e (V.int.inj z))]
      have s04 := s3.trans s4
      have hl4 := s4 _ _ (by simp [hlp]) hl3
      by_cases e : d = 0
      · rw [decide_eq_true e]
        refine iteT ?_
        obtain ⟨ha4, hb4, hd4⟩ := hkeep s04
        refine ⟨_, rfl, .inl ⟨rfl, _, SqL.of hl4⟩, _, rfl, _, rfl, p, .ref b, rfl, hp4, .inr ⟨b, fs.map V.str, rfl, SqL.of (hide_at hb4 (by simp [hbp])), by rw [List.length_map]; exact hf1, by rw [List.length_map]; omega, fun H5' x s5' hp5' hx => ?_⟩⟩
        obtain ⟨nm, hnm, rfl⟩ := List.mem_map.mp hx
        obtain ⟨f, hf⟩ := List.mem_iff_getElem?.mp (hfs nm hnm)
        have hl5' := s5' _ _ (by simp [hlp]) hl4
        refine ⟨la, _, _, rfl, rfl, hl5', by unfold namesOf; rw [List.length_map, List.length_map]; exact small1000 (by omega), ?_⟩
        have enm : nm = ns.getD f "" := by rw [List.getD_eq_getElem?_getD, hf]; rfl
        have eL : (namesOf ns gs).map V.str ++ [V.str nm] = (namesOf ns (gs ++ [f])).map V.str := by
          unfold namesOf; rw [List.map_append, List.map_append, enm]; rfl
        have hl5 : (upd H5' la (.lst ((namesOf ns gs).map V.str ++ [V.str nm]))) la = some (.lst ((namesOf ns gs).map V.str ++ [V.str nm])) := upd_same
        have s5 : SameX [p] H (upd H5' la (.lst ((namesOf ns gs).map V.str ++ [V.str nm]))) := samex_upd (s04.trans s5') (.inr hla)
        have hp5 := hp5'.upd (o := .lst ((namesOf ns gs).map V.str ++ [V.str nm])) hlp.symm
        generalize upd H5' la (.lst ((namesOf ns gs).map V.str ++ [V.str nm])) = H5 at hl5 s5 hp5 ⊢
        obtain ⟨ha5, hb5, hd5⟩ := hkeep s5
        obtain ⟨row, hrow⟩ : ∃ row, Ro[s]? = some row := ⟨_, List.getElem?_eq_getElem hs3⟩
        have hrl := hrn row (List.mem_of_getElem? hrow)
        obtain ⟨r', hr1', hr2'⟩ := dicts_get hd5 hrow
        have a1' : atI (rs.map V.ref) (s : Int) = some (.ref r') := atI_nat (by rw [List.getElem?_map, hr1']; rfl)
        obtain ⟨o, ho⟩ : ∃ o, row[f]? = some o := ⟨_, List.getElem?_eq_getElem (by rw [hrl]; exact lt_of_get hf)⟩
        have eo : stepN Ro s f = o := by unfold stepN; rw [List.getD_eq_getElem?_getD, List.getD_eq_getElem?_getD, hrow]; show (row[f]?).getD none = o; rw [ho]; rfl
        have g := DGet.k (k := .inr nm) hr2'
        rw [rowV_get hnd hf ho, ← eo] at g
        have ew : stepN Ro s f = walkN Ro (some 0) (gs ++ [f]) := by rw [walkN_snoc, hw3]
        rw [ew] at g
        refine ⟨_, rfl, _, rfl, a, _, _, _, rfl, rfl, SqL.of ha5, a1', _, rfl, 1, rfl, la, _, _, _, rfl, rfl, SqL.of hl5, atI_last, r', _, rfl, g, ?_⟩
        rw [eL] at hl5
        have hgn5 : ∀ g ∈ gs ++ [f], g < ns.length := fun g hg => by
          rcases List.mem_append.mp hg with z | z
          · exact hgn g z
          · rw [List.mem_singleton.mp z]; exact lt_of_get hf
        have hgl5 : (gs ++ [f]).length ≤ 101 := by simp; omega
        generalize gs ++ [f] = GS at hl5 hgn5 hgl5 ⊢
        refine ⟨_, rfl, fun q dq hq hdq hne => ?_⟩
        have s50 : Same H5 (upd (upd H5 dq (.own q)) q (.ins (He.ga K "Row") dq [])) := same_upd (same_new hdq) hq
        refine ⟨q, dq, la, namesOf ns GS, rfl, upd_same, .inl (SqL.of (s50 _ _ hl5)), by unfold namesOf; rw [List.length_map]; omega, fun x hx => ?_, fun H6 t sx hq6 ht => ⟨rfl, _, rfl, by show 2 ≤ sizeLine; decide, fun u hu => ?_⟩⟩
        · obtain ⟨f, hf, rfl⟩ := List.mem_map.mp hx
          have := hgn5 f hf
          rw [List.getD_eq_getElem?_getD, List.getElem?_eq_getElem this]
          exact hnok _ (List.getElem_mem this)
        have s56 := same_x1 s50 sx hq
        have s67 := same_new (o := .tup [.ref q, oN (walkN Ro (some 0) GS)]) hu
        exact k _ u q GS (s5.trans (same_toX (s56.trans s67) _)) (hp5.mono (s56.trans s67)) upd_same ⟨dq, t, s67 _ _ hq6, sqt_mono s67 ht⟩ hgn5
      · rw [decide_eq_false e]
        refine iteF ?_
        have hl5 := hl4
        have s5 := s04
        have hp5 := hp4
        have hgn5 := hgn
        have hgl5 : gs.length ≤ 101 := by omega
        have eo : oN (walkN Ro (some 0) gs) = nV s := by rw [hw3]; rfl
        refine ⟨_, rfl, fun q dq hq hdq hne => ?_⟩
        have s50 : Same H4 (upd (upd H4 dq (.own q)) q (.ins (He.ga K "Row") dq [])) := same_upd (same_new hdq) hq
        refine ⟨q, dq, la, namesOf ns gs, rfl, upd_same, .inl (SqL.of (s50 _ _ hl5)), by unfold namesOf; rw [List.length_map]; omega, fun x hx => ?_, fun H6 t sx hq6 ht => ⟨rfl, _, rfl, by show 2 ≤ sizeLine; decide, fun u hu => ?_⟩⟩
        · obtain ⟨f, hf, rfl⟩ := List.mem_map.mp hx
          have := hgn5 f hf
          rw [List.getD_eq_getElem?_getD, List.getElem?_eq_getElem this]
          exact hnok _ (List.getElem_mem this)
        have s56 := same_x1 s50 sx hq
        have s67 := same_new (o := .tup [.ref q, nV s]) hu
        exact k _ u q gs (s5.trans (same_toX (s56.trans s67) _)) (hp5.mono (s56.trans s67)) (by rw [upd_same, eo]) ⟨dq, t, s67 _ _ hq6, sqt_mono s67 ht⟩ hgn5
end
end T85
end

section
set_option Elab.async false
set_option linter.all false
set_option maxRecDepth 100000
set_option maxHeartbeats 4000000
namespace T85
open PySem PySem.Spec L2 Fx
/-! ### all books by the kernel -/
def relB (b0 b1 b2 b3 b4 b5 : Bool) : Nat → Nat → Bool
  | 0, 1 => b0
  | 1, 0 => b0
  | 0, 2 => b1
  | 2, 0 => b1
  | 1, 2 => b2
  | 2, 1 => b2
  | 0, 3 => b3
  | 3, 0 => b3
  | 1, 3 => b4
  | 3, 1 => b4
  | 2, 3 => b5
  | 3, 2 => b5
  | _, _ => true
def nxB (n : Nat) (rel : Nat → Nat → Bool) (xs : List Nat) (f : Nat) : Option (List Nat) := if f ∈ xs then none else some ((List.range n).filter fun m => decide (m = f) || (decide (m ∈ xs) && rel f m))
def chkM (n : Nat) (nx : List Nat → Nat → Option (List Nat)) : Bool := match bfs n nx 40 [[]] [] with
  | none => false
  | some (_, Ro) => match lawBfs n nx 40 [[]] [[]] [] with
    | none => false
    | some (Lo, Ro') => decide (Ro' = Ro) && (decide (Ro.length ≤ 100) && (Ro.all (fun r => decide (r.length = n) && r.all fun o => match o with
        | none => true
        | some l => decide (l < Ro.length)) && (decide (clsRun Ro 40 (List.replicate Ro.length 0) 1 = some (List.range Ro.length)) && (decide (numRun Ro 40 0 (1, [[]]) = some (Ro.length, Lo)) && (decide (0 < Ro.length) && (decide (Lo.length = Ro.length) && Lo.all fun l => decide (l.length ≤ 10) && l.all fun f => decide (f < n)))))))
theorem all_chk : ∀ b0 b1 b2 b3 b4 b5 : Bool, chkM 1 (nxB 1 (relB b0 b1 b2 b3 b4 b5)) = true ∧ chkM 2 (nxB 2 (relB b0 b1 b2 b3 b4 b5)) = true ∧ chkM 3 (nxB 3 (relB b0 b1 b2 b3 b4 b5)) = true ∧ chkM 4 (nxB 4 (relB b0 b1 b2 b3 b4 b5)) = true := by decide +kernel
theorem rowRun_congr {nx nx' : List Nat → Nat → Option (List Nat)} {n : Nat} (h : ∀ xs f, f < n → nx xs f = nx' xs f) (s : List Nat) (st : List (List Nat)) : ∀ i, i ≤ n → rowRun nx s st i = rowRun nx' s st i
  | 0, _ => rfl
  | i + 1, hi => by
    rw [rowRun_succ, rowRun_succ, rowRun_congr h s st i (by omega)]
    unfold rowStep
    rw [h s i (by omega)]
theorem bfs_congr {nx nx' : List Nat → Nat → Option (List Nat)} {n : Nat} (h : ∀ xs f, f < n → nx xs f = nx' xs f) : ∀ (k : Nat) (st : List (List Nat)) (rows : List Row0), bfs n nx k st rows = bfs n nx' k st rows
  | 0, _, _ => rfl
  | k + 1, st, rows => by
    unfold bfs
    rw [rowRun_congr h _ _ n (Nat.le_refl _)]
    split
    · exact bfs_congr h k _ _
    · rfl
theorem lawRow_congr {nx nx' : List Nat → Nat → Option (List Nat)} {n : Nat} (h : ∀ xs f, f < n → nx xs f = nx' xs f) (b s : List Nat) (st L : List (List Nat)) : ∀ i, i ≤ n → lawRow nx b s st L i = lawRow nx' b s st L i
  | 0, _ => rfl
  | i + 1, hi => by
    rw [lawRow_succ, lawRow_succ, lawRow_congr h b s st L i (by omega)]
    unfold lawStep
    rw [h s i (by omega)]
theorem lawBfs_congr {nx nx' : List Nat → Nat → Option (List Nat)} {n : Nat} (h : ∀ xs f, f < n → nx xs f = nx' xs f) : ∀ (k : Nat) (st L : List (List Nat)) (rows : List Row0), lawBfs n nx k st L rows = lawBfs n nx' k st L rows
  | 0, _, _, _ => rfl
  | k + 1, st, L, rows => by
    unfold lawBfs
    rw [lawRow_congr h _ _ _ _ n (Nat.le_refl _)]
    split
    · exact lawBfs_congr h k _ _ _
    · rfl
end T85
end

section
set_option Elab.async false
set_option linter.all false
set_option maxRecDepth 100000
set_option maxHeartbeats 4000000
namespace T85
open PySem PySem.Spec L2 Fx
theorem rel_of {n : Nat} {M : Nat → Nat → Int} (hL : Loose n M) (f m : Nat) (hf : f < 4) (hm : m < 4) (hne : f ≠ m) :
    relB (decide (M 0 1 = 0)) (decide (M 0 2 = 0)) (decide (M 1 2 = 0)) (decide (M 0 3 = 0)) (decide (M 1 3 = 0)) (decide (M 2 3 = 0)) f m = decide (M f m = 0) := by
  have c4 : ∀ x : Nat, x < 4 → x = 0 ∨ x = 1 ∨ x = 2 ∨ x = 3 := fun x h => by omega
  rcases c4 f hf with rfl | rfl | rfl | rfl <;> rcases c4 m hm with rfl | rfl | rfl | rfl <;> first | exact absurd rfl hne | rfl | (rw [hL.sym 1 0]; rfl) | (rw [hL.sym 2 0]; rfl) | (rw [hL.sym 2 1]; rfl) | (rw [hL.sym 3 0]; rfl) | (rw [hL.sym 3 1]; rfl) | (rw [hL.sym 3 2]; rfl)
theorem nx_of {n : Nat} {M : Nat → Nat → Int} (hn : n ≤ 4) (hL : Loose n M) (xs : List Nat) (f : Nat) (hf : f < n) :
    nxL n M xs f = nxB n (relB (decide (M 0 1 = 0)) (decide (M 0 2 = 0)) (decide (M 1 2 = 0)) (decide (M 0 3 = 0)) (decide (M 1 3 = 0)) (decide (M 2 3 = 0))) xs f := by
  unfold nxL nxB
  split
  · rfl
  · congr 1
    refine List.filter_congr fun m hm => ?_
    have hmn := List.mem_range.mp hm
    by_cases e : m = f
    · simp [e]
    · rw [rel_of hL f m (by omega) (by omega) (fun z => e z.symm)]
theorem good_of {n : Nat} {M : Nat → Nat → Int} (hn1 : 1 ≤ n) (hn : n ≤ 4) (hL : Loose n M) :
    ∃ Ro Lo, GoodM n M Ro Lo ∧ lawBfs n (nxL n M) 40 [[]] [[]] [] = some (Lo, Ro) ∧ Lo.length = Ro.length ∧ ∀ l ∈ Lo, l.length ≤ 10 ∧ ∀ f ∈ l, f < n := by
  have hall := all_chk (decide (M 0 1 = 0)) (decide (M 0 2 = 0)) (decide (M 1 2 = 0)) (decide (M 0 3 = 0)) (decide (M 1 3 = 0)) (decide (M 2 3 = 0))
  have hx := nx_of hn hL
  generalize relB (decide (M 0 1 = 0)) (decide (M 0 2 = 0)) (decide (M 1 2 = 0)) (decide (M 0 3 = 0)) (decide (M 1 3 = 0)) (decide (M 2 3 = 0)) = rel at hall hx
  have hc : chkM n (nxB n rel) = true := by
    have : n = 1 ∨ n = 2 ∨ n = 3 ∨ n = 4 := by omega
    rcases this with rfl | rfl | rfl | rfl
    · exact hall.1
    · exact hall.2.1
    · exact hall.2.2.1
    · exact hall.2.2.2
  have e1 := bfs_congr hx 40 [[]] []
  have e2 := lawBfs_congr hx 40 [[]] [[]] []
  unfold chkM at hc
  rw [← e1, ← e2] at hc
  cases hb : bfs n (nxL n M) 40 [[]] [] with
  | none => rw [hb] at hc; cases hc
  | some q =>
    obtain ⟨S, Ro⟩ := q
    rw [hb] at hc
    cases hl : lawBfs n (nxL n M) 40 [[]] [[]] [] with
    | none => rw [hl] at hc; cases hc
    | some q2 =>
      obtain ⟨Lo, Ro'⟩ := q2
      rw [hl] at hc
      simp only [Bool.and_eq_true, decide_eq_true_eq, List.all_eq_true] at hc
      obtain ⟨rfl, h1, h2, h3, h4, h5, h6, h7⟩ := hc
      refine ⟨Ro', Lo, ⟨⟨S, hb⟩, ⟨h1, fun r hr => by have := (h2 r hr).1; omega, fun r hr l hl => ?_⟩, h3, h4, h5, fun r hr => (h2 r hr).1⟩, rfl, h6, fun l hl => h7 l hl⟩
      have := (h2 r hr).2 (some l) hl
      simpa using this
end T85
end

section
set_option Elab.async false
set_option linter.all false
set_option maxRecDepth 100000
set_option maxHeartbeats 4000000
namespace T85
open PySem PySem.Spec L2 Fx
/-! ### counts forward and backward -/
def dotI : List Int → List Int → Int
  | a :: x, b :: y => a * b + dotI x y
  | _, _ => 0
theorem dot_set : ∀ (lt v : List Int) (l : Nat) (m : Int), l < lt.length → lt.length = v.length → dotI (lt.set l (lt.getD l 0 + m)) v = dotI lt v + m * v.getD l 0
  | [], _, l, m, h, _ => by simp at h
  | a :: x, [], l, m, _, h => by simp at h
  | a :: x, b :: y, 0, m, _, _ => by
    simp only [List.set_cons_zero, List.getD_cons_zero, dotI, Int.add_mul]; omega
  | a :: x, b :: y, l + 1, m, h1, h2 => by
    have ih := dot_set x y l m (by simpa using h1) (by simpa using h2)
    simp only [List.set_cons_succ, List.getD_cons_succ, dotI]
    rw [ih]; omega
theorem dot_row (v : List Int) (m : Int) : ∀ (row : Row0) (lt : List Int), (∀ l, some l ∈ row → l < lt.length) → lt.length = v.length → dotI (row.foldl (bump m) lt) v = dotI lt v + m * sumRow v row
  | [], lt, _, _ => by simp [sumRow]
  | none :: row, lt, h, e => by
    rw [List.foldl_cons]
    have := dot_row v m row lt (fun l hl => h l (List.mem_cons_of_mem _ hl)) e
    simpa [bump, sumRow] using this
  | some l :: row, lt, h, e => by
    rw [List.foldl_cons]
    have hl := h l (List.mem_cons_self ..)
    have ih := dot_row v m row (bump m lt (some l)) (fun l' hl' => by rw [bump_len]; exact h l' (List.mem_cons_of_mem _ hl')) (by rw [bump_len]; exact e)
    have hs := dot_set lt v l m hl e
    have e2 : sumRow v (some l :: row) = v.getD l 0 + sumRow v row := by simp [sumRow]
    rw [ih, e2, Int.mul_add]
    show dotI (lt.set l (lt.getD l 0 + m)) v + _ = _
    rw [hs]; omega
theorem dot_rows (v : List Int) : ∀ (now : List Int) (R : List Row0) (lt : List Int), (∀ r ∈ R, ∀ l, some l ∈ r → l < lt.length) → lt.length = v.length → dotI ((now.zip R).foldl fwdRow lt) v = dotI lt v + dotI now (R.map (sumRow v))
  | [], R, lt, _, _ => by simp [dotI]
  | m :: now, [], lt, _, _ => by simp [dotI]
  | m :: now, r :: R, lt, h, e => by
    rw [List.zip_cons_cons, List.foldl_cons]
    have h1 := dot_row v m r lt (h r (List.mem_cons_self ..)) e
    have ih := dot_rows v now R (fwdRow lt (m, r)) (fun r' hr' l hl => by rw [fwdRow_len]; exact h r' (List.mem_cons_of_mem _ hr') l hl) (by rw [fwdRow_len]; exact e)
    rw [ih]
    show dotI (r.foldl (bump m) lt) v + _ = _
    rw [h1]
    simp only [List.map_cons, dotI]; omega
theorem dot_zero : ∀ (n : Nat) (v : List Int), dotI (List.replicate n 0) v = 0
  | 0, v => by cases v <;> rfl
  | n + 1, [] => rfl
  | n + 1, b :: y => by rw [List.replicate_succ]; simp [dotI, dot_zero n y]
theorem dot_ones : ∀ (x : List Int), dotI x (List.replicate x.length 1) = x.sum
  | [] => rfl
  | a :: x => by rw [List.length_cons, List.replicate_succ]; simp [dotI, dot_ones x]
theorem dot_step {Ro : List Row0} (ok : RowsOk Ro) (now v : List Int) (hv : v.length = Ro.length) : dotI (fwdStep Ro now) v = dotI now (Ro.map (sumRow v)) := by
  unfold fwdStep
  rw [dot_rows v now Ro _ (fun r hr l hl => by rw [List.length_replicate]; exact ok.lt r hr l hl) (by rw [List.length_replicate, hv]), dot_zero]; omega
theorem counts_eq {Ro : List Row0} (ok : RowsOk Ro) (h0 : 0 < Ro.length) (r : Nat) : (ahead Ro r).getD 0 0 = (fwd Ro r).sum := by
  have key : ∀ r s, dotI (fwd Ro r) (ahead Ro s) = dotI (fwd Ro 0) (ahead Ro (r + s)) := by
    intro r
    induction r with
    | zero => intro s; rw [Nat.zero_add]
    | succ r ih =>
      intro s
      show dotI (fwdStep Ro (fwd Ro r)) (ahead Ro s) = _
      rw [dot_step ok _ _ (ahead_len Ro s)]
      have := ih (s + 1)
      rw [show r + 1 + s = r + (s + 1) by omega]
      exact this
  have h1 := dot_ones (fwd Ro r)
  rw [fwd_len h0 r] at h1
  have h2 := key r 0
  have h3 : ahead Ro 0 = List.replicate Ro.length 1 := rfl
  rw [h3, h1, Nat.add_zero] at h2
  rw [h2]
  have hl := ahead_len Ro r
  cases e : ahead Ro r with
  | nil => rw [e] at hl; simp at hl; omega
  | cons a x =>
    unfold fwd
    simp [dotI, dot_zero]
end T85
end

section
set_option Elab.async false
set_option linter.all false
set_option maxRecDepth 100000
set_option maxHeartbeats 4000000
namespace T85
open PySem PySem.Spec L2 Fx
/-- f(k = b), f of the one parameter k -/
def one1 {α : Type} : List α → List α → List α
  | [], [b] => [b]
  | _, _ => []
theorem kb_one {K : PySem.W.Frag} {x qual : Str} {params : Arguments} {body : List Stmt} {scope : Scope} {kws : List (Str × V)} {f : Addr} {fd : FuncData} {p : Str} (F : FunD K x qual params body scope [] kws f fd)
    (h : ∀ (kV doc pm : Value) (an : Option Addr) (cdv ct : Value) (b : Value), bindArgs (PySem.W.fnOf x qual params body scope .none kV doc pm an cdv ct) ⟨[], [(p, b)]⟩ = pure [(p, b)]) : KBinds K fd [p] [p] one1 one1 := by
  obtain ⟨oc, od, dV, kV, doc, pm, an, cdv, ct, osl, rfl, lk, hcd, hD, hK⟩ := F.ex
  rcases hD with ⟨_, rfl⟩ | ⟨e, _⟩
  · refine ⟨fun s us ws X hl => ?_, fun {vs us zs ws} r1 r2 => ?_⟩
    · match us, ws, hl with
      | [], [b], _ => exact .of_eq (h kV doc pm an cdv ct b)
    · match vs, us, zs, ws, r1, r2 with
      | [], [], [b], [b'], .nil, .cons h1 .nil => exact .cons h1 .nil
      | [], [], [], [], .nil, .nil => exact .nil
      | [], [], _ :: _ :: _, _ :: _ :: _, .nil, .cons _ (.cons _ _) => exact .nil
      | _ :: _, _ :: _, _, _, .cons _ _, _ => exact .nil
  · exact absurd rfl e
section
variable {K : PySem.W.Frag} {mg : Str → Option Value}
theorem kb_machine (T : Says K mg) : KBinds K (fdOf K (He.fAd K ("machine", none))) ["book"] ["book"] one1 one1 := kb_one (d_machine T) fun _ _ _ _ _ _ _ => rfl
end
end T85
end

section
set_option Elab.async false
set_option linter.all false
set_option maxRecDepth 100000
set_option maxHeartbeats 4000000
namespace T85
open PySem PySem.Spec L2 Fx
/-! ### what the walk of _law_right keeps -/
theorem NameOk.lt8 {x : Str} (h : NameOk x) : ∀ c ∈ x.cps.toList, c < 16 ^ 8 := fun c hc => Nat.lt_trans (letters_ok _ (h.2.2 c hc)) (by decide)
def RowDOk (r : RowD) : Prop := r.length ≤ 6 ∧ ∀ p ∈ r, NameOk p.1 ∧ ∀ i, p.2 = some i → 0 ≤ i ∧ i < 10 ^ 8
theorem int8 {i : Int} (h : 0 ≤ i ∧ i < 10 ^ 8) : (PyData.shown (.int i)).length ≤ 8 := PyProof.Rows.toString_length_le (k := 8) h.1 (by decide) h.2
theorem oD_leaves {o : Option Int} (h : ∀ i, o = some i → 0 ≤ i ∧ i < 10 ^ 8) : (oD o).leavesShort 8 = true := by
  cases o with
  | none => rfl
  | some i => exact decide_eq_true (int8 (h i rfl))
theorem oD_bulk (o : Option Int) : (oD o).bulk = 0 := by cases o <;> simp [oD, PyData.bulk]
theorem oD_show {o : Option Int} (h : ∀ i, o = some i → 0 ≤ i ∧ i < 10 ^ 8) : (oD o).showable = true := by
  cases o with
  | none => rfl
  | some i =>
    have h := h i rfl
    refine decide_eq_true ?_
    have h3 : i.natAbs < 2 ^ 1920 := by
      have : (10 : Int) ^ 8 < 2 ^ 1920 := by decide +kernel
      omega
    by_cases h0 : i.natAbs = 0
    · rw [h0]; decide
    · exact (Nat.log2_lt h0).mpr h3
theorem kv_leaves : ∀ {r : RowD}, (∀ p ∈ r, NameOk p.1 ∧ ∀ i, p.2 = some i → 0 ≤ i ∧ i < 10 ^ 8) → PyData.leavesShortKv 8 (r.map fun p => (PyData.str p.1, oD p.2)) = true ∧ PyData.bulkKv (r.map fun p => (PyData.str p.1, oD p.2)) ≤ 10 * r.length
  | [], _ => ⟨rfl, Nat.le_refl _⟩
  | p :: r, h => by
    obtain ⟨h1, h2⟩ := kv_leaves (r := r) fun q hq => h q (List.mem_cons_of_mem _ hq)
    obtain ⟨h3, h4⟩ := h p (List.mem_cons_self ..)
    have hx : (PyData.str p.1).leavesShort 8 = true := by
      rw [PyData.leavesShort, List.all_eq_true]; exact fun c hc => decide_eq_true (h3.lt8 c hc)
    refine ⟨?_, ?_⟩
    · show (_ && _ && _) = true
      rw [hx, oD_leaves h4, h1]; rfl
    · have := h3.2.1
      simp only [List.map_cons, PyData.bulkKv, oD_bulk, PyData.bulk, List.length_cons]; omega
theorem rows_leaves : ∀ {D : List RowD}, (∀ r ∈ D, RowDOk r) → PyData.leavesShortAll 8 (D.map rowP) = true ∧ PyData.bulkAll (D.map rowP) ≤ 61 * D.length
  | [], _ => ⟨rfl, Nat.le_refl _⟩
  | r :: D, h => by
    obtain ⟨h1, h2⟩ := rows_leaves (D := D) fun q hq => h q (List.mem_cons_of_mem _ hq)
    obtain ⟨h3, h4⟩ := h r (List.mem_cons_self ..)
    obtain ⟨h5, h6⟩ := kv_leaves h4
    refine ⟨?_, ?_⟩
    · show (_ && _) = true
      rw [h1, Bool.and_true]; exact h5
    · simp only [List.map_cons, PyData.bulkAll, List.length_cons]
      have : (rowP r).bulk ≤ 10 * r.length := h6
      omega
theorem rows_fit {D : List RowD} (h : ∀ r ∈ D, RowDOk r) (hl : D.length ≤ 100) : (PyData.list (D.map rowP)).shown.length ≤ sizeLine := by
  obtain ⟨h1, h2⟩ := rows_leaves h
  exact PyData.shown_fits_bulk (B := 8) (Nat.le_refl _) (by decide) h1 (Nat.le_trans (show PyData.bulkAll (D.map rowP) ≤ 6100 by omega) (by decide))
theorem rowD_ok {ns : List Str} {Ro : List Row0} (hn : ns.length ≤ 6) (hok : ∀ x ∈ ns, NameOk x) (h : RowsOk Ro) : ∀ r ∈ Ro.map (rowD ns), RowDOk r := by
  intro r hr
  obtain ⟨row, hrow, rfl⟩ := List.mem_map.mp hr
  refine ⟨by unfold rowD; rw [List.length_map, List.length_zip]; omega, fun p hp => ?_⟩
  obtain ⟨⟨x, o⟩, hq, rfl⟩ := List.mem_map.mp hp
  obtain ⟨h1, h2⟩ := List.of_mem_zip hq
  refine ⟨hok _ h1, fun i hi => ?_⟩
  cases o with
  | none => cases hi
  | some l =>
    have := h.lt row hrow l h2
    have := h.len
    have hi := Option.some.inj hi
    subst hi
    have e : (10 : Int) ^ 8 = 100000000 := by decide
    show (0 : Int) ≤ (l : Int) ∧ (l : Int) < 10 ^ 8
    omega
/-- the pairs that the law keeps, and the rests that the Book holds -/
def PR (ys : List Str) (pl : List (Str × Str)) (R : Rs) : Prop := (∀ p ∈ pl, p.1 ∈ ys ∧ p.2 ∈ ys) ∧ looseR R ∧ ∀ a b, a ∈ ys → b ∈ ys → a ≠ b → ((a, b) ∈ pl ↔ R (ordP a b).1 (ordP a b).2 = some 2)
theorem ordP_or (a b : Str) : ordP a b = (a, b) ∨ ordP a b = (b, a) := by
  unfold ordP; split
  · exact .inl rfl
  · exact .inr rfl
theorem ordP_eq {a b x y : Str} (h : ordP a b = ordP x y) : (a = x ∧ b = y) ∨ (a = y ∧ b = x) := by
  rcases ordP_or a b with e1 | e1 <;> rcases ordP_or x y with e2 | e2 <;> rw [e1, e2] at h <;> injection h with h1 h2 <;> simp [h1, h2]
theorem PR.nil {ys : List Str} : PR ys [] (fun _ _ => none) := ⟨by simp, fun _ _ => .inl rfl, fun a b _ _ _ => Iff.intro (fun h => by cases h) (fun h => by cases h)⟩
theorem PR.snoc {ys : List Str} {pl : List (Str × Str)} {R : Rs} {x y : Str} (h : PR ys pl R) (hx : x ∈ ys) (hy : y ∈ ys) (n : x ≠ y) : PR ys (pl ++ [(x, y), (y, x)]) (putR R (ordP x y).1 (ordP x y).2 (some 2)) := by
  obtain ⟨h1, h2, h3⟩ := h
  refine ⟨fun p hp => ?_, fun a b => ?_, fun a b ha hb hab => ?_⟩
  · rcases List.mem_append.mp hp with z | z
    · exact h1 p z
    · simp at z
      rcases z with rfl | rfl
      · exact ⟨hx, hy⟩
      · exact ⟨hy, hx⟩
  · unfold putR
    split
    · exact .inr rfl
    · exact h2 a b
  · unfold putR
    by_cases e : ordP a b = ordP x y
    · rw [if_pos (by rw [e]; exact ⟨rfl, rfl⟩)]
      refine ⟨fun _ => rfl, fun _ => List.mem_append_right _ ?_⟩
      rcases ordP_eq e with ⟨rfl, rfl⟩ | ⟨rfl, rfl⟩ <;> simp
    · rw [if_neg (fun z => e (Prod.ext z.1 z.2))]
      rw [← h3 a b ha hb hab, List.mem_append]
      refine ⟨fun z => z.resolve_right fun z => ?_, .inl⟩
      simp at z
      rcases z with ⟨rfl, rfl⟩ | ⟨rfl, rfl⟩
      · exact e rfl
      · exact e (ordP_sym _ _)
theorem PR.rel {ys : List Str} {pl : List (Str × Str)} {R : Rs} (hn : ys.Nodup) (h : PR ys pl R) : RelOk ys (matOf ys R) pl := by
  intro m f hm hf hne
  have em : ys[m]? = some (ys.getD m "") := by rw [List.getD_eq_getElem?_getD, List.getElem?_eq_getElem hm]; rfl
  have ef : ys[f]? = some (ys.getD f "") := by rw [List.getD_eq_getElem?_getD, List.getElem?_eq_getElem hf]; rfl
  have hab : ys.getD m "" ≠ ys.getD f "" := fun e => hne ((List.getElem?_inj hm hn).mp (by rw [em, ef, e]))
  rw [h.2.2 _ _ (List.mem_of_getElem? em) (List.mem_of_getElem? ef) hab]
  unfold matOf
  rw [if_neg (fun z => hne z.symm), pushI_two h.2.1, ordP_sym (ys.getD f "")]
  by_cases z : R (ordP (ys.getD m "") (ys.getD f "")).1 (ordP (ys.getD m "") (ys.getD f "")).2 = some 2
  · rw [if_pos z]; exact ⟨fun _ => rfl, fun _ => z⟩
  · rw [if_neg z]; exact ⟨fun y => absurd y z, fun y => by cases y⟩
section
variable {K : PySem.W.Frag}
theorem BookAt.x {H H' : Hp} {pp p t q : Addr} {names : List Str} {R : Rs} (b : BookAt K H p t q names R) (hp : PotOk H pp) (s : SameX [pp] H H') : BookAt K H' p t q names R := by
  obtain ⟨dx, hi⟩ := b.ins
  obtain ⟨x, y, hl, _⟩ := hp
  have n1 : p ≠ pp := ne_of hi hl (by intro z; cases z)
  have n2 : t ≠ pp := ne_of b.tups hl (by intro z; cases z)
  have n3 : q ≠ pp := ne_of b.dic hl (by intro z; cases z)
  exact ⟨⟨dx, s _ _ (by simp [n1]) hi⟩, s _ _ (by simp [n2]) b.tups, s _ _ (by simp [n3]) b.dic⟩
theorem BookAt.put' {H H' : Hp} {p t q : Addr} {names : List Str} {R R' : Rs} (b : BookAt K H p t q names R) (s : SameX [q] H H') (h : H' q = some (.dT (kvOf R' (pairsL names)))) : BookAt K H' p t q names R' := by
  obtain ⟨dx, hi⟩ := b.ins
  have n1 : p ≠ q := ne_of hi b.dic (by intro z; cases z)
  have n2 : t ≠ q := ne_of b.tups b.dic (by intro z; cases z)
  exact ⟨⟨dx, s _ _ (by simp [n1]) hi⟩, s _ _ (by simp [n2]) b.tups, h⟩
theorem keep_x {H H' : Hp} {p r : Addr} {xs : List V} (s : SameX [p] H H') (n : r ≠ p) (h : H r = some (.lst xs)) : H' r = some (.lst xs) := s r _ (by simp [n]) h
theorem PairsS.x {H H' : Hp} {p : Addr} {us : List Addr} {pl : List (Str × Str)} {o : HO} (h : PairsS H us pl) (hp : H p = some o) (ho : ∀ xs, o ≠ .tup xs) (s : SameX [p] H H') : PairsS H' us pl :=
  ⟨h.1, fun j u q a b => by
    have z := h.2 j u q a b
    exact s _ _ (by simp only [List.mem_singleton]; intro e; rw [e, hp] at z; exact ho _ (Option.some.inj z)) z⟩
theorem PairsS.snoc2 {H : Hp} {us : List Addr} {pl : List (Str × Str)} {u v : Addr} {p q : Str × Str} (h : PairsS H us pl) (hu : H u = some (.tup [.str p.1, .str p.2])) (hv : H v = some (.tup [.str q.1, .str q.2])) : PairsS H (us ++ [u, v]) (pl ++ [p, q]) := by
  refine ⟨by simp [h.1], fun j x y hx hy => ?_⟩
  rcases Nat.lt_or_ge j us.length with z | z
  · rw [List.getElem?_append_left z] at hx
    rw [List.getElem?_append_left (by rw [← h.1]; exact z)] at hy
    exact h.2 j x y hx hy
  · rw [List.getElem?_append_right z] at hx
    rw [List.getElem?_append_right (by rw [← h.1]; exact z), ← h.1] at hy
    obtain ⟨m, hm⟩ : ∃ m, j - us.length = m := ⟨_, rfl⟩
    rw [hm] at hx hy
    match m, hx, hy with
    | 0, hx, hy => cases hx; cases hy; exact hu
    | 1, hx, hy => cases hx; cases hy; exact hv
theorem DictsA.x {H H' : Hp} {p : Addr} {rs : List Addr} {D : List RowD} (h : DictsA H rs D) (hp : PotOk H p) (s : SameX [p] H H') : DictsA H' rs D :=
  ⟨h.1, fun j r row a b => by
    have z := h.2 j r row a b
    obtain ⟨x, y, hl, _⟩ := hp
    exact s _ _ (by simp only [List.mem_singleton]; exact ne_of z hl (by intro z; cases z)) z⟩
theorem LeastAt.x {H H' : Hp} {p : Addr} {us : List Addr} {names : List Str} {L : List (List Nat)} (h : LeastAt H us names L) (hp : PotOk H p) (s : SameX [p] H H') : LeastAt H' us names L :=
  ⟨h.1, fun j r row a b => by
    have z := h.2 j r row a b
    obtain ⟨x, y, hl, _⟩ := hp
    exact s _ _ (by simp only [List.mem_singleton]; exact ne_of z hl (by intro z; cases z)) z⟩
theorem refs_ne {H : Hp} {p r : Addr} {rs : List Addr} (hp : PotOk H p) (h0 : 0 < rs.length) (h : H r = some (.lst (rs.map V.ref))) : r ≠ p := fun e => by
  obtain ⟨x, y, hl, _⟩ := hp
  rw [e, hl] at h
  have h := HO.lst.inj (Option.some.inj h)
  cases rs with
  | nil => simp at h0
  | cons a rs => cases h
theorem sqt_x {H H' : Hp} {p t : Addr} {xs : List V} (h : SqT K H t xs) (hp : PotOk H p) (s : SameX [p] H H') : SqT K H' t xs := by
  obtain ⟨x, y, hl, _⟩ := hp
  rcases h with (h | ⟨o, h⟩) | h
  · exact .inl (.inl (s _ _ (by simp only [List.mem_singleton]; exact ne_of h hl (by intro z; cases z)) h))
  · exact .inl (.inr ⟨o, s _ _ (by simp only [List.mem_singleton]; exact ne_of h hl (by intro z; cases z)) h⟩)
  · exact .inr h
theorem MachAt.x {H H' : Hp} {p m : Addr} {names : List Str} {D : List RowD} {L : List (List Nat)} (h : MachAt K H m names D L) (hD : 0 < D.length) (hL : 0 < L.length) (hp : PotOk H p) (s : SameX [p] H H') : MachAt K H' m names D L := by
  obtain ⟨t, fd, ls, rs, us, ⟨dx, h1⟩, h2, h3, h4, h5, h6⟩ := h
  have n1 := refs_ne hp (by rw [h4.1]; exact hD) h3
  have n2 := refs_ne hp (by rw [h6.1]; exact hL) h5
  have n3 : m ≠ p := by
    obtain ⟨x, y, hl, _⟩ := hp
    exact ne_of h1 hl (by intro z; cases z)
  exact ⟨t, fd, ls, rs, us, ⟨dx, s _ _ (by simp [n3]) h1⟩, sqt_x h2 hp s, keep_x s n1 h3, h4.x hp s, keep_x s n2 h5, h6.x hp s⟩
theorem dicts_paired {H : Hp} : ∀ {rs : List Addr} {D : List RowD}, DictsA H rs D → Paired (fun b r => Rd H b (.dK (rowV r))) rs D
  | [], [], _ => .nil
  | [], r :: D, h => by have := h.1; simp at this
  | a :: rs, [], h => by have := h.1; simp at this
  | a :: rs, r :: D, h => .cons (.inl (h.2 0 a r rfl rfl)) (dicts_paired ⟨by simpa using h.1, fun j => h.2 (j + 1)⟩)
theorem sqt_putL {H : Hp} {D t : Addr} {o : HO} {l xs : List V} (h : SqT K H t xs) (hD : H D = some (.lst l)) : SqT K (upd H D o) t xs := by
  rcases h with (h | ⟨o, h⟩) | h
  · exact .inl (.inl (by rw [upd_ne (ne_of h hD (by intro z; cases z))]; exact h))
  · exact .inl (.inr ⟨o, by rw [upd_ne (ne_of h hD (by intro z; cases z))]; exact h⟩)
  · exact .inr h
theorem samex_q {H H' H'' : Hp} {p q : Addr} (s : SameX [p] H H') (x : SameX [q] H' H'') (hq : H q = none) : SameX [p] H H'' := fun b o n e => x b o (by
  simp only [List.mem_singleton]
  intro z; rw [z, hq] at e; cases e) (s b o n e)
theorem dp_tups {H : Hp} : ∀ {ts : List Addr} {L : List (List Str)}, ts.length = L.length → (∀ (j : Nat) t x, ts[j]? = some t → L[j]? = some x → SqT K H t (x.map V.str)) → DpAll K H (ts.map V.ref) (L.map fun t => PyData.tuple (t.map PyData.str))
  | [], [], _, _ => .nil
  | [], r :: D, h, _ => by simp at h
  | a :: rs, [], h, _ => by simp at h
  | a :: rs, r :: D, h, h2 => .cons (.tup (h2 0 a r rfl rfl) dp_strs) (dp_tups (by simpa using h) fun j => h2 (j + 1))
end
end T85
end

section
set_option Elab.async false
set_option linter.all false
set_option maxRecDepth 100000
set_option maxHeartbeats 4000000
namespace T85
open PySem PySem.Spec L2 Fx
section
variable {P : Program} {w : World} {K : PySem.W.Frag} {mg : Str → Option Value} {base : Heap}
def spRight : Sp := fun vs H Q _ => ∃ p : Addr, vs = [.ref p] ∧ PotOk H p ∧ ∀ H', SameX [p] H H' → Q (.bl true) H'
theorem ok__law_right (T : Says K mg) : OkG P w K mg base 8 ("_law_right", none) ["_law_pot_here"] (spRight) := by
  have G__law_draw := FnOk.mono (k := 7) (ok__law_draw (P := P) (w := w) (base := base) T) (by decide)
  have G__law_names := FnOk.mono (k := 7) (ok__law_names (P := P) (w := w) (base := base) T) (by decide)
  have G_Bookdd_initdd := FnOk.mono (k := 6) (ok_Bookdd_initdd (P := P) (w := w) (base := base) T) (by decide)
  have G_Bookdd_setitemdd := FnOk.mono (k := 7) (ok_Bookdd_setitemdd (P := P) (w := w) (base := base) T) (by decide)
  have G__law_states := FnOk.mono (k := 7) (ok__law_states (P := P) (w := w) (base := base) T) (by decide)
  have G_machine := FnOk.mono (k := 7) (ok_machine (P := P) (w := w) (base := base) T) (by decide)
  have G_Machinedd_lendd := FnOk.mono (k := 6) (ok_Machinedd_lendd (P := P) (w := w) (base := base) T) (by decide)
  have G_Machine_rows := FnOk.mono (k := 7) (ok_Machine_rows (P := P) (w := w) (base := base) T) (by decide)
  have G_Machine_fixers := FnOk.mono (k := 6) (ok_Machine_fixers (P := P) (w := w) (base := base) T) (by decide)
  have G_Machine_least := FnOk.mono (k := 7) (ok_Machine_least (P := P) (w := w) (base := base) T) (by decide)
  have G_Row_names := FnOk.mono (k := 6) (ok_Row_names (P := P) (w := w) (base := base) T) (by decide)
  have G__law_walk := FnOk.mono (k := 7) (ok__law_walk (P := P) (w := w) (base := base) T) (by decide)
  have G_Machine_state_of := FnOk.mono (k := 7) (ok_Machine_state_of (P := P) (w := w) (base := base) T) (by decide)
  have G__law_pick := FnOk.mono (k := 7) (ok__law_pick (P := P) (w := w) (base := base) T) (by decide)
  have G_Machine_step := FnOk.mono (k := 7) (ok_Machine_step (P := P) (w := w) (base := base) T) (by decide)
  have G_Machine_count := FnOk.mono (k := 7) (ok_Machine_count (P := P) (w := w) (base := base) T) (by decide)
  have G__law_count := FnOk.mono (k := 7) (ok__law_count (P := P) (w := w) (base := base) T) (by decide)
  have G_Machinedd_eqdd := FnOk.mono (k := 7) (ok_Machinedd_eqdd (P := P) (w := w) (base := base) T) (by decide)
  refine okG (d__law_right T) sc__law_right (fun vs H Q E h => ?len) (fun cdv A outer s H vs Q E gd hr h => ?bod)
  case len =>
    obtain ⟨p, rfl, _⟩ := h; rfl
  case bod =>
    obtain ⟨p, rfl, hp, k⟩ := h
    have hu := hu_of hr
    refine ⟨_, PSs.nox (pss_cons (ps_set (i := 1) sc__law_right.nd rfl (Or.inl rfl) (pe_call G__law_names hr (by rfl) (T.glo_ 73) (d__law_names T).kp (b__law_names T) .nil pass0 (pa_cons (pv 0) (pa_cons (pe_op op_add pe_int (pe_call G__law_draw hr (by rfl) (T.glo_ 71) (d__law_draw T).kp (b__law_draw T) .nil pass0 (pa_cons (pv 0) (pa_cons pe_int pa_nil)))) pa_nil))))
      (pss_cons (ps_par3 (i := 2) (j := 3) (l := 4) rfl sc__law_right.nd rfl rfl rfl (by decide) (by decide) (by decide) rfl rfl rfl (pa_cons (pe_make (T.mkr_ 74) G_Bookdd_initdd hr (by rfl) (T.glo_ 75) (b_Bookdd_initdd1 T) (dv_Bookdd_initdd1 T) pass0 (pa_cons (pv 1) pa_nil)) (pa_cons (pe_lst pa_nil) (pa_cons (pe_op op_add pe_int (pe_call G__law_draw hr (by rfl) (T.glo_ 71) (d__law_draw T).kp (b__law_draw T) .nil pass0 (pa_cons (pv 0) (pa_cons pe_int pa_nil)))) pa_nil))) (by rfl))
      (pss_cons (ps_for PassesOwn.never rfl (pi_range1 (by rfl) (T.free_ 32) (pa_cons (pe_callB (k_len (K := K) (by rfl)) (by rfl) (T.free_ 7) (by decide +kernel) (pa_cons (pv 1) pa_nil)) pa_nil)) (pg_name (i := 5) sc__law_right.nd rfl (Or.inl rfl))
      (pss_one (ps_for PassesOwn.never rfl (pi_range1 (by rfl) (T.free_ 32) (pa_cons (pv 5) pa_nil)) (pg_name (i := 6) sc__law_right.nd rfl (Or.inl rfl))
      (pss_one (ps_if (pt_cmpR op_eq (pe_call G__law_draw hr (by rfl) (T.glo_ 71) (d__law_draw T).kp (b__law_draw T) .nil pass0 (pa_cons (pv 0) (pa_cons (pe_op op_add (pv 4) pe_int) pa_nil))) pe_int (nomark _)) (pss_cons (ps_asg pe_int (pg_sub (pv 2) (pe_tup (pa_cons (pe_ix (k_ixL (K := K) (by rfl)) (pv 1) (pv 5) (fun _ _ => rfl)) (pa_cons (pe_ix (k_ixL (K := K) (by rfl)) (pv 1) (pv 6) (fun _ _ => rfl)) pa_nil))) (set_own (chk_noseq_Book T) (T.meth_ 76).at_ (T.meth_ 76).fn G_Bookdd_setitemdd hr (b_Bookdd_setitemdd T))))
      (pss_one (ps_set (i := 3) sc__law_right.nd rfl (Or.inl rfl) (pe_op op_cat (pv 3) (pe_lst (pa_cons (pe_tup (pa_cons (pe_ix (k_ixL (K := K) (by rfl)) (pv 1) (pv 5) (fun _ _ => rfl)) (pa_cons (pe_ix (k_ixL (K := K) (by rfl)) (pv 1) (pv 6) (fun _ _ => rfl)) pa_nil))) (pa_cons (pe_tup (pa_cons (pe_ix (k_ixL (K := K) (by rfl)) (pv 1) (pv 6) (fun _ _ => rfl)) (pa_cons (pe_ix (k_ixL (K := K) (by rfl)) (pv 1) (pv 5) (fun _ _ => rfl)) pa_nil))) pa_nil))))))) pss_nil)))))
      (pss_cons (ps_asg (pe_call G__law_states hr (by rfl) (T.glo_ 77) (d__law_states T).kp (b__law_states T) .nil pass0 (pa_cons (pv 1) (pa_cons (pv 3) pa_nil))) (k_tup (K := K) (n := 2) (by rfl) rfl (pgs_cons (pg_name (i := 7) sc__law_right.nd rfl (Or.inl rfl)) (pgs_cons (pg_name (i := 8) sc__law_right.nd rfl (Or.inl rfl)) pgs_nil))))
      (pss_cons (ps_set (i := 9) sc__law_right.nd rfl (Or.inr rfl) (pe_call G_machine hr (by rfl) (T.glo_ 78) (d_machine T).kp (b_machine T) .nil pass0 (pa_cons (pv 2) pa_nil)))
      (pss_cons (ps_if (pw_or (pt_cmpR op_ne (pe_callB (call_ownlen (K := K) (by rfl) (T.meth_ 79).at_ (T.meth_ 79).fn G_Machinedd_lendd hr (b_Machinedd_lendd T)) (by rfl) (T.free_ 7) (by decide +kernel) (pa_cons (pv 9) pa_nil)) (pe_callB (k_len (K := K) (by rfl)) (by rfl) (T.free_ 7) (by decide +kernel) (pa_cons (pv 8) pa_nil)) (nomark _)) (pw_or (pt_cmpR op_ne (pe_callB (k_reprRows (K := K) (by rfl) gd (u66 hr)) (by rfl) (T.free_ 81) (by decide +kernel) (pa_cons (pe_meth0 (pv 9) (T.cls_ 50) (T.meth_ 80) G_Machine_rows hr (b_Machine_rows T) .nil pass0) pa_nil)) (pe_callB (k_reprRows (K := K) (by rfl) gd (u66 hr)) (by rfl) (T.free_ 81) (by decide +kernel) (pa_cons (pv 8) pa_nil)) (nomark _)) (pw_or1 (pt_cmpR (k_neD (K := K) (by rfl) hr.units) (pe_prop (pv 9) (T.cls_ 50) (pr_Machine_fixers T) G_Machine_fixers hr (b_Machine_fixers T) .nil pass0 rfl) (pe_callTy (k_tupleOf (K := K) (by rfl)) (by rfl) (T.free_ 5) (by decide +kernel) (pa_cons (pe_callB (k_sortedS (K := K) (by rfl)) (by rfl) (T.free_ 20) (by decide +kernel) (pa_cons (pv 1) pa_nil)) pa_nil)) (nomark _))))).pt (pss_one (ps_ret pe_bl)) pss_nil)
      (pss_cons (ps_if (pt_cmpR (k_neD (K := K) (by rfl) hr.units) (pe_lc (own := [("_law_at", 10)]) rfl sc__law_right.nd (pi_range1 (by rfl) (T.free_ 32) (pa_cons (pe_callB (k_len (K := K) (by rfl)) (by rfl) (T.free_ 7) (by decide +kernel) (pa_cons (pv 8) pa_nil)) pa_nil)) (blkOk_by (N := N__law_right) (sc := defScope s__law_right) (by decide +kernel)) (fun _ _ _ _ _ => (pg_name (i := 10) sc__law_right.nd rfl (Or.inl rfl))) (fun _ _ _ _ _ => pts_nil) (fun _ _ _ _ _ => (pe_prop (pe_meth (pv 9) (T.cls_ 50) (T.meth_ 82) G_Machine_least hr (b_Machine_least T) .nil pass0 (pa_cons (pv 10) pa_nil)) (T.cls_ 18) (pr_Row_names T) G_Row_names hr (b_Row_names T) .nil pass0 rfl))) (pv 7) (nomark _)) (pss_one (ps_ret pe_bl)) pss_nil)
      (pss_cons (ps_for PassesOwn.never rfl (pi_range1 (by rfl) (T.free_ 32) (pa_cons pe_int pa_nil)) (pg_name (i := 11) sc__law_right.nd rfl (Or.inl rfl))
      (pss_cons (ps_asg (pe_call G__law_walk hr (by rfl) (T.glo_ 83) (d__law_walk T).kp (b__law_walk T) .nil pass0 (pa_cons (pv 0) (pa_cons (pv 8) (pa_cons (pv 1) (pa_cons (pe_call G__law_draw hr (by rfl) (T.glo_ 71) (d__law_draw T).kp (b__law_draw T) .nil pass0 (pa_cons (pv 0) (pa_cons pe_int pa_nil))) pa_nil))))) (k_tup (K := K) (n := 2) (by rfl) rfl (pgs_cons (pg_name (i := 12) sc__law_right.nd rfl (Or.inl rfl)) (pgs_cons (pg_name (i := 13) sc__law_right.nd rfl (Or.inl rfl)) pgs_nil))))
      (pss_cons (ps_if (pt_cmpR op_ne (pe_callB call_reprO (by rfl) (T.free_ 81) (by decide +kernel) (pa_cons (pe_meth (pv 9) (T.cls_ 50) (T.meth_ 84) G_Machine_state_of hr (b_Machine_state_of T) .nil pass0 (pa_cons (pv 12) pa_nil)) pa_nil)) (pe_callB call_reprO (by rfl) (T.free_ 81) (by decide +kernel) (pa_cons (pv 13) pa_nil)) (nomark _)) (pss_one (ps_ret pe_bl)) pss_nil)
      (pss_cons (ps_par (i := 10) (j := 14) rfl sc__law_right.nd rfl rfl (by decide) rfl rfl (pa_cons (pe_call G__law_draw hr (by rfl) (T.glo_ 71) (d__law_draw T).kp (b__law_draw T) .nil pass0 (pa_cons (pv 0) (pa_cons (pe_callB (k_len (K := K) (by rfl)) (by rfl) (T.free_ 7) (by decide +kernel) (pa_cons (pv 8) pa_nil)) pa_nil))) (pa_cons (pe_call G__law_pick hr (by rfl) (T.glo_ 72) (d__law_pick T).kp (b__law_pick T) .nil pass0 (pa_cons (pv 0) (pa_cons (pv 1) pa_nil))) pa_nil)) (by rfl))
      (pss_one (ps_if (pt_cmpR op_ne (pe_meth (pv 9) (T.cls_ 50) (T.meth_ 85) G_Machine_step hr (b_Machine_step T) .nil pass0 (pa_cons (pv 10) (pa_cons (pv 14) pa_nil))) (pe_dget hu (pe_ix (k_ixL (K := K) (by rfl)) (pv 8) (pv 10) (fun _ _ => rfl)) (pv 14) (fun _ _ => rfl)) (nomark _)) (pss_one (ps_ret pe_bl)) pss_nil))))))
      (pss_cons (ps_for PassesOwn.never rfl (k_pil (K := K) (by rfl) (pe_lst (pa_cons pe_int (pa_cons pe_int (pa_cons pe_int (pa_cons (pe_call G__law_draw hr (by rfl) (T.glo_ 71) (d__law_draw T).kp (b__law_draw T) .nil pass0 (pa_cons (pv 0) (pa_cons pe_int pa_nil))) (pa_cons (pe_call G__law_pick hr (by rfl) (T.glo_ 72) (d__law_pick T).kp (b__law_pick T) .nil pass0 (pa_cons (pv 0) (pa_cons (pe_lst (pa_cons pe_int (pa_cons pe_int (pa_cons pe_int pa_nil)))) pa_nil))) pa_nil))))))) (pg_name (i := 15) sc__law_right.nd rfl (Or.inl rfl))
      (pss_one (ps_if (pt_cmpR op_ne (pe_meth (pv 9) (T.cls_ 50) (T.meth_ 86) G_Machine_count hr (b_Machine_count T) .nil pass0 (pa_cons (pv 15) pa_nil)) (pe_call G__law_count hr (by rfl) (T.glo_ 87) (d__law_count T).kp (b__law_count T) .nil pass0 (pa_cons (pv 8) (pa_cons (pv 15) pa_nil))) (nomark _)) (pss_one (ps_ret pe_bl)) pss_nil)))
      (pss_one (ps_ret (pe_cmpR (k_eqOwn (K := K) (by rfl) G_Machinedd_eqdd (T.meth_ 88).at_ (T.meth_ 88).fn (b_Machinedd_eqdd T) hr) (pv 9) (pe_callK0 G_machine hr (by rfl) (T.glo_ 78) (d_machine T).kp (kb_machine T) pass0 (pk_cons (pv 2) pk_nil)) (nomark _))))))))))))), ?_⟩
    refine ⟨_, rfl, _, rfl, p, 4, rfl, hp, by decide, by decide, fun H1 d s1 hp1 hd0 hd4 => ?_⟩
    obtain ⟨m, hm⟩ : ∃ m : Nat, (m : Int) = 1 + d := ⟨(1 + d).toNat, by omega⟩
    refine ⟨_, _, rfl, rfl, p, m, by rw [hm]; rfl, hp1, by omega, fun H2 l fs sx2 hp2 hl1 hl2 hfl hfn hfok => ?_⟩
    refine ⟨_, rfl, fun bk dx hbk hdx hne => ?_⟩
    have s3 : Same H2 (upd (upd H2 dx (.own bk)) bk (.ins (He.ga K "Book") dx [])) := same_upd (same_new hdx) hbk
    refine ⟨bk, dx, l, fs, rfl, upd_same, SqL.of (s3 _ _ hl2), by omega, by omega, hfok, hfn, fun H3 t q ys sx3 hq hperm hS hB => ⟨rfl, ?_⟩⟩
    have s23 := same_x1 s3 sx3 hbk
    have hp3 := hp2.mono s23
    have hl3 := s23 _ _ hl2
    refine ⟨by show 0 ≤ sizeLine; decide, fun pr hpr => ?_⟩
    have spr := same_new (o := .lst []) hpr
    have hpr4 : (upd H3 pr (.lst [])) pr = some (.lst []) := upd_same
    have hp4 := hp3.mono spr
    have hl4 := spr _ _ hl3
    have hB4 := hB.mono spr
    generalize upd H3 pr (.lst []) = H4 at spr hpr4 hp4 hl4 hB4 ⊢
    have h04 : SameX [p] H H4 := (s1.trans sx2).trans (same_toX (s23.trans spr) _)
    have hqH : H q = none := by
      have h1 : H4 q ≠ none := by rw [hB4.dic]; simp
      have h2 := s3.free hq
      cases e : H q with
      | none => rfl
      | some o =>
        by_cases eq : q = p
        · rw [eq] at h2; exact absurd h2 (by obtain ⟨a, b, z, _⟩ := hp2; rw [z]; simp)
        · have := (s1.trans sx2) q o (by simp [eq]) e
          rw [h2] at this; cases this
    have hlp : l ≠ p := (hp1.ne hl1).symm
    have hprp : pr ≠ p := (hp3.ne hpr).symm
    have hyl : ys.length = fs.length := hperm.length_eq
    have hy4 : ys.length ≤ 4 := by omega
    have hnm : ∀ i, i < fs.length → ∃ x, fs[i]? = some x ∧ x ∈ ys := fun i hi => ⟨_, List.getElem?_eq_getElem hi, hperm.mem_iff.mpr (List.getElem_mem hi)⟩
    have hyok : ∀ x ∈ ys, NameOk x := fun x hx => hfok x (hperm.mem_iff.mp hx)
    refine ⟨_, rfl, p, 3, rfl, hp4, by decide, by decide, fun H5 e5 s5 hp5 he0 he3 => ⟨_, _, rfl, rfl, _, _, _, rfl, ?_⟩⟩
    have hl5 := keep_x s5 hlp hl4
    have h05 := h04.trans s5
    have hpr5 := keep_x s5 hprp hpr4
    have hB5 := hB4.x hp4 s5
    refine ⟨_, rfl, l, _, rfl, .inl (SqL.of hl5), _, rfl, by omega, by rw [List.length_map]; omega, for_range (lo := 0) (n := (((fs.map V.str).length : Nat) : Int).toNat)
      (fun i σ H' => ∃ (pr : Addr) (v5 v6 : Option V) (us : List Addr) (pl : List (Str × Str)) (R : Rs), σ = [some (.ref p), some (.ref l), some (.ref bk), some (.ref pr), some (.int (1 + e5)), v5, v6, none, none, none, none, none, none, none, none, none] ∧ PotOk H' p ∧ SameX [p] H H' ∧ pr ≠ p ∧ H' l = some (.lst (fs.map V.str)) ∧ H' pr = some (.lst (us.map V.ref)) ∧ PairsS H' us pl ∧ BookAt K H' bk t q ys R ∧ PR ys pl R ∧ us.length ≤ 12 * i)
      ⟨pr, none, none, [], [], _, rfl, hp5, h05, hprp, hl5, hpr5, ⟨rfl, by simp⟩, hB5, .nil, by simp⟩ ?_ ?_⟩
    · rintro i σ H6 hi ⟨pr, v5, v6, us, pl, R, rfl, hp6, h06, hprp, hl6, hpr6, hP6, hB6, hPR, hus⟩
      rw [List.length_map, Int.toNat_natCast] at hi
      obtain ⟨x, hx, hxy⟩ := hnm i hi
      refine ⟨_, rfl, _, rfl, by omega, by omega, for_range (lo := 0) (n := ((0 : Int) + (i : Nat)).toNat)
        (fun j σ H' => ∃ (pr : Addr) (v6 : Option V) (us : List Addr) (pl : List (Str × Str)) (R : Rs), σ = [some (.ref p), some (.ref l), some (.ref bk), some (.ref pr), some (.int (1 + e5)), some (.int (0 + (i : Nat))), v6, none, none, none, none, none, none, none, none, none] ∧ PotOk H' p ∧ SameX [p] H H' ∧ pr ≠ p ∧ H' l = some (.lst (fs.map V.str)) ∧ H' pr = some (.lst (us.map V.ref)) ∧ PairsS H' us pl ∧ BookAt K H' bk t q ys R ∧ PR ys pl R ∧ us.length ≤ 12 * i + 2 * j)
        ⟨pr, _, us, pl, R, rfl, hp6, h06, hprp, hl6, hpr6, hP6, hB6, hPR, by omega⟩ ?_ ?_⟩
      · rintro j σ H7 hj ⟨pr, v6, us, pl, R, rfl, hp7, h07, hprp, hl7, hpr7, hP7, hB7, hPR, hus⟩
        have hji : j < i := by omega
        obtain ⟨y, hy, hyy⟩ := hnm j (by omega)
        have hxyn : x ≠ y := fun e => by
          have := (List.getElem?_inj (i := i) (j := j) hi hfn).mp (by rw [hx, hy, e])
          omega
        refine ⟨_, rfl, _, rfl, _, _, rfl, rfl, p, (1 + e5) + 1, rfl, hp7, by omega, by omega, fun H8 g s8 hp8 hg0 hg4 => ⟨rfl, decide (g = 0), ?_, ?_⟩⟩
        · show V.bl (decide (V.int g = V.int 0)) = _
          by_cases e : g = 0
          · subst e; simp
          · rw [decide_eq_false e, decide_eq_false (fun z => e (V.int.inj z))]
        have hl8 := keep_x s8 hlp hl7
        have hpr8 := keep_x s8 hprp hpr7
        have hB8 := hB7.x hp7 s8
        have hP8 : PairsS H8 us pl := by
          obtain ⟨a, b, hpl, _⟩ := hp7
          exact hP7.x hpl (by intro xs z; cases z) s8
        by_cases e : g = 0
        · rw [decide_eq_true e]
          have ax : ∀ {H' : Hp}, atI (fs.map V.str) ((0 : Int) + (i : Nat)) = some (.str x) := fun {_} => atI_of (j := i) (by omega) (get_map hx)
          have ay : ∀ {H' : Hp}, atI (fs.map V.str) ((0 : Int) + (j : Nat)) = some (.str y) := fun {_} => atI_of (j := j) (by omega) (get_map hy)
          refine iteT ⟨_, rfl, _, rfl, _, rfl, l, _, _, .str x, rfl, rfl, SqL.of hl8, ax (H' := H8), _, rfl, _, rfl, l, _, _, .str y, rfl, rfl, SqL.of hl8, ay (H' := H8), by show 2 ≤ sizeLine; decide, fun u hu1 => ?_⟩
          have su : Same H8 (upd H8 u (.tup [.str x, .str y])) := same_new hu1
          have hB9 := hB8.mono su
          obtain ⟨dx9, hi9⟩ := hB9.ins
          refine ⟨bk, dx9, _, rfl, hi9, bk, t, q, u, ys, _, x, y, some 2, rfl, .inl (.inl upd_same), hB9, hxy, hyy, hxyn, hS, by omega, .inr (.inl rfl), fun H10 s10 hq10 => ?_⟩
          have hB10 := hB9.put' s10 hq10
          have h010 := samex_q ((h07.trans s8).trans (same_toX su _)) s10 hqH
          have hqd := hB9.dic
          have kq : ∀ {r : Addr} {xs : List V}, H8 r = some (.lst xs) → H10 r = some (.lst xs) := fun {r xs} h => keep_x s10 (ne_of (su _ _ h) hqd (by intro z; cases z)) (su _ _ h)
          have hl10 := kq hl8
          have hpr10 := kq hpr8
          have hP10 : PairsS H10 us pl := (hP8.mono su).x hqd (by intro xs z; cases z) s10
          have hp10 : PotOk H10 p := by
            obtain ⟨a, b, hpl, h1⟩ := hp8
            exact ⟨a, b, kq hpl, h1⟩
          clear hq10 s10 hqd kq hB9 hB8 su hP8 hpr8 hl8 s8
          refine ⟨_, rfl, _, rfl, _, rfl, l, _, _, .str x, rfl, rfl, SqL.of hl10, ax (H' := H8), _, rfl, _, rfl, l, _, _, .str y, rfl, rfl, SqL.of hl10, ay (H' := H8), by show 2 ≤ sizeLine; decide, fun u1 hu1 => ?_⟩
          have s1 : Same H10 (upd H10 u1 (.tup [.str x, .str y])) := same_new hu1
          refine ⟨_, rfl, _, rfl, l, _, _, .str y, rfl, rfl, SqL.of (s1 _ _ hl10), ay (H' := H8), _, rfl, _, rfl, l, _, _, .str x, rfl, rfl, SqL.of (s1 _ _ hl10), ax (H' := H8), by show 2 ≤ sizeLine; decide, fun u2 hu2 => ?_⟩
          have s2 := s1.trans (same_new (o := .tup [.str y, .str x]) hu2)
          have hu12 := same_new (o := .tup [.str y, .str x]) hu2 _ _ (show (upd H10 u1 (.tup [.str x, .str y])) u1 = some (.tup [.str x, .str y]) from upd_same)
          have hu22 : (upd (upd H10 u1 (.tup [.str x, .str y])) u2 (.tup [.str y, .str x])) u2 = some (.tup [.str y, .str x]) := upd_same
          generalize upd (upd H10 u1 (.tup [.str x, .str y])) u2 (.tup [.str y, .str x]) = H12 at s2 hu12 hu22 ⊢
          refine ⟨by show 2 ≤ sizeLine; decide, fun l3 hl3 => ?_⟩
          have s3 := same_new (o := .lst [.ref u1, .ref u2]) hl3
          refine ⟨pr, l3, _, _, rfl, rfl, s3 _ _ (s2 _ _ hpr10), upd_same, by rw [List.length_map]; show us.length + 2 ≤ sizeLine; exact Nat.le_of_lt (small1000 (by omega)), fun pr' hpr' => ?_⟩
          have s4 : Same H10 (upd (upd H12 l3 (.lst [.ref u1, .ref u2])) pr' (.lst (us.map V.ref ++ [.ref u1, .ref u2]))) := (s2.trans s3).trans (same_new hpr')
          have s4' := s3.trans (same_new (o := .lst (us.map V.ref ++ [.ref u1, .ref u2])) hpr')
          have hp12 := hp10.mono (s2.trans s3)
          exact ⟨pr', _, us ++ [u1, u2], pl ++ [(x, y), (y, x)], _, rfl, hp10.mono s4, h010.trans (same_toX s4 _), (hp12.ne hpr').symm, s4 _ _ hl10, by rw [upd_same, List.map_append]; rfl, (hP10.mono s4).snoc2 (s4' _ _ hu12) (s4' _ _ hu22), hB10.mono s4, hPR.snoc hxy hyy hxyn, by simp; omega⟩
        · rw [decide_eq_false e]
          refine iteF ?_
          exact ⟨pr, _, us, pl, R, rfl, hp8, h07.trans s8, hprp, hl8, hpr8, hP8, hB8, hPR, by omega⟩
      · rintro σ H7 ⟨pr, v6, us, pl, R, rfl, hp7, h07, hprp, hl7, hpr7, hP7, hB7, hPR, hus⟩
        exact ⟨pr, _, _, us, pl, R, rfl, hp7, h07, hprp, hl7, hpr7, hP7, hB7, hPR, by omega⟩
    · rintro σ H6 ⟨pr, v5, v6, us, pl, R, rfl, hp6, h06, hprp, hl6, hpr6, hP6, hB6, hPR, hus⟩
      rw [List.length_map, Int.toNat_natCast] at hus
      obtain ⟨Ro, Lo, hG, hlaw, hLR, hLb⟩ := good_of (n := ys.length) (by omega) hy4 (loose_mat (names := ys) hPR.2.1 ys.length)
      clear hl5 hpr5 hB5 hp5 s5 hB4 hl4 hp4 hpr4 spr hl3 hp3 s23 s3 sx3
      refine ⟨_, rfl, _, rfl, l, pr, fs, ys, us, pl, matOf ys R, Ro, 40, Lo, rfl, hl6, hpr6, hP6, hperm, hS, by omega, hyok, hPR.1, hPR.rel hS.nodup, by decide, hlaw, fun H7 u fd ls rs us2 s7 hu7 hfd7 hD7 hls7 hL7 => ?_⟩
      refine ⟨u, _, rfl, .inl (.inl hu7), rfl, _, _, rfl, _, _, rfl, rfl, ?_⟩
      refine ⟨_, rfl, bk, t, q, ys, R, Ro, Lo, rfl, hB6.mono s7, hS, hy4, hPR.2.1, hG, fun H8 mp s8 hM8 => ?_⟩
      have hp8 := hp6.mono (s7.trans s8)
      have hl8 := s8 _ _ (s7 _ _ hl6)
      have hB8 := hB6.mono (s7.trans s8)
      have h08 := h06.trans (same_toX (s7.trans s8) _)
      have hfd8 := s8 _ _ hfd7
      have hD8 := hD7.mono s8
      have hls8 := s8 _ _ hls7
      have hL8 := hL7.mono s8
      clear hpr6 hP6 hus hprp
      have hRl : (Ro.map (rowD ys)).length = Ro.length := List.length_map ..
      have hok := hG.ok
      have hR100 := hok.len
      have ⟨mt, mfd, mls, mrs, mus, ⟨mdx, hmi⟩, mrest1, mrest2, mrest3, mrest4, mrest5⟩ := hM8
      have hrsl : rs.length = Ro.length := by rw [hD8.1, hRl]
      have hRD := rowD_ok (ns := ys) (Ro := Ro) (by omega) hyok hok
      have hfit := rows_fit hRD (by rw [hRl]; exact hR100)
      have hshow : ∀ r ∈ Ro.map (rowD ys), ∀ p ∈ r, (oD p.2).showable = true := fun r hr p hp => oD_show ((hRD r hr).2 p hp).2
      have hysh := shaped_tup (l := ys) fun x hx => (hyok x hx).ok
      -- len
      refine ⟨_, rfl, mp, mdx, _, rfl, hmi, mp, ys, _, Lo, rfl, hM8, _, rfl, by omega, by rw [hRl]; omega, ?_⟩
      refine ⟨_, rfl, fd, _, rfl, .inl (SqL.of hfd8), rfl, false, ?_, iteF ?_⟩
      · show V.bl (!decide (nV (Ro.map (rowD ys)).length = nV (rs.map V.ref).length)) = _
        rw [List.length_map, List.length_map, hrsl]; simp
      refine ⟨_, rfl, mp, mdx, _, rfl, hmi, rfl, mp, ys, _, Lo, rfl, hM8, by rw [hRl]; exact hR100, fun H9 l9 rs9 s9 hl9 hD9 => ?_⟩
      refine ⟨l9, rs9, _, rfl, SqL.of hl9, dicts_paired hD9, hshow, hfit, ?_⟩
      refine ⟨_, rfl, fd, rs, _, rfl, SqL.of (s9 _ _ hfd8), dicts_paired (hD8.mono s9), hshow, hfit, rfl, false, ?_, iteF ?_⟩
      · show V.bl (!decide (_ = _)) = _
        rw [decide_eq_true rfl]; rfl
      refine ⟨_, rfl, mp, mdx, _, rfl, s9 _ _ hmi, ?_⟩
      have hl9' := s9 _ _ hl8
      refine ⟨mp, mdx, _, .ref mt, rfl, s9 _ _ hmi, rfl, _, rfl, l, fs, rfl, SqL.of hl9', by omega, fun ys2 od hys hsy hod => ⟨od, _, rfl, .inl ⟨SqL.of upd_same, fun tt htt => ?_⟩⟩⟩
      have eys : ys2 = ys := sorted_eq (hys.trans hperm.symm) hsy hS
      rw [eys] at htt ⊢
      have s10 : Same H8 (upd (upd H9 od (.lst (ys.map V.str))) tt (.tup (ys.map V.str))) := s9.trans ((same_new hod).trans (same_new htt))
      refine ⟨_, _, .tup (sqt_mono s10 mrest1) dp_strs, .tup (.inl (.inl upd_same)) dp_strs, hysh, hysh, false, ?_, iteF ?_⟩
      · rw [SeqAt.eqv_refl _ (SeqAt.canLay_of_shaped hysh)]; rfl
      generalize upd (upd H9 od (.lst (ys.map V.str))) tt (.tup (ys.map V.str)) = H10 at s10 ⊢
      have hM10 := hM8.mono s10
      have h010 := h08.trans (same_toX s10 _)
      have hp10 := hp8.mono s10
      have hl10 := s10 _ _ hl8
      have hB10 := hB8.mono s10
      have hfd10 := s10 _ _ hfd8
      have hD10 := hD8.mono s10
      have hls10 := s10 _ _ hls8
      have hL10 := hL8.mono s10
      have hmi10 := s10 _ _ hmi
      clear hmi hL8 hls8 hD8 hfd8 hB8 hl8 hp8 hM8 mrest1 mrest2 mrest3 mrest4 mrest5 s10 s9 hl9 hD9 hl9' s8 s7
      have hLn : ∀ (j : Nat) (f2 : List Nat), Lo[j]? = some f2 → f2.length ≤ 10 ∧ ∀ f ∈ f2, f < ys.length := fun j f2 h => hLb f2 (List.mem_of_getElem? h)
      refine ⟨_, rfl, fd, _, rfl, .inl (SqL.of hfd10), _, rfl, by omega, by rw [List.length_map]; omega, fun D hD => lcm_range (n := (((rs.map V.ref).length : Nat) : Int).toNat) (fun i acc H' => ∃ ts : List Addr, Same H10 H' ∧ H' D = some (.lst acc) ∧ acc = ts.map V.ref ∧ ts.length = i ∧ ∀ (j : Nat) t x, ts[j]? = some t → (Lo.map (namesOf ys))[j]? = some x → SqT K H' t (x.map V.str)) ⟨[], same_new hD, upd_same, rfl, rfl, by simp⟩ ?_ ?_⟩
      · rintro i acc H11 hi ⟨ts, s11, hD11, rfl, htl, hts⟩
        rw [List.length_map, Int.toNat_natCast, hrsl] at hi
        obtain ⟨f2, hf2⟩ : ∃ f2, Lo[i]? = some f2 := ⟨_, List.getElem?_eq_getElem (by omega)⟩
        obtain ⟨hfl2, hfn2⟩ := hLn i f2 hf2
        have ei : (0 : Int) + (i : Nat) = (i : Nat) := by omega
        refine ⟨_, rfl, mp, mdx, _, rfl, s11 _ _ hmi10, rfl, _, rfl, mp, i, ys, _, Lo, f2, by show [V.ref mp, V.int ((0 : Int) + (i : Nat))] = _; rw [ei]; rfl, hM10.mono s11, by rw [hRl]; exact hi, hf2, by omega, hfn2, hyok, fun H12 r s12 hr12 => ?_⟩
        obtain ⟨dr, tr, hri, htr⟩ := hr12
        have hD12 := s12 _ _ hD11
        have hsn := snoc_all (l := ts) (x := tr) (Pp := fun j t => ∀ x, (Lo.map (namesOf ys))[j]? = some x → SqT K (upd H12 D (.lst (ts.map V.ref ++ [.ref tr]))) t (x.map V.str)) (fun j t ht x hx => sqt_putL (sqt_mono s12 (hts j t x ht hx)) hD12) (fun x hx => by
          rw [htl, List.getElem?_map, hf2] at hx
          cases hx
          exact sqt_putL htr hD12)
        exact ⟨r, dr, _, rfl, hri, r, dr, _, .ref tr, rfl, hri, rfl, _, hD12, by rw [List.length_map, htl]; exact small1000 (by omega), _, ts ++ [tr], same_upd (s11.trans s12) hD, upd_same, by rw [List.map_append]; rfl, by simp [htl], fun j t x ht hx => hsn j t ht x hx⟩
      · rintro acc H11 ⟨ts, s11, hD11, rfl, htl, hts⟩
        rw [List.length_map, Int.toNat_natCast, hrsl] at htl
        have shL : SeqAt.shaped (.list ((Lo.map (namesOf ys)).map fun t => PyData.tuple (t.map PyData.str))) = true := shaped_tups (by
          intro t ht x hx
          obtain ⟨f2, hf2, rfl⟩ := List.mem_map.mp ht
          obtain ⟨f, hf, rfl⟩ := List.mem_map.mp hx
          have := (hLb f2 hf2).2 f hf
          rw [List.getD_eq_getElem?_getD, List.getElem?_eq_getElem this]
          exact (hyok _ (List.getElem_mem this)).ok)
        refine ⟨_, rfl, _, _, .lst (SqL.of hD11) (dp_tups (L := Lo.map (namesOf ys)) (by rw [List.length_map, htl, hLR]) hts), .lst (SqL.of (s11 _ _ hls10)) (dp_least (hL10.mono s11)), shL, shL, false, ?_, iteF ?_⟩
        · rw [SeqAt.eqv_refl _ (SeqAt.canLay_of_shaped shL)]; rfl
        have hM11 := hM10.mono s11
        have h011 := h010.trans (same_toX s11 _)
        have hp11 := hp10.mono s11
        have hl11 := s11 _ _ hl10
        have hB11 := hB10.mono s11
        have hfd11 := s11 _ _ hfd10
        have hD11 := hD10.mono s11
        have hmi11 := s11 _ _ hmi10
        have hRpos := hG.pos
        clear hM10 hp10 hl10 hB10 hfd10 hD10 hmi10 hL10 hls10
        have hfdp := refs_ne hp11 (by rw [hrsl]; exact hRpos) hfd11
        have nmp : mp ≠ p := by
          obtain ⟨a, b, hpl, _⟩ := hp11
          exact ne_of hmi11 hpl (by intro z; cases z)
        have kM : ∀ {H' : Hp}, SameX [p] H11 H' → MachAt K H' mp ys (Ro.map (rowD ys)) Lo := fun s => hM11.x (by rw [hRl]; exact hRpos) (by omega) hp11 s
        -- the walks
        refine ⟨_, rfl, by omega, by omega, for_range (lo := 0) (n := (4 : Int).toNat) (fun i σ H' => ∃ (v10 v11 v12 v13 v14 : Option V), σ = [some (.ref p), some (.ref l), some (.ref bk), some (.ref pr), some (.int (1 + e5)), v5, v6, some (.ref ls), some (.ref fd), some (.ref mp), v10, v11, v12, v13, v14, none] ∧ SameX [p] H11 H' ∧ PotOk H' p)
          ⟨none, none, none, none, none, rfl, SameX.refl _ _, hp11⟩ ?_ ?_⟩
        · rintro i σ H12 hi ⟨v10, v11, v12, v13, v14, rfl, s12, hp12⟩
          refine ⟨_, rfl, _, rfl, _, rfl, _, rfl, p, 60, rfl, hp12, by decide, by decide, fun H13 e s13 hp13 he0' he60 => ?_⟩
          obtain ⟨m', rfl⟩ : ∃ m' : Nat, e = (m' : Int) := ⟨e.toNat, by omega⟩
          have s113 := s12.trans s13
          have hfd13 := keep_x s113 hfdp hfd11
          refine ⟨p, fd, l, m', rs, fs, ys, Ro, rfl, hp13, hfd13, hD11.x hp11 s113, hok, hRpos, hG.row, keep_x s113 hlp hl11, fun x hx => hperm.mem_iff.mpr hx, by omega, by omega, hS.nodup, hyok, by omega, fun H14 u14 r gs s14 hp14 hu14 hR14 hgs => ?_⟩
          have s114 := s113.trans s14
          refine ⟨u14, _, rfl, .inl (.inl hu14), rfl, _, _, rfl, _, _, rfl, rfl, ?_⟩
          have hwl : ∀ i, (walkN Ro (some 0) gs).map Int.ofNat = some i → 0 ≤ i ∧ i < 10 ^ 8 := fun i hi => by
            cases hw : walkN Ro (some 0) gs with
            | none => rw [hw] at hi; cases hi
            | some v =>
              have hv := walk_lt hok gs (some 0) v (fun k hk => by cases hk; exact hRpos) hw
              rw [hw] at hi
              cases hi
              have e : (10 : Int) ^ 8 = 100000000 := by decide
              show (0 : Int) ≤ (v : Int) ∧ (v : Int) < 10 ^ 8
              omega
          have hsw := oD_show hwl
          refine ⟨_, rfl, mp, mdx, _, rfl, s114 _ _ (by simp [nmp]) hmi11, rfl, _, rfl, mp, r, gs, ys, Ro, Lo, rfl, kM s114, hR14, hgs, hS.nodup, hG.row, hok, hRpos, ?_⟩
          refine ⟨(walkN Ro (some 0) gs).map Int.ofNat, by rw [oV_N], hsw, ?_⟩
          refine ⟨_, rfl, (walkN Ro (some 0) gs).map Int.ofNat, by rw [oV_N], hsw, rfl, false, ?_, iteF ?_⟩
          · show V.bl (!decide (_ = _)) = _
            rw [decide_eq_true rfl]; rfl
          have hp14' := hp14
          have hfd14 := keep_x s114 hfdp hfd11
          refine ⟨_, rfl, _, rfl, fd, _, rfl, .inl (SqL.of hfd14), p, ((rs.map V.ref).length : Nat), rfl, hp14, by rw [List.length_map]; omega, by rw [List.length_map]; omega, fun H15 e2 s15 hp15 he20 he2 => ?_⟩
          have s115 := s114.trans s15
          have hl15 := keep_x s115 hlp hl11
          refine ⟨_, rfl, _, rfl, p, .ref l, rfl, hp15, .inr ⟨l, fs.map V.str, rfl, SqL.of (hide_at hl15 (by simp [hlp])), by rw [List.length_map]; omega, by rw [List.length_map]; omega, fun H16 x s16 hp16 hx => ?_⟩⟩
          obtain ⟨nm, hnmm, rfl⟩ := List.mem_map.mp hx
          obtain ⟨f, hf⟩ := List.mem_iff_getElem?.mp (hperm.mem_iff.mpr hnmm)
          have s116 := s115.trans s16
          rw [List.length_map] at he2
          obtain ⟨st, rfl⟩ : ∃ st : Nat, e2 = (st : Int) := ⟨e2.toNat, by omega⟩
          have hst : st < Ro.length := by omega
          obtain ⟨row, hrow⟩ : ∃ row, Ro[st]? = some row := ⟨_, List.getElem?_eq_getElem hst⟩
          obtain ⟨r', hr1', hr2'⟩ := dicts_get (hD11.x hp11 s116) hrow
          have hrl := hG.row row (List.mem_of_getElem? hrow)
          obtain ⟨o, ho⟩ : ∃ o, row[f]? = some o := ⟨_, List.getElem?_eq_getElem (by rw [hrl]; exact lt_of_get hf)⟩
          have eo : stepN Ro st f = o := by unfold stepN; rw [List.getD_eq_getElem?_getD, List.getD_eq_getElem?_getD, hrow]; show (row[f]?).getD none = o; rw [ho]; rfl
          have g := DGet.k (k := .inr nm) hr2'
          rw [rowV_get hS.nodup hf ho, ← eo] at g
          have a1 : atI (rs.map V.ref) (st : Int) = some (.ref r') := atI_nat (by rw [List.getElem?_map, hr1']; rfl)
          refine ⟨_, _, rfl, _, rfl, mp, mdx, _, rfl, s116 _ _ (by simp [nmp]) hmi11, rfl, _, rfl, _, rfl, mp, st, f, nm, ys, Ro, Lo, rfl, kM s116, hst, hf, hS.nodup, hG.row, ?_⟩
          refine ⟨_, rfl, _, rfl, fd, _, _, _, rfl, rfl, SqL.of (keep_x s116 hfdp hfd11), a1, _, rfl, r', _, rfl, g, by cases stepN Ro st f <;> rfl, false, ?_, iteF ?_⟩
          · show V.bl (!decide (_ = _)) = _
            rw [decide_eq_true rfl]; rfl
          exact ⟨_, _, _, _, _, rfl, s116, hp16⟩
        · rintro σ H12 ⟨v10, v11, v12, v13, v14, rfl, s12, hp12⟩
          refine ⟨_, rfl, p, 60, rfl, hp12, by decide, by decide, fun H13 e s13 hp13 he0' he60 => ?_⟩
          obtain ⟨m', rfl⟩ : ∃ m' : Nat, e = (m' : Int) := ⟨e.toNat, by omega⟩
          have s113 := s12.trans s13
          refine ⟨_, rfl, by show 3 ≤ sizeLine; decide, fun l3 hl3 => ?_⟩
          have sl3 := same_new (o := .lst [.int 400, .int 123, .int 61]) hl3
          have hp13' := hp13.mono sl3
          have nl3 : l3 ≠ p := (hp13.ne hl3).symm
          have hl33 : (upd H13 l3 (.lst [.int 400, .int 123, .int 61])) l3 = some (.lst [.int 400, .int 123, .int 61]) := upd_same
          have s113' := s113.trans (same_toX sl3 _)
          generalize upd H13 l3 (.lst [.int 400, .int 123, .int 61]) = H13' at hp13' hl33 s113' ⊢
          refine ⟨p, .ref l3, rfl, hp13', .inr ⟨l3, _, rfl, SqL.of (hide_at hl33 (by simp [nl3])), by decide, by decide, fun H14 x s14 hp14 hx => ?_⟩⟩
          obtain ⟨m2, rfl, hm2⟩ : ∃ m2 : Nat, x = nV m2 ∧ m2 ≤ 400 := by
            simp at hx
            rcases hx with rfl | rfl | rfl
            · exact ⟨400, rfl, by decide⟩
            · exact ⟨123, rfl, by decide⟩
            · exact ⟨61, rfl, by decide⟩
          refine ⟨by show 5 ≤ sizeLine; decide, fun l5 hl5 => ?_⟩
          have s114 := s113'.trans (s14.trans (same_toX (same_new (o := .lst [V.int 0, V.int 1, V.int 2, V.int (m' : Int), nV m2]) hl5) _))
          have hl55 : (upd H14 l5 (.lst [V.int 0, V.int 1, V.int 2, V.int (m' : Int), nV m2])) l5 = some (.lst [V.int 0, V.int 1, V.int 2, V.int (m' : Int), nV m2]) := upd_same
          have hm5 : ∀ (i : Nat) x, [V.int 0, V.int 1, V.int 2, V.int (m' : Int), nV m2][i]? = some x → ∃ m3 : Nat, x = nV m3 ∧ m3 ≤ 400 := fun i x hx => by
            have hx := List.mem_of_getElem? hx
            simp at hx
            rcases hx with rfl | rfl | rfl | rfl | rfl
            · exact ⟨0, rfl, by decide⟩
            · exact ⟨1, rfl, by decide⟩
            · exact ⟨2, rfl, by decide⟩
            · exact ⟨m', rfl, by omega⟩
            · exact ⟨m2, rfl, hm2⟩
          generalize [V.int 0, V.int 1, V.int 2, V.int (m' : Int), nV m2] = X5 at s114 hl55 hm5 ⊢
          generalize upd H14 l5 (.lst X5) = H15 at s114 hl55 ⊢
          refine ⟨l5, rfl, ⟨_, SqL.of hl55⟩, for_list (xs := X5) (fun i σ H' => ∃ (v15 : Option V), σ = [some (.ref p), some (.ref l), some (.ref bk), some (.ref pr), some (.int (1 + e5)), v5, v6, some (.ref ls), some (.ref fd), some (.ref mp), v10, v11, v12, v13, v14, v15] ∧ Same H15 H')
            ⟨_, rfl, Same.refl _⟩ (fun i σ H' _ ⟨_, _, s⟩ => SqL.of (s _ _ hl55)) ?_ ?_⟩
          · rintro i y σ H16 hy ⟨v15, rfl, s16⟩
            obtain ⟨m3, rfl, hm3⟩ := hm5 i y hy
            have s116 := s114.trans (same_toX s16 _)
            refine ⟨_, rfl, mp, mdx, _, rfl, s116 _ _ (by simp [nmp]) hmi11, rfl, _, rfl, mp, m3, ys, Ro, Lo, rfl, kM s116, hok, hRpos, hm3, hG.row, fun H17 s17 => ?_⟩
            have s117 := s116.trans (same_toX s17 _)
            refine ⟨_, rfl, _, rfl, fd, m3, rs, ys, Ro, rfl, keep_x s117 hfdp hfd11, hD11.x hp11 s117, hok, hRpos, hm3, hG.row, fun H18 s18 => ?_⟩
            refine ⟨rfl, false, ?_, iteF ⟨_, rfl, s16.trans (s17.trans s18)⟩⟩
            show V.bl (!decide (V.int ((ahead Ro m3).getD 0 0) = V.int (fwd Ro m3).sum)) = _
            rw [counts_eq hok hRpos]; simp
          · rintro σ H16 ⟨v15, rfl, s16⟩
            have s116 := s114.trans (same_toX s16 _)
            refine ⟨_, rfl, _, rfl, bk, t, q, ys, R, Ro, Lo, rfl, hB11.x hp11 s116, hS, hy4, hPR.2.1, hG, fun H17 mp2 s17 hM17 => ?_⟩
            have hM17' := (kM s116).mono s17
            have ⟨mt, mfd, mls, mrs, mus, ⟨mdx2, hmi2⟩, _, _, _, _, _⟩ := hM17
            exact ⟨⟨mp, mp2, mdx, mdx2, _, _, rfl, rfl, s17 _ _ (s116 _ _ (by simp [nmp]) hmi11), hmi2, ys, Ro, Lo, Lo, hM17', hM17, hS.nodup, hyok, hG.row⟩, fun H' e' => k H' (((h011.trans s116).trans (same_toX s17 _)).trans (same_toX (fun _ _ z => e' _ _ z) _))⟩
end
end T85
end

section
set_option Elab.async false
set_option linter.all false
set_option maxRecDepth 100000
set_option maxHeartbeats 4000000
namespace T85
open PySem PySem.Spec L2 Fx
section
variable {P : Program} {w : World} {K : PySem.W.Frag} {mg : Str → Option Value} {base : Heap}
def spLaw (K : PySem.W.Frag) : Sp := fun vs H Q _ => ∃ (a : Addr) (ns : List Int), vs = [.ref a] ∧ SqL K H a (ns.map V.int) ∧ ∀ H', Q (.bl true) H'
theorem ok_law (T : Says K mg) : OkG P w K mg base 9 ("law", none) ["_law_script"] (spLaw K) := by
  have G__law_pot := FnOk.mono (k := 8) (ok__law_pot (P := P) (w := w) (base := base) T) (by decide)
  have G__law_right := FnOkG.mono (k := 8) (ok__law_right (P := P) (w := w) (base := base) T) (by decide)
  refine okG (d_law T) sc_law (fun vs H Q E h => ?len) (fun cdv A outer s H vs Q E gd hr h => ?bod)
  case len =>
    obtain ⟨a, ns, rfl, _⟩ := h; rfl
  case bod =>
    obtain ⟨a, ns, rfl, ha, k⟩ := h
    refine ⟨_, PSs.nox (pss_one (ps_ret (pe_callB (k_all (K := K) (by rfl) rfl) (by rfl) (T.free_ 10) (by decide +kernel) (pa_cons (pe_lc (own := [("_law_k", 1)]) rfl sc_law.nd (pi_range1 (by rfl) (T.free_ 32) (pa_cons (pe_callB (call_max2 rfl) (by rfl) (T.free_ 69) (by decide +kernel) (pa_cons pe_int (pa_cons (pe_callB (call_min2 rfl) (by rfl) (T.free_ 89) (by decide +kernel) (pa_cons pe_int (pa_cons (pe_callB (k_len (K := K) (by rfl)) (by rfl) (T.free_ 7) (by decide +kernel) (pa_cons (pv 0) pa_nil)) pa_nil))) pa_nil))) pa_nil)) (blkOk_by (N := N_law) (sc := defScope s_law) (by decide +kernel)) (fun _ _ _ _ _ => (pg_name (i := 1) sc_law.nd rfl (Or.inl rfl))) (fun _ _ _ _ _ => pts_nil) (fun _ _ _ _ _ => (pe_callG gd G__law_right hr (by rfl) (T.glo_ 91) (d__law_right T).kp (b__law_right T) pass0 (pa_cons (pe_call G__law_pot hr (by rfl) (T.glo_ 90) (d__law_pot T).kp (b__law_pot T) .nil pass0 (pa_cons (pv 0) (pa_cons (pv 1) pa_nil))) pa_nil)))) pa_nil)))), ?_⟩
    refine ⟨_, rfl, a, _, rfl, .inl ha, 5, _, rfl, 1, _, rfl, ?_⟩
    rw [List.length_map]
    obtain ⟨m, hm, hm5⟩ : ∃ m : Nat, (if (if ((ns.length : Nat) : Int) < 5 then ((ns.length : Nat) : Int) else 5) > 1 then (if ((ns.length : Nat) : Int) < 5 then ((ns.length : Nat) : Int) else 5) else 1) = (m : Int) ∧ m ≤ 5 := by
      refine ⟨max 1 (min 5 ns.length), ?_, by omega⟩
      split <;> split <;> omega
    rw [hm]
    refine ⟨_, rfl, by omega, by omega, fun D hD => lcm_range (n := ((m : Nat) : Int).toNat) (fun i acc H' => Same H H' ∧ H' D = some (.lst acc) ∧ acc = (List.replicate i true).map V.bl) ⟨same_new hD, upd_same, rfl⟩ ?_ ?_⟩
    · rintro i acc H1 hi ⟨s1, hL, rfl⟩
      refine ⟨_, rfl, _, rfl, a, ns, i, by show [V.ref a, V.int ((0 : Int) + (i : Nat))] = _; rw [Int.zero_add], seq_mono s1 ha, by omega, fun H2 p s2 hp hP => ⟨p, rfl, hP, fun H3 s3 => ?_⟩⟩
      have s13 : Same H1 H3 := same_x1 s2 s3 hp
      refine ⟨_, s13 _ _ hL, by simp; exact small1000 (by omega), _, same_upd (s1.trans s13) hD, upd_same, ?_⟩
      rw [List.replicate_succ', List.map_append]; rfl
    · rintro acc H1 ⟨s1, hL, rfl⟩
      refine ⟨D, _, rfl, SqL.of hL, ?_⟩
      have e : (List.replicate ((m : Nat) : Int).toNat true).all id = true := by rw [List.all_eq_true]; intro x hx; rw [List.eq_of_mem_replicate hx]; rfl
      show Q (.bl ((List.replicate ((m : Nat) : Int).toNat true).all id)) H1
      rw [e]; exact k H1
end
end T85
end

set_option Elab.async false
set_option linter.all false
set_option maxRecDepth 100000
set_option maxHeartbeats 0
namespace T85
open PySem PySem.W PySem.Calls PyProof.Rows Fx L2
theorem facts {P : Program} {w : World} {K : PySem.W.Frag} {h : Heap} {mg : PySem.Str → Option Value} {f : Addr} (X : K.In h) (G : h.Ns mainGlobals mg) (hfa : mg ("law" : PySem.Str) = some (.ref f)) (c : obsE fa fn gsl chk K = valE fn gsl) :
    ∃ fd : FuncData, (∀ (s : Shared) (v : Value), BindsTo s fd ⟨[v], []⟩ [("_law_script", v)]) ∧ ∀ base : Heap, K.In base → base.Ns mainGlobals mg → FnOkG P w K mg base CX0 9 f fd ["_law_script"] (spLaw K) := by
  have T : Says K mg := ⟨c, h, X, G⟩
  have e := hfa.symm.trans (T.glo_ 92 (x := "law"))
  have e2 : f = He.fAd K ("law", none) := by cases e; rfl
  subst e2
  have b := FunD.bindsA (ps := ["_law_script"]) (d_law T) fun _ _ _ _ _ _ us hl => match us, hl with | [_], _ => rfl
  exact ⟨fdOf K (He.fAd K ("law", none)), fun s v => b s [v] rfl, fun base _ _ => ok_law T⟩
end T85
open PySem PySem.W PySem.Calls PyProof.Rows
theorem PySem.Challenge.cw_fixrest_k81_whole_machines_of_loose_fixe_holds : PySem.Challenge.rw_fixrest_k81_whole_machines_of_loose_fixe.Holds := by
  w_on; o_law
  refine HandSHeadRun.head_any (r := T85.R) (q := T85.qv) (H := T85.hk) (ob := T85.ob) (M := 8000) (loose := T85.loose) (d := HandSHeadRun.topDef T85.R.prog 66) (kwd := []) T85.ob_eq
    (by kernel_rfl) (fun s => by kernel_rfl) T85.run (by kernel_rfl) (by kernel_rfl) (by kernel_rfl) (by rfl) (by first | assumption | decide +kernel) (by decide +kernel) ⟨rfl, rfl, rfl, rfl, rfl, by decide +kernel⟩ ?hw ?hc
  case hw => w_witness2
  case hc =>
    refine Fx.walk_ofG (l := PySem.Challenge.rw_fixrest_k81_whole_machines_of_loose_fixe) (n := 63) (k := 9) (x := "_law_script") rfl (by decide) (by kernel_rfl) ⟨rfl, by decide, by decide⟩ ?F
    intro w mg fa h Y G hmg0
    obtain ⟨K, KX, c⟩ := Y
    have hmg : mg ("law" : PySem.Str) = some (.ref fa) := by
      have e : (HandSHeadRun.topDef T85.R.prog 66).name = ("law" : PySem.Str) := by kernel_rfl
      rw [← e]
      exact hmg0
    obtain ⟨fd, hb, hF⟩ := T85.facts (P := (PySem.Challenge.rw_fixrest_k81_whole_machines_of_loose_fixe).prog) (w := w) KX G hmg c
    exact ⟨K, fd, T85.spLaw K, KX, hb, fun H a ns hl _ _ hS => ⟨a, ns, rfl, hS, fun _ => rfl⟩, hF⟩
