import PyProof.Rows.All
import Wide.All
import OpenK.AllK
import Wide.FinOn
import HandS.ForMost
import HandS.Evl
import HandS.Slots
import HandS.Star
import HandS.MethStar
import HandS.Defaults
import HandS.HeadHook2
import HandS.Flow
import HandS.Conv
import HandS.Zip
import HandS.IsInst
import HandS.TupAny
import HandS.DictComp
import HandS.GenYield
import HandS.GenCall
import HandS.Set
import KE.SortData
import HandS.Head0
import HandS.Head1
import HandS.Head2
import HandS.HeadEnd
import HandS.HeadHook1
import HandS.Strs
import HandS.SetFor
import HandS.More
import PyProof.TupleOfSeq
import HandS.Ends
import KE.KStateDown
import Lean
import PySem.Challenge.RW_crosshomes_k92_whole_who_stays_in_some_b
set_option Elab.async false
set_option linter.all false
set_option maxRecDepth 100000
set_option maxHeartbeats 0
/-! text K0 -/
/-! The text by places; what stays of a heap; lists walked by comprehensions. -/
namespace CH
open PySem L2 Evl

/-! ### the text -/
def top (i : Nat) : Stmt := PySem.Challenge.pw_crosshomes_k92_whole_who_stays_in_some_b.main.body.getD i (.Pass ⟨0, 0, 0, 0⟩)
def inn (i j : Nat) : Stmt := match top i with
  | .ClassDef _ _ _ body _ _ _ _ _ _ _ => body.getD j (.Pass ⟨0, 0, 0, 0⟩)
  | s => s
/-- the def st under the name x (qualified qual) as it stands at f -/
abbrev Fn (K : PySem.W.Frag) (x qual : Str) (st : Stmt) (dvs : List V) (kws : List (Str × V)) (f : Addr) : Prop := ∃ fd, FunD K x qual (defArgs st) (defBody st) (defScope st) dvs kws f fd

/-! ### what stays -/
/-- all that was tracked stays, but for a dict of tuples at d -/
def Exm (d : Addr) (H H' : Hp) : Prop := ∀ a o, H a = some o → (a = d → ∀ kvs, o ≠ .dT kvs) → H' a = some o
structure Kp (R : Hp → Hp → Prop) : Prop where
  refl : ∀ H, R H H
  trans : ∀ {H H1 H2}, R H H1 → R H1 H2 → R H H2
  ex : ∀ {H H'}, Ex H H' → R H H'
  keep : ∀ {H H' a o}, R H H' → H a = some o → (∀ kvs, o ≠ .dT kvs) → H' a = some o
  mtn : ∀ {H H' p o}, R H H' → H p = none → R H (upd H' p o)
theorem kpE : Kp Ex := ⟨Ex.refl, fun a b => a.trans b, fun h => h, fun h e _ => h _ _ e, fun h n => Ex.mut h n⟩
theorem kpM (d : Addr) : Kp (Exm d) where
  refl := fun _ _ _ h _ => h
  trans := fun a b x o h k => b x o (a x o h k) k
  ex := fun h x o e _ => h x o e
  keep := fun h e k => h _ _ e fun _ => k
  mtn := fun h n x o e k => by
    rw [upd_ne (ne_of_none e n)]
    exact h x o e k
section
variable {R : Hp → Hp → Prop} {K : PySem.W.Frag} {H H' H1 : Hp} {a p : Addr} {xs : List V}
theorem Kp.new (kp : Kp R) {o : HO} (h : H p = none) : R H (upd H p o) := kp.ex (Ex.new h)
theorem Kp.tup (kp : Kp R) (h : R H H') (e : SqT K H a xs) : SqT K H' a xs := by
  rcases e with (e | ⟨o, e⟩) | e
  · exact .inl (.inl (kp.keep h e fun _ z => by cases z))
  · exact .inl (.inr ⟨o, kp.keep h e fun _ z => by cases z⟩)
  · exact .inr e
theorem Kp.lst (kp : Kp R) (h : R H H') (e : SqL K H a xs) : SqL K H' a xs := by
  rcases e with (e | ⟨o, e⟩) | e
  · exact .inl (.inl (kp.keep h e fun _ z => by cases z))
  · exact .inl (.inr ⟨o, kp.keep h e fun _ z => by cases z⟩)
  · exact .inr e
theorem Kp.free (kp : Kp R) (h : R H H') (hd : ∀ kvs, H p ≠ some (.dT kvs)) (n : H' p = none) : H p = none := by
  cases e : H p with
  | none => rfl
  | some o =>
    have := kp.keep h e fun kvs z => hd kvs (by rw [e, z])
    rw [n] at this
    cases this
end

/-! ### comprehensions over a tuple, a list -/
/-- a test, a value that leaves what is known (up to R) -/
def EvTR (R : Hp → Hp → Prop) (tt : TT) (σ : L2.St) (H : Hp) (b : Bool) : Prop := ∀ Q : Bool → Hp → Prop, (∀ H', R H H' → Q b H') → tt σ H Q
def EvR (R : Hp → Hp → Prop) (te : TE) (σ : L2.St) (H : Hp) (p : V → Hp → Prop) : Prop := ∀ Q : VK, (∀ v H', R H H' → p v H' → Q v H') → te σ H Q
section
variable {R : Hp → Hp → Prop} {K : PySem.W.Frag} {σ : L2.St} {H H' H1 : Hp} {g : TG} {tt : TT} {te : TE} {vs : List Nat} {Q : Addr → Hp → Prop} {a D : Addr} {xs : List V} {P : Nat → List V → Hp → Prop} {i : Nat} {y : V}
/-- the state of a comprehension: acc was made of the items so far -/
def LcOk (R : Hp → Hp → Prop) (H1 : Hp) (D : Addr) (P : Nat → List V → Hp → Prop) (i : Nat) (H : Hp) : Prop :=
  H1 D = none ∧ i ≤ 100000 ∧ ∃ acc : List V, acc.length ≤ i ∧ R H1 H ∧ H D = some (.lst acc) ∧ P i acc H
theorem LcOk.step (o : LcOk R H1 D P i H) : R H1 H := let ⟨_, _, _, _, r, _, _⟩ := o; r
theorem LcOk.fresh (o : LcOk R H1 D P i H) : H1 D = none := o.1
theorem LcOk.yes (kp : Kp R) (hP : ∀ i acc H H', P i acc H → R H H' → P i acc H') (hn : ∀ i acc H (l o : List V), H D = some (.lst l) → P i acc H → P i acc (upd H D (.lst o))) (o : LcOk R H1 D P i H) (hi : i < 100000) (r : R H H') (p : ∀ acc, P i acc H → P (i + 1) (acc ++ [y]) H') :
    ∃ acc, H' D = some (.lst acc) ∧ acc.length < sizeLine ∧ LcOk R H1 D P (i + 1) (upd H' D (.lst (acc ++ [y]))) := by
  obtain ⟨h1, _, acc, h2, h3, h4, h5⟩ := o
  refine ⟨acc, kp.keep r h4 (fun _ z => by cases z), sz_lt (Nat.lt_of_le_of_lt h2 hi), h1, hi, acc ++ [y], ?_, kp.mtn (kp.trans h3 r) h1, upd_same, hn _ _ _ _ _ (kp.keep r h4 fun _ z => by cases z) (p acc h5)⟩
  rw [List.length_append, List.length_singleton]
  omega
theorem LcOk.no (kp : Kp R) (o : LcOk R H1 D P i H) (hi : i < 100000) (r : R H H') (p : ∀ acc, P i acc H → P (i + 1) acc H') : LcOk R H1 D P (i + 1) H' := by
  obtain ⟨h1, _, acc, h2, h3, h4, h5⟩ := o
  exact ⟨h1, hi, acc, Nat.le_succ_of_le h2, kp.trans h3 r, kp.keep r h4 (fun _ z => by cases z), p acc h5⟩
theorem lcT_in (kp : Kp R) (P : Nat → List V → Hp → Prop) (hx : SqT K H1 a xs) (hz : xs.length ≤ 100000) (p0 : ∀ D, H1 D = none → P 0 [] (upd H1 D (.lst [])))
    (hs : ∀ D i x H', i < 100000 → xs[i]? = some x → LcOk R H1 D P i H' → g x (wipe σ vs) H' fun σ2 H2 => wipe σ2 vs = wipe σ vs ∧ tt σ2 H2 fun b H3 =>
      if b = true then te σ2 H3 fun y H4 => ∃ acc, H4 D = some (.lst acc) ∧ acc.length < sizeLine ∧ LcOk R H1 D P (i + 1) (upd H4 D (.lst (acc ++ [y]))) else LcOk R H1 D P (i + 1) H3)
    (hd : ∀ D H' acc, H1 D = none → R H1 H' → H' D = some (.lst acc) → P xs.length acc H' → Q D H') :
    ∃ a', V.ref a = .ref a' ∧ (∃ xs, SqT K H1 a' xs) ∧ ∀ D, H1 D = none → ∃ W : Nat → Nat → Hp → Prop, (∃ m, W 0 m (upd H1 D (.lst []))) ∧ ∀ i m H, W i m H →
      ((Itt K a').stop i H ∧ Q D H) ∨ ((Itt K a').go i H ∧ ∃ Nx : Hp → Prop, (∀ H', Nx H' → ∃ m', m' < m ∧ W (i + 1) m' H') ∧ ∀ x H', (Itt K a').yld i H x H' → g x (wipe σ vs) H' fun σ2 H2 => wipe σ2 vs = wipe σ vs ∧ tt σ2 H2 fun b H3 =>
        if b = true then te σ2 H3 fun y H4 => ∃ acc, H4 D = some (.lst acc) ∧ acc.length < sizeLine ∧ Nx (upd H4 D (.lst (acc ++ [y]))) else Nx H3) :=
  ⟨a, rfl, ⟨xs, hx⟩, fun D hD => lc_tup (K := K) (a := a) (xs := xs) (LcOk R H1 D P) ⟨hD, Nat.zero_le _, [], Nat.le_refl _, kp.mtn (kp.refl _) hD, upd_same, p0 D hD⟩ (fun i H _ o => kp.tup o.step hx)
    (fun i x H hi o => hs D i x H (Nat.lt_of_lt_of_le (List.getElem?_eq_some_iff.mp hi).1 hz) hi o) (fun H o => by
      obtain ⟨h1, _, acc, h2, h3, h4, h5⟩ := o
      exact hd D H acc h1 h3 h4 h5)⟩
theorem lcL_in (kp : Kp R) (P : Nat → List V → Hp → Prop) (hx : SqL K H1 a xs) (hz : xs.length ≤ 100000) (p0 : ∀ D, H1 D = none → P 0 [] (upd H1 D (.lst [])))
    (hs : ∀ D i x H', i < 100000 → xs[i]? = some x → LcOk R H1 D P i H' → g x (wipe σ vs) H' fun σ2 H2 => wipe σ2 vs = wipe σ vs ∧ tt σ2 H2 fun b H3 =>
      if b = true then te σ2 H3 fun y H4 => ∃ acc, H4 D = some (.lst acc) ∧ acc.length < sizeLine ∧ LcOk R H1 D P (i + 1) (upd H4 D (.lst (acc ++ [y]))) else LcOk R H1 D P (i + 1) H3)
    (hd : ∀ D H' acc, H1 D = none → R H1 H' → H' D = some (.lst acc) → P xs.length acc H' → Q D H') :
    ∃ a', V.ref a = .ref a' ∧ (∃ xs, SqL K H1 a' xs) ∧ ∀ D, H1 D = none → ∃ W : Nat → Nat → Hp → Prop, (∃ m, W 0 m (upd H1 D (.lst []))) ∧ ∀ i m H, W i m H →
      ((Itl K a').stop i H ∧ Q D H) ∨ ((Itl K a').go i H ∧ ∃ Nx : Hp → Prop, (∀ H', Nx H' → ∃ m', m' < m ∧ W (i + 1) m' H') ∧ ∀ x H', (Itl K a').yld i H x H' → g x (wipe σ vs) H' fun σ2 H2 => wipe σ2 vs = wipe σ vs ∧ tt σ2 H2 fun b H3 =>
        if b = true then te σ2 H3 fun y H4 => ∃ acc, H4 D = some (.lst acc) ∧ acc.length < sizeLine ∧ Nx (upd H4 D (.lst (acc ++ [y]))) else Nx H3) :=
  ⟨a, rfl, ⟨xs, hx⟩, fun D hD => lc_list (K := K) (a := a) (xs := xs) (LcOk R H1 D P) ⟨hD, Nat.zero_le _, [], Nat.le_refl _, kp.mtn (kp.refl _) hD, upd_same, p0 D hD⟩ (fun i H _ o => kp.lst o.step hx)
    (fun i x H hi o => hs D i x H (Nat.lt_of_lt_of_le (List.getElem?_eq_some_iff.mp hi).1 hz) hi o) (fun H o => by
      obtain ⟨h1, _, acc, h2, h3, h4, h5⟩ := o
      exact hd D H acc h1 h3 h4 h5)⟩
end
/-- the items so far that pass -/
theorem take_yes {α : Type} {f : α → Bool} {l : List α} {i : Nat} {x : α} (h : l[i]? = some x) (hf : f x = true) : (l.take (i + 1)).filter f = (l.take i).filter f ++ [x] := by
  rw [List.take_add_one, h, List.filter_append]
  show _ ++ List.filter f [x] = _
  rw [List.filter_cons, if_pos hf]
  rfl
theorem take_no {α : Type} {f : α → Bool} {l : List α} {i : Nat} {x : α} (h : l[i]? = some x) (hf : f x = false) : (l.take (i + 1)).filter f = (l.take i).filter f := by
  rw [List.take_add_one, h, List.filter_append]
  show _ ++ List.filter f [x] = _
  rw [List.filter_cons, if_neg (by rw [hf]; decide)]
  exact List.append_nil _
section
variable {R : Hp → Hp → Prop} {K : PySem.W.Frag} {σ : L2.St} {H1 : Hp} {tt : TT} {vs : List Nat} {Q : Addr → Hp → Prop} {a : Addr} {α : Type} {j : Nat}
/-- the items of a tuple that pass a test; enc: how an item stands -/
theorem fltT (kp : Kp R) (enc : α → V) (f : α → Bool) (ns : List α) (hx : SqT K H1 a (ns.map enc)) (hz : ns.length ≤ 100000) (hj : j < (wipe σ vs).length) (hw : ∀ x, wipe ((wipe σ vs).set j (some x)) vs = wipe σ vs)
    (ht : ∀ n H', n ∈ ns → R H1 H' → EvTR R tt ((wipe σ vs).set j (some (enc n))) H' (f n)) (hd : ∀ D H', H1 D = none → R H1 H' → H' D = some (.lst ((ns.filter f).map enc)) → Q D H') :
    ∃ a', V.ref a = .ref a' ∧ (∃ xs, SqT K H1 a' xs) ∧ ∀ D, H1 D = none → ∃ W : Nat → Nat → Hp → Prop, (∃ m, W 0 m (upd H1 D (.lst []))) ∧ ∀ i m H, W i m H →
      ((Itt K a').stop i H ∧ Q D H) ∨ ((Itt K a').go i H ∧ ∃ Nx : Hp → Prop, (∀ H', Nx H' → ∃ m', m' < m ∧ W (i + 1) m' H') ∧ ∀ x H', (Itt K a').yld i H x H' → gName j x (wipe σ vs) H' fun σ2 H2 => wipe σ2 vs = wipe σ vs ∧ tt σ2 H2 fun b H3 =>
        if b = true then tVar j σ2 H3 fun y H4 => ∃ acc, H4 D = some (.lst acc) ∧ acc.length < sizeLine ∧ Nx (upd H4 D (.lst (acc ++ [y]))) else Nx H3) := by
  refine lcT_in kp (fun i acc _ => acc = ((ns.take i).filter f).map enc) hx (by rw [List.length_map]; exact hz) (fun _ _ => rfl) (fun D i x H' hi hxi o => ?_) (fun D H' acc h1 h2 h3 h4 => ?_)
  · rw [List.getElem?_map] at hxi
    cases e : ns[i]? with
    | none => rw [e] at hxi; cases hxi
    | some n =>
      rw [e] at hxi
      have ex : enc n = x := Option.some.inj hxi
      subst ex
      refine ⟨hw _, ht n H' (List.mem_of_getElem? e) o.step _ fun H3 r => ?_⟩
      cases hf : f n with
      | true =>
        refine iteT ⟨enc n, List.getElem?_set_self hj, o.yes kp (fun _ _ _ _ p _ => p) (fun _ _ _ _ _ _ p => p) hi r fun acc p => ?_⟩
        show acc ++ [enc n] = ((ns.take (i + 1)).filter f).map enc
        rw [take_yes e hf, List.map_append, p]
        rfl
      | false =>
        refine iteF (o.no kp hi r fun acc p => ?_)
        show acc = ((ns.take (i + 1)).filter f).map enc
        rw [take_no e hf]
        exact p
  · refine hd D H' h1 h2 ?_
    rw [h3, h4, List.length_map, List.take_length]
theorem fltL (kp : Kp R) (enc : α → V) (f : α → Bool) (ns : List α) (hx : SqL K H1 a (ns.map enc)) (hz : ns.length ≤ 100000) (hj : j < (wipe σ vs).length) (hw : ∀ x, wipe ((wipe σ vs).set j (some x)) vs = wipe σ vs)
    (ht : ∀ n H', n ∈ ns → R H1 H' → EvTR R tt ((wipe σ vs).set j (some (enc n))) H' (f n)) (hd : ∀ D H', H1 D = none → R H1 H' → H' D = some (.lst ((ns.filter f).map enc)) → Q D H') :
    ∃ a', V.ref a = .ref a' ∧ (∃ xs, SqL K H1 a' xs) ∧ ∀ D, H1 D = none → ∃ W : Nat → Nat → Hp → Prop, (∃ m, W 0 m (upd H1 D (.lst []))) ∧ ∀ i m H, W i m H →
      ((Itl K a').stop i H ∧ Q D H) ∨ ((Itl K a').go i H ∧ ∃ Nx : Hp → Prop, (∀ H', Nx H' → ∃ m', m' < m ∧ W (i + 1) m' H') ∧ ∀ x H', (Itl K a').yld i H x H' → gName j x (wipe σ vs) H' fun σ2 H2 => wipe σ2 vs = wipe σ vs ∧ tt σ2 H2 fun b H3 =>
        if b = true then tVar j σ2 H3 fun y H4 => ∃ acc, H4 D = some (.lst acc) ∧ acc.length < sizeLine ∧ Nx (upd H4 D (.lst (acc ++ [y]))) else Nx H3) := by
  refine lcL_in kp (fun i acc _ => acc = ((ns.take i).filter f).map enc) hx (by rw [List.length_map]; exact hz) (fun _ _ => rfl) (fun D i x H' hi hxi o => ?_) (fun D H' acc h1 h2 h3 h4 => ?_)
  · rw [List.getElem?_map] at hxi
    cases e : ns[i]? with
    | none => rw [e] at hxi; cases hxi
    | some n =>
      rw [e] at hxi
      have ex : enc n = x := Option.some.inj hxi
      subst ex
      refine ⟨hw _, ht n H' (List.mem_of_getElem? e) o.step _ fun H3 r => ?_⟩
      cases hf : f n with
      | true =>
        refine iteT ⟨enc n, List.getElem?_set_self hj, o.yes kp (fun _ _ _ _ p _ => p) (fun _ _ _ _ _ _ p => p) hi r fun acc p => ?_⟩
        show acc ++ [enc n] = ((ns.take (i + 1)).filter f).map enc
        rw [take_yes e hf, List.map_append, p]
        rfl
      | false =>
        refine iteF (o.no kp hi r fun acc p => ?_)
        show acc = ((ns.take (i + 1)).filter f).map enc
        rw [take_no e hf]
        exact p
  · refine hd D H' h1 h2 ?_
    rw [h3, h4, List.length_map, List.take_length]
end
end CH
/-! text HD1 -/
/-! The head's own Hook: any Bool facts. -/
namespace CH
open PySem PySem.Spec PyProof.Rows L2 Evl
abbrev FB := PySem.W.Frag → Bool
def obsK (fs : List FB) (fn : List He.DefD) (K : PySem.W.Frag) : He.AlD := ((fs.all fun f => f K) && fn.all fun d => d.ok K, fn.map fun d => He.fnW K d.at_)
def SaysK (fs : List FB) (fn : List He.DefD) (K : PySem.W.Frag) : Prop := obsK fs fn K = He.valD fn
def obsKG (n : Nat) (fs : List FB) (fn : List He.DefD) (g : Addr → Option Obj) : He.AlD := obsK fs fn (He.frG g (He.asD g n))
def hookK (n : Nat) (fs : List FB) (fn : List He.DefD) : PySem.W.Hook where
  α := He.AlD
  obs := fun s => obsKG n fs fn s.heap.get?
  val := fun _ => He.valD fn
  says := fun _ h => ∃ K : PySem.W.Frag, K.In h ∧ SaysK fs fn K
  of := fun _ _ e => ⟨_, He.frG_in, e⟩
  keeps := fun _ _ _ ⟨K, hK, c⟩ k => ⟨K, PySem.W.Frag.In.keeps hK k, c⟩
theorem obsKG_eq {n : Nat} {fs : List FB} {fn : List He.DefD} {g : Addr → Option Obj} {s : Shared} (h : ∀ a, g a = s.heap.get? a) : obsKG n fs fn g = (hookK n fs fn).obs s := by
  have e : g = s.heap.get? := funext h
  rw [e] <;> rfl
section
variable {fs : List FB} {fn : List He.DefD} {K : PySem.W.Frag}
theorem SaysK.fact (c : SaysK fs fn K) {f : FB} (h : f ∈ fs) : f K = true := by
  have c1 := (He.ba (show ((fs.all fun f => f K) && fn.all fun d => d.ok K) = true from congrArg (fun z : He.AlD => z.1) c)).1
  exact List.all_eq_true.mp c1 f h
theorem SaysK.at (c : SaysK fs fn K) (i : Nat) {f : FB} (h : fs[i]? = some f) : f K = true := c.fact (List.mem_of_getElem? h)
theorem SaysK.def_ (c : SaysK fs fn K) (i : Nat) {d : He.DefD} (h : fn[i]? = some d) : ∃ fd, FunD K d.name d.qual d.params d.body d.scope (d.dvs K) (d.kws K) (He.fAd K d.at_) fd := by
  have c2 := (He.ba (show ((fs.all fun f => f K) && fn.all fun d => d.ok K) = true from congrArg (fun z : He.AlD => z.1) c)).2
  have e : fn.map (fun d => He.fnW K d.at_) = fn.map He.DefD.val := congrArg (fun z : He.AlD => z.2) c
  have e2 : (fn.map fun d => He.fnW K d.at_)[i]? = (fn.map He.DefD.val)[i]? := by rw [e]
  rw [List.getElem?_map, List.getElem?_map, h] at e2
  exact He.DefD.funD (Option.some.inj e2) (List.all_eq_true.mp c2 d (List.mem_of_getElem? h))
end
/-! the facts -/
def bFa (x : He.Fa) : FB := fun K => x.ok K
def bScl (x : Str) : FB := fun K => PySem.W.plainGet K (He.ga K x) Str.empty && (PySem.W.isClsIn K (He.ga K x) && (PySem.W.plainOver K (He.ga K x) && He.eqO (PySem.W.findIn K (.ref (He.ga K x)) "__setattr__") (some (some (.builtin "object.__setattr__")))))
theorem scl_ok {K : PySem.W.Frag} {x : Str} (c : bScl x K = true) : SlX.SCls K (He.ga K x) := by
  obtain ⟨c1, c⟩ := He.ba c
  obtain ⟨c2, c⟩ := He.ba c
  obtain ⟨c3, c4⟩ := He.ba c
  exact ⟨c1, c2, c3, He.eqO_ok c4⟩
def bSlot (x f : Str) (i : Nat) : FB := fun K => He.eqO (PySem.W.findIn K (.ref (He.ga K x)) f) (some (some (.ref (He.ma K (He.ga K x) f)))) && (He.eqO (PySem.W.specialIn K (.ref (He.ma K (He.ga K x) f)) "__get__") (some (some (.builtin "member_descriptor.__get__"))) &&
  (decide (PySem.W.takesIn K (.ref (He.ma K (He.ga K x) f)) = some true) && (decide (PySem.W.typeIn K (.ref (He.ma K (He.ga K x) f)) = some (.type "member_descriptor")) && decide (PySem.W.slotIn K (He.ma K (He.ga K x) f) (He.ga K x) = some i))))
theorem slot_ok {K : PySem.W.Frag} {x f : Str} {i : Nat} (c : bSlot x f i K = true) (hi : i < 1000) : ∃ p, SlX.Slot1 K (He.ga K x) f p i := by
  obtain ⟨c1, c⟩ := He.ba c
  obtain ⟨c2, c⟩ := He.ba c
  obtain ⟨c3, c⟩ := He.ba c
  obtain ⟨c4, c5⟩ := He.ba c
  exact ⟨_, He.eqO_ok c1, He.eqO_ok c2, of_decide_eq_true c3, of_decide_eq_true c4, of_decide_eq_true c5, hi⟩
def bBm (x m : Str) : FB := fun K => (He.Fa.meth x m).ok K && (He.eqO (PySem.W.specialIn K (.ref (He.ma K (He.ga K x) m)) "__get__") (some (some (.builtin "function.__get__"))) && (decide (PySem.W.takesIn K (.ref (He.ma K (He.ga K x) m)) = some false) && (!PySem.W.copiedNames.contains m && PySem.W.fnIn K (He.ma K (He.ga K x) m))))
theorem bm_ok {K : PySem.W.Frag} {x m : Str} (c : bBm x m K = true) : BMeth K (He.ga K x) m (He.ma K (He.ga K x) m) := by
  obtain ⟨c1, c⟩ := He.ba c
  obtain ⟨c2, c⟩ := He.ba c
  obtain ⟨c3, c⟩ := He.ba c
  obtain ⟨c4, c5⟩ := He.ba c
  refine ⟨He.meth_ok c1, He.eqO_ok c2, of_decide_eq_true c3, ?_, c5⟩
  cases e : PySem.W.copiedNames.contains m with
  | false => rfl
  | true => rw [e] at c4; cases c4
def bNo (x : Str) : FB := fun K => decide (PySem.W.kitOne K (.type "list") (.ref (He.ga K x)) = some false)
theorem no_ok {K : PySem.W.Frag} {x : Str} (c : bNo x K = true) : PySem.W.kitOne K (.type "list") (.ref (He.ga K x)) = some false := of_decide_eq_true c
def bEmp (p : PySem.W.Frag → Addr) : FB := fun K => match K.lookup (p K) with
  | some ⟨.type c, _, .seq its _, _⟩ => decide (c = "tuple") && decide (its.toList = [])
  | _ => false
/-- the keyword default of the def at f, if it is an object -/
def kwAt (f : Str × Option Str) (x : Str) (K : PySem.W.Frag) : Addr := match K.lookup (He.fAd K f) with
  | some ⟨_, _, .func fd, _⟩ => (match fd.kwdefaults with
    | .ref D => (match PySem.W.nsIn K D x with
      | some (some (.ref a)) => a
      | _ => 0)
    | _ => 0)
  | _ => 0
end CH
/-! text HD2 -/
/-! The head: facts, the run. Printed by genhd.py. -/
namespace CH
open PySem PySem.Spec PyProof.Rows L2 Evl
def dd0 : He.DefD := ⟨("but", none), "but", "but", defArgs (top 16), defBody (top 16), defScope (top 16), [], []⟩
def dd1 : He.DefD := ⟨("tupled", none), "tupled", "tupled", defArgs (top 6), defBody (top 6), defScope (top 6), [], []⟩
def dd2 : He.DefD := ⟨("as_set", none), "as_set", "as_set", defArgs (top 10), defBody (top 10), defScope (top 10), [], []⟩
def dd3 : He.DefD := ⟨("is_name", none), "is_name", "is_name", defArgs (top 7), defBody (top 7), defScope (top 7), [], []⟩
def dd4 : He.DefD := ⟨("rises", none), "rises", "rises", defArgs (top 8), defBody (top 8), defScope (top 8), [], []⟩
def dd5 : He.DefD := ⟨("is_set", none), "is_set", "is_set", defArgs (top 9), defBody (top 9), defScope (top 9), [], []⟩
def dd6 : He.DefD := ⟨("is_odd", none), "is_odd", "is_odd", defArgs (top 18), defBody (top 18), defScope (top 18), [], []⟩
def dd7 : He.DefD := ⟨("most_swaps", none), "most_swaps", "most_swaps", defArgs (top 19), defBody (top 19), defScope (top 19), [], [("without", .adr (kwAt ("most_swaps", none) "without"))]⟩
def dd8 : He.DefD := ⟨("kinds", none), "kinds", "kinds", defArgs (top 22), defBody (top 22), defScope (top 22), [], []⟩
def dd9 : He.DefD := ⟨("suited_to", none), "suited_to", "suited_to", defArgs (top 13), defBody (top 13), defScope (top 13), [], []⟩
def dd10 : He.DefD := ⟨("leaves", none), "leaves", "leaves", defArgs (top 23), defBody (top 23), defScope (top 23), [], []⟩
def dd11 : He.DefD := ⟨("parts_in", none), "parts_in", "parts_in", defArgs (top 21), defBody (top 21), defScope (top 21), [], [("odd", .non)]⟩
def dd12 : He.DefD := ⟨("is_barrier", none), "is_barrier", "is_barrier", defArgs (top 24), defBody (top 24), defScope (top 24), [], []⟩
def dd13 : He.DefD := ⟨("gain_by_household", none), "gain_by_household", "gain_by_household", defArgs (top 33), defBody (top 33), defScope (top 33), [], []⟩
def dd14 : He.DefD := ⟨("loss_by_household", none), "loss_by_household", "loss_by_household", defArgs (top 34), defBody (top 34), defScope (top 34), [], []⟩
def dd15 : He.DefD := ⟨("can_leave", none), "can_leave", "can_leave", defArgs (top 35), defBody (top 35), defScope (top 35), [], []⟩
def dd16 : He.DefD := ⟨("names_of", none), "names_of", "names_of", defArgs (top 27), defBody (top 27), defScope (top 27), [], []⟩
def dd17 : He.DefD := ⟨("line_of", none), "line_of", "line_of", defArgs (top 29), defBody (top 29), defScope (top 29), [.adr (He.dflAt ("line_of", none) 0)], []⟩
def dd18 : He.DefD := ⟨("kept", none), "kept", "kept", defArgs (top 30), defBody (top 30), defScope (top 30), [], [("first", .adr (kwAt ("kept", none) "first"))]⟩
def dd19 : He.DefD := ⟨("every_swaps", none), "every_swaps", "every_swaps", defArgs (top 20), defBody (top 20), defScope (top 20), [], [("without", .adr (kwAt ("every_swaps", none) "without"))]⟩
def dd20 : He.DefD := ⟨("Sheet", some "__init__"), "__init__", "Sheet.__init__", defArgs (inn 12 1), defBody (inn 12 1), defScope (inn 12 1), [], []⟩
def dd21 : He.DefD := ⟨("Sheet", some "names"), "names", "Sheet.names", defArgs (inn 12 2), defBody (inn 12 2), defScope (inn 12 2), [], []⟩
def dd22 : He.DefD := ⟨("Sheet", some "check"), "check", "Sheet.check", defArgs (inn 12 7), defBody (inn 12 7), defScope (inn 12 7), [], []⟩
def dd23 : He.DefD := ⟨("Sheet", some "checked"), "checked", "Sheet.checked", defArgs (inn 12 8), defBody (inn 12 8), defScope (inn 12 8), [], []⟩
def dd24 : He.DefD := ⟨("Sheet", some "suit"), "suit", "Sheet.suit", defArgs (inn 12 12), defBody (inn 12 12), defScope (inn 12 12), [], []⟩
def dd25 : He.DefD := ⟨("Sheet", some "suited"), "suited", "Sheet.suited", defArgs (inn 12 13), defBody (inn 12 13), defScope (inn 12 13), [], []⟩
def dd26 : He.DefD := ⟨("Swapping", some "__init__"), "__init__", "Swapping.__init__", defArgs (inn 17 1), defBody (inn 17 1), defScope (inn 17 1), [.adr (He.dflAt ("Swapping", some "__init__") 0)], []⟩
def dd27 : He.DefD := ⟨("Swapping", some "names"), "names", "Swapping.names", defArgs (inn 17 2), defBody (inn 17 2), defScope (inn 17 2), [], []⟩
def dd28 : He.DefD := ⟨("Swapping", some "near"), "near", "Swapping.near", defArgs (inn 17 3), defBody (inn 17 3), defScope (inn 17 3), [], []⟩
def dd29 : He.DefD := ⟨("Swapping", some "most"), "most", "Swapping.most", defArgs (inn 17 5), defBody (inn 17 5), defScope (inn 17 5), [], []⟩
def dd30 : He.DefD := ⟨("Swapping", some "most_of_all"), "most_of_all", "Swapping.most_of_all", defArgs (inn 17 6), defBody (inn 17 6), defScope (inn 17 6), [], []⟩
def dd31 : He.DefD := ⟨("Swapping", some "behind"), "behind", "Swapping.behind", defArgs (inn 17 7), defBody (inn 17 7), defScope (inn 17 7), [], []⟩
def dd32 : He.DefD := ⟨("Swapping", some "firsts"), "firsts", "Swapping.firsts", defArgs (inn 17 8), defBody (inn 17 8), defScope (inn 17 8), [], []⟩
def dd33 : He.DefD := ⟨("Swapping", some "is_open"), "is_open", "Swapping.is_open", defArgs (inn 17 11), defBody (inn 17 11), defScope (inn 17 11), [], []⟩
def dd34 : He.DefD := ⟨("Swapping", some "least"), "least", "Swapping.least", defArgs (inn 17 10), defBody (inn 17 10), defScope (inn 17 10), [], []⟩
def dd35 : He.DefD := ⟨("Swapping", some "lump"), "lump", "Swapping.lump", defArgs (inn 17 14), defBody (inn 17 14), defScope (inn 17 14), [], []⟩
def dd36 : He.DefD := ⟨("Swapping", some "lumps"), "lumps", "Swapping.lumps", defArgs (inn 17 15), defBody (inn 17 15), defScope (inn 17 15), [], []⟩
def dd37 : He.DefD := ⟨("Swapping", some "every"), "every", "Swapping.every", defArgs (inn 17 9), defBody (inn 17 9), defScope (inn 17 9), [], []⟩
def dd38 : He.DefD := ⟨("Together", some "__init__"), "__init__", "Together.__init__", defArgs (inn 28 1), defBody (inn 28 1), defScope (inn 28 1), [], []⟩
def dd39 : He.DefD := ⟨("Together", some "can"), "can", "Together.can", defArgs (inn 28 3), defBody (inn 28 3), defScope (inn 28 3), [], []⟩
def dd40 : He.DefD := ⟨("Together", some "kept"), "kept", "Together.kept", defArgs (inn 28 4), defBody (inn 28 4), defScope (inn 28 4), [], []⟩
def dd41 : He.DefD := ⟨("_law_box", none), "_law_box", "_law_box", defArgs (top 37), defBody (top 37), defScope (top 37), [], []⟩
def dd42 : He.DefD := ⟨("_law_take", none), "_law_take", "_law_take", defArgs (top 38), defBody (top 38), defScope (top 38), [], []⟩
def dd43 : He.DefD := ⟨("_law_cells", none), "_law_cells", "_law_cells", defArgs (top 39), defBody (top 39), defScope (top 39), [], []⟩
def dd44 : He.DefD := ⟨("_law_same", none), "_law_same", "_law_same", defArgs (top 40), defBody (top 40), defScope (top 40), [], []⟩
def dd45 : He.DefD := ⟨("_law_few", none), "_law_few", "_law_few", defArgs (top 41), defBody (top 41), defScope (top 41), [], []⟩
def dd46 : He.DefD := ⟨("_law_mixed", none), "_law_mixed", "_law_mixed", defArgs (top 42), defBody (top 42), defScope (top 42), [], []⟩
def dd47 : He.DefD := ⟨("_law_book", none), "_law_book", "_law_book", defArgs (top 43), defBody (top 43), defScope (top 43), [], []⟩
def dd48 : He.DefD := ⟨("_law_all", none), "_law_all", "_law_all", defArgs (top 44), defBody (top 44), defScope (top 44), [], []⟩
def dd49 : He.DefD := ⟨("_law_case_right", none), "_law_case_right", "_law_case_right", defArgs (top 45), defBody (top 45), defScope (top 45), [], []⟩
def dd50 : He.DefD := ⟨("_law_known_right", none), "_law_known_right", "_law_known_right", defArgs (top 46), defBody (top 46), defScope (top 46), [], []⟩
def dd51 : He.DefD := ⟨("_law_right", none), "_law_right", "_law_right", defArgs (top 47), defBody (top 47), defScope (top 47), [], []⟩
def dd52 : He.DefD := ⟨("law", none), "law", "law", defArgs (top 48), defBody (top 48), defScope (top 48), [], []⟩
def hfn0 : List He.DefD := [dd0, dd1, dd2, dd3, dd4, dd5, dd6, dd7, dd8, dd9, dd10, dd11, dd12, dd13, dd14, dd15, dd16, dd17, dd18, dd19]
def hfn1 : List He.DefD := [dd20, dd21, dd22, dd23, dd24, dd25, dd26, dd27, dd28, dd29, dd30, dd31, dd32, dd33, dd34, dd35, dd36, dd37, dd38, dd39]
def hfn2 : List He.DefD := [dd40, dd41, dd42, dd43, dd44, dd45, dd46, dd47, dd48, dd49, dd50, dd51, dd52]
def hfn : List He.DefD := hfn0 ++ (hfn1 ++ (hfn2))
def hfs0 : List FB := [bFa (.free "tuple"), bFa (.free "list"), bFa (.free "len"), bFa (.free "sorted"), bFa (.free "set"), bFa (.free "range"), bFa (.free "max"), bFa (.free "any"), bFa (.free "all"), bFa (.free "isinstance"), bFa (.free "zip"), bFa (.free "enumerate"), bFa (.free "int"), bFa (.free "bool"), bFa (.free "str"), bFa (.free "abs"), bFa (.str "LETTERS" "abcdefghijklmnopqrstuvwxyz"), bFa (.int "LONGEST" 8), bFa (.int "PAIR" 2), bFa (.int "BOTH" 2)]
def hfs1 : List FB := [bFa (.glo "but"), bFa (.glo "tupled"), bFa (.glo "as_set"), bFa (.glo "is_name"), bFa (.glo "rises"), bFa (.glo "is_set"), bFa (.glo "is_odd"), bFa (.glo "most_swaps"), bFa (.glo "kinds"), bFa (.glo "suited_to"), bFa (.glo "leaves"), bFa (.glo "parts_in"), bFa (.glo "is_barrier"), bFa (.glo "gain_by_household"), bFa (.glo "loss_by_household"), bFa (.glo "can_leave"), bFa (.glo "names_of"), bFa (.glo "line_of"), bFa (.glo "kept"), bFa (.glo "every_swaps")]
def hfs2 : List FB := [bFa (.glo "_law_box"), bFa (.glo "_law_take"), bFa (.glo "_law_cells"), bFa (.glo "_law_same"), bFa (.glo "_law_few"), bFa (.glo "_law_mixed"), bFa (.glo "_law_book"), bFa (.glo "_law_all"), bFa (.glo "_law_case_right"), bFa (.glo "_law_known_right"), bFa (.glo "_law_right"), bFa (.glo "law"), bFa (.glo "Sheet"), bFa (.glo "Swapping"), bFa (.glo "Together"), bFa (.glo "Order"), bScl "Sheet", bFa (.mkr "Sheet"), bScl "Swapping", bFa (.mkr "Swapping")]
def hfs3 : List FB := [bScl "Together", bFa (.mkr "Together"), bNo "Order", bSlot "Sheet" "own_empties" 0, bSlot "Sheet" "own_homes" 1, bSlot "Sheet" "own_rows" 2, bSlot "Swapping" "own_known" 0, bSlot "Swapping" "own_names" 1, bSlot "Swapping" "own_near" 2, bSlot "Swapping" "own_pairs" 3, bSlot "Together" "own_best" 0, bSlot "Together" "own_names" 1, bSlot "Together" "own_sheet" 2, bFa (.meth "Sheet" "names"), bFa (.meth "Sheet" "check"), bFa (.meth "Sheet" "checked"), bFa (.meth "Sheet" "suit"), bFa (.meth "Sheet" "suited"), bFa (.meth "Swapping" "names"), bFa (.meth "Swapping" "near")]
def hfs4 : List FB := [bFa (.meth "Swapping" "most"), bFa (.meth "Swapping" "most_of_all"), bFa (.meth "Swapping" "behind"), bFa (.meth "Swapping" "firsts"), bFa (.meth "Swapping" "is_open"), bFa (.meth "Swapping" "least"), bFa (.meth "Swapping" "lump"), bFa (.meth "Swapping" "lumps"), bFa (.meth "Swapping" "every"), bFa (.meth "Together" "can"), bFa (.meth "Together" "kept"), bBm "Sheet" "check", bBm "Swapping" "behind", bEmp (kwAt ("most_swaps", none) "without"), bEmp (He.dflAt ("line_of", none) 0), bEmp (kwAt ("kept", none) "first"), bEmp (kwAt ("every_swaps", none) "without"), bEmp (He.dflAt ("Swapping", some "__init__") 0)]
def hfs : List FB := hfs0 ++ (hfs1 ++ (hfs2 ++ (hfs3 ++ (hfs4))))
def hloose0 : List Str := ["_wall", "__name__", "NoHousehold", "LETTERS", "LONGEST", "tupled", "is_name", "rises", "is_set", "as_set", "Sheet", "suited_to", "PAIR", "but", "Swapping", "is_odd", "most_swaps", "every_swaps", "parts_in", "kinds"]
def hloose1 : List Str := ["leaves", "is_barrier", "Order", "names_of", "Together", "line_of", "kept", "BOTH", "gain_by_household", "loss_by_household", "can_leave", "_law_box", "_law_take", "_law_cells", "_law_same", "_law_few", "_law_mixed", "_law_book", "_law_all", "_law_case_right"]
def hloose2 : List Str := ["_law_known_right", "_law_right"]
def hloose : List Str := hloose0 ++ (hloose1 ++ (hloose2))
abbrev hR : PySem.W.OpenRow := PySem.W.OpenLaw.row PySem.Challenge.rw_crosshomes_k92_whole_who_stays_in_some_b
abbrev hq : Program := PySem.W.view hR.prog [48]
abbrev hk : PySem.W.Hook := hookK 6 hfs hfn
def hob (s : PySem.W.SharedT) : He.AlD := obsKG 6 hfs hfn (HandSHeadRun.getT s)
theorem hob_eq (s : PySem.W.SharedT) : hob s = hk.obs s.abs := obsKG_eq (HandSHeadRun.getT_eq s)
theorem hrun (w : World) : HandSHeadRun.RunEq hR hq hk hob 4000 hloose w := by
  intro os
  kernel_rfl
end CH
/-! text R1 -/
/-! Own rules: promises by positional values, calls by them, starred method calls of slotted instances. -/
namespace CH
open PySem PySem.Spec PyProof.Rows L2 Evl

section
variable {P : Program} {w : World} {K : PySem.W.Frag} {mg : Str → Option Value} {base : Heap} {f : Addr} {x qual : Str} {st : Stmt} {N ps : List Str} {k : Nat} {sp : Sp}
/-- a def without defaults, every parameter given by place -/
theorem Fn.ok0 (F : Fn K x qual st [] [] f) (S : FnScope N ps (defScope st))
    (hbind : ∀ (kV doc pm : Value) (an : Option Addr) (cdv ct : Value) (us : List Value), us.length = ps.length → bindArgs (PySem.W.fnOf x qual (defArgs st) (defBody st) (defScope st) .none kV doc pm an cdv ct) ⟨us, []⟩ = pure (ps.zip us))
    (len : ∀ vs H Q E, sp vs H Q E → vs.length = ps.length)
    (hbody : ∀ (cdv : Value) (A : Around) (outer : List Env) (s : Shared) (H : Hp) (vs : List V) (Q : VK) (E : XK), Room k (A.deeper (envOfC qual (defScope st) s.heap.objs.size f cdv)) → sp vs H Q E →
      ∃ t, PSs (cxOf CX0 P w K mg base N qual (defScope st) f cdv A outer s H E).nox (defBody st) t ∧ t { nx := fun _ H' => Q .non H', rt := Q } (start N vs) H) :
    FnR P w K mg base CX0 (k + 1) f sp := by
  obtain ⟨fd, F⟩ := F
  have b : Binds K fd ps [] := F.bindsN hbind
  have G : FnOk P w K mg base CX0 (k + 1) f fd ps sp := F.ok S len fun cdv A outer s H vs Q E hr h => by
    obtain ⟨t, h1, h2⟩ := hbody cdv A outer s H vs Q E hr h
    exact ⟨t, h1.nox, h2⟩
  have := G.raw b (dvs := []) .nil
  simpa using this
/-- one parameter, then a starred one -/
theorem Fn.ok1 {p1 pv : Str} (F : Fn K x qual st [] [] f) (S : FnScope N [p1, pv] (defScope st))
    (hb : ∀ (kV doc pm : Value) (an : Option Addr) (cdv ct : Value) (a : Value) (rest : List Value), bindArgs (PySem.W.fnOf x qual (defArgs st) (defBody st) (defScope st) .none kV doc pm an cdv ct) ⟨a :: rest, []⟩ = (newTuple rest >>= fun t => pure [(p1, a), (pv, t)]))
    (hbody : ∀ (cdv : Value) (A : Around) (outer : List Env) (s : Shared) (H : Hp) (vs : List V) (Q : VK) (E : XK), Room k (A.deeper (envOfC qual (defScope st) s.heap.objs.size f cdv)) → sp vs H Q E →
      ∃ t, PSs (cxOf CX0 P w K mg base N qual (defScope st) f cdv A outer s H E).nox (defBody st) t ∧ t { nx := fun _ H' => Q .non H', rt := Q } (start N vs) H) :
    FnR P w K mg base CX0 (k + 1) f (fun vs H Q E => ∃ v rest, vs = v :: rest ∧ rest.length ≤ sizeLine ∧ ∀ p, H p = none → sp [v, .ref p] (upd H p (.tup rest)) Q E) := by
  obtain ⟨fd, F⟩ := F
  obtain ⟨oc, od, dV, kV, doc, pm, an, cdv, ct, osl, rfl, lk, hcd, hD, hK⟩ := F.ex
  rcases hD with ⟨_, rfl⟩ | ⟨h, _⟩
  · refine FnR.imp (StX.fn_star (ps := [p1]) (pv := pv) (k := k) (sp := sp) lk hcd S StX.cxUp_none (fun us rest hl => ?_) (fun A outer s H vs Q E hr h => ?_)) (fun vs H Q E h => ?_)
    · match us, hl with
      | [a], _ => exact hb kV doc pm an cdv ct a rest
    · obtain ⟨t, h1, h2⟩ := hbody cdv A outer s H vs Q E hr h
      exact ⟨t, h1.nox, h2⟩
    · obtain ⟨v, rest, e, hz, k⟩ := h
      exact ⟨[v], rest, e, rfl, hz, k⟩
  · exact absurd rfl h
end

section
variable {X : Cx} {CX : CXT} {k : Nat} {f C g : Addr} {sp : Sp} {E : XK} {x m : Str} {p pos apos : Pos} {e e1 e2 o : Expr} {es : List Expr} {ta te t1 t2 : TE} {t : TA}
def tCallF (sp : Sp) (E : XK) (t : TA) : TE := fun σ H Q => t σ H fun vs H1 => sp vs H1 Q E
/-- f(e, ..) by a promise of the values -/
theorem pe_callF (F : FnR X.prog X.w X.K X.mg X.base CX k f sp) (hr : Room k X.A) (hk : PySem.W.keepIn X.K (.ref f) = true) (hg : Gl X x) (hm : X.mg x = some (.ref f)) (hx : Passes CX X E) (ha : PA X (e :: es) t)
    (hd : (x == ("__debug__" : Str)) = false := by decide) (hs : starEach (e :: es) X.env = (false, eval e X.env) :: starEach es X.env := by rfl) (hp : (backTo pos (starEach es X.env)).any (·.1) = false := by rfl) :
    PE X (.Call (.Name x p) (e :: es) [] pos) (tCallF sp E t) := by
  refine ⟨fun pins s σ H Q I h => wpAny_Call_Name_kw (ld_glob I hg hm ?_ hd)⟩
  exact PySem.W.callWith_K (h₀ := X.base) I.ok.mod.kin hk (thn (ha.run pos pins s σ H _ I h) fun us s1 ⟨vs, H1, I1, r, q⟩ => ⟨I1.kIn, wpAny_call (run_fnR F hr hx I1 r q)⟩) hs hp
theorem pe_callF0 (F : FnR X.prog X.w X.K X.mg X.base CX k f sp) (hr : Room k X.A) (hk : PySem.W.keepIn X.K (.ref f) = true) (hg : Gl X x) (hm : X.mg x = some (.ref f)) (hx : Passes CX X E)
    (hd : (x == ("__debug__" : Str)) = false := by decide) : PE X (.Call (.Name x p) [] [] pos) (tCallF sp E tNil) := by
  refine ⟨fun pins s σ H Q I h => wpAny_Call_Name_kw (ld_glob I hg hm ?_ hd)⟩
  exact PySem.W.callWith_K0 I.kIn hk (wpAny_call (run_fnR (us := []) (vs := []) F hr hx I .nil h))

/-! ### bound methods of slotted instances -/
theorem findObj_sl {K : PySem.W.Frag} {C g : Addr} {m : Str} {od : Obj} (ic : PySem.W.isClsIn K C = true) (b : BMeth K C m g) (hl : PySem.W.lookIn m od = some none) : PySem.W.findObj K C (some od) m = some (.bind (.builtin "function.__get__") (.ref g)) := by
  have hc : ∃ cd, PySem.W.clsIn K C = some cd := by
    unfold PySem.W.isClsIn at ic
    cases h : PySem.W.clsIn K C with
    | none => rw [h] at ic; cases ic
    | some cd => exact ⟨cd, rfl⟩
  obtain ⟨cd, hc⟩ := hc
  have ho : PySem.W.ownOf cd (some od) m = some none := by
    unfold PySem.W.ownOf
    split
    · exact hl
    · rfl
  unfold PySem.W.findObj
  rw [hc, Option.bind_some, b.mt.at_, Option.bind_some]
  simp only [b.gf, b.tk, Option.bind_some, ho, b.cp, Bool.false_and, Bool.false_eq_true, if_false]
theorem getboundsl_ok {pins : List (Addr × Obj)} {σ : L2.St} {H : Hp} {s : Shared} {a dx : Addr} {vs : List (Option V)} {A : Around} {E' : Value → Shared → Prop} {b : Bool} {Q : Value → Shared → Prop} (I : Inv X pins σ H s) (e : SlX.Slt H a C dx vs) (c : SlX.SCls X.K C) (k : BMeth X.K C m g)
    (h : ∀ p s', H p = none → Inv X pins σ (upd H p (.met g a)) s' → Q (.ref p) s') : wpAny (model X.prog X.w) A (getAttr (.ref a) m b) Q E' s := by
  obtain ⟨sl, od, _, J, hl⟩ := SlX.slt_inst I e
  have pg := PySem.W.plainGet_of (c.get m)
  refine PySem.W.get_bind I.kIn J pg.1 (findObj_sl c.ic k (hl m)) pg.2 (wpAny_call (PySem.W.fn_get (s := { s with toks := s.toks + 1 }) I.kIn (beq_iff_eq.mp k.mt.fn) (PySem.W.handed_on rfl ?_)))
  refine h s.heap.objs.size _ (I.hok.fresh (Nat.le_refl _)) (I.laid (t' := s.toks + 1) (o := .met g a) (fun _ _ z => Heap.get?_push_of_some _ z) (Nat.le_refl _) ?_)
  show (s.heap.push (PySem.W.methodObj (.ref g) (.ref a))).get? s.heap.objs.size = _
  exact Heap.get?_push_size s.heap rfl
/-- o.m( *y) -/
def tSlS (K : PySem.W.Frag) (C g : Addr) (sp : Sp) (E : XK) (ta te : TE) : TE := fun σ H Q => ta σ H fun x H1 => ∃ a dx vs, x = .ref a ∧ SlX.Slt H1 a C dx vs ∧ ∀ q, H1 q = none → te σ (upd H1 q (.met g a)) fun y H2 =>
  ∃ b ws, y = .ref b ∧ (SqT K H2 b ws ∨ SqL K H2 b ws) ∧ H2 q = some (.met g a) ∧ sp (.ref a :: ws) H2 Q E
theorem pe_methSlS (he : PE X o ta) (c : SlX.SCls X.K C) (b : BMeth X.K C m g) (F : FnR X.prog X.w X.K X.mg X.base CX k g sp) (hr : Room k X.A) (hx : Passes CX X E) (ha : PE X e te) (hb : attributeBase o m X.env (eval o X.env) = eval o X.env := by rfl) :
    PE X (.Call (.Attribute o m apos) [.Starred e p] [] pos) (tSlS X.K C g sp E ta te) := by
  refine ⟨fun pins s σ H Q I h => starcall_of hb (thn (he.run pins s σ H _ I h) fun u s1 ⟨x, H1, I1, rx, a, dx, vs, ex, ea, q⟩ => ?_)⟩
  subst ex
  cases rx
  refine getboundsl_ok I1 ea c b fun q1 s2 hq1 I2 => PySem.W.ks_call (P := PySem.W.MethP X.K q1 g (.ref a)) rfl (PySem.W.keeps_M b.fi) (PySem.W.ks_lone ?_)
  refine thn (ha.run pins s2 σ _ _ I2 (q q1 hq1)) fun v s3 ⟨y, H2, I3, ry, t, ws, ey, ht, hm, hsp⟩ => ?_
  subst ey
  cases ry
  exact StX.star_any I3 ht fun us s4 I4 rv => ⟨met_P I4 hm, wpAny_call (PySem.W.method_call (met_P I4 hm).1 (run_fnR (us := Value.ref a :: us) (vs := V.ref a :: ws) F hr hx I4 (.cons rfl rv) hsp))⟩
/-- o.m(e, *y) -/
def tSlSB (K : PySem.W.Frag) (C g : Addr) (sp : Sp) (E : XK) (ta t1 t2 : TE) : TE := fun σ H Q => ta σ H fun x H1 => ∃ a dx vs, x = .ref a ∧ SlX.Slt H1 a C dx vs ∧ ∀ q, H1 q = none → t1 σ (upd H1 q (.met g a)) fun y1 H2 => t2 σ H2 fun y2 H3 =>
  ∃ b ws, y2 = .ref b ∧ (SqT K H3 b ws ∨ SqL K H3 b ws) ∧ H3 q = some (.met g a) ∧ sp (.ref a :: y1 :: ws) H3 Q E
theorem pe_methSlSB (he : PE X o ta) (c : SlX.SCls X.K C) (b : BMeth X.K C m g) (F : FnR X.prog X.w X.K X.mg X.base CX k g sp) (hr : Room k X.A) (hx : Passes CX X E) (h1 : PE X e1 t1) (h2 : PE X e2 t2)
    (hb : attributeBase o m X.env (eval o X.env) = eval o X.env := by rfl) (hst : starEach [e1, .Starred e2 p] X.env = [(false, eval e1 X.env), (true, eval e2 X.env)] := by rfl) :
    PE X (.Call (.Attribute o m apos) [e1, .Starred e2 p] [] pos) (tSlSB X.K C g sp E ta t1 t2) := by
  refine ⟨fun pins s σ H Q I h => starcall2_of hb hst (thn (he.run pins s σ H _ I h) fun u s1 ⟨x, H1, I1, rx, a, dx, vs, ex, ea, q⟩ => ?_)⟩
  subst ex
  cases rx
  refine getboundsl_ok I1 ea c b fun q1 s2 hq1 I2 => PySem.W.ks_call (P := PySem.W.MethP X.K q1 g (.ref a)) rfl (PySem.W.keeps_M b.fi) (Calls.evalArgs_plain (Calls.spliced_cons ?_))
  refine thn (h1.run pins s2 σ _ _ I2 (q q1 hq1)) fun v1 s3 ⟨y1, H2, I3, ry1, q2⟩ => PySem.W.ks_spliced (thn (h2.run pins s3 σ H2 _ I3 q2) fun v2 s4 ⟨y2, H3, I4, ry2, t, ws, ey, ht, hm, hsp⟩ => ?_)
  subst ey
  cases ry2
  refine StX.star_any I4 ht fun us s5 I5 rv => Calls.spliced_nil ?_
  show PySem.W.MethP X.K q1 g (.ref a) s5.heap ∧ wpAny (model X.prog X.w) X.A (call (.ref q1) (v1 :: (us ++ [])) []) (EP X pins σ Q) X.xe s5
  rw [List.append_nil]
  exact ⟨met_P I5 hm, wpAny_call (PySem.W.method_call (met_P I5 hm).1 (run_fnR (us := Value.ref a :: v1 :: us) (vs := V.ref a :: y1 :: ws) F hr hx I5 (.cons rfl (.cons ry1 rv)) hsp))⟩
end
end CH
/-! text R2 -/
/-! Own rules: sets of texts, sorted ones. -/
namespace CH
open PySem PySem.Spec PyProof.Rows L2 Evl

def keyS (e : Int × Value) : Str := match e.2 with | .str x _ => x | _ => Str.empty
def GoodS (w : World) (e : Int × Value) : Prop := ∃ x tk, e.2 = Value.str x tk ∧ e.1 = hashStr w x
/-- the set of the texts l at a; its table can be walked -/
def SetS (w : World) (h : Heap) (a : Addr) (l : List Str) : Prop := ∃ o es ep t, h.get? a = some o ∧ o.ExactSet ∧ o.data = .set es ep t ∧ (∀ e ∈ es.toList, GoodS w e) ∧ (es.toList.map keyS).Nodup ∧
  (∀ k, k ∈ l ↔ k ∈ es.toList.map keyS) ∧ es.size < scanBound ∧ t.fits es.size = true ∧ es.size ≤ l.length ∧ Ris t.place.toList ∧ (w.params.followText "set-order" = true ∨ t.led = true)
section
variable {P : Program} {w : World} {h h' : Heap} {a : Addr} {l : List Str}
theorem SetS.at (R : SetS w h a l) (k : ∀ o, h.get? a = some o → h'.get? a = some o) : SetS w h' a l := by
  obtain ⟨o, es, ep, t, ho, r⟩ := R
  exact ⟨o, es, ep, t, k o ho, r⟩
theorem goodS_elems {l : List (Int × Value)} (g : ∀ e ∈ l, GoodS w e) : ElemsOf (PySem.strKind P w) l := fun e he => by
  obtain ⟨x, tk, h1, h2⟩ := g e he
  exact ⟨⟨x, by rw [h1]; exact PySem.strKind_is P w x tk, h2⟩, by rw [h1] <;> rfl⟩
theorem goodS_is {e : Int × Value} (g : GoodS w e) (k : Str) : (PySem.strKind P w).is k e.2 = true ↔ keyS e = k := by
  obtain ⟨x, tk, h1, _⟩ := g
  unfold keyS
  rw [h1]
  show (Value.isStrOf k (.str x tk) = true) ↔ x = k
  simp [Value.isStrOf]
theorem goodS_mem {l : List (Int × Value)} (g : ∀ e ∈ l, GoodS w e) (k : Str) : k ∈ l.map keyS ↔ ∃ e ∈ l, (PySem.strKind P w).is k e.2 = true := by
  rw [List.mem_map]
  exact ⟨fun ⟨e, he, q⟩ => ⟨e, he, (goodS_is (g e he) k).2 q⟩, fun ⟨e, he, q⟩ => ⟨e, he, (goodS_is (g e he) k).1 q⟩⟩
end
section
variable {P : Program} {w : World} {A : Around} {E : Value → Shared → Prop} {s : Shared} {a : Addr} {l : List Str}
theorem setS_tail {g : Bool → Sem Unit} (hg : ∀ (b : Bool) (s1 : Shared) (Q' : Unit → Shared → Prop), Q' () s1 → wpAny (model P w) A (g b) Q' E s1) {o : Obj} {es es1 : Array (Int × Value)} {ep : Nat} {t t2 : SetTable} (ho : s.heap.get? a = some o) (hex : o.ExactSet)
    (hd : o.data = .set es ep t) (g1 : ∀ e ∈ es1.toList, GoodS w e) (nd1 : (es1.toList.map keyS).Nodup) (m1 : ∀ k, k ∈ l ↔ k ∈ es1.toList.map keyS) (hb1 : es1.size < scanBound) (hf2 : t2.fits es1.size = true) (hle : es1.size ≤ l.length) (hr : Ris t2.place.toList)
    (hl : w.params.followText "set-order" = true ∨ t2.led = true) {wasDummy : Bool} {R : Option Bool → Shared → Prop} (hR : ∀ h', Heap.SameBut a s.heap h' → SetS w h' a l → R (some true) { s with heap := h' }) :
    wpAny (model P w) A (do
      storeSet a es1 t2
      if (!wasDummy && t2.tooFull) = true then do
          g (relayAll t2 es1 (SetTable.grown es1.size)).2.2
          storeSet a (relayAll t2 es1 (SetTable.grown es1.size)).1 (relayAll t2 es1 (SetTable.grown es1.size)).2.1
          pure (some true)
        else pure (some true)) R E s := by
  refine wpAny_bind (wpAny_storeSet_of ho hd ?_ (fits_of_scanBound hb1))
  have ho1 := store_at (es' := es1) (t' := t2) ho hd
  have sb1 := Heap.SameBut.update s.heap a (Obj.putSet es1 t2)
  split
  · have pm := relayAll_perm t2 es1 (SetTable.grown es1.size)
    have hf3 := relayAll_fits t2 es1 (SetTable.grown es1.size)
    have hr3 := relayAll_ris t2 es1 (SetTable.grown es1.size)
    have hl3 := relayAll_led t2 es1 (SetTable.grown es1.size)
    generalize relayAll t2 es1 (SetTable.grown es1.size) = Z at pm hf3 hr3 hl3 ⊢
    obtain ⟨es2, t3, gave⟩ := Z
    dsimp only at pm hf3 hr3 hl3 ⊢
    have hsz : es2.size = es1.size := by rw [← Array.length_toList, pm.length_eq, Array.length_toList]
    refine wpAny_bind (hg _ _ _ (wpAny_bind (wpAny_storeSet_of ho1 rfl (wpAny_pure (hR _ (sb1.trans (Heap.SameBut.update _ a _)) ?_)) (fits_of_scanBound (by rw [hsz]; exact hb1)))))
    exact ⟨_, es2, _, t3, store_at (es' := es2) (t' := t3) ho1 rfl, hex, rfl, fun e he => g1 e (pm.mem_iff.mp he), (pm.map keyS).nodup_iff.mpr nd1, fun k => (m1 k).trans (pm.map keyS).mem_iff.symm, by rw [hsz]; exact hb1, hf3, by rw [hsz]; exact hle, hr3,
      hl.imp id fun z => by rw [hl3]; exact z⟩
  · exact wpAny_pure (hR _ sb1 ⟨_, es1, _, t2, ho1, hex, rfl, g1, nd1, m1, hb1, hf2, hle, hr, hl⟩)
theorem setS_add {x : Str} {tk : Tok} {Q : Bool → Shared → Prop} (R : SetS w s.heap a l) (room : l.length + 1 < scanBound) (hQ : ∀ b h', Heap.SameBut a s.heap h' → SetS w h' a (l ++ [x]) → Q b { s with heap := h' }) :
    wpAny (model P w) A (setAddHashed a (.str x tk) ((PySem.strKind P w).hash x)) Q E s := by
  obtain ⟨o, es, ep, t, ho, hex, hd, g, nd, hm, hb, hf, hle, hr, hl⟩ := R
  have hkey : (PySem.strKind P w).is x (.str x tk) = true := PySem.strKind_is P w x tk
  have hsc : (Value.str x tk).scannable = true := rfl
  have hel : ElemsOf (PySem.strKind P w) es.toList := goodS_elems g
  have ml : ∀ k, k ∈ l ++ [x] ↔ k = x ∨ k ∈ l := fun k => by
    rw [List.mem_append, List.mem_singleton]
    exact Or.comm
  have ll : (l ++ [x]).length = l.length + 1 := by rw [List.length_append, List.length_singleton]
  unfold setAddHashed setAddHashedIn
  refine wpAny_holding (wpAny_bind (wpAny_setState_of ho hd hf ?_))
  dsimp only
  rw [byScan_of hsc hb hel]
  simp only [↓reduceIte]
  unfold setAddByScan
  refine wpAny_bind (wpAny_bind (wpAny_rule (wpAny_bind (wpAny_setScan_of hkey ho hd hf hel ?_))))
  cases hfi : List.findIdx? (fun e => (PySem.strKind P w).is x e.2) es.toList with
  | some j =>
    dsimp only
    obtain ⟨hj, pj, _⟩ := List.findIdx?_eq_some_iff_getElem.mp hfi
    have hx : x ∈ es.toList.map keyS := (goodS_mem (P := P) g x).2 ⟨es.toList[j], List.getElem_mem hj, pj⟩
    refine wpAny_pure (wpAny_pure (hQ _ s.heap (Heap.SameBut.refl a s.heap) ⟨o, es, ep, t, ho, hex, hd, g, nd, fun k => ?_, hb, hf, by rw [ll]; exact Nat.le_succ_of_le hle, hr, hl⟩))
    rw [ml, ← hm k]
    exact ⟨fun z => z.elim (fun e => by rw [e]; exact (hm x).2 hx) id, .inr⟩
  | none =>
    dsimp only
    have hnx : x ∉ es.toList.map keyS := fun z => by
      obtain ⟨e, he, q⟩ := (goodS_mem (P := P) g x).1 z
      have c := List.findIdx?_eq_none_iff.mp hfi e he
      rw [q] at c
      cases c
    have hgw : ∀ (b : Bool) {s1 : Shared} {Q' : Unit → Shared → Prop}, Q' () s1 → wpAny (model P w) A (match b with | true => rule "set.scan.the-table-gave-way" | false => pure ()) Q' E s1 :=
      fun b s1 Q' q => by cases b <;> first | exact wpAny_pure q | exact wpAny_rule q
    have pm := layNew_perm t es ((PySem.strKind P w).hash x) (.str x tk)
    have hf1 := layNew_fits t es ((PySem.strKind P w).hash x) (.str x tk)
    have hr1 := layNew_ris t es ((PySem.strKind P w).hash x) (.str x tk) hr
    have hl1 := layNew_led t es ((PySem.strKind P w).hash x) (.str x tk)
    generalize layNew t es ((PySem.strKind P w).hash x) (.str x tk) = Z at pm hf1 hr1 hl1 ⊢
    obtain ⟨es1, t1, wasDummy, gave⟩ := Z
    dsimp only at pm hf1 hr1 hl1 ⊢
    rw [Array.toList_push] at pm
    have pc : es1.toList.Perm (((PySem.strKind P w).hash x, Value.str x tk) :: es.toList) := pm.trans (List.perm_append_singleton _ _)
    have pk : (es1.toList.map keyS).Perm (x :: es.toList.map keyS) := pc.map keyS
    have g1 : ∀ e ∈ es1.toList, GoodS w e := fun e he => by
      rcases List.mem_cons.mp (pc.mem_iff.mp he) with z | z
      · rw [z]; exact ⟨x, tk, rfl, rfl⟩
      · exact g e z
    have nd1 : (es1.toList.map keyS).Nodup := pk.nodup_iff.mpr (List.nodup_cons.mpr ⟨hnx, nd⟩)
    have m1 : ∀ k, k ∈ l ++ [x] ↔ k ∈ es1.toList.map keyS := fun k => by rw [ml, hm k, pk.mem_iff, List.mem_cons]
    have hsz : es1.size = es.size + 1 := by rw [← Array.length_toList, pc.length_eq, List.length_cons, Array.length_toList]
    have hb1 : es1.size < scanBound := by omega
    have hle1 : es1.size ≤ (l ++ [x]).length := by rw [ll]; omega
    have hled : w.params.followText "set-order" = true ∨ t1.led = true := hl.imp id fun z => by rw [hl1]; exact z
    refine wpAny_bind (hgw _ ?_)
    split
    · refine wpAny_bind ?_
      rw [hashByValue_scannable 8 hsc]
      refine wpAny_pure (setS_tail ?_ ho hex hd g1 nd1 m1 hb1 ?_ hle1 ?_ ?_ ?_)
      · intro b s1 Q' q; cases b <;> first | exact wpAny_pure q | exact wpAny_rule q
      · first | (split <;> first | exact hf1 | exact SetTable.fits_plain_off hf1) | exact hf1
      · first | (split <;> exact hr1) | exact hr1
      · first | (split <;> exact hled) | exact hled
      · intro h' sb r; dsimp only; exact wpAny_pure (hQ _ h' sb r)
    · refine wpAny_bind (wpAny_pure ?_)
      simp only [↓reduceIte]
      refine setS_tail ?_ ho hex hd g1 nd1 m1 hb1 hf1 hle1 hr1 hled ?_
      · intro b s1 Q' q; cases b <;> first | exact wpAny_pure q | exact wpAny_rule q
      · intro h' sb r; dsimp only; exact wpAny_pure (hQ _ h' sb r)
end
section
variable {prog : Program} {w : World} {A : Around} {R : Result → Shared → Prop} {I : Addr} {fp wr : List Addr} {G : Array GenState → Array GenState → Prop} {n : Nat} {P : Nat → Value → Prop} {St : Nat → Shared → Prop}
theorem setS_loop (W : WalksS prog w A.in1 I fp wr G n P St) (S : Addr) (hSf : S ∉ fp) (xs : List Str) (hn : n = xs.length) (hval : ∀ i v, P i v → ∃ x t, xs[i]? = some x ∧ v = .str x t) (hb : n + 1 < scanBound) :
    ∀ (k i : Nat) (s : Shared), n - i = k → i ≤ n → St i s → SetS w s.heap S (xs.take i) → (∀ s', Moved (S :: wr) G s s' → SetS w s'.heap S xs → R (.ok (.ret .none)) s') →
      codeAny (model prog w) A (.builtin "set.update.loop" ⟨[.ref S, .ref I], []⟩) R s := by
  have hSw : S ∉ wr := fun h => hSf (W.sub _ h)
  have hsub : ∀ b ∈ wr, b ∈ S :: wr := fun b hb => List.mem_cons_of_mem _ hb
  intro k
  induction k with
  | zero =>
    intro i s hk hi hst hS hR
    have hin : i = n := by omega
    subst hin
    refine codeAny_builtin F.entry_set_update_loop ?_
    rw [Around.under_plainId F.plain_set_update_loop _]
    show wpAny _ A.in1 (pyNext (.ref I) >>= _) _ _ s
    refine wpAny_bind (W.done s _ _ hst fun s' hm => wpAny_pure (hR s' (hm.mono hsub) ?_))
    rw [hn, List.take_length] at hS
    exact hS.at fun o e => hm.heap S _ hSw e
  | succ k ih =>
    intro i s hk hi hst hS hR
    have hlt : i < n := by omega
    refine codeAny_builtin F.entry_set_update_loop ?_
    rw [Around.under_plainId F.plain_set_update_loop _]
    show wpAny _ A.in1 (pyNext (.ref I) >>= _) _ _ s
    refine wpAny_bind (W.item i s _ _ hlt hst fun v s' hP hst' hm => ?_)
    obtain ⟨x, t, hx, rfl⟩ := hval i v hP
    have hS' : SetS w s'.heap S (xs.take i) := hS.at fun o e => hm.heap S _ hSw e
    show wpAny _ A.in1 (holding [Value.str x t] (setAdd S (.str x t)) >>= _) _ _ s'
    refine wpAny_bind (wpAny_holding ?_)
    unfold setAdd
    refine wpAny_holding (wpAny_bind ((PySem.strKind prog w).pyHash (k := x) (PySem.strKind_is _ _ _ _) ?_))
    have hroom : (xs.take i).length + 1 < scanBound := by rw [List.length_take]; omega
    refine setS_add (P := prog) (s := { s' with toks := s'.toks + 1 }) hS' hroom fun b h' hsb hS2 => ?_
    have e : xs.take i ++ [x] = xs.take (i + 1) := by
      rw [List.take_add_one, hx]
      rfl
    rw [e] at hS2
    refine wpAny_pure ⟨plainId_quiet F.plain_set_update_loop _, ih (i + 1) _ (by omega) hlt (W.frame _ s' _ _ hst' (Nat.le_succ _) fun b hb o e => ?_) hS2 fun s'' hm'' hS'' => ?_⟩
    · rw [hsb.2 b (fun h : b = S => hSf (by rw [← h]; exact hb))]; exact e
    · refine hR s'' (Moved.trans W.gtrans ((hm.mono hsub).then_heap (Nat.le_succ _) fun b o hb e => ?_) hm'') hS''
      rw [hsb.2 b (fun h : b = S => hb (by rw [h]; exact List.mem_cons_self))]; exact e
end
end CH
/-! text R8 -/
/-! set(texts), sorted(set of texts). -/
namespace CH
open PySem PySem.Spec PyProof.Rows L2 Evl
abbrev SObj (w : World) : Obj := { cls := .type "set", dict := none, data := .set #[] 0 (.fresh 0 0 (!w.params.followText "set-order")) }
theorem setS_void {w : World} {h : Heap} {a : Addr} (ho : h.get? a = some (SObj w)) : SetS w h a [] :=
  ⟨_, #[], 0, _, ho, ⟨rfl, rfl, rfl⟩, rfl, (fun e he => by simp at he), (by simp), (fun k => by simp), (by decide), (by rfl), Nat.le_refl 0, List.Pairwise.nil, by
    show _ ∨ (!w.params.followText "set-order") = true
    cases w.params.followText "set-order" <;> simp⟩
theorem strs_nth {us : List Value} {xs : List Str} (h : StrsAre us xs) : ∀ (i : Nat) (v : Value), us[i]? = some v → ∃ x t, xs[i]? = some x ∧ v = .str x t := by
  induction h with
  | nil => intro i v e; simp at e
  | cons k t _ ih =>
    intro i v e
    cases i with
    | zero => simp at e; exact ⟨k, t, rfl, e.symm⟩
    | succ i => simpa using ih i v (by simpa using e)
section
variable {P : Program} {w : World} {A : Around} {E : Value → Shared → Prop} {s : Shared}
theorem set_strs {l : Addr} {its : Array Value} (xs : List Str) {Q : Value → Shared → Prop} (hh : A.handled = none) (hl : s.heap.IsList l its) (hit : StrsAre its.toList xs) (hb : xs.length + 1 < scanBound)
    (h : ∀ (h' : Heap) (tk : Nat), SetS w h' s.heap.objs.size xs → (∀ b o, s.heap.get? b = some o → h'.get? b = some o) → Q (.ref s.heap.objs.size) { s with heap := h', toks := tk }) :
    wpAny (model P w) A (call (.type "set") [.ref l]) Q E s := by
  have hisz : its.size = xs.length := by
    have q := StrsAre.len_eq hit
    rw [← Array.length_toList]
    exact q
  obtain ⟨c, tl, hmro⟩ := F.called_set.mro
  have hmade := F.called_set.made
  have hsub := F.called_set.sub
  refine wpAny_call (codeAny_of_tree (show wpAny _ _ (callAny (.type "set") _) _ _ _ from wpAny_pure ⟨Code.quiet_builtin _ (by decide +kernel), codeAny_builtin F.entry_type_call ?_⟩))
  rw [Around.under_plain (weight_type_call_type "set" [.ref l] []) rfl]
  have m1 := F.called_set.notType
  have m2 := F.called_set.canCreate
  have m3 := F.typeCall_set_1 (.ref l)
  repeat (any_goals (first | assumption | wp_step))
  refine codeAny_mono (code_set_led1 (.ref l) (E := E) (Q₁ := fun ob z => ob = .ref s.heap.objs.size ∧ z = { s with heap := s.heap.push (SObj w) }) ⟨rfl, rfl⟩) fun r z hr => ?_
  rcases r with e | (_ | _ | _ | ob)
  · exact hr
  · exact hr.elim
  · exact hr.elim
  · exact hr.elim
  obtain ⟨rfl, rfl⟩ := hr
  have hS : (s.heap.push (SObj w)).get? s.heap.objs.size = some (SObj w) := Heap.get?_push_size _ rfl
  have hT : Shared.TypeIs { s with heap := s.heap.push (SObj w) } (.ref s.heap.objs.size) "set" := ⟨_, hS, rfl⟩
  have m4 := F.called_set.init.lookup
  have m5 := F.called_set.init.bind (.ref s.heap.objs.size)
  repeat (any_goals (first | assumption | wp_step))
  refine codeAny_mono (codeAny_call_builtin (R := wants (fun r z2 => r = .none ∧ ∃ h' tk, z2 = { s with heap := h', toks := tk } ∧ SetS w h' s.heap.objs.size xs ∧ ∀ b o, s.heap.get? b = some o → h'.get? b = some o) E) F.called_set.init.plain F.entry_set_init (check_set_init_1 hT ?_)) fun r2 z2 hr2 => ?_
  · obtain ⟨ol, hol, hcl, nl, hdl⟩ := hl
    obtain ⟨ocls, odict, odata, oslots⟩ := ol
    simp only at hcl hdl
    subst hcl hdl
    have hol' : (s.heap.push (SObj w)).get? l = some { cls := .type "list", dict := odict, data := .seq its nl, slots := oslots } := Heap.get?_push_of_some _ hol
    have n1 := F.sub_list_set
    have n2 := F.sub_list_frozenset
    have n3 : (Value.type "list" == Value.type "dict") = false := by decide
    have hl1 : (s.heap.push (SObj w)).IsList l its := ⟨_, hol', rfl, nl, rfl⟩
    unfold Builtin.«set.__init__» noKeywords Builtin.Frozenset.updateFrom
    generalize hPI : pyIter = PI
    wp_walk
    subst hPI
    refine wpAny_pyIter_list hl1 (wpAny_bind (wpAny_runValue ?_))
    have hlS : l < s.heap.objs.size := Heap.lt_size hol
    have hh3 : A.in1.in1.in1.handled = none := by simp [hh]
    have hz1 : (s.heap.push (SObj w)).objs.size = s.heap.objs.size + 1 := Heap.size_push ..
    have hneI : l ≠ (s.heap.push (SObj w)).objs.size := by rw [hz1]; exact Nat.ne_of_lt (Nat.lt_succ_of_lt hlS)
    have hSf : s.heap.objs.size ∉ [(s.heap.push (SObj w)).objs.size, l] := by
      rw [hz1]; simp only [List.mem_cons, List.mem_singleton, List.not_mem_nil, or_false, not_or]
      exact ⟨Nat.ne_of_lt (Nat.lt_succ_self _), Nat.ne_of_gt hlS⟩
    have hval : ∀ (i : Nat) (v : Value), its[i]? = some v → ∃ x t, xs[i]? = some x ∧ v = .str x t := fun i v hv => strs_nth hit i v (by rw [Array.getElem?_toList]; exact hv)
    have hget : ((s.heap.push (SObj w)).push { cls := .type "list_iterator", data := .fields #[.ref l, .int 0 0] }).get? s.heap.objs.size = some (SObj w) := Heap.get?_push_of_some _ hS
    refine setS_loop ((Walks.list hh3 _ l hneI its).toS) s.heap.objs.size hSf xs hisz hval (by rw [hisz]; exact hb) (its.size - 0) 0 _ (by omega) (Nat.zero_le _) ⟨⟨_, Heap.get?_push_size _ rfl, rfl, rfl⟩, (hl1.push _)⟩ (setS_void hget) ?_
    intro s' hm hS'
    obtain ⟨h', g2, d', tk', os'⟩ := s'
    have eg : g2 = s.gens := hm.gens
    have ed : d' = s.drawn := hm.drawn
    have eo : os' = s.os := hm.os
    subst eg ed eo
    refine (show wpAny _ _ _ _ _ _ from wpAny_pure (show wpAny _ _ (ret Value.none) _ _ _ from wpAny_pure ⟨rfl, h', tk', rfl, hS', fun b o e => ?_⟩))
    have hb0 : b < s.heap.objs.size := Heap.lt_size e
    refine hm.heap b o ?_ (Heap.get?_push_of_some _ (Heap.get?_push_of_some _ e))
    rw [hz1]
    simp only [List.mem_cons, List.mem_singleton, List.not_mem_nil, or_false, not_or]
    exact ⟨Nat.ne_of_lt hb0, Nat.ne_of_lt (Nat.lt_succ_of_lt hb0)⟩
  · rcases r2 with e | (_ | _ | _ | r)
    · exact hr2
    · exact hr2.elim
    · exact hr2.elim
    · exact hr2.elim
    obtain ⟨rfl, h', tk, rfl, hS', hk'⟩ := hr2
    repeat (any_goals (first | assumption | wp_step))
    exact h _ _ hS' hk'
end
end CH
/-! text R9 -/
namespace CH
open PySem PySem.Spec PyProof.Rows L2 Evl
theorem strs_all : ∀ (l : List Value), (∀ v ∈ l, ∃ k tk, v = Value.str k tk) → ∃ ks, StrsAre l ks ∧ ks = l.map fun v => match v with | .str x _ => x | _ => Str.empty
  | [], _ => ⟨[], .nil, rfl⟩
  | v :: l, h => by
    obtain ⟨k, tk, rfl⟩ := h v List.mem_cons_self
    obtain ⟨ks, h1, h2⟩ := strs_all l fun u hu => h u (List.mem_cons_of_mem _ hu)
    exact ⟨k :: ks, .cons k tk h1, by rw [h2]; rfl⟩
section
variable {P : Program} {w : World} {A : Around} {E : Value → Shared → Prop} {s : Shared} {a : Addr} {l : List Str}
theorem sorted_setS {Q : Value → Shared → Prop} (R : SetS w s.heap a l) (hh : A.handled = none) (h64 : l.length < 64)
    (hQ : ∀ s' p (out : Array Value) (c : Nat) (ns : List Str), (∀ b o, s.heap.get? b = some o → s'.heap.get? b = some o) → s'.gens = s.gens → s'.os = s.os → s.heap.objs.size ≤ p →
      s'.heap.get? p = some (seqObj "list" out c) → StrsAre out.toList ns → ns.Nodup → sortedS ns = true → (∀ k, k ∈ ns ↔ k ∈ l) → ns.length ≤ l.length → Q (.ref p) s') :
    wpAny (model P w) A (call (.builtin "sorted") [.ref a]) Q E s := by
  obtain ⟨o, es, ep, t, ho, hex, hd, g, nd, hm, hb, hf, hn, hr, hl⟩ := R
  refine Calls.call_function_entry kind_sorted plain_sorted entry_sorted (args_sorted1 _) ?_
  unfold Builtin.«sorted»
  refine wpAny_bind (m := checkCount "sorted" 1 1 _) (wpAny_pure ?_)
  refine wpAny_bind (collect_set (A := A.in1) hh ⟨o, ho, hex.1, hd⟩ hf hb hr hl fun s1 vs k1 hz g1 o1 pm => ?_)
  have hvl : vs.length = es.size := by rw [pm.length_eq, List.length_map, Array.length_toList]
  have hv64 : vs.length < 64 := by omega
  obtain ⟨ks, hS, ek⟩ := strs_all vs fun v hv => by
    obtain ⟨e, he, q⟩ := List.mem_map.mp (pm.mem_iff.mp hv)
    obtain ⟨x, tk, z, _⟩ := g e he
    exact ⟨x, tk, by rw [← q]; exact z⟩
  have pk : ks.Perm (es.toList.map keyS) := by
    have q := pm.map fun v => match v with | .str x _ => x | _ => Str.empty
    rw [List.map_map] at q
    rw [ek]
    exact q
  refine wpAny_bind (wpAny_newList ?_ (by rw [sizeLine_eq]; omega))
  have hoL : (s1.heap.push (seqObj "list" vs.toArray 0)).get? s1.heap.objs.size = some (seqObj "list" vs.toArray 0) := Heap.get?_push_size _ rfl
  refine wpAny_bind (wpAny_holding (wpAny_call_entry slot_list_sort ⟨_, hoL, rfl⟩ entry_list_sort
    (list_sort_treeK (s := { s1 with heap := s1.heap.push (seqObj "list" vs.toArray 0) }) strKind_oneLt hoL hS.keysOf (fun v₁ v₂ rest e => keyKind_strs (by rw [← e]; exact hS)) hv64 fun st' hp hs => ⟨_, rfl, ?_⟩) (args_list_sort _)))
  obtain ⟨ys, y1, y2, y3⟩ := sorted_out_str hS hp hs
  obtain ⟨c, hc⟩ := sortedHeap_at (vs := vs) (out := (arrOf st').map (·.2)) hoL
  have pn : ys.Perm (es.toList.map keyS) := y2.trans pk
  refine wpAny_pure ⟨_, rfl, hQ _ s1.heap.objs.size _ c ys (fun b u e => ?_) g1 o1 hz hc y1 (pn.nodup_iff.mpr nd) y3 (fun k => by rw [pn.mem_iff, ← hm k]) ?_⟩
  · have q := k1 b u e
    have hlt := Heap.lt_size q
    refine (sortedHeap_old (Nat.ne_of_lt hlt) (by rw [size_push']; exact Nat.lt_succ_of_lt hlt)).trans ?_
    exact Heap.get?_push_of_some _ q
  · rw [pn.length_eq, List.length_map, Array.length_toList]; exact hn
end
/-- the set of the texts l at a -/
def SetT (w : World) (a : Addr) (l : List Str) : HO := .ext fun h => SetS w h a l
section
variable {X : Cx}
theorem setT_new {w : World} {P : Program} {H : Hp} {h : Heap} {a : Addr} {l : List Str} (R : SetS w h a l) : ObjOk P w H h a (SetT w a l) := by
  have ⟨o, _, _, _, ho, _⟩ := R
  exact ⟨R, ⟨o, ho⟩, fun h1 h2 p k => SetS.at p k⟩
/-- set(xs), xs a list of texts -/
def rSetS (w : World) (K : PySem.W.Frag) : List V → Hp → VK → Prop := fun vs H Q => ∃ (a : Addr) (l : List Str), vs = [.ref a] ∧ SqL K H a (l.map V.str) ∧ l.length ≤ 1000 ∧ ∀ p, H p = none → Q (.ref p) (upd H p (SetT w p l))
theorem cr_setS (hc : X.calm = true) : CallR X (.type "set") (rSetS X.w X.K) := by
  intro pins s σ H vs us Q I r h
  obtain ⟨a, l, rfl, hs, hl, q⟩ := h
  obtain ⟨its, rv, hL, _⟩ := I.list hs
  rw [Vals.ref1 r]
  refine set_strs l (I.ok.hd hc) hL.isList rv.strs (by unfold scanBound; omega) fun h' tk hS hk => ?_
  have hn : H s.heap.objs.size = none := I.hok.fresh (Nat.le_refl _)
  exact ⟨.ref s.heap.objs.size, upd H s.heap.objs.size (SetT X.w s.heap.objs.size l), I.laid (t' := tk) hk (Nat.le_refl _) (setT_new hS), rfl, q _ hn⟩
def rSortT (w : World) : List V → Hp → VK → Prop := fun vs H Q => ∃ (a : Addr) (l : List Str), vs = [.ref a] ∧ H a = some (SetT w a l) ∧ l.length < 64 ∧
  ∀ (ys : List Str) (p : Addr), ys.Nodup → sortedS ys = true → (∀ k, k ∈ ys ↔ k ∈ l) → ys.length ≤ l.length → H p = none → Q (.ref p) (upd H p (.lst (ys.map V.str)))
theorem cr_sortT (hc : X.calm = true) : CallR X (.builtin "sorted") (rSortT X.w) := by
  intro pins s σ H vs us Q I r h
  obtain ⟨a, l, rfl, ha, h64, q⟩ := h
  have R : SetS X.w s.heap a l := (I.hok a _ ha).1
  rw [Vals.ref1 r]
  refine sorted_setS R (I.ok.hd hc) h64 fun s' p out c ns k g o hp hg hi hs1 hs2 hm hl => ?_
  have hlen : (ns.map V.str).length ≤ sizeLine := by rw [List.length_map, sizeLine_eq]; omega
  have hn : H p = none := I.hok.fresh hp
  have J : Inv X pins σ (upd H p (.lst (ns.map V.str))) { s with heap := s'.heap, gens := s'.gens, drawn := s'.drawn, toks := s'.toks } :=
    I.call (ch := []) (Un.laid k hp hn) (I.hok.laid k hp ⟨hlen, out.toList, c, vals_of_strs hi, hg⟩) (by rw [g]; exact I.bare) (fun _ z => nomatch z)
  have e : s' = { s with heap := s'.heap, gens := s'.gens, drawn := s'.drawn, toks := s'.toks } := by
    cases s'
    cases s
    cases o
    rfl
  rw [e]
  exact ⟨.ref p, _, J, rfl, q ns p hs1 hs2 hm hl hn⟩
end
end CH
/-! text R10 -/
/-! tuple(d), list(d) of tuple keys, sorted(tuples of texts), walks over a list or a tuple. -/
namespace CH
open PySem PySem.Spec PyProof.Rows L2 Evl
section
variable {prog : Program} {w : World} {A : Around} {E : Value → Shared → Prop} {s : Shared} {T : String} {r d : Addr} {n : Nat} {P : Nat → Value → Prop} {OK : Heap → Prop}
theorem tuple_new_src {R : Result → Shared → Prop} (K : PySem.W.KdlSrc prog w T r d n P OK) (hd : T = "dict") (hh : A.handled = none) (hok : OK s.heap) (hn : n ≤ sizeLine)
    (h : ∀ (h' : Heap) (tk : Nat) (acc : Array Value), (∀ b o, s.heap.get? b = some o → h'.get? b = some o) → ItemsOf P acc n → R (.ok (.ret (.ref h'.objs.size))) { s with heap := h'.push { cls := .type "tuple", data := .seq acc }, toks := tk }) :
    codeAny (model prog w) A (.call (.builtin "tuple.__new__") ⟨[.type "tuple", .ref r], []⟩) R s := by
  subst hd
  refine codeAny_of_tree (show wpAny _ A.in1 (do checkBuiltinCall "tuple.__new__" ⟨[.type "tuple", .ref r], []⟩; again (.builtin "tuple.__new__" ⟨[.type "tuple", .ref r], []⟩)) _ _ s from
    wpAny_bind (wpAny_of_eq (F.newCall_tuple_1 _) (wpAny_pure ⟨Code.quiet_builtin _ (by decide +kernel), codeAny_builtin F.entry_tuple_new ?_⟩)))
  have h2 := sub_tuple_self
  have h3 := init_tuple_lookup
  have h4 := madeHere_tuple
  have hTI : s.TypeIs (.ref r) "dict" := K.type s hok
  have hc1 : A.in1.handled = none := hh
  have out : ∀ {h' : Heap} {tk : Nat} {acc : Array Value} {Q : PySem.Fin → Shared → Prop} {E' : Value → Shared → Prop}, acc.size ≤ sizeLine → Q (.done (.ret (.ref h'.objs.size))) { s with heap := h'.push { cls := .type "tuple", data := .seq acc }, toks := tk } →
      wpAny (model prog w) A.in1 (Builtin.Tuple.tupleExact acc.toList.toArray >>= fun v => (ret v : Sem PySem.Fin)) Q E' { s with heap := h', toks := tk } := fun {h' tk acc Q E'} hz q => by
    rw [Array.toArray_toList]
    unfold Builtin.Tuple.tupleExact
    exact wpAny_bind (wpAny_newObj_type (wpAny_pure q) hz)
  rw [Around.under_plainId (by decide +kernel : plainId "tuple.__new__" = true) _]
  unfold Builtin.«tuple.__new__»
  wp_walk using wpAny_typeOf hTI, PySem.W.kdu_collect (A := A.in1) K hc1 hok hn
  intro h' tk acc hk hacc
  exact out (by rw [hacc.1]; exact hn) (h h' tk acc hk hacc)
theorem call_tuple_src {Q : Value → Shared → Prop} (K : PySem.W.KdlSrc prog w T r d n P OK) (hd : T = "dict") (hh : A.handled = none) (hok : OK s.heap) (hn : n ≤ sizeLine)
    (h : ∀ (h' : Heap) (tk : Nat) (acc : Array Value), (∀ b o, s.heap.get? b = some o → h'.get? b = some o) → ItemsOf P acc n → Q (.ref h'.objs.size) { s with heap := h'.push { cls := .type "tuple", data := .seq acc }, toks := tk }) :
    wpAny (model prog w) A (call (.type "tuple") [.ref r]) Q E s := by
  refine callType_codes (Q₁ := fun ob s1 => s1.TypeIs ob "tuple" ∧ Q ob s1) F.called_tuple (F.typeCall_tuple_1 _) F.entry_object_init
    (tuple_new_src (A := A.in1) K hd hh hok hn fun h' tk acc hk hacc => ⟨⟨_, Heap.get?_push_size _ rfl, rfl⟩, h h' tk acc hk hacc⟩) fun ob s1 h1 => ?_
  exact ⟨h1.1, F.args_object_init_2 ob _, object_init_meets F.called_tuple.init.lookup F.called_tuple.made (by decide) prog w A.in1 _ s1 ⟨h1.1, rfl, h1.2⟩⟩
end
/-! ### the keys of a dict as its entries tell -/
def RawD (d : Addr) (es : Array DictEntry) (ep : Nat) (h : Heap) : Prop := ∃ o, h.get? d = some o ∧ o.ExactDict ∧ o.data = .dict es ep
theorem raw_src {prog : Program} {w : World} {d : Addr} {es : Array DictEntry} {ep : Nat} (lo : (d == sysModules) = false) : PySem.W.KdlSrc prog w "dict" d d es.size (fun i v => ∃ en, es[i]? = some en ∧ v = en.key) (RawD d es ep) where
  type := fun _ ⟨o, h1, h2, _⟩ => ⟨o, h1, h2.1⟩
  there := fun _ ⟨o, h1, _⟩ => ⟨Heap.lt_size h1, Heap.lt_size h1⟩
  keep := fun _ _ ⟨o, h1, h2⟩ k => ⟨o, k d (.inl rfl) o h1, h2⟩
  notList := by decide
  notTuple := by decide
  hint := fun _ _ _ _ ⟨o, h1, h2, _⟩ q => PySem.W.kdl_hint_dict ⟨o, h1, h2.1⟩ q
  iter := fun A s hh ⟨o, h1, h2, h3⟩ => ⟨_, fun i h => h.IsKeyIter s.heap.objs.size d i es.size ep ∧ RawD d es ep h, (fun _ _ q => iter_keys lo h1 h2 h3 q), {
      sub := fun b hb => by simp at hb; simp [hb]
      frame := fun _ _ _ st k => ⟨st.1.at fun o e => k _ (by simp) o e, by obtain ⟨o, z1, z2⟩ := st.2; exact ⟨o, k d (by simp) o z1, z2⟩⟩
      item := fun i s2 Q E hi ⟨st, o2, z1, z2, z3⟩ hQ => by
        have hne : d ≠ s.heap.objs.size := Nat.ne_of_lt (Heap.lt_size h1)
        refine next_key_item st z1 z3 rfl (Array.getElem?_eq_getElem hi) fun h' st' sb => ?_
        exact hQ _ h' s2.toks ⟨_, Array.getElem?_eq_getElem hi, rfl⟩ ⟨st', o2, (sb.2 d hne).trans z1, z2, z3⟩ fun b u hb e => (sb.2 b fun z => hb (by simp [z])).trans e
      done := fun s2 Q E ⟨st, o2, z1, z2, z3⟩ hQ => next_key_end hh st z1 z3 rfl (Nat.le_refl _) fun h' eb => hQ h' s2.toks fun b u hb e => eb b u (fun z => hb (by simp [z])) e
      self := fun _ _ _ _ st q => wpAny_pyIter_slot st.1.typeIs F.slot_dict_keyiterator_iter (wpAny_call_entry F.slot_dict_keyiterator_iter st.1.typeIs F.entry_dict_keyiterator_iter
        (show wpAny _ _ (ret _) _ _ _ from wpAny_pure ⟨_, rfl, "dict_keyiterator", _, st.1.typeIs, F.slot_dict_keyiterator_next.lookup, q⟩) (F.args_dict_keyiterator_iter_1 _)) },
    ⟨⟨_, Heap.get?_push_size _ rfl, rfl, rfl⟩, o, Heap.get?_push_of_some _ h1, h2, h3⟩⟩
theorem refs_of {κ : Type} {P : Addr → κ → Prop} : ∀ {us : List Value} {ks : List κ}, us.length = ks.length → (∀ (j : Nat) (k : κ), ks[j]? = some k → ∃ q, us[j]? = some (.ref q) ∧ P q k) → ∃ qs : List V, Vals qs us ∧ Paired (fun (x : V) (k : κ) => ∃ q, x = .ref q ∧ P q k) qs ks
  | [], [], _, _ => ⟨[], .nil, .nil⟩
  | u :: us, k :: ks, hl, h => by
    obtain ⟨q, e, hq⟩ := h 0 k rfl
    obtain rfl : u = .ref q := Option.some.inj e
    obtain ⟨qs, a, b⟩ := refs_of (us := us) (ks := ks) (by simpa using hl) fun j k' e' => by simpa using h (j + 1) k' (by simpa using e')
    exact ⟨.ref q :: qs, .cons rfl a, .cons ⟨q, rfl, hq⟩ b⟩
  | [], _ :: _, hl, _ => by simp at hl
  | _ :: _, [], hl, _ => by simp at hl
section
variable {X : Cx}
/-- tuple(d), d a dict of texts and ints: its keys -/
theorem call_tupleD (hc : X.calm = true) : CallR X (.type "tuple") (fun xs H Q => ∃ (a : Addr) (kvs : List (Key × V)), xs = [.ref a] ∧ Rd H a (.dK kvs) ∧ ∀ p, H p = none → Q (.ref p) (upd H p (.tup (kvs.map fun kv => kV kv.1)))) := by
  intro pins s σ H xs us Q I r q
  obtain ⟨a, kvs, rfl, hd, q⟩ := q
  rw [Vals.ref1 r]
  obtain ⟨z, lo, vs, rel, dd⟩ := dk_rd I.hok hd
  obtain ⟨ep, hat⟩ := dd.dictAt
  have ek : (kvs.map fun kv => kV kv.1) = vs.map fun p => kV p.1 := by
    have e := congrArg (List.map kV) rel.keys
    rw [List.map_map, List.map_map] at e
    exact e
  refine call_tuple_src (PySem.W.kdl_dict (knd := mixKind X.prog X.w) (kvs := vs) (ep := ep) lo) rfl (I.ok.hd hc) hat (by rw [← rel.length]; exact z) fun h' tk acc hk hacc => ?_
  have hv : Vals (vs.map fun p => kV p.1) acc.toList := keys_at (by rw [Array.length_toList]; exact hacc.1) fun j v e => hacc.2 j v (by rw [← Array.getElem?_toList]; exact e)
  have I1 : Inv X pins σ H { s with heap := h', toks := tk } := I.kept hk
  exact ⟨.ref h'.objs.size, _, I1.laid (t' := tk) (fun b o e => Heap.get?_push_of_some _ e) (Nat.le_refl _)
    (show ObjOk X.prog X.w _ _ _ (.tup (kvs.map fun kv => kV kv.1)) from ⟨by rw [List.length_map]; exact z, acc.toList, by rw [ek]; exact hv, by rw [Array.toArray_toList]; exact IsTup.new _ _⟩), rfl, q _ (I1.hok.fresh (Nat.le_refl _))⟩
/-- list(d), d a dict of tuples: the key tuples -/
theorem call_listT (hc : X.calm = true) : CallR X (.type "list") (fun xs H Q => ∃ (a : Addr) (kvs : List (List Key × V)), xs = [.ref a] ∧ H a = some (.dT kvs) ∧ ∀ p qs, H p = none → Paired (fun (x : V) (k : List Key) => ∃ q, x = .ref q ∧ H q = some (.tup (k.map kV))) qs (kvs.map (·.1)) → Q (.ref p) (upd H p (.lst qs))) := by
  intro pins s σ H xs us Q I r q
  obtain ⟨a, kvs, rfl, hd, q⟩ := q
  rw [Vals.ref1 r]
  obtain ⟨z, lo, es0, pr, o, es, ep, ho, hx, hdt, he, _⟩ := I.hok a _ hd
  have hz : es.size = kvs.length := by
    have l1 : es.size = es0.length := size_of_entries he
    have l2 : kvs.length = es0.length := Paired.length pr
    omega
  refine PySem.W.kdl_call (raw_src (ep := ep) lo) (I.ok.hd hc) ⟨o, ho, hx, hdt⟩ (by rw [hz]; exact z) fun h' tk acc c' hk hD hacc => ?_
  have key : ∀ (j : Nat) (k : List Key), (kvs.map (·.1))[j]? = some k → ∃ q, acc.toList[j]? = some (.ref q) ∧ H q = some (.tup (k.map kV)) := fun j k e => by
    rw [List.getElem?_map] at e
    cases e2 : kvs[j]? with
    | none => rw [e2] at e; cases e
    | some kv =>
      obtain ⟨k', v⟩ := kv
      rw [e2] at e
      obtain rfl : k' = k := Option.some.inj e
      obtain ⟨b, hb, e1, e3, _⟩ := paired_get pr e2
      have qe := entry_at he j
      rw [hb] at qe
      have hj : j < acc.size := by
        rw [hacc.1, hz]
        exact (List.getElem?_eq_some_iff.mp e2).1
      obtain ⟨en, q1, q2⟩ := hacc.2 j _ (Array.getElem?_eq_getElem hj)
      rw [qe] at q1
      refine ⟨b.2.1, ?_, e3⟩
      rw [Array.getElem?_toList, Array.getElem?_eq_getElem hj, q2, ← Option.some.inj q1]
      rfl
  have hal : acc.toList.length = (kvs.map (·.1)).length := by rw [Array.length_toList, hacc.1, hz, List.length_map]
  obtain ⟨qs, v1, v2⟩ := refs_of (P := fun q (k : List Key) => H q = some (.tup (k.map kV))) hal key
  have hlen : qs.length ≤ sizeLine := by rw [v1.length, hal, List.length_map]; exact z
  exact ⟨.ref s.heap.objs.size, upd H s.heap.objs.size (.lst qs), I.laid (t' := tk) hk (Nat.le_refl _)
    (show ObjOk X.prog X.w _ _ _ (.lst qs) from ⟨hlen, acc.toList, _, v1, by rw [Array.toArray_toList]; exact hD⟩), rfl, q _ qs (I.hok.fresh (Nat.le_refl _)) v2⟩
/-- sorted(xs), xs a list of data that are alike -/
def rSortD (K : PySem.W.Frag) : List V → Hp → VK → Prop := fun vs H Q => ∃ (a : Addr) (bs : List (V × PyData)), vs = [.ref a] ∧ SqL K H a (bs.map (·.1)) ∧ (∀ b ∈ bs, Dp K H b.1 b.2) ∧ PySem.W.AllAlike (bs.map (·.2)) ∧ PySem.W.Sortable (bs.map (·.2)) ∧ (∀ b ∈ bs, b.2.depth ≤ 30) ∧
  ∀ p, H p = none → Q (.ref p) (upd H p (.lst ((bs.mergeSort (PySem.W.dataLe false (·.2))).map (·.1))))
theorem each_of {α β γ : Type} {F : γ → β → Prop} {f : α → β} : ∀ {bs : List α} {us : List γ}, Paired (fun b u => F u b) (bs.map f) us → PySem.W.EachIs (fun u b => F u (f b)) us bs
  | [], [], .nil => .nil
  | b :: bs, u :: us, .cons r t => .cons r (each_of t)
theorem each_and {α β : Type} {F G : α → β → Prop} : ∀ {us : List α} {bs : List β}, PySem.W.EachIs F us bs → (∀ u b, b ∈ bs → F u b → G u b) → PySem.W.EachIs G us bs
  | _, _, .nil, _ => .nil
  | _, _, .cons r t, h => .cons (h _ _ List.mem_cons_self r) (each_and t fun u b hb => h u b (List.mem_cons_of_mem _ hb))
theorem of_each {α β γ : Type} {F : γ → β → Prop} {f : α → β} : ∀ {bs : List α} {us : List γ}, PySem.W.EachIs (fun u b => F u (f b)) us bs → Paired (fun b u => F u b) (bs.map f) us
  | [], [], .nil => .nil
  | b :: bs, u :: us, .cons r t => .cons r (of_each t)
theorem cr_sortD (hu : X.A.units + 64 < cLine) : CallR X (.builtin "sorted") (rSortD X.K) := by
  intro pins s σ H vs us Q I r h
  obtain ⟨a, bs, rfl, hs, hd, hal, hk, hdp, q⟩ := h
  obtain ⟨its, rv, hL, hz⟩ := I.list hs
  rw [Vals.ref1 r]
  have e : PySem.W.EachIs (fun u (b : V × PyData) => RelV b.1 u) its bs := each_of (F := fun u v => RelV v u) (f := fun x : V × PyData => x.1) rv
  have lb : bs.length ≤ sizeLine := by rw [List.length_map] at hz; exact hz
  refine PySem.W.sorted_data (enc := (·.2)) hL.isList e (each_and e fun u b hb rb => Dp.reads I b.2 b.1 u (hd b hb) rb) hal hk lb (fun b hb => by have := hdp b hb; omega) fun out ho eo => ?_
  obtain ⟨ep, he'⟩ := PyProof.Rows.sortedAll_at s.heap its out.toArray
  have ls : ((bs.mergeSort (PySem.W.dataLe false (·.2))).map (·.1)).length ≤ sizeLine := by rw [List.length_map, List.length_mergeSort]; exact lb
  exact ⟨.ref _, upd H (s.heap.objs.size + 1) (.lst _), I.laid (t' := s.toks) (fun _ _ => PyProof.Rows.sortedAll_old) (Nat.le_succ _) ⟨ls, out, ep, of_each (F := fun u v => RelV v u) eo, he'⟩, rfl, q _ (I.hok.fresh (Nat.le_succ _))⟩
/-- walking a list or a tuple -/
def iSeq (K : PySem.W.Frag) (te : TE) : TI := fun σ H R => te σ H fun v H1 => ∃ a, v = .ref a ∧ (((∃ xs, SqT K H1 a xs) ∧ R (Itt K a) H1) ∨ ((∃ xs, SqL K H1 a xs) ∧ R (Itl K a) H1))
theorem pi_seq {tg e : Expr} {te : TE} (he : PE X e te) : PI X tg e (iSeq X.K te) := by
  refine ⟨fun pins s σ H R I h => ?_⟩
  refine thn (he.run pins s σ H _ I h) fun v s1 ⟨x, H1, I1, r1, a, ex, q⟩ => ?_
  subst ex
  cases r1
  rcases q with ⟨⟨xs, hq⟩, q⟩ | ⟨⟨xs, hq⟩, q⟩
  · obtain ⟨its, rv, p, hz⟩ := I1.tuple hq
    refine wpAny_pyIter_tuple (show s1.heap.IsTuple a its.toArray from p) ⟨s1.heap.objs.size, [s1.heap.objs.size], _, _, H1, rfl, I1.kept (t' := s1.toks) fun b o e => Heap.get?_push_of_some _ e, turn_tuple a _, ⟨_, Heap.get?_push_size _ rfl, rfl, rfl⟩, fun b hb => ?_, q⟩
    obtain rfl : b = s1.heap.objs.size := by simpa using hb
    exact I1.fpOk (Nat.le_refl _) (I1.hok.fresh (Nat.le_refl _))
  · obtain ⟨its, rv, p, hz⟩ := I1.list hq
    refine wpAny_pyIter_list p.isList ⟨s1.heap.objs.size, [s1.heap.objs.size], _, _, H1, rfl, I1.kept (t' := s1.toks) fun b o e => Heap.get?_push_of_some _ e, turn_list a _, ⟨_, Heap.get?_push_size _ rfl, rfl, rfl⟩, fun b hb => ?_, q⟩
    obtain rfl : b = s1.heap.objs.size := by simpa using hb
    exact I1.fpOk (Nat.le_refl _) (I1.hok.fresh (Nat.le_refl _))
end
end CH
/-! text W1 -/
/-! The plain defs, walked. -/
namespace CH
open PySem L2 Evl
/-- what the top has left of the built-in names -/
structure Blt (mg : Str → Option Value) : Prop where
  tuple : mg "tuple" = none
  list : mg "list" = none
  len : mg "len" = none
  sorted : mg "sorted" = none
  set : mg "set" = none
  range : mg "range" = none
  max : mg "max" = none
  any : mg "any" = none
  all : mg "all" = none
  isinstance : mg "isinstance" = none
  zip : mg "zip" = none
  enumerate : mg "enumerate" = none
  int : mg "int" = none
  bool : mg "bool" = none
  str : mg "str" = none
  abs : mg "abs" = none
/-- a def by its name -/
def Pr (P : Program) (w : World) (K : PySem.W.Frag) (mg : Str → Option Value) (base : Heap) (x : Str) (k : Nat) (sp : Sp) : Prop := ∃ f, mg x = some (.ref f) ∧ PySem.W.keepIn K (.ref f) = true ∧ FnR P w K mg base CX0 k f sp
section
variable {X : Cx} {x : Str} {k : Nat} {sp : Sp} {p pos : Pos} {e : Expr} {es : List Expr} {t : TA}
theorem pe_pr (G : Pr X.prog X.w X.K X.mg X.base x k sp) (hr : Room k X.A) (hg : Gl X x) (ha : PA X (e :: es) t)
    (hd : (x == ("__debug__" : Str)) = false := by decide) (hs : starEach (e :: es) X.env = (false, eval e X.env) :: starEach es X.env := by rfl) (hp : (backTo pos (starEach es X.env)).any (·.1) = false := by rfl) :
    PE X (.Call (.Name x p) (e :: es) [] pos) (tCallF sp E0 t) := by
  obtain ⟨f, hm, hk, F⟩ := G
  exact pe_callF F hr hk hg hm pass0 ha hd hs hp
theorem pe_pr0 (G : Pr X.prog X.w X.K X.mg X.base x k sp) (hr : Room k X.A) (hg : Gl X x) (hd : (x == ("__debug__" : Str)) = false := by decide) : PE X (.Call (.Name x p) [] [] pos) (tCallF sp E0 tNil) := by
  obtain ⟨f, hm, hk, F⟩ := G
  exact pe_callF0 F hr hk hg hm pass0 hd
end
abbrev sL (l : List Str) : List V := l.map V.str
/-- a tuple of names; one that was made here -/
def NT (K : PySem.W.Frag) (H : Hp) (v : V) (l : List Str) : Prop := ∃ a, v = .ref a ∧ SqT K H a (sL l)
def NS (H : Hp) (v : V) (l : List Str) : Prop := ∃ a, v = .ref a ∧ H a = some (.tup (sL l))
theorem NS.nt {K : PySem.W.Frag} {H : Hp} {v : V} {l : List Str} (h : NS H v l) : NT K H v l := let ⟨a, e, z⟩ := h; ⟨a, e, SqT.of z⟩
theorem NS.mono {R : Hp → Hp → Prop} (kp : Kp R) {H H' : Hp} {v : V} {l : List Str} (r : R H H') (h : NS H v l) : NS H' v l := let ⟨a, e, z⟩ := h; ⟨a, e, kp.keep r z fun _ y => by cases y⟩
theorem NT.mono {R : Hp → Hp → Prop} (kp : Kp R) {K : PySem.W.Frag} {H H' : Hp} {v : V} {l : List Str} (r : R H H') (h : NT K H v l) : NT K H' v l := let ⟨a, e, z⟩ := h; ⟨a, e, kp.tup r z⟩
theorem inV_str (x : Str) : ∀ l : List Str, inV (.str x) (sL l) = decide (x ∈ l)
  | [] => by rfl
  | y :: l => by
    have h := inV_str x l
    unfold inV at h ⊢
    show (eqV (.str y) (.str x) || (sL l).any fun z => eqV z (.str x)) = _
    rw [h]
    by_cases e : x = y
    · subst e
      have : eqV (.str x) (.str x) = true := by simp [eqV]
      rw [this]
      simp
    · have : eqV (.str y) (.str x) = false := by simp [eqV]; exact fun z => e (by rw [z])
      rw [this]
      simp [e]
theorem flat_str (x : Str) : flatV (.str x) = true := rfl
theorem flats (l : List Str) : (sL l).all flatV = true := by
  rw [List.all_eq_true]
  intro v hv
  obtain ⟨x, _, rfl⟩ := List.mem_map.mp hv
  rfl
/-- rules with the fragment named -/
theorem opIn (K : PySem.W.Frag) {X : Cx} (h : X.K = K := by rfl) : OpR X (compareOp .In) (rIn K false) := by subst h; exact op_in_seq
theorem opNotIn (K : PySem.W.Frag) {X : Cx} (h : X.K = K := by rfl) : OpR X (compareOp .NotIn) (rIn K true) := by subst h; exact op_notIn_seq
/-! ### but -/
abbrev sBut : Stmt := top 16
theorem scBut : FnScope ["names", "gone", "name"] ["names", "gone"] (defScope sBut) := ⟨rfl, rfl, rfl, by decide +kernel, rfl, by decide +kernel, by decide +kernel⟩
def butL (l gone : List Str) : List Str := l.filter fun x => decide (x ∉ gone)
/-- the result is a tuple made there; nothing else changes -/
abbrev RT (H : Hp) (Q : VK) (l : List Str) : Prop := ∀ r H', Ex H H' → NS H' r l → Q r H'
def spBut (K : PySem.W.Frag) : Sp := fun vs H Q _ => ∃ (v : V) (l gone : List Str), vs = v :: sL gone ∧ NT K H v l ∧ l.length ≤ 1000 ∧ gone.length ≤ 1000 ∧ RT H Q (butL l gone)
section
variable {P : Program} {w : World} {K : PySem.W.Frag} {mg : Str → Option Value} {base : Heap} {f : Addr}
theorem ok_but (F : Fn K "but" "but" sBut [] [] f) (T : Blt mg) : FnR P w K mg base CX0 1 f (spBut K) := by
  refine FnR.imp (Fn.ok1 (k := 0) (sp := fun vs H Q _ => ∃ (a p : Addr) (l gone : List Str), vs = [.ref a, .ref p] ∧ SqT K H a (sL l) ∧ H p = some (.tup (sL gone)) ∧ l.length ≤ 1000 ∧ RT H Q (butL l gone)) F scBut
    (fun kV doc pm an cdv ct a rest => by cases rest <;> rfl) (fun cdv A outer s H vs Q E hr h => ?_)) (fun vs H Q E h => ?_)
  · obtain ⟨a, p, l, gone, rfl, ha, hp, hz, k⟩ := h
    refine ⟨_, pss_one (ps_ret (pe_callTy call_tuple_of (by rfl) T.tuple (by decide +kernel) (pa_cons (pe_lc (own := [("name", 2)]) (g := gName 2) rfl scBut.nd (pi_tup (pv 0)) (blkOk_by (N := ["names", "gone", "name"]) (sc := defScope sBut) (by decide +kernel))
      (fun _ _ _ _ _ => pg_name (i := 2) scBut.nd rfl (Or.inl rfl)) (fun _ _ _ _ _ => pts_one (pt_cmpR (opNotIn K) (pv 2) (pv 1) (by with_unfolding_all rfl))) (fun _ _ _ _ _ => pv 2)) pa_nil))), ?_⟩
    refine ⟨_, rfl, fltT kpE V.str (fun x => decide (x ∉ gone)) l ha (Nat.le_trans hz (by decide)) (by show 2 < 3; decide) (fun _ => rfl) (fun n H' hn e Q' q => ?_) (fun D H' hD e hd => ?_)⟩
    · refine ⟨_, rfl, _, rfl, p, sL gone, rfl, .inr (SqT.of (e _ _ hp)), flat_str n, flats gone, _, rfl, ?_⟩
      rw [inV_str]
      have := q H' (Ex.refl _)
      simpa using this
    · refine ⟨D, _, rfl, .inl ⟨SqL.of hd, fun r hr => ?_⟩⟩
      exact k _ _ ((e.trans (Ex.new hr))) ⟨r, rfl, upd_same⟩
  · obtain ⟨v, l, gone, rfl, ⟨a, rfl, ha⟩, h1, h2, k⟩ := h
    refine ⟨.ref a, sL gone, rfl, ?_, fun p hp => ⟨a, p, l, gone, rfl, kpE.tup (kpE.new hp) ha, upd_same, h1, fun r H' x y => k r H' ((kpE.new hp).trans x) y⟩⟩
    rw [List.length_map]
    exact Nat.le_trans h2 (by decide)
end
end CH
/-! text W2 -/
namespace CH
open PySem L2 Evl
section
variable {K : PySem.W.Frag} {H H' : Hp} {a : Addr} {xs : List V}
theorem tyx_T (h : SqT K H a xs) : TyX K H (.ref a) (.type "tuple") := by
  rcases h with (h | ⟨o, h⟩) | ⟨o, its, n, h, hc, _⟩
  · exact .base (.tup h)
  · exact .fTuple h
  · exact .kTuple h hc
theorem tyx_L (h : SqL K H a xs) : TyX K H (.ref a) (.type "list") := by
  rcases h with (h | ⟨o, h⟩) | ⟨o, its, n, h, hc, _⟩
  · exact .base (.lst h)
  · exact .base (.frz h)
  · exact .kList h hc
end
mutual
/-- lists made tuples -/
def flatD : PyData → PyData
  | .list xs => .tuple (flatDs xs)
  | .tuple xs => .tuple (flatDs xs)
  | d => d
def flatDs : List PyData → List PyData
  | [] => []
  | d :: ds => flatD d :: flatDs ds
end
theorem flatDs_map : ∀ ds, flatDs ds = ds.map flatD
  | [] => rfl
  | d :: ds => by rw [flatDs, flatDs_map ds]; rfl
mutual
/-- data of texts and tuples that were made here -/
inductive Ds (H : Hp) : V → PyData → Prop
  | str (x : Str) : Ds H (.str x) (.str x)
  | tup {a : Addr} {xs : List V} {ds : List PyData} : H a = some (.tup xs) → DsAll H xs ds → Ds H (.ref a) (.tuple ds)
inductive DsAll (H : Hp) : List V → List PyData → Prop
  | nil : DsAll H [] []
  | cons {v : V} {vs : List V} {d : PyData} {ds : List PyData} : Ds H v d → DsAll H vs ds → DsAll H (v :: vs) (d :: ds)
end
theorem DsAll.snoc {H : Hp} : ∀ {vs : List V} {ds : List PyData} {v : V} {d : PyData}, DsAll H vs ds → Ds H v d → DsAll H (vs ++ [v]) (ds ++ [d])
  | _, _, _, _, .nil, h => .cons h .nil
  | _, _, _, _, .cons a b, h => .cons a (b.snoc h)
mutual
theorem Ds.mono {R : Hp → Hp → Prop} (kp : Kp R) {H H' : Hp} (r : R H H') : ∀ {v : V} {d : PyData}, Ds H v d → Ds H' v d
  | _, _, .str x => .str x
  | _, _, .tup e h => .tup (kp.keep r e fun _ z => by cases z) (DsAll.mono kp r h)
theorem DsAll.mono {R : Hp → Hp → Prop} (kp : Kp R) {H H' : Hp} (r : R H H') : ∀ {v : List V} {d : List PyData}, DsAll H v d → DsAll H' v d
  | _, _, .nil => .nil
  | _, _, .cons a b => .cons (a.mono kp r) (DsAll.mono kp r b)
end
mutual
theorem Ds.dp {K : PySem.W.Frag} {H : Hp} : ∀ {v : V} {d : PyData}, Ds H v d → Dp K H v d
  | _, _, .str x => .str x
  | _, _, .tup e h => .tup (SqT.of e) h.dp
theorem DsAll.dp {K : PySem.W.Frag} {H : Hp} : ∀ {v : List V} {d : List PyData}, DsAll H v d → DpAll K H v d
  | _, _, .nil => .nil
  | _, _, .cons a b => .cons a.dp b.dp
end
mutual
theorem Dp.mono {K : PySem.W.Frag} {R : Hp → Hp → Prop} (kp : Kp R) {H H' : Hp} (r : R H H') : ∀ {v : V} {d : PyData}, Dp K H v d → Dp K H' v d
  | _, _, .non => .non
  | _, _, .bl b => .bl b
  | _, _, .int i => .int i
  | _, _, .str x => .str x
  | _, _, .tup e h => .tup (kp.tup r e) (DpAll.mono kp r h)
  | _, _, .lst e h => .lst (kp.lst r e) (DpAll.mono kp r h)
theorem DpAll.mono {K : PySem.W.Frag} {R : Hp → Hp → Prop} (kp : Kp R) {H H' : Hp} (r : R H H') : ∀ {v : List V} {d : List PyData}, DpAll K H v d → DpAll K H' v d
  | _, _, .nil => .nil
  | _, _, .cons a b => .cons (Dp.mono kp r a) (DpAll.mono kp r b)
end
theorem dpAll_at {K : PySem.W.Frag} {H : Hp} : ∀ {xs : List V} {ds : List PyData}, DpAll K H xs ds → ∀ {i : Nat} {x : V}, xs[i]? = some x → ∃ d, ds[i]? = some d ∧ Dp K H x d
  | _, _, .nil, _, _, h => by simp at h
  | _, _, .cons a b, 0, _, h => ⟨_, rfl, by simp at h; subst h; exact a⟩
  | _, _, .cons a b, i + 1, _, h => by simpa using dpAll_at b (i := i) (by simpa using h)
theorem dpAll_len {K : PySem.W.Frag} {H : Hp} : ∀ {xs : List V} {ds : List PyData}, DpAll K H xs ds → xs.length = ds.length
  | _, _, .nil => rfl
  | _, _, .cons a b => by simp [dpAll_len b]
mutual
theorem Ds.upd {H : Hp} {D : Addr} {l : List V} {o : HO} (h : H D = some (.lst l)) : ∀ {v : V} {d : PyData}, Ds H v d → Ds (upd H D o) v d
  | _, _, .str x => .str x
  | _, _, .tup e t => .tup (by rw [upd_ne (fun z => by rw [z, h] at e; cases e)]; exact e) (DsAll.upd h t)
theorem DsAll.upd {H : Hp} {D : Addr} {l : List V} {o : HO} (h : H D = some (.lst l)) : ∀ {v : List V} {d : List PyData}, DsAll H v d → DsAll (upd H D o) v d
  | _, _, .nil => .nil
  | _, _, .cons a b => .cons (a.upd h) (DsAll.upd h b)
end
section
variable {R : Hp → Hp → Prop} {K : PySem.W.Frag} {σ : L2.St} {H1 : Hp} {g : TG} {tt : TT} {te : TE} {vs : List Nat} {Q : Addr → Hp → Prop} {a : Addr} {xs : List V}
/-- a list or a tuple -/
theorem lcS_in (kp : Kp R) (P : Nat → List V → Hp → Prop) (hx : SqT K H1 a xs ∨ SqL K H1 a xs) (hz : xs.length ≤ 100000) (p0 : ∀ D, H1 D = none → P 0 [] (upd H1 D (.lst [])))
    (hs : ∀ D i x H', i < 100000 → xs[i]? = some x → LcOk R H1 D P i H' → g x (wipe σ vs) H' fun σ2 H2 => wipe σ2 vs = wipe σ vs ∧ tt σ2 H2 fun b H3 =>
      if b = true then te σ2 H3 fun y H4 => ∃ acc, H4 D = some (.lst acc) ∧ acc.length < sizeLine ∧ LcOk R H1 D P (i + 1) (upd H4 D (.lst (acc ++ [y]))) else LcOk R H1 D P (i + 1) H3)
    (hd : ∀ D H' acc, H1 D = none → R H1 H' → H' D = some (.lst acc) → P xs.length acc H' → Q D H') :
    ∃ a', V.ref a = .ref a' ∧ (((∃ xs, SqT K H1 a' xs) ∧ ∀ D, H1 D = none → ∃ W : Nat → Nat → Hp → Prop, (∃ m, W 0 m (upd H1 D (.lst []))) ∧ ∀ i m H, W i m H →
      ((Itt K a').stop i H ∧ Q D H) ∨ ((Itt K a').go i H ∧ ∃ Nx : Hp → Prop, (∀ H', Nx H' → ∃ m', m' < m ∧ W (i + 1) m' H') ∧ ∀ x H', (Itt K a').yld i H x H' → g x (wipe σ vs) H' fun σ2 H2 => wipe σ2 vs = wipe σ vs ∧ tt σ2 H2 fun b H3 =>
        if b = true then te σ2 H3 fun y H4 => ∃ acc, H4 D = some (.lst acc) ∧ acc.length < sizeLine ∧ Nx (upd H4 D (.lst (acc ++ [y]))) else Nx H3)) ∨
     ((∃ xs, SqL K H1 a' xs) ∧ ∀ D, H1 D = none → ∃ W : Nat → Nat → Hp → Prop, (∃ m, W 0 m (upd H1 D (.lst []))) ∧ ∀ i m H, W i m H →
      ((Itl K a').stop i H ∧ Q D H) ∨ ((Itl K a').go i H ∧ ∃ Nx : Hp → Prop, (∀ H', Nx H' → ∃ m', m' < m ∧ W (i + 1) m' H') ∧ ∀ x H', (Itl K a').yld i H x H' → g x (wipe σ vs) H' fun σ2 H2 => wipe σ2 vs = wipe σ vs ∧ tt σ2 H2 fun b H3 =>
        if b = true then te σ2 H3 fun y H4 => ∃ acc, H4 D = some (.lst acc) ∧ acc.length < sizeLine ∧ Nx (upd H4 D (.lst (acc ++ [y]))) else Nx H3))) := by
  rcases hx with hx | hx
  · obtain ⟨a', e, h, r⟩ := lcT_in (σ := σ) (g := g) (tt := tt) (te := te) (vs := vs) (Q := Q) kp P hx hz p0 hs hd
    exact ⟨a', e, .inl ⟨h, r⟩⟩
  · obtain ⟨a', e, h, r⟩ := lcL_in (σ := σ) (g := g) (tt := tt) (te := te) (vs := vs) (Q := Q) kp P hx hz p0 hs hd
    exact ⟨a', e, .inr ⟨h, r⟩⟩
end
/-- texts and sequences, n deep at the most -/
def Okd : Nat → PyData → Prop
  | _, .str _ => True
  | n + 1, .list xs => xs.length ≤ 1000 ∧ ∀ x ∈ xs, Okd n x
  | n + 1, .tuple xs => xs.length ≤ 1000 ∧ ∀ x ∈ xs, Okd n x
  | _, _ => False
abbrev sTupled : Stmt := top 6
theorem scTupled : FnScope ["thing", "part"] ["thing"] (defScope sTupled) := ⟨rfl, rfl, rfl, by decide +kernel, rfl, by decide +kernel, by decide +kernel⟩
def spTupled (K : PySem.W.Frag) (n : Nat) : Sp := fun vs H Q _ => ∃ (v : V) (d : PyData), vs = [v] ∧ Dp K H v d ∧ Okd n d ∧ ∀ r H', Ex H H' → Ds H' r (flatD d) → Q r H'
def spT' (K : PySem.W.Frag) : Nat → Sp
  | 0 => fun _ _ _ _ => False
  | n + 1 => spTupled K n
section
variable {P : Program} {w : World} {K : PySem.W.Frag} {mg : Str → Option Value} {base : Heap} {f : Addr}
theorem tupled_step (F : Fn K "tupled" "tupled" sTupled [] [] f) (T : Blt mg) {n : Nat} (G : Pr P w K mg base "tupled" n (spT' K n)) : FnR P w K mg base CX0 (n + 1) f (spTupled K n) := by
  refine Fn.ok0 (ps := ["thing"]) F scTupled (fun kV doc pm an cdv ct us hl => by match us, hl with | [u], _ => rfl) (fun vs H Q E ⟨_, _, e, _⟩ => by rw [e]; rfl) (fun cdv A outer s H vs Q E hr h => ?_)
  obtain ⟨v, d, rfl, hv, hd, k⟩ := h
  refine ⟨_, pss_one (ps_ret (pe_ifExp (pt_val (pe_callB call_isiT (by rfl) T.isinstance (by decide +kernel) (pa_cons (pv 0) (pa_cons (pe_tup (pa_cons (pe_bltn (v := .ty "list") (by rfl) T.list (by decide +kernel) rfl) (pa_cons (pe_bltn (v := .ty "tuple") (by rfl) T.tuple (by decide +kernel) rfl) pa_nil))) pa_nil))))
    (pe_callTy call_tuple_of (by rfl) T.tuple (by decide +kernel) (pa_cons (pe_lc (own := [("part", 1)]) (g := gName 1) rfl scTupled.nd (pi_seq (pv 0)) (blkOk_by (N := ["thing", "part"]) (sc := defScope sTupled) (by decide +kernel))
      (fun _ _ _ _ _ => pg_name (i := 1) scTupled.nd rfl (Or.inl rfl)) (fun _ _ _ _ _ => pts_nil) (fun _ _ _ _ _ => pe_pr G hr (by rfl) (pa_cons (pv 1) pa_nil))) pa_nil))
    (pv 0))), ?_⟩
  have two : ∀ (p q : Addr), Paired ClsV [.ty "list", .ty "tuple"] [.type "list", .type "tuple"] := fun _ _ => .cons (.ty _) (.cons (.ty _) .nil)
  have cs : (∃ x, v = .str x ∧ d = .str x) ∨ ∃ a xs ds m, v = .ref a ∧ (SqT K H a xs ∨ SqL K H a xs) ∧ DpAll K H xs ds ∧ flatD d = .tuple (ds.map flatD) ∧ ds.length ≤ 1000 ∧ n = m + 1 ∧ ∀ x ∈ ds, Okd m x := by
    cases hv with
    | str x => exact .inl ⟨x, rfl, rfl⟩
    | tup e hx =>
      cases n with
      | zero => exact hd.elim
      | succ m => exact .inr ⟨_, _, _, m, rfl, .inl e, hx, by rw [flatD, flatDs_map], hd.1, rfl, hd.2⟩
    | lst e hx =>
      cases n with
      | zero => exact hd.elim
      | succ m => exact .inr ⟨_, _, _, m, rfl, .inr e, hx, by rw [flatD, flatDs_map], hd.1, rfl, hd.2⟩
    | _ => exact absurd hd (by cases n <;> exact fun z => z)
  rcases cs with ⟨x, rfl, rfl⟩ | ⟨a, xs, ds, m, rfl, hs, hx, hfl, hz, rfl, hok⟩
  · refine ⟨.str x, rfl, by show (2 : Nat) ≤ sizeLine; decide, fun tp htp => ⟨.str x, tp, _, _, _, false, rfl, upd_same, two 0 0, .base (.str x), kitAny_cons (b := false) (kit_ty (by decide +kernel)) (fun _ => kitAny_cons (b := false) (kit_ty (by decide +kernel)) (fun _ => kitAny_nil) fun z => by cases z) (fun z => by cases z), false, rfl, ?_⟩⟩
    exact ⟨.str x, rfl, k _ _ (Ex.new htp) (.str x)⟩
  · have len := dpAll_len hx
    refine ⟨.ref a, rfl, by show (2 : Nat) ≤ sizeLine; decide, fun tp htp => ?_⟩
    have e1 : Ex H (upd H tp (.tup [.ty "list", .ty "tuple"])) := Ex.new htp
    have hs1 : SqT K (upd H tp (.tup [.ty "list", .ty "tuple"])) a xs ∨ SqL K (upd H tp (.tup [.ty "list", .ty "tuple"])) a xs := hs.imp (kpE.tup e1) (kpE.lst e1)
    have hx1 := DpAll.mono kpE e1 hx
    have htp1 : (upd H tp (.tup [.ty "list", .ty "tuple"])) tp = some (.tup [.ty "list", .ty "tuple"]) := upd_same
    generalize upd H tp (.tup [.ty "list", .ty "tuple"]) = H1 at e1 hs1 hx1 htp1 ⊢
    have ty : ∃ t, TyX K H1 (.ref a) t ∧ PySem.W.kitAny K t [.type "list", .type "tuple"] = some true := by
      rcases hs1 with h | h
      · exact ⟨_, tyx_T h, kitAny_cons (b := false) (kit_ty (by decide +kernel)) (fun _ => kitAny_cons (b := true) (kit_ty (by decide +kernel)) (fun z => by cases z) fun z => rfl) (fun z => by cases z)⟩
      · exact ⟨_, tyx_L h, kitAny_cons (b := true) (kit_ty (by decide +kernel)) (fun z => by cases z) fun z => rfl⟩
    obtain ⟨t, ty, ek⟩ := ty
    refine ⟨.ref a, tp, _, t, _, true, rfl, htp1, two 0 0, ty, ek, true, rfl, ?_⟩
    have fin : ∀ D H', H1 D = none → Ex H1 H' → ∀ acc, H' D = some (.lst acc) → DsAll H' acc ((ds.take xs.length).map flatD) → ∀ l, H' l = none → Q (.ref l) (upd H' l (.tup acc)) := fun D H' hD e acc hacc ha l hl => by
      rw [len, List.take_length] at ha
      have e2 : Ex H' (upd H' l (.tup acc)) := Ex.new hl
      exact k _ _ ((e1.trans e).trans e2) (by rw [hfl]; exact .tup upd_same (DsAll.mono kpE e2 ha))
    have hn : ∀ i acc H (D : Addr) (l o : List V), H D = some (.lst l) → DsAll H acc ((ds.take i).map flatD) → DsAll (upd H D (.lst o)) acc ((ds.take i).map flatD) := fun i acc H D l o h q => q.upd h
    refine ⟨_, rfl, lcS_in kpE (fun i acc H => DsAll H acc ((ds.take i).map flatD)) hs1 (by rw [len]; exact Nat.le_trans hz (by decide)) (fun _ _ => .nil) (fun D i x H' hi hxi o => ?_) (fun D H' acc hD e hacc ha => ?_)⟩
    · obtain ⟨dx, hdi, hdx⟩ := dpAll_at hx1 hxi
      refine ⟨rfl, ?_⟩
      refine ⟨x, rfl, x, dx, rfl, Dp.mono kpE o.step hdx, hok dx (List.mem_of_getElem? hdi), fun r H4 e4 hr4 => ?_⟩
      refine o.yes kpE (fun _ _ _ _ p r => DsAll.mono kpE r p) (fun i acc H l o' h q => hn i acc H D l o' h q) hi e4 fun acc p => ?_
      rw [List.take_add_one, hdi]
      show DsAll H4 (acc ++ [r]) ((ds.take i ++ [dx]).map flatD)
      rw [List.map_append]
      exact (DsAll.mono kpE e4 p).snoc hr4
    · exact ⟨D, acc, rfl, .inl ⟨SqL.of hacc, fin D H' hD e acc hacc ha⟩⟩
theorem ok_tupled (F : Fn K "tupled" "tupled" sTupled [] [] f) (T : Blt mg) (hm : mg "tupled" = some (.ref f)) : ∀ n, FnR P w K mg base CX0 (n + 1) f (spTupled K n)
  | 0 => tupled_step F T ⟨f, hm, F.choose_spec.kp, fun _ _ _ _ _ _ _ _ _ _ _ z => z.elim⟩
  | n + 1 => tupled_step F T ⟨f, hm, F.choose_spec.kp, ok_tupled F T hm n⟩
end
end CH
/-! text GE1 -/
/-! Matchable sets, the swap lemma, the parallel lemma, the stability lemma: plain mathematics, no program. -/
namespace GE
universe u
variable {α : Type u}

/-- n disjoint adjacent pairs cover exactly S -/
inductive Mt (G : α → α → Prop) : Nat → (α → Prop) → Prop
  | nil {S : α → Prop} (h : ∀ x, ¬ S x) : Mt G 0 S
  | cons {n : Nat} {S : α → Prop} (a b : α) (hab : a ≠ b) (g : G a b) (ha : S a) (hb : S b) (h : Mt G n (fun x => S x ∧ x ≠ a ∧ x ≠ b)) : Mt G (n + 1) S

structure Sym (G : α → α → Prop) : Prop where
  sym : ∀ x y, G x y → G y x
  irr : ∀ x, ¬ G x x

variable {G : α → α → Prop}

theorem Sym.ne (s : Sym G) {x y : α} (h : G x y) : x ≠ y := fun e => by subst e; exact s.irr _ h

theorem Mt.congr {n : Nat} {S T : α → Prop} (h : Mt G n S) (e : ∀ x, S x ↔ T x) : Mt G n T := by
  have : S = T := funext fun x => propext (e x)
  rw [← this]; exact h

theorem Mt.ins {n : Nat} {S : α → Prop} (h : Mt G n S) {a b : α} (ha : ¬ S a) (hb : ¬ S b) (hab : a ≠ b) (g : G a b) : Mt G (n + 1) (fun x => S x ∨ x = a ∨ x = b) := by
  refine .cons a b hab g (.inr (.inl rfl)) (.inr (.inr rfl)) (h.congr fun x => ⟨fun hx => ⟨.inl hx, fun e => ha (e ▸ hx), fun e => hb (e ▸ hx)⟩, fun hx => ?_⟩)
  rcases hx with ⟨hx | hx | hx, h1, h2⟩
  · exact hx
  · exact absurd hx h1
  · exact absurd hx h2

theorem Mt.out (s : Sym G) {n : Nat} {S : α → Prop} (h : Mt G n S) : ∀ {v : α}, S v → ∃ m w, n = m + 1 ∧ w ≠ v ∧ S w ∧ G v w ∧ Mt G m (fun x => S x ∧ x ≠ v ∧ x ≠ w) := by
  induction h with
  | nil h => intro v hv; exact absurd hv (h v)
  | @cons n S a b hab g ha hb h ih =>
    intro v hv
    by_cases e1 : v = a
    · subst e1
      exact ⟨n, b, rfl, hab.symm, hb, g, h⟩
    · by_cases e2 : v = b
      · subst e2
        refine ⟨n, a, rfl, hab, ha, s.sym _ _ g, h.congr fun x => ?_⟩
        exact ⟨fun ⟨p, q, r⟩ => ⟨p, r, q⟩, fun ⟨p, q, r⟩ => ⟨p, r, q⟩⟩
      · obtain ⟨m, w, en, hwv, hw, gw, hm⟩ := ih (v := v) ⟨hv, e1, e2⟩
        refine ⟨m + 1, w, by rw [en], hwv, hw.1, gw, .cons a b hab g ⟨ha, fun e => e1 e.symm, fun e => hw.2.1 e.symm⟩ ⟨hb, fun e => e2 e.symm, fun e => hw.2.2 e.symm⟩ (hm.congr fun x => ?_)⟩
        constructor
        · rintro ⟨⟨p, q, r⟩, t, u⟩; exact ⟨⟨p, t, u⟩, q, r⟩
        · rintro ⟨⟨p, t, u⟩, q, r⟩; exact ⟨⟨p, q, r⟩, t, u⟩

/-- the exchange of two matchable sets -/
theorem swap (s : Sym G) : ∀ (n m : Nat) (S T : α → Prop) (v : α), Mt G n S → Mt G m T → T v → ¬ S v →
    ∃ z, z ≠ v ∧ ((S z ∧ ¬ T z ∧ Mt G n (fun x => (S x ∧ x ≠ z) ∨ x = v) ∧ Mt G m (fun x => (T x ∧ x ≠ v) ∨ x = z)) ∨
      (T z ∧ ¬ S z ∧ Mt G (n + 1) (fun x => S x ∨ x = v ∨ x = z) ∧ ∃ k, m = k + 1 ∧ Mt G k (fun x => T x ∧ x ≠ v ∧ x ≠ z))) := by
  intro n
  induction n with
  | zero =>
    intro m S T v hS hT hv hSv
    obtain ⟨k, w, em, hwv, hw, gw, hk⟩ := hT.out s hv
    have hSw : ¬ S w := by
      intro q
      obtain ⟨_, _, e, _⟩ := hS.out s q
      cases e
    exact ⟨w, hwv, .inr ⟨hw, hSw, hS.ins hSv hSw hwv.symm gw, k, em, hk⟩⟩
  | succ n ih =>
    intro m S T v hS hT hv hSv
    obtain ⟨k, w, em, hwv, hw, gw, hk⟩ := hT.out s hv
    by_cases hSw : S w
    · obtain ⟨n', x, en, hxw, hx, gx, hn⟩ := hS.out s hSw
      have en' : n = n' := Nat.succ.inj en
      subst en'
      have hxv : x ≠ v := fun e => hSv (e ▸ hx)
      by_cases hTx : T x
      · -- go on at x
        obtain ⟨z, hzx, hz⟩ := ih k _ _ x hn hk ⟨hTx, hxv, hxw⟩ (fun q => q.2.2 rfl)
        rcases hz with ⟨hz1, hz2, hz3, hz4⟩ | ⟨hz1, hz2, hz3, k', ek, hz4⟩
        · have hzv : z ≠ v := fun e => hSv (e ▸ hz1.1)
          have hzw : z ≠ w := hz1.2.1
          refine ⟨z, hzv, .inl ⟨hz1.1, fun q => hz2 ⟨q, hzv, hzw⟩, ?_, ?_⟩⟩
          · refine (hz3.ins (a := v) (b := w) ?_ ?_ hwv.symm gw).congr fun y => ?_
            · rintro (⟨⟨q, _⟩, _⟩ | q)
              · exact hSv q
              · exact hxv q.symm
            · rintro (⟨⟨_, q, _⟩, _⟩ | q)
              · exact q rfl
              · exact hxw q.symm
            · constructor
              · rintro ((⟨⟨q, _, _⟩, r⟩ | q) | q | q)
                · exact .inl ⟨q, r⟩
                · subst q; exact .inl ⟨hx, fun e => hzx e.symm⟩
                · exact .inr q
                · subst q; exact .inl ⟨hSw, hzw.symm⟩
              · rintro (⟨q, r⟩ | q)
                · by_cases e1 : y = w
                  · exact .inr (.inr e1)
                  · by_cases e2 : y = x
                    · exact .inl (.inr e2)
                    · exact .inl (.inl ⟨⟨q, e1, e2⟩, r⟩)
                · exact .inr (.inl q)
          · have e2 : m = k + 1 := em
            subst e2
            refine (hz4.ins (a := w) (b := x) ?_ ?_ (fun e => hxw e.symm) gx).congr fun y => ?_
            · rintro (⟨⟨_, _, q⟩, _⟩ | q)
              · exact q rfl
              · exact hzw q.symm
            · rintro (⟨⟨_, _⟩, q⟩ | q)
              · exact q rfl
              · exact hzx q.symm
            · constructor
              · rintro ((⟨⟨q, r, _⟩, _⟩ | q) | q | q)
                · exact .inl ⟨q, r⟩
                · exact .inr q
                · subst q; exact .inl ⟨hw, hwv⟩
                · subst q; exact .inl ⟨hTx, hxv⟩
              · rintro (⟨q, r⟩ | q)
                · by_cases e1 : y = w
                  · exact .inr (.inl e1)
                  · by_cases e3 : y = x
                    · exact .inr (.inr e3)
                    · exact .inl (.inl ⟨⟨q, r, e1⟩, e3⟩)
                · exact .inl (.inr q)
        · have hzv : z ≠ v := hz1.2.1
          have hzw : z ≠ w := hz1.2.2
          refine ⟨z, hzv, .inr ⟨hz1.1, fun q => hz2 ⟨q, hzw, hzx⟩, ?_, ?_⟩⟩
          · refine (hz3.ins (a := v) (b := w) ?_ ?_ hwv.symm gw).congr fun y => ?_
            · rintro (⟨q, _⟩ | q | q)
              · exact hSv q
              · exact hxv q.symm
              · exact hzv q.symm
            · rintro (⟨_, q, _⟩ | q | q)
              · exact q rfl
              · exact hxw q.symm
              · exact hzw q.symm
            · constructor
              · rintro ((⟨q, _, _⟩ | q | q) | q | q)
                · exact .inl q
                · subst q; exact .inl hx
                · exact .inr (.inr q)
                · exact .inr (.inl q)
                · subst q; exact .inl hSw
              · rintro (q | q | q)
                · by_cases e1 : y = w
                  · exact .inr (.inr e1)
                  · by_cases e2 : y = x
                    · exact .inl (.inr (.inl e2))
                    · exact .inl (.inl ⟨q, e1, e2⟩)
                · exact .inr (.inl q)
                · exact .inl (.inr (.inr q))
          · refine ⟨k, em, ?_⟩
            subst ek
            refine (hz4.ins (a := w) (b := x) ?_ ?_ (fun e => hxw e.symm) gx).congr fun y => ?_
            · rintro ⟨⟨_, _, q⟩, _⟩
              exact q rfl
            · rintro ⟨_, q, _⟩
              exact q rfl
            · constructor
              · rintro (⟨⟨q, r, _⟩, _, t⟩ | q | q)
                · exact ⟨q, r, t⟩
                · subst q; exact ⟨hw, hwv, hzw.symm⟩
                · subst q; exact ⟨hTx, hxv, fun e => hzx e.symm⟩
              · rintro ⟨q, r, t⟩
                by_cases e1 : y = w
                · exact .inr (.inl e1)
                · by_cases e3 : y = x
                  · exact .inr (.inr e3)
                  · exact .inl ⟨⟨q, r, e1⟩, e3, t⟩
      · refine ⟨x, hxv, .inl ⟨hx, hTx, ?_, ?_⟩⟩
        · refine (hn.ins (a := v) (b := w) (fun q => hSv q.1) (fun q => q.2.1 rfl) hwv.symm gw).congr fun y => ?_
          constructor
          · rintro (⟨q, _, r⟩ | q | q)
            · exact .inl ⟨q, r⟩
            · exact .inr q
            · subst q; exact .inl ⟨hSw, hxw.symm⟩
          · rintro (⟨q, r⟩ | q)
            · by_cases e1 : y = w
              · exact .inr (.inr e1)
              · exact .inl ⟨q, e1, r⟩
            · exact .inr (.inl q)
        · subst em
          refine (hk.ins (a := w) (b := x) (fun q => q.2.2 rfl) (fun q => hTx q.1) (fun e => hxw e.symm) gx).congr fun y => ?_
          constructor
          · rintro (⟨q, r, _⟩ | q | q)
            · exact .inl ⟨q, r⟩
            · subst q; exact .inl ⟨hw, hwv⟩
            · exact .inr q
          · rintro (⟨q, r⟩ | q)
            · by_cases e1 : y = w
              · exact .inr (.inl e1)
              · exact .inl ⟨q, r, e1⟩
            · exact .inr (.inr q)
    · exact ⟨w, hwv, .inr ⟨hw, hSw, hS.ins hSv hSw hwv.symm gw, k, em, hk⟩⟩

/-- the greatest number of pairs within V -/
structure IsNu (G : α → α → Prop) (V : α → Prop) (nu : Nat) : Prop where
  has : ∃ S : α → Prop, (∀ x, S x → V x) ∧ Mt G nu S
  most : ∀ (n : Nat) (S : α → Prop), (∀ x, S x → V x) → Mt G n S → n ≤ nu

theorem IsNu.uniq {V : α → Prop} {n m : Nat} (h : IsNu G V n) (k : IsNu G V m) : n = m := by
  obtain ⟨S, hS, hn⟩ := h.has
  obtain ⟨T, hT, hm⟩ := k.has
  exact Nat.le_antisymm (k.most n S hS hn) (h.most m T hT hm)
/-- only what is adjacent within V counts -/
theorem Mt.mono {G' : α → α → Prop} {n : Nat} {S : α → Prop} (h : Mt G n S) (e : ∀ x y, S x → S y → G x y → G' x y) : Mt G' n S := by
  induction h with
  | nil h => exact .nil h
  | cons a b hab g ha hb h ih => exact .cons a b hab (e _ _ ha hb g) ha hb (ih fun x y hx hy => e x y hx.1 hy.1)
theorem IsNu.of_adj {G' : α → α → Prop} {V : α → Prop} {n : Nat} (h : IsNu G V n) (e : ∀ x y, V x → V y → (G x y ↔ G' x y)) : IsNu G' V n := by
  refine ⟨?_, fun m S hS hm => h.most m S hS (hm.mono fun x y hx hy => (e x y (hS x hx) (hS y hy)).mpr)⟩
  obtain ⟨S, hS, hn⟩ := h.has
  exact ⟨S, hS, hn.mono fun x y hx hy => (e x y (hS x hx) (hS y hy)).mp⟩

/-- missed by some greatest matching -/
def Dm (G : α → α → Prop) (V : α → Prop) (nu : Nat) (v : α) : Prop := V v ∧ ∃ S : α → Prop, (∀ x, S x → V x) ∧ Mt G nu S ∧ ¬ S v

theorem exch (s : Sym G) {V : α → Prop} {nu : Nat} (h : IsNu G V nu) {S T : α → Prop} (hS : ∀ x, S x → V x) (hT : ∀ x, T x → V x) (mS : Mt G nu S) (mT : Mt G nu T) {v : α} (hv : T v) (hSv : ¬ S v) :
    ∃ z, z ≠ v ∧ S z ∧ ¬ T z ∧ Mt G nu (fun x => (S x ∧ x ≠ z) ∨ x = v) ∧ Mt G nu (fun x => (T x ∧ x ≠ v) ∨ x = z) := by
  obtain ⟨z, hzv, hz⟩ := swap s nu nu S T v mS mT hv hSv
  rcases hz with ⟨h1, h2, h3, h4⟩ | ⟨h1, _, h3, _⟩
  · exact ⟨z, hzv, h1, h2, h3, h4⟩
  · have := h.most _ _ (fun x hx => by
      rcases hx with q | q | q
      · exact hS x q
      · rw [q]; exact hT v hv
      · rw [q]; exact hT z h1) h3
    omega

/-- no greatest matching misses both -/
def Sep (G : α → α → Prop) (V : α → Prop) (nu : Nat) (x y : α) : Prop := ∀ S : α → Prop, (∀ x, S x → V x) → Mt G nu S → S x ∨ S y

theorem sep_adj (s : Sym G) {V : α → Prop} {nu : Nat} (h : IsNu G V nu) {x y : α} (hx : V x) (hy : V y) (g : G x y) : Sep G V nu x y := fun S hS mS => by
  by_cases h1 : S x
  · exact .inl h1
  · by_cases h2 : S y
    · exact .inr h2
    · have := h.most _ _ (fun z hz => by
        rcases hz with q | q | q
        · exact hS z q
        · rw [q]; exact hx
        · rw [q]; exact hy) (mS.ins h1 h2 (s.ne g) g)
      omega
theorem sep_trans (s : Sym G) {V : α → Prop} {nu : Nat} (h : IsNu G V nu) {x y z : α} (hxz : x ≠ z) (dy : Dm G V nu y) (h1 : Sep G V nu x y) (h2 : Sep G V nu y z) : Sep G V nu x z := fun S hS mS => by
  by_cases q1 : S x
  · exact .inl q1
  · by_cases q2 : S z
    · exact .inr q2
    · exfalso
      obtain ⟨_, T, hT, mT, hTy⟩ := dy
      have hSy : S y := (h1 S hS mS).resolve_left q1
      obtain ⟨u, huy, hTu, hSu, _, m4⟩ := exch s h hT hS mT mS hSy hTy
      have sub : ∀ w, ((S w ∧ w ≠ y) ∨ w = u) → V w := fun w hw => by
        rcases hw with q | q
        · exact hS w q.1
        · rw [q]; exact hT u hTu
      by_cases e : u = z
      · rcases h1 _ sub m4 with q | q
        · rcases q with q | q
          · exact q1 q.1
          · exact hxz (q.trans e)
        · rcases q with q | q
          · exact q.2 rfl
          · exact huy q.symm
      · rcases h2 _ sub m4 with q | q
        · rcases q with q | q
          · exact q.2 rfl
          · exact huy q.symm
        · rcases q with q | q
          · exact q2 q.1
          · exact e q.symm

/-- one leads to the other within W -/
inductive Rch (G : α → α → Prop) (W : α → Prop) (x : α) : α → Prop
  | refl : Rch G W x x
  | step {y z : α} (h : Rch G W x y) (g : G y z) (w : W z) : Rch G W x z

theorem sep_rch (s : Sym G) {V : α → Prop} {nu : Nat} (h : IsNu G V nu) {W : α → Prop} (hW : ∀ x, W x → Dm G V nu x) {x y : α} (hx : W x) (r : Rch G W x y) : W y ∧ (x = y ∨ Sep G V nu x y) := by
  induction r with
  | refl => exact ⟨hx, .inl rfl⟩
  | @step y z r g w ih =>
    refine ⟨w, ?_⟩
    obtain ⟨hy, ih⟩ := ih
    rcases ih with e | ih
    · subst e
      exact .inr (sep_adj s h (hW _ hx).1 (hW _ w).1 g)
    · by_cases e : x = z
      · exact .inl e
      · exact .inr (sep_trans s h e (hW _ hy) ih (sep_adj s h (hW _ hy).1 (hW _ w).1 g))

/-! ### taking a vertex of A away -/
theorem stable (s : Sym G) {V : α → Prop} {nu : Nat} (h : IsNu G V nu) {a d : α} (ha : V a) (na : ¬ Dm G V nu a) (hd : Dm G V nu d) (g : G a d) :
    ∃ k, nu = k + 1 ∧ IsNu G (fun x => V x ∧ x ≠ a) k ∧ ∀ x, Dm G (fun x => V x ∧ x ≠ a) k x ↔ Dm G V nu x := by
  have cov : ∀ S : α → Prop, (∀ x, S x → V x) → Mt G nu S → S a := fun S hS mS => by
    by_cases q : S a
    · exact q
    · exact absurd ⟨ha, S, hS, mS, q⟩ na
  obtain ⟨hdV, N, hN, mN, hNd⟩ := hd
  obtain ⟨k, w, ek, hwa, hw, _, mk⟩ := mN.out s (cov N hN mN)
  have nu' : IsNu G (fun x => V x ∧ x ≠ a) k := by
    refine ⟨⟨_, fun x hx => ⟨hN x hx.1, hx.2.1⟩, mk⟩, fun n S hS mS => ?_⟩
    have h1 := h.most n S (fun x hx => (hS x hx).1) mS
    by_cases e : n = nu
    · subst e
      exact absurd rfl (hS a (cov S (fun x hx => (hS x hx).1) mS)).2
    · omega
  refine ⟨k, ek, nu', fun x => ⟨fun hx => ?_, fun hx => ?_⟩⟩
  · obtain ⟨⟨hxV, hxa⟩, S, hS, mS, hSx⟩ := hx
    by_cases q : N x
    · obtain ⟨z, hzx, hz⟩ := swap s k nu S N x mS mN q hSx
      rcases hz with ⟨z1, z2, z3, z4⟩ | ⟨z1, z2, z3, k', ek', z4⟩
      · exact ⟨hxV, _, fun y hy => by
          rcases hy with r | r
          · exact hN y r.1
          · rw [r]; exact (hS z z1).1, z4, fun r => by
          rcases r with r | r
          · exact r.2 rfl
          · exact hzx r.symm⟩
      · by_cases e : z = a
        · have hda : d ≠ a := fun e' => s.irr a (e' ▸ g)
          have hdx : d ≠ x := fun e' => hNd (e' ▸ q)
          have : k' = k := by omega
          subst this
          refine ⟨hxV, _, ?_, by rw [ek]; exact z4.ins (a := a) (b := d) (fun r => r.2.2 e.symm) (fun r => hNd r.1) hda.symm g, fun r => ?_⟩
          · intro y hy
            rcases hy with r | r | r
            · exact hN y r.1
            · rw [r]; exact ha
            · rw [r]; exact hdV
          · rcases r with r | r | r
            · exact r.2.1 rfl
            · exact hxa r
            · exact hdx r.symm
        · have := nu'.most _ _ (fun y hy => by
            rcases hy with r | r | r
            · exact hS y r
            · rw [r]; exact ⟨hxV, hxa⟩
            · rw [r]; exact ⟨hN z z1, e⟩) z3
          omega
    · exact ⟨hxV, N, hN, mN, q⟩
  · obtain ⟨hxV, S, hS, mS, hSx⟩ := hx
    have hxa : x ≠ a := fun e => na ⟨ha, S, hS, mS, e ▸ hSx⟩
    obtain ⟨k', w', ek', _, _, _, mk'⟩ := mS.out s (cov S hS mS)
    have : k' = k := by omega
    subst this
    exact ⟨⟨hxV, hxa⟩, _, fun y hy => ⟨hS y hy.1, hy.2.1⟩, mk', fun r => hSx r.1⟩

/-- .. all of A, one after another -/
theorem stable_all (s : Sym G) : ∀ (As : List α) (V : α → Prop) (nu : Nat), IsNu G V nu → As.Nodup → (∀ a ∈ As, V a ∧ ¬ Dm G V nu a ∧ ∃ d, Dm G V nu d ∧ G a d) →
    ∃ k, nu = k + As.length ∧ IsNu G (fun x => V x ∧ x ∉ As) k ∧ ∀ x, Dm G (fun x => V x ∧ x ∉ As) k x ↔ Dm G V nu x := by
  intro As
  induction As with
  | nil =>
    intro V nu h _ _
    have e : (fun x => V x ∧ x ∉ ([] : List α)) = V := funext fun x => propext ⟨fun q => q.1, fun q => ⟨q, by simp⟩⟩
    exact ⟨nu, rfl, by rw [e]; exact h, fun x => by rw [e]⟩
  | cons a As ih =>
    intro V nu h nd hA
    obtain ⟨hV, nD, d, hd, g⟩ := hA a List.mem_cons_self
    obtain ⟨k, ek, hk, eD⟩ := stable s h hV nD hd g
    rw [List.nodup_cons] at nd
    obtain ⟨k2, ek2, hk2, eD2⟩ := ih (fun x => V x ∧ x ≠ a) k hk nd.2 (fun b hb => by
      obtain ⟨q1, q2, d', q3, q4⟩ := hA b (List.mem_cons_of_mem _ hb)
      exact ⟨⟨q1, fun e => nd.1 (e ▸ hb)⟩, fun q => q2 ((eD b).mp q), d', (eD d').mpr q3, q4⟩)
    have e : (fun x => (V x ∧ x ≠ a) ∧ x ∉ As) = (fun x => V x ∧ x ∉ a :: As) := funext fun x => propext (by
      rw [List.mem_cons]
      exact ⟨fun q => ⟨q.1.1, fun r => r.elim q.1.2 q.2⟩, fun q => ⟨⟨q.1, fun r => q.2 (.inl r)⟩, fun r => q.2 (.inr r)⟩⟩)
    rw [e] at hk2 eD2
    exact ⟨k2, by rw [ek, ek2, List.length_cons]; omega, hk2, fun x => (eD2 x).trans (eD x)⟩
end GE
/-! text GE2 -/
/-! Counting: odd parts, the formula. -/
namespace GE
universe u
variable {α : Type u} {G : α → α → Prop}
/-- how many of l have p -/
noncomputable def cnt (p : α → Prop) (l : List α) : Nat := l.countP (fun x => @decide (p x) (Classical.propDecidable _))
theorem cnt_nil (p : α → Prop) : cnt p [] = 0 := by simp [cnt]
theorem cnt_yes {p : α → Prop} {x : α} {l : List α} (h : p x) : cnt p (x :: l) = cnt p l + 1 := by
  unfold cnt; rw [List.countP_cons_of_pos]; exact @decide_eq_true _ (Classical.propDecidable _) h
theorem cnt_no {p : α → Prop} {x : α} {l : List α} (h : ¬ p x) : cnt p (x :: l) = cnt p l := by
  unfold cnt; rw [List.countP_cons_of_neg]; simpa using h
theorem cnt_app (p : α → Prop) (l m : List α) : cnt p (l ++ m) = cnt p l + cnt p m := by
  unfold cnt; exact List.countP_append
theorem cnt_congr {p q : α → Prop} {l : List α} (h : ∀ x ∈ l, p x ↔ q x) : cnt p l = cnt q l := by
  induction l with
  | nil => rw [cnt_nil, cnt_nil]
  | cons x l ih =>
    have i := ih fun y hy => h y (List.mem_cons_of_mem _ hy)
    by_cases e : p x
    · rw [cnt_yes e, cnt_yes ((h x List.mem_cons_self).mp e), i]
    · rw [cnt_no e, cnt_no (fun r => e ((h x List.mem_cons_self).mpr r)), i]
theorem cnt_zero {p : α → Prop} {l : List α} (h : ∀ x ∈ l, ¬ p x) : cnt p l = 0 := by
  induction l with
  | nil => exact cnt_nil p
  | cons x l ih => rw [cnt_no (h x List.mem_cons_self)]; exact ih fun y hy => h y (List.mem_cons_of_mem _ hy)
theorem cnt_all {p : α → Prop} {l : List α} (h : ∀ x ∈ l, p x) : cnt p l = l.length := by
  induction l with
  | nil => exact cnt_nil p
  | cons x l ih => rw [cnt_yes (h x List.mem_cons_self), ih fun y hy => h y (List.mem_cons_of_mem _ hy)]; rfl
theorem cnt_one {p : α → Prop} {a : α} : ∀ {l : List α}, l.Nodup → a ∈ l → p a → cnt p l = cnt (fun x => p x ∧ x ≠ a) l + 1
  | [], _, ha, _ => by simp at ha
  | x :: l, nd, ha, pa => by
    rw [List.nodup_cons] at nd
    by_cases e : x = a
    · subst e
      rw [cnt_yes pa, cnt_no (fun r => r.2 rfl)]
      rw [cnt_congr (q := fun y => p y ∧ y ≠ x) fun y hy => ⟨fun r => ⟨r, fun e => nd.1 (e ▸ hy)⟩, fun r => r.1⟩]
    · have ha' : a ∈ l := (List.mem_cons.mp ha).resolve_left fun r => e r.symm
      have i := cnt_one (p := p) nd.2 ha' pa
      by_cases q : p x
      · rw [cnt_yes q, cnt_yes ⟨q, e⟩, i]
      · rw [cnt_no q, cnt_no (fun r => q r.1), i]
theorem cnt_pos {p : α → Prop} {l : List α} (h : 0 < cnt p l) : ∃ x ∈ l, p x := by
  by_cases e : ∃ x ∈ l, p x
  · exact e
  · rw [cnt_zero (fun x hx q => e ⟨x, hx, q⟩)] at h; cases h
theorem cnt_two {p : α → Prop} {l : List α} (nd : l.Nodup) (h : 2 ≤ cnt p l) : ∃ x ∈ l, ∃ y ∈ l, x ≠ y ∧ p x ∧ p y := by
  obtain ⟨x, hx, px⟩ := cnt_pos (p := p) (l := l) (by omega)
  have := cnt_one nd hx px
  obtain ⟨y, hy, py⟩ := cnt_pos (p := fun z => p z ∧ z ≠ x) (l := l) (by omega)
  exact ⟨x, hx, y, hy, fun e => py.2 e.symm, px, py.1⟩
theorem cnt_split (p q : α → Prop) (l : List α) : cnt p l = cnt (fun x => p x ∧ q x) l + cnt (fun x => p x ∧ ¬ q x) l := by
  induction l with
  | nil => simp [cnt_nil]
  | cons x l ih =>
    by_cases e : p x
    · by_cases f : q x
      · rw [cnt_yes e, cnt_yes ⟨e, f⟩, cnt_no (fun r => r.2 f), ih]; omega
      · rw [cnt_yes e, cnt_no (fun r => f r.2), cnt_yes ⟨e, f⟩, ih]; omega
    · rw [cnt_no e, cnt_no (fun r => e r.1), cnt_no (fun r => e r.1), ih]
theorem cnt_not (p : α → Prop) (l : List α) : l.length = cnt p l + cnt (fun x => ¬ p x) l := by
  have := cnt_split (fun _ => True) p l
  rw [cnt_all (fun _ _ => trivial)] at this
  rw [this]
  congr 1
  · exact cnt_congr fun x _ => ⟨fun r => r.2, fun r => ⟨trivial, r⟩⟩
  · exact cnt_congr fun x _ => ⟨fun r => r.2, fun r => ⟨trivial, r⟩⟩
/-- two lists of the same members -/
theorem cnt_same {p : α → Prop} : ∀ {l m : List α}, l.Nodup → m.Nodup → (∀ x, p x → (x ∈ l ↔ x ∈ m)) → cnt p l = cnt p m
  | [], m, _, _, h => by
    rw [cnt_nil, cnt_zero]
    intro x hx px
    have := (h x px).mpr hx
    simp at this
  | x :: l, m, nl, nm, h => by
    rw [List.nodup_cons] at nl
    by_cases px : p x
    · have hm : x ∈ m := (h x px).mp List.mem_cons_self
      rw [cnt_yes px, cnt_one nm hm px]
      have i := cnt_same (p := fun y => p y ∧ y ≠ x) (l := l) (m := m) nl.2 nm fun y hy => by
        have := h y hy.1
        rw [List.mem_cons] at this
        exact ⟨fun r => this.mp (.inr r), fun r => (this.mpr r).resolve_left hy.2⟩
      rw [← i]
      rw [cnt_congr (q := fun y => p y ∧ y ≠ x) fun y hy => ⟨fun r => ⟨r, fun e => nl.1 (e ▸ hy)⟩, fun r => r.1⟩]
    · rw [cnt_no px]
      exact cnt_same nl.2 nm fun y hy => by
        have := h y hy
        rw [List.mem_cons] at this
        exact ⟨fun r => this.mp (.inr r), fun r => (this.mpr r).resolve_left fun e => px (e ▸ hy)⟩
theorem Mt.count {n : Nat} {S : α → Prop} (h : Mt G n S) {l : List α} (nd : l.Nodup) (hl : ∀ x, S x → x ∈ l) : cnt S l = 2 * n := by
  induction h with
  | nil h => exact cnt_zero fun x _ => h x
  | @cons n S a b hab g ha hb h ih =>
    rw [cnt_one nd (hl a ha) ha, cnt_one (p := fun x => S x ∧ x ≠ a) nd (hl b hb) ⟨hb, hab.symm⟩]
    have := ih fun x hx => hl x hx.1
    rw [cnt_congr (q := fun x => S x ∧ x ≠ a ∧ x ≠ b) fun x _ => ⟨fun r => ⟨r.1.1, r.1.2, r.2⟩, fun r => ⟨⟨r.1, r.2.1⟩, r.2.2⟩⟩, this]
    omega
theorem Mt.restrict (s : Sym G) {n : Nat} {S : α → Prop} (h : Mt G n S) (K : α → Prop) (cl : ∀ p q, S p → S q → G p q → K p → K q) : ∃ j, Mt G j (fun x => S x ∧ K x) := by
  induction h with
  | nil h => exact ⟨0, .nil fun x q => h x q.1⟩
  | @cons n S a b hab g ha hb h ih =>
    obtain ⟨j, hj⟩ := ih fun p q hp hq gq kp => cl p q hp.1 hq.1 gq kp
    by_cases e : K a
    · have e2 : K b := cl a b ha hb g e
      exact ⟨j + 1, .cons a b hab g ⟨ha, e⟩ ⟨hb, e2⟩ (hj.congr fun x => ⟨fun r => ⟨⟨r.1.1, r.2⟩, r.1.2⟩, fun r => ⟨⟨r.1.1, r.2⟩, r.1.2⟩⟩)⟩
    · have e2 : ¬ K b := fun r => e (cl b a hb ha (s.sym _ _ g) r)
      exact ⟨j, hj.congr fun x => ⟨fun r => ⟨r.1.1, r.2⟩, fun r => ⟨⟨r.1, fun q => e (q ▸ r.2), fun q => e2 (q ▸ r.2)⟩, r.2⟩⟩⟩

/-- the parts of W -/
structure Lumps (G : α → α → Prop) (W : α → Prop) (L : List (List α)) : Prop where
  nd : L.flatten.Nodup
  cov : ∀ x, x ∈ L.flatten ↔ W x
  ne : ∀ K ∈ L, K ≠ []
  rch : ∀ K ∈ L, ∀ x ∈ K, ∀ y, (y ∈ K ↔ Rch G W x y)

theorem nodup_of_flatten {L : List (List α)} (h : L.flatten.Nodup) : ∀ K ∈ L, K.Nodup := by
  induction L with
  | nil => intro K hK; simp at hK
  | cons k L ih =>
    rw [List.flatten_cons, List.nodup_append] at h
    intro K hK
    rcases List.mem_cons.mp hK with e | hK
    · rw [e]; exact h.1
    · exact ih h.2.1 K hK
def isOdd (K : List α) : Bool := K.length % 2 == 1
theorem sum_parts (p : α → Prop) : ∀ {L : List (List α)}, (∀ K ∈ L, cnt p K = if isOdd K = true then 1 else 0) → cnt p L.flatten = (L.filter isOdd).length
  | [], _ => by simp [cnt_nil]
  | K :: L, h => by
    rw [List.flatten_cons, cnt_app, h K List.mem_cons_self, sum_parts p fun J hJ => h J (List.mem_cons_of_mem _ hJ), List.filter_cons]
    by_cases e : isOdd K = true
    · rw [if_pos e, if_pos e, List.length_cons]; omega
    · rw [if_neg e, if_neg e]; omega

section
variable {V : α → Prop} {nu : Nat}
/-- a part of D: odd, each greatest matching misses just one of it -/
theorem part_D (s : Sym G) (h : IsNu G V nu) (hA : ∀ p q, Dm G V nu p → V q → G p q → Dm G V nu q) {K : List α} (nd : K.Nodup) (ne : K ≠ []) (hK : ∀ x ∈ K, Dm G V nu x) (hr : ∀ x ∈ K, ∀ y, (y ∈ K ↔ Rch G (Dm G V nu) x y)) :
    isOdd K = true ∧ ∀ S : α → Prop, (∀ x, S x → V x) → Mt G nu S → cnt (fun x => ¬ S x) K = 1 := by
  have le1 : ∀ S : α → Prop, (∀ x, S x → V x) → Mt G nu S → cnt (fun x => ¬ S x) K ≤ 1 := fun S hS mS => by
    by_cases q : 2 ≤ cnt (fun x => ¬ S x) K
    · obtain ⟨x, hx, y, hy, xy, nx, ny⟩ := cnt_two nd q
      obtain ⟨_, r⟩ := sep_rch s h (W := Dm G V nu) (fun _ z => z) (hK x hx) ((hr x hx y).mp hy)
      rcases r with r | r
      · exact absurd r xy
      · rcases r S hS mS with r | r
        · exact absurd r nx
        · exact absurd r ny
    · omega
  have par : ∀ S : α → Prop, (∀ x, S x → V x) → Mt G nu S → ∃ j, cnt S K = 2 * j := fun S hS mS => by
    obtain ⟨j, hj⟩ := mS.restrict s (· ∈ K) fun p q _ hq g hp => (hr p hp q).mpr (.step .refl g (hA p q (hK p hp) (hS q hq) g))
    refine ⟨j, ?_⟩
    rw [← hj.count nd fun x hx => hx.2]
    exact cnt_congr fun x hx => ⟨fun r => ⟨r, hx⟩, fun r => r.1⟩
  obtain ⟨x, hx⟩ : ∃ x, x ∈ K := by
    cases K with
    | nil => exact absurd rfl ne
    | cons x K => exact ⟨x, List.mem_cons_self⟩
  obtain ⟨_, S, hS, mS, hSx⟩ := hK x hx
  have od : K.length % 2 = 1 := by
    obtain ⟨j, hj⟩ := par S hS mS
    have h1 := cnt_not S K
    have h2 := cnt_one (p := fun y => ¬ S y) nd hx hSx
    have h3 := le1 S hS mS
    omega
  refine ⟨by unfold isOdd; rw [od]; rfl, fun T hT mT => ?_⟩
  obtain ⟨j, hj⟩ := par T hT mT
  have h1 := cnt_not T K
  have h3 := le1 T hT mT
  omega
end

/-- THE STRUCTURE: open, hold; the parts of open are odd, as many as stay and hold; the odd parts without hold are as many -/
theorem structure_of [DecidableEq α] (s : Sym G) {vs As : List α} {nu : Nat} (nv : vs.Nodup) (h : IsNu G (· ∈ vs) nu) (na : As.Nodup)
    (hAs : ∀ a, a ∈ As ↔ a ∈ vs ∧ ¬ Dm G (· ∈ vs) nu a ∧ ∃ d, Dm G (· ∈ vs) nu d ∧ G a d) :
    (∀ LD, Lumps G (Dm G (· ∈ vs) nu) LD → (∀ K ∈ LD, isOdd K = true) ∧ vs.length + As.length = 2 * nu + LD.length) ∧
    (∀ LV, Lumps G (fun x => x ∈ vs ∧ x ∉ As) LV → vs.length + As.length = 2 * nu + (LV.filter isOdd).length) := by
  obtain ⟨k, ek, hk, eD⟩ := stable_all s As (· ∈ vs) nu h na fun a ha => (hAs a).mp ha
  have hD : ∀ x, Dm G (· ∈ vs) nu x → x ∈ vs ∧ x ∉ As := fun x hx => ⟨hx.1, fun q => ((hAs x).mp q).2.1 hx⟩
  have clD : ∀ p q, Dm G (fun x => x ∈ vs ∧ x ∉ As) k p → (q ∈ vs ∧ q ∉ As) → G p q → Dm G (fun x => x ∈ vs ∧ x ∉ As) k q := fun p q hp hq g => by
    by_cases e : Dm G (fun x => x ∈ vs ∧ x ∉ As) k q
    · exact e
    · exact absurd ((hAs q).mpr ⟨hq.1, fun r => e ((eD q).mpr r), p, (eD p).mp hp, s.sym _ _ g⟩) hq.2
  have fD : Dm G (fun x => x ∈ vs ∧ x ∉ As) k = Dm G (· ∈ vs) nu := funext fun x => propext (eD x)
  obtain ⟨S, hS, mS⟩ := hk.has
  -- how many are missed in all
  have miss : cnt (fun x => (x ∈ vs ∧ x ∉ As) ∧ ¬ S x) vs + 2 * k + As.length = vs.length := by
    have h1 : cnt (fun x => x ∉ As) vs + As.length = vs.length := by
      rw [cnt_not (fun x => x ∈ As) vs, Nat.add_comm]
      congr 1
      have e2 : cnt (fun x => x ∈ As) As = As.length := cnt_all fun _ z => z
      rw [← e2]
      exact cnt_same na nv fun x hx => ⟨fun _ => ((hAs x).mp hx).1, fun _ => hx⟩
    have h2 := cnt_split (fun x => x ∉ As) S vs
    have h3 := mS.count nv fun x hx => (hS x hx).1
    have e1 : cnt (fun x => x ∉ As ∧ S x) vs = cnt S vs := cnt_congr fun x _ => ⟨fun r => r.2, fun r => ⟨(hS x r).2, r⟩⟩
    have e2 : cnt (fun x => x ∉ As ∧ ¬ S x) vs = cnt (fun x => (x ∈ vs ∧ x ∉ As) ∧ ¬ S x) vs := cnt_congr fun x hx => ⟨fun r => ⟨⟨hx, r.1⟩, r.2⟩, fun r => ⟨r.1.2, r.2⟩⟩
    omega
  have cov : ∀ x, (x ∈ vs ∧ x ∉ As) → ¬ S x → Dm G (· ∈ vs) nu x := fun x hx q => (eD x).mp ⟨hx, S, hS, mS, q⟩
  constructor
  · intro LD hL
    have each : ∀ K ∈ LD, isOdd K = true ∧ cnt (fun x => ¬ S x) K = 1 := fun K hK => by
      have := part_D s hk clD (nodup_of_flatten hL.nd K hK) (hL.ne K hK) (fun x hx => by rw [fD]; exact (hL.cov x).mp (List.mem_flatten.mpr ⟨K, hK, hx⟩)) (fun x hx y => by rw [fD]; exact hL.rch K hK x hx y)
      exact ⟨this.1, this.2 S hS mS⟩
    refine ⟨fun K hK => (each K hK).1, ?_⟩
    have sm := sum_parts (fun x => ¬ S x) (L := LD) fun K hK => by rw [if_pos (each K hK).1]; exact (each K hK).2
    rw [List.filter_eq_self.mpr fun K hK => (each K hK).1] at sm
    have e : cnt (fun x => (x ∈ vs ∧ x ∉ As) ∧ ¬ S x) vs = cnt (fun x => ¬ S x) LD.flatten := by
      rw [cnt_congr (l := LD.flatten) (q := fun x => (x ∈ vs ∧ x ∉ As) ∧ ¬ S x) fun x hx => ⟨fun r => ⟨hD x ((hL.cov x).mp hx), r⟩, fun r => r.2⟩]
      exact cnt_same nv hL.nd fun x hx => ⟨fun _ => (hL.cov x).mpr (cov x hx.1 hx.2), fun _ => hx.1.1⟩
    omega
  · intro LV hL
    have each : ∀ K ∈ LV, cnt (fun x => ¬ S x) K = if isOdd K = true then 1 else 0 := fun K hK => by
      have hKV : ∀ x ∈ K, x ∈ vs ∧ x ∉ As := fun x hx => (hL.cov x).mp (List.mem_flatten.mpr ⟨K, hK, hx⟩)
      have go : ∀ x y, Dm G (· ∈ vs) nu x → Rch G (fun x => x ∈ vs ∧ x ∉ As) x y → Dm G (· ∈ vs) nu y ∧ Rch G (Dm G (· ∈ vs) nu) x y := fun x y hx r => by
        induction r with
        | refl => exact ⟨hx, .refl⟩
        | step r g w ih =>
          have dz := (eD _).mp (clD _ _ ((eD _).mpr ih.1) w g)
          exact ⟨dz, .step ih.2 g dz⟩
      have back : ∀ x y, Rch G (Dm G (· ∈ vs) nu) x y → Rch G (fun x => x ∈ vs ∧ x ∉ As) x y := fun x y r => by
        induction r with
        | refl => exact .refl
        | step r g w ih => exact .step ih g (hD _ w)
      by_cases e : ∃ x ∈ K, Dm G (· ∈ vs) nu x
      · obtain ⟨x, hx, dx⟩ := e
        have allD : ∀ y ∈ K, Dm G (· ∈ vs) nu y := fun y hy => (go x y dx ((hL.rch K hK x hx y).mp hy)).1
        have := part_D s hk clD (nodup_of_flatten hL.nd K hK) (hL.ne K hK) (fun y hy => by rw [fD]; exact allD y hy)
          (fun y hy z => by rw [fD]; exact ⟨fun r => (go y z (allD y hy) ((hL.rch K hK y hy z).mp r)).2, fun r => (hL.rch K hK y hy z).mpr (back y z r)⟩)
        rw [if_pos this.1]
        exact this.2 S hS mS
      · have allS : ∀ y ∈ K, S y := fun y hy => by
          by_cases q : S y
          · exact q
          · exact absurd ⟨y, hy, cov y (hKV y hy) q⟩ e
        obtain ⟨j, hj⟩ := mS.restrict s (· ∈ K) fun p q _ hq g hp => (hL.rch K hK p hp q).mpr (.step .refl g (hS q hq))
        have c := hj.count (nodup_of_flatten hL.nd K hK) fun x hx => hx.2
        rw [cnt_all fun x hx => ⟨allS x hx, hx⟩] at c
        have ev : ¬ isOdd K = true := by
          unfold isOdd
          rw [beq_iff_eq]
          omega
        rw [if_neg ev]
        exact cnt_zero fun x hx q => q (allS x hx)
    have sm := sum_parts (fun x => ¬ S x) each
    have e : cnt (fun x => (x ∈ vs ∧ x ∉ As) ∧ ¬ S x) vs = cnt (fun x => ¬ S x) LV.flatten := by
      rw [cnt_congr (l := LV.flatten) (q := fun x => (x ∈ vs ∧ x ∉ As) ∧ ¬ S x) fun x hx => ⟨fun r => ⟨(hL.cov x).mp hx, r⟩, fun r => r.2⟩]
      exact cnt_same nv hL.nd fun x hx => ⟨fun _ => (hL.cov x).mpr hx.1, fun _ => hx.1.1⟩
    omega
/-- without one that always moves one pair fewer -/
theorem nu_less (s : Sym G) {vs : List α} {nu : Nat} (h : IsNu G (· ∈ vs) nu) {a : α} (ha : a ∈ vs) (na : ¬ Dm G (· ∈ vs) nu a) : ∃ k, nu = k + 1 ∧ IsNu G (fun x => x ∈ vs ∧ x ≠ a) k := by
  obtain ⟨S, hS, mS⟩ := h.has
  have hSa : S a := by
    by_cases q : S a
    · exact q
    · exact absurd ⟨ha, S, hS, mS, q⟩ na
  obtain ⟨k, w, ek, hwa, hw, _, mk⟩ := mS.out s hSa
  refine ⟨k, ek, ⟨_, fun x hx => ⟨hS x hx.1, hx.2.1⟩, mk⟩, fun n T hT mT => ?_⟩
  have h1 := h.most n T (fun x hx => (hT x hx).1) mT
  by_cases e : n = nu
  · subst e
    exact absurd ⟨ha, T, fun x hx => (hT x hx).1, mT, fun q => (hT a q).2 rfl⟩ na
  · omega
/-- open: as many without it -/
theorem open_iff {vs : List α} {nu k : Nat} (h : IsNu G (· ∈ vs) nu) {a : α} (ha : a ∈ vs) (hk : IsNu G (fun x => x ∈ vs ∧ x ≠ a) k) : k = nu ↔ Dm G (· ∈ vs) nu a := by
  constructor
  · intro e
    obtain ⟨S, hS, mS⟩ := hk.has
    exact ⟨ha, S, fun x hx => (hS x hx).1, e ▸ mS, fun q => (hS a q).2 rfl⟩
  · rintro ⟨_, S, hS, mS, q⟩
    obtain ⟨T, hT, mT⟩ := hk.has
    have h1 := h.most k T (fun x hx => (hT x hx).1) mT
    have h2 := hk.most nu S (fun x hx => ⟨hS x hx, fun e => q (e ▸ hx)⟩) mS
    omega
end GE
/-! text GE3 -/
/-! The program's own reckoning, as plain functions on lists, and what they are worth. -/
namespace GE
universe u
variable {α : Type u} [DecidableEq α]

def maxL (a : Nat) (l : List Nat) : Nat := l.foldl max a
theorem maxL_ge (l : List Nat) : ∀ a : Nat, a ≤ maxL a l ∧ ∀ x ∈ l, x ≤ maxL a l := by
  induction l with
  | nil => intro a; exact ⟨Nat.le_refl _, fun x hx => by simp at hx⟩
  | cons y l ih =>
    intro a
    obtain ⟨h1, h2⟩ := ih (max a y)
    have e : maxL a (y :: l) = maxL (max a y) l := rfl
    rw [e]
    refine ⟨Nat.le_trans (Nat.le_max_left _ _) h1, fun x hx => ?_⟩
    rcases List.mem_cons.mp hx with q | q
    · rw [q]; exact Nat.le_trans (Nat.le_max_right _ _) h1
    · exact h2 x q
theorem maxL_mem (l : List Nat) : ∀ a : Nat, maxL a l = a ∨ maxL a l ∈ l := by
  induction l with
  | nil => intro a; exact .inl rfl
  | cons y l ih =>
    intro a
    have e : maxL a (y :: l) = maxL (max a y) l := rfl
    rw [e]
    rcases ih (max a y) with q | q
    · rw [q]
      by_cases h : a ≤ y
      · exact .inr (List.mem_cons.mpr (.inl (Nat.max_eq_right h)))
      · exact .inl (Nat.max_eq_left (by omega))
    · exact .inr (List.mem_cons_of_mem _ q)
theorem maxL_uniq {a m : Nat} {l : List Nat} (h1 : m = a ∨ m ∈ l) (h2 : a ≤ m) (h3 : ∀ x ∈ l, x ≤ m) : m = maxL a l := by
  obtain ⟨g1, g2⟩ := maxL_ge l a
  refine Nat.le_antisymm ?_ ?_
  · rcases h1 with q | q
    · rw [q]; exact g1
    · exact g2 m q
  · rcases maxL_mem l a with q | q
    · rw [q]; exact h2
    · exact h3 _ q

def but (l gone : List α) : List α := l.filter fun x => decide (x ∉ gone)
theorem mem_but {l gone : List α} {x : α} : x ∈ but l gone ↔ x ∈ l ∧ x ∉ gone := by
  unfold but; rw [List.mem_filter, decide_eq_true_eq]
theorem but_nodup {l gone : List α} (h : l.Nodup) : (but l gone).Nodup := h.sublist List.filter_sublist
theorem but_len (l gone : List α) : (but l gone).length ≤ l.length := List.length_filter_le _ _

section
variable (near : α → List α)
def mostF : Nat → List α → Nat
  | 0, _ => 0
  | _ + 1, [] => 0
  | _ + 1, [_] => 0
  | n + 1, f :: g :: r => maxL (mostF n (g :: r)) (((near f).filter fun o => decide (o ∈ g :: r)).map fun o => 1 + mostF n (but (g :: r) [o]))
def most (l : List α) : Nat := mostF near l.length l
theorem mostF_stable : ∀ (n m : Nat) (l : List α), l.length ≤ n → l.length ≤ m → mostF near n l = mostF near m l
  | 0, 0, _, _, _ => rfl
  | 0, m + 1, l, h, _ => by
    have : l = [] := List.length_eq_zero_iff.mp (by omega)
    subst this; rfl
  | n + 1, 0, l, _, h => by
    have : l = [] := List.length_eq_zero_iff.mp (by omega)
    subst this; rfl
  | n + 1, m + 1, [], _, _ => rfl
  | n + 1, m + 1, [_], _, _ => rfl
  | n + 1, m + 1, f :: g :: r, h1, h2 => by
    have l1 : (g :: r).length ≤ n := by simp only [List.length_cons] at h1 ⊢; omega
    have l2 : (g :: r).length ≤ m := by simp only [List.length_cons] at h2 ⊢; omega
    show maxL _ _ = maxL _ _
    rw [mostF_stable n m (g :: r) l1 l2]
    congr 1
    refine List.map_congr_left fun o _ => ?_
    rw [mostF_stable n m (but (g :: r) [o]) (Nat.le_trans (but_len _ _) l1) (Nat.le_trans (but_len _ _) l2)]
theorem most_short {l : List α} (h : l.length < 2) : most near l = 0 := by
  match l, h with
  | [], _ => rfl
  | [_], _ => rfl
theorem most_cons (f g : α) (r : List α) : most near (f :: g :: r) = maxL (most near (g :: r)) (((near f).filter fun o => decide (o ∈ g :: r)).map fun o => 1 + most near (but (g :: r) [o])) := by
  show maxL _ _ = maxL _ _
  unfold most
  congr 1
  refine List.map_congr_left fun o _ => ?_
  rw [mostF_stable near (g :: r).length (but (g :: r) [o]).length _ (but_len _ _) (Nat.le_refl _)]
theorem most_step {f : α} {rest : List α} (h : 2 ≤ (f :: rest).length) : most near (f :: rest) = maxL (most near rest) (((near f).filter fun o => decide (o ∈ rest)).map fun o => 1 + most near (but rest [o])) := by
  cases rest with
  | nil => simp at h
  | cons g r => exact most_cons near f g r

/-- who is near whom -/
abbrev adj : α → α → Prop := fun x y => y ∈ near x
theorem most_isNu (s : Sym (adj near)) : ∀ (n : Nat) (l : List α), l.length = n → l.Nodup → IsNu (adj near) (· ∈ l) (most near l) := by
  intro n
  induction n using Nat.strongRecOn with
  | ind n ih =>
    intro l hn nd
    match l, hn, nd with
    | [], _, _ =>
      refine ⟨⟨fun _ => False, fun x h => h.elim, .nil fun _ h => h⟩, fun n S hS mS => ?_⟩
      cases mS with
      | nil => exact Nat.zero_le _
      | cons a b _ _ ha _ _ => have := hS a ha; simp at this
    | [z], _, _ =>
      refine ⟨⟨fun _ => False, fun x h => h.elim, .nil fun _ h => h⟩, fun n S hS mS => ?_⟩
      cases mS with
      | nil => exact Nat.zero_le _
      | cons a b hab _ ha hb _ =>
        have h1 := hS a ha
        have h2 := hS b hb
        rw [List.mem_singleton] at h1 h2
        exact absurd (h1.trans h2.symm) hab
    | f :: g :: r, hn, nd =>
      rw [most_cons]
      have nd2 := (List.nodup_cons.mp nd).2
      have nf := (List.nodup_cons.mp nd).1
      have ir := ih (g :: r).length (by rw [← hn]; simp) (g :: r) rfl nd2
      have ib : ∀ o, IsNu (adj near) (· ∈ but (g :: r) [o]) (most near (but (g :: r) [o])) := fun o => ih _ (by have := but_len (g :: r) [o]; rw [← hn]; simp only [List.length_cons] at this ⊢; omega) _ rfl (but_nodup nd2)
      obtain ⟨m1, m2⟩ := maxL_ge (((near f).filter fun o => decide (o ∈ g :: r)).map fun o => 1 + most near (but (g :: r) [o])) (most near (g :: r))
      constructor
      · rcases maxL_mem (((near f).filter fun o => decide (o ∈ g :: r)).map fun o => 1 + most near (but (g :: r) [o])) (most near (g :: r)) with q | q
        · rw [q]
          obtain ⟨S, hS, mS⟩ := ir.has
          exact ⟨S, fun x hx => List.mem_cons_of_mem _ (hS x hx), mS⟩
        · obtain ⟨o, ho, e⟩ := List.mem_map.mp q
          rw [← e]
          obtain ⟨ho1, ho2⟩ := List.mem_filter.mp ho
          have ho2 := of_decide_eq_true ho2
          obtain ⟨S, hS, mS⟩ := (ib o).has
          have nfS : ¬ S f := fun h => nf ((mem_but.mp (hS f h)).1)
          have noS : ¬ S o := fun h => (mem_but.mp (hS o h)).2 (List.mem_singleton.mpr rfl)
          rw [Nat.add_comm]
          refine ⟨_, ?_, mS.ins nfS noS (s.ne ho1) ho1⟩
          intro x hx
          rcases hx with h | h | h
          · exact List.mem_cons_of_mem _ (mem_but.mp (hS x h)).1
          · rw [h]; exact List.mem_cons_self
          · rw [h]; exact List.mem_cons_of_mem _ ho2
      · intro n S hS mS
        by_cases hf : S f
        · obtain ⟨k, w, ek, hwf, hw, gw, mk⟩ := mS.out s hf
          have hwr : w ∈ g :: r := (List.mem_cons.mp (hS w hw)).resolve_left hwf
          have h1 := (ib w).most k _ (fun x hx => mem_but.mpr ⟨(List.mem_cons.mp (hS x hx.1)).resolve_left hx.2.1, fun e => hx.2.2 (List.mem_singleton.mp e)⟩) mk
          have h2 := m2 (1 + most near (but (g :: r) [w])) (List.mem_map.mpr ⟨w, List.mem_filter.mpr ⟨gw, decide_eq_true hwr⟩, rfl⟩)
          omega
        · have h1 := ir.most n S (fun x hx => (List.mem_cons.mp (hS x hx)).resolve_left fun e => hf (e ▸ hx)) mS
          omega
theorem most_nu (s : Sym (adj near)) {l : List α} (nd : l.Nodup) : IsNu (adj near) (· ∈ l) (most near l) := most_isNu near s _ l rfl nd

/-! ### the order -/
structure Ord (lt : α → α → Bool) : Prop where
  irr : ∀ x, lt x x = false
  trans : ∀ x y z, lt x y = true → lt y z = true → lt x z = true
  tot : ∀ x y, x ≠ y → lt x y = true ∨ lt y x = true
variable (lt : α → α → Bool)
def behind (left : List α) (a b : α) : List α := left.filter fun x => lt a x && decide (x ≠ b)
theorem mem_behind {left : List α} {a b x : α} : x ∈ behind lt left a b ↔ x ∈ left ∧ lt a x = true ∧ x ≠ b := by
  unfold behind; rw [List.mem_filter, Bool.and_eq_true, decide_eq_true_eq]
theorem behind_nodup {left : List α} {a b : α} (h : left.Nodup) : (behind lt left a b).Nodup := h.sublist List.filter_sublist
def pairsOf (names : List α) : List (α × α) := names.flatMap fun a => ((near a).filter fun b => lt a b).map fun b => (a, b)
theorem mem_pairs {names : List α} {a b : α} : (a, b) ∈ pairsOf near lt names ↔ a ∈ names ∧ b ∈ near a ∧ lt a b = true := by
  unfold pairsOf
  rw [List.mem_flatMap]
  constructor
  · rintro ⟨x, hx, h⟩
    obtain ⟨y, hy, e⟩ := List.mem_map.mp h
    obtain ⟨h1, h2⟩ := List.mem_filter.mp hy
    have e1 : x = a := congrArg Prod.fst e
    have e2 : y = b := congrArg Prod.snd e
    subst e1 e2
    exact ⟨hx, h1, h2⟩
  · rintro ⟨h1, h2, h3⟩
    exact ⟨a, h1, List.mem_map.mpr ⟨b, List.mem_filter.mpr ⟨h2, h3⟩, rfl⟩⟩
def firsts (names left : List α) (many : Nat) : List (α × α) :=
  ((pairsOf near lt names).filter fun p => decide (p.1 ∈ left) && decide (p.2 ∈ left)).filter fun p => decide (most near (behind lt left p.1 p.2) + 1 = many)
theorem mem_firsts {names left : List α} {many : Nat} {a b : α} : (a, b) ∈ firsts near lt names left many ↔ (a ∈ names ∧ b ∈ near a ∧ lt a b = true) ∧ (a ∈ left ∧ b ∈ left) ∧ most near (behind lt left a b) + 1 = many := by
  unfold firsts
  rw [List.mem_filter, List.mem_filter, mem_pairs, Bool.and_eq_true, decide_eq_true_eq, decide_eq_true_eq, decide_eq_true_eq]
  exact ⟨fun h => ⟨h.1.1, h.1.2, h.2⟩, fun h => ⟨⟨h.1, h.2.1⟩, h.2.2⟩⟩
def every (names : List α) : Nat → List α → List (List (α × α))
  | 0, _ => [[]]
  | m + 1, left => (firsts near lt names left (m + 1)).flatMap fun p => (every names m (behind lt left p.1 p.2)).map fun r => p :: r
def least (names : List α) : Nat → List α → List (α × α)
  | 0, _ => []
  | m + 1, left => match firsts near lt names left (m + 1) with
    | [] => []
    | p :: _ => p :: least names m (behind lt left p.1 p.2)
/-- who stands in a row of pairs -/
def flat (row : List (α × α)) : List α := row.flatMap fun p => [p.1, p.2]
theorem flat_cons (p : α × α) (row : List (α × α)) : flat (p :: row) = p.1 :: p.2 :: flat row := rfl
theorem mem_flat {row : List (α × α)} {x : α} : x ∈ flat row ↔ ∃ p ∈ row, x = p.1 ∨ x = p.2 := by
  unfold flat
  rw [List.mem_flatMap]
  constructor
  · rintro ⟨p, hp, h⟩
    rcases List.mem_cons.mp h with e | h
    · exact ⟨p, hp, .inl e⟩
    · exact ⟨p, hp, .inr (List.mem_singleton.mp h)⟩
  · rintro ⟨p, hp, h⟩
    refine ⟨p, hp, ?_⟩
    rcases h with e | e
    · rw [e]; exact List.mem_cons_self
    · rw [e]; exact List.mem_cons_of_mem _ (List.mem_singleton.mpr rfl)

section
variable {near} {lt}
theorem row_step (s : Sym (adj near)) (o : Ord lt) {names left : List α} {many : Nat} {a b : α} {row : List (α × α)} (hp : (a, b) ∈ firsts near lt names left (many + 1)) (h1 : ∀ x ∈ flat row, x ∈ behind lt left a b) (h2 : Mt (adj near) many (· ∈ flat row)) :
    (∀ x ∈ flat ((a, b) :: row), x ∈ left) ∧ Mt (adj near) (many + 1) (· ∈ flat ((a, b) :: row)) := by
  obtain ⟨⟨_, hb, hab⟩, ⟨ha, hb2⟩, _⟩ := (mem_firsts near lt).mp hp
  have ne : a ≠ b := s.ne hb
  have na : a ∉ flat row := fun h => by
    have := ((mem_behind lt).mp (h1 a h)).2.1
    rw [o.irr] at this; cases this
  have nb : b ∉ flat row := fun h => ((mem_behind lt).mp (h1 b h)).2.2 rfl
  constructor
  · intro x hx
    rw [flat_cons] at hx
    rcases List.mem_cons.mp hx with e | hx
    · rw [e]; exact ha
    · rcases List.mem_cons.mp hx with e | hx
      · rw [e]; exact hb2
      · exact ((mem_behind lt).mp (h1 x hx)).1
  · refine (h2.ins na nb ne hb).congr fun x => ?_
    rw [flat_cons, List.mem_cons, List.mem_cons]
    constructor
    · rintro (h | h | h)
      · exact .inr (.inr h)
      · exact .inl h
      · exact .inr (.inl h)
    · rintro (h | h | h)
      · exact .inr (.inl h)
      · exact .inr (.inr h)
      · exact .inl h
theorem every_sound (s : Sym (adj near)) (o : Ord lt) (names : List α) : ∀ (m : Nat) (left : List α) (row : List (α × α)), row ∈ every near lt names m left → (∀ x ∈ flat row, x ∈ left) ∧ Mt (adj near) m (· ∈ flat row)
  | 0, left, row, h => by
    have e : row = [] := List.mem_singleton.mp h
    subst e
    exact ⟨fun x hx => by simp [flat] at hx, .nil fun x hx => by simp [flat] at hx⟩
  | m + 1, left, row, h => by
    obtain ⟨⟨a, b⟩, hp, hr⟩ := List.mem_flatMap.mp h
    obtain ⟨r, hr2, e⟩ := List.mem_map.mp hr
    subst e
    obtain ⟨h1, h2⟩ := every_sound s o names m _ r hr2
    exact row_step s o hp h1 h2
/-- a least one -/
theorem least_of (o : Ord lt) (S : α → Prop) : ∀ (l : List α), (∃ x ∈ l, S x) → ∃ a ∈ l, S a ∧ ∀ x ∈ l, S x → x ≠ a → lt a x = true
  | [], h => by obtain ⟨x, hx, _⟩ := h; simp at hx
  | y :: l, h => by
    by_cases hl : ∃ x ∈ l, S x
    · obtain ⟨a, ha, sa, q⟩ := least_of o S l hl
      by_cases hy : S y
      · by_cases e : y = a
        · subst e
          refine ⟨y, List.mem_cons_self, hy, fun x hx sx ne => ?_⟩
          rcases List.mem_cons.mp hx with e | hx
          · exact absurd e ne
          · exact q x hx sx ne
        · rcases o.tot y a e with c | c
          · refine ⟨y, List.mem_cons_self, hy, fun x hx sx ne => ?_⟩
            rcases List.mem_cons.mp hx with e | hx
            · exact absurd e ne
            · by_cases e2 : x = a
              · rw [e2]; exact c
              · exact o.trans _ _ _ c (q x hx sx e2)
          · refine ⟨a, List.mem_cons_of_mem _ ha, sa, fun x hx sx ne => ?_⟩
            rcases List.mem_cons.mp hx with e | hx
            · rw [e]; exact c
            · exact q x hx sx ne
      · refine ⟨a, List.mem_cons_of_mem _ ha, sa, fun x hx sx ne => ?_⟩
        rcases List.mem_cons.mp hx with e | hx
        · exact absurd (e ▸ sx) hy
        · exact q x hx sx ne
    · obtain ⟨x, hx, sx⟩ := h
      rcases List.mem_cons.mp hx with e | hx
      · subst e
        refine ⟨x, List.mem_cons_self, sx, fun z hz sz ne => ?_⟩
        rcases List.mem_cons.mp hz with e | hz
        · exact absurd e ne
        · exact absurd ⟨z, hz, sz⟩ hl
      · exact absurd ⟨x, hx, sx⟩ hl
/-- a greatest matching begins with a pair of firsts -/
theorem first_of (s : Sym (adj near)) (o : Ord lt) {names left : List α} (nd : left.Nodup) (hl : ∀ x ∈ left, x ∈ names) {m : Nat} (hm : most near left = m + 1) {S : α → Prop} (hS : ∀ x, S x → x ∈ left) (mS : Mt (adj near) (m + 1) S) :
    ∃ a b, S a ∧ S b ∧ a ≠ b ∧ (a, b) ∈ firsts near lt names left (m + 1) ∧ most near (behind lt left a b) = m ∧ Mt (adj near) m (fun x => S x ∧ x ≠ a ∧ x ≠ b) ∧ ∀ x, (S x ∧ x ≠ a ∧ x ≠ b) → x ∈ behind lt left a b := by
  have hex : ∃ x ∈ left, S x := by
    cases mS with
    | cons a b _ _ ha _ _ => exact ⟨a, hS a ha, ha⟩
  obtain ⟨a, ha, sa, q⟩ := least_of o S left hex
  obtain ⟨k, b, ek, hba, sb, gb, mk⟩ := mS.out s sa
  have ek : m = k := Nat.succ.inj ek
  subst ek
  have sub : ∀ x, (S x ∧ x ≠ a ∧ x ≠ b) → x ∈ behind lt left a b := fun x hx => (mem_behind lt).mpr ⟨hS x hx.1, q x (hS x hx.1) hx.1 hx.2.1, hx.2.2⟩
  have nuB := most_nu near s (behind_nodup lt (a := a) (b := b) nd)
  have h1 := nuB.most _ _ sub mk
  have h2 : most near (behind lt left a b) + 1 ≤ most near left := by
    obtain ⟨T, hT, mT⟩ := nuB.has
    refine (most_nu near s nd).most _ _ ?_ (mT.ins (a := a) (b := b) (fun h => ?_) (fun h => ?_) (Ne.symm hba) gb)
    · intro x hx
      rcases hx with h | h | h
      · exact ((mem_behind lt).mp (hT x h)).1
      · rw [h]; exact ha
      · rw [h]; exact hS b sb
    · have := ((mem_behind lt).mp (hT a h)).2.1
      rw [o.irr] at this; cases this
    · exact ((mem_behind lt).mp (hT b h)).2.2 rfl
  have e : most near (behind lt left a b) = m := by omega
  exact ⟨a, b, sa, sb, Ne.symm hba, (mem_firsts near lt).mpr ⟨⟨hl a ha, gb, q b (hS b sb) sb hba⟩, ⟨ha, hS b sb⟩, by omega⟩, e, mk, sub⟩
theorem every_complete (s : Sym (adj near)) (o : Ord lt) (names : List α) : ∀ (m : Nat) (left : List α), left.Nodup → (∀ x ∈ left, x ∈ names) → most near left = m → ∀ S : α → Prop, (∀ x, S x → x ∈ left) → Mt (adj near) m S → ∃ row ∈ every near lt names m left, ∀ x, S x ↔ x ∈ flat row
  | 0, left, _, _, _, S, hS, mS => by
    refine ⟨[], List.mem_singleton.mpr rfl, fun x => ⟨fun h => ?_, fun h => by simp [flat] at h⟩⟩
    cases mS with
    | nil h0 => exact absurd h (h0 x)
  | m + 1, left, nd, hl, hm, S, hS, mS => by
    obtain ⟨a, b, sa, sb, ab, hp, hb, mk, sub⟩ := first_of s o nd hl hm hS mS
    obtain ⟨row, hr, q⟩ := every_complete s o names m (behind lt left a b) (behind_nodup lt nd) (fun x hx => hl x ((mem_behind lt).mp hx).1) hb _ sub mk
    refine ⟨(a, b) :: row, List.mem_flatMap.mpr ⟨(a, b), hp, List.mem_map.mpr ⟨row, hr, rfl⟩⟩, fun x => ?_⟩
    rw [flat_cons, List.mem_cons, List.mem_cons, ← q]
    constructor
    · intro h
      by_cases e1 : x = a
      · exact .inl e1
      · by_cases e2 : x = b
        · exact .inr (.inl e2)
        · exact .inr (.inr ⟨h, e1, e2⟩)
    · rintro (h | h | h)
      · rw [h]; exact sa
      · rw [h]; exact sb
      · exact h.1
theorem firsts_ne (s : Sym (adj near)) (o : Ord lt) {names left : List α} (nd : left.Nodup) (hl : ∀ x ∈ left, x ∈ names) {m : Nat} (hm : most near left = m + 1) : ∃ p r, firsts near lt names left (m + 1) = p :: r ∧ most near (behind lt left p.1 p.2) = m := by
  obtain ⟨S, hS, mS⟩ := (most_nu near s nd).has
  rw [hm] at mS
  obtain ⟨a, b, _, _, _, hp, _⟩ := first_of s o nd hl hm hS mS
  cases h : firsts near lt names left (m + 1) with
  | nil => rw [h] at hp; simp at hp
  | cons p r =>
    refine ⟨p, r, rfl, ?_⟩
    have : (p.1, p.2) ∈ firsts near lt names left (m + 1) := by rw [h]; exact List.mem_cons_self
    have := ((mem_firsts near lt).mp this).2.2
    omega
theorem least_ok (s : Sym (adj near)) (o : Ord lt) (names : List α) : ∀ (m : Nat) (left : List α), left.Nodup → (∀ x ∈ left, x ∈ names) → most near left = m → (least near lt names m left).length = m ∧ ∀ x ∈ flat (least near lt names m left), x ∈ left
  | 0, _, _, _, _ => ⟨rfl, fun x hx => by simp [least, flat] at hx⟩
  | m + 1, left, nd, hl, hm => by
    obtain ⟨p, r, hf, hb⟩ := firsts_ne s o nd hl hm
    have e : least near lt names (m + 1) left = p :: least near lt names m (behind lt left p.1 p.2) := by
      show (match firsts near lt names left (m + 1) with | [] => [] | p :: _ => p :: least near lt names m (behind lt left p.1 p.2)) = _
      rw [hf]
    obtain ⟨h1, h2⟩ := least_ok s o names m (behind lt left p.1 p.2) (behind_nodup lt nd) (fun x hx => hl x ((mem_behind lt).mp hx).1) hb
    have hp : (p.1, p.2) ∈ firsts near lt names left (m + 1) := by rw [hf]; exact List.mem_cons_self
    obtain ⟨_, ⟨ha, hb2⟩, _⟩ := (mem_firsts near lt).mp hp
    rw [e]
    refine ⟨by rw [List.length_cons, h1], fun x hx => ?_⟩
    rw [flat_cons] at hx
    rcases List.mem_cons.mp hx with e | hx
    · rw [e]; exact ha
    · rcases List.mem_cons.mp hx with e | hx
      · rw [e]; exact hb2
      · exact ((mem_behind lt).mp (h2 x hx)).1
end
end

/-! ### going down a line -/
def canM (bests : List (List α)) (some : List α) : Bool := bests.any fun b => some.all fun x => decide (x ∈ b)
theorem canM_iff {bests : List (List α)} {some : List α} : canM bests some = true ↔ ∃ b ∈ bests, ∀ x ∈ some, x ∈ b := by
  unfold canM
  rw [List.any_eq_true]
  constructor
  · rintro ⟨b, hb, h⟩
    exact ⟨b, hb, fun x hx => of_decide_eq_true (List.all_eq_true.mp h x hx)⟩
  · rintro ⟨b, hb, h⟩
    exact ⟨b, hb, List.all_eq_true.mpr fun x hx => decide_eq_true (h x hx)⟩
def keptM (bests : List (List α)) : List α → List α → List α
  | found, [] => found
  | found, x :: line => keptM bests (if canM bests (found ++ [x]) = true then found ++ [x] else found) line
theorem keptM_app (bests : List (List α)) : ∀ (found l m : List α), keptM bests found (l ++ m) = keptM bests (keptM bests found l) m
  | _, [], _ => rfl
  | found, x :: l, m => keptM_app bests _ l m
theorem keptM_sub (bests : List (List α)) : ∀ (l found : List α), (∀ x ∈ found, x ∈ keptM bests found l) ∧ (∀ x ∈ keptM bests found l, x ∈ found ∨ x ∈ l)
  | [], found => ⟨fun _ h => h, fun _ h => .inl h⟩
  | y :: l, found => by
    obtain ⟨h1, h2⟩ := keptM_sub bests l (if canM bests (found ++ [y]) = true then found ++ [y] else found)
    constructor
    · intro x hx
      refine h1 x ?_
      split
      · exact List.mem_append_left _ hx
      · exact hx
    · intro x hx
      rcases h2 x hx with q | q
      · split at q
        · rcases List.mem_append.mp q with q | q
          · exact .inl q
          · exact .inr (List.mem_cons.mpr (.inl (List.mem_singleton.mp q)))
        · exact .inl q
      · exact .inr (List.mem_cons_of_mem _ q)
theorem keptM_can (bests : List (List α)) : ∀ (l found : List α), canM bests found = true → canM bests (keptM bests found l) = true
  | [], _, h => h
  | y :: l, found, h => by
    refine keptM_can bests l _ ?_
    split
    · assumption
    · exact h
/-- who could be kept with those that are kept in the end was kept -/
theorem keptM_all (bests : List (List α)) : ∀ (l found : List α) (z : α), z ∈ l → (∃ b ∈ bests, z ∈ b ∧ ∀ x ∈ keptM bests found l, x ∈ b) → z ∈ keptM bests found l
  | [], _, _, h, _ => by simp at h
  | y :: l, found, z, hz, hb => by
    rcases List.mem_cons.mp hz with e | hz
    · subst e
      obtain ⟨b, hb, zb, hall⟩ := hb
      have hsub := keptM_sub bests l (if canM bests (found ++ [z]) = true then found ++ [z] else found)
      have hc : canM bests (found ++ [z]) = true := canM_iff.mpr ⟨b, hb, fun x hx => by
        rcases List.mem_append.mp hx with q | q
        · refine hall x (hsub.1 x ?_)
          split
          · exact List.mem_append_left _ q
          · exact q
        · rw [List.mem_singleton.mp q]; exact zb⟩
      refine hsub.1 z ?_
      rw [if_pos hc]
      exact List.mem_append_right _ (List.mem_singleton.mpr rfl)
    · exact keptM_all bests l _ z hz hb
/-- put last: kept just if always covered -/
theorem kept_last {G : α → α → Prop} (s : Sym G) {vs : List α} {nu : Nat} (h : IsNu G (· ∈ vs) nu) {bests : List (List α)} (h1 : ∀ b ∈ bests, (∀ x ∈ b, x ∈ vs) ∧ Mt G nu (· ∈ b)) (h2 : ∀ S : α → Prop, (∀ x, S x → x ∈ vs) → Mt G nu S → ∃ b ∈ bests, ∀ x, S x ↔ x ∈ b)
    {v : α} (hv : v ∈ vs) {others : List α} (ho : ∀ x, x ∈ others ↔ x ∈ vs ∧ x ≠ v) : v ∉ keptM bests [] (others ++ [v]) ↔ Dm G (· ∈ vs) nu v := by
  have nov : v ∉ keptM bests [] others := fun q => by
    rcases (keptM_sub bests others []).2 v q with q | q
    · simp at q
    · exact ((ho v).mp q).2 rfl
  have hne : canM bests [] = true := by
    obtain ⟨S, hS, mS⟩ := h.has
    obtain ⟨b, hb, _⟩ := h2 S hS mS
    exact canM_iff.mpr ⟨b, hb, fun x hx => by simp at hx⟩
  have hc := keptM_can bests others [] hne
  rw [keptM_app]
  have e : keptM bests (keptM bests [] others) [v] = if canM bests (keptM bests [] others ++ [v]) = true then keptM bests [] others ++ [v] else keptM bests [] others := rfl
  rw [e]
  constructor
  · intro q
    by_cases c : canM bests (keptM bests [] others ++ [v]) = true
    · rw [if_pos c] at q
      exact absurd (List.mem_append_right _ (List.mem_singleton.mpr rfl)) q
    · obtain ⟨b, hb, hb2⟩ := canM_iff.mp hc
      refine ⟨hv, fun x => x ∈ b, (h1 b hb).1, (h1 b hb).2, fun vb => c (canM_iff.mpr ⟨b, hb, fun x hx => ?_⟩)⟩
      rcases List.mem_append.mp hx with r | r
      · exact hb2 x r
      · rw [List.mem_singleton.mp r]; exact vb
  · rintro ⟨_, S, hS, mS, hSv⟩
    have c : ¬ canM bests (keptM bests [] others ++ [v]) = true := by
      intro c
      obtain ⟨b, hb, hb2⟩ := canM_iff.mp c
      have vb : v ∈ b := hb2 v (List.mem_append_right _ (List.mem_singleton.mpr rfl))
      obtain ⟨z, hzv, hSz, hbz, _, mz⟩ := exch s h hS (h1 b hb).1 mS (h1 b hb).2 vb hSv
      obtain ⟨b', hb', q⟩ := h2 _ (fun x hx => by
        rcases hx with r | r
        · exact (h1 b hb).1 x r.1
        · rw [r]; exact hS z hSz) mz
      have : z ∈ keptM bests [] others := keptM_all bests others [] z ((ho z).mpr ⟨hS z hSz, hzv⟩) ⟨b', hb', (q z).mp (.inr rfl), fun x hx => (q x).mp (.inl ⟨hb2 x (List.mem_append_left _ hx), fun e => nov (e ▸ hx)⟩)⟩
      exact hbz (hb2 z (List.mem_append_left _ this))
    rw [if_neg c]
    exact nov
end GE
/-! text O1 -/
/-! The order of names. -/
namespace CH
open PySem L2 PyProof.Rows Evl
def ltS (x y : Str) : Bool := decide (x.cps.toList < y.cps.toList)
theorem cps_inj {x y : Str} (h : x.cps.toList = y.cps.toList) : x = y := by
  obtain ⟨⟨a⟩⟩ := x
  obtain ⟨⟨b⟩⟩ := y
  simp at h
  rw [h]
theorem ordS : GE.Ord ltS where
  irr := fun x => decide_eq_false (List.lt_irrefl _)
  trans := fun x y z a b => decide_eq_true (List.lt_trans (of_decide_eq_true a) (of_decide_eq_true b))
  tot := fun x y h => by
    unfold ltS
    rcases Nat.lt_trichotomy 0 0 with z | _ | z
    · exact absurd z (Nat.lt_irrefl _)
    · by_cases a : x.cps.toList < y.cps.toList
      · exact .inl (decide_eq_true a)
      · by_cases b : y.cps.toList < x.cps.toList
        · exact .inr (decide_eq_true b)
        · exact absurd (cps_inj (List.le_antisymm (List.not_lt.mp b) (List.not_lt.mp a))) h
    · exact absurd z (Nat.lt_irrefl _)
def Asc (l : List Str) : Prop := l.Pairwise fun x y => ltS x y = true
theorem Asc.nodup {l : List Str} (h : Asc l) : l.Nodup := h.imp fun {a b} r z => by subst z; rw [ordS.irr] at r; cases r
theorem asc_uniq : ∀ {l m : List Str}, Asc l → Asc m → (∀ x, x ∈ l ↔ x ∈ m) → l = m
  | [], [], _, _, _ => rfl
  | [], y :: m, _, _, h => by have := (h y).mpr List.mem_cons_self; simp at this
  | x :: l, [], _, _, h => by have := (h x).mp List.mem_cons_self; simp at this
  | x :: l, y :: m, hl, hm, h => by
    obtain ⟨l1, l2⟩ := List.pairwise_cons.mp hl
    obtain ⟨m1, m2⟩ := List.pairwise_cons.mp hm
    have e : x = y := by
      rcases List.mem_cons.mp ((h x).mp List.mem_cons_self) with e | hx
      · exact e
      · rcases List.mem_cons.mp ((h y).mpr List.mem_cons_self) with e | hy
        · exact e.symm
        · have a := l1 y hy
          have b := m1 x hx
          have := ordS.trans x y x a b
          rw [ordS.irr] at this
          cases this
    subst e
    have nx : x ∉ l := (List.nodup_cons.mp hl.nodup).1
    have ny : x ∉ m := (List.nodup_cons.mp hm.nodup).1
    rw [asc_uniq l2 m2 fun z => ?_]
    constructor
    · intro hz
      rcases List.mem_cons.mp ((h z).mp (List.mem_cons_of_mem _ hz)) with e | q
      · rw [e] at hz; exact absurd hz nx
      · exact q
    · intro hz
      rcases List.mem_cons.mp ((h z).mpr (List.mem_cons_of_mem _ hz)) with e | q
      · rw [e] at hz; exact absurd hz ny
      · exact q
def insS (x : Str) : List Str → List Str
  | [] => [x]
  | y :: l => if ltS x y = true then x :: y :: l else if x = y then y :: l else y :: insS x l
theorem mem_ins {x z : Str} : ∀ {l : List Str}, z ∈ insS x l ↔ z = x ∨ z ∈ l
  | [] => by simp [insS]
  | y :: l => by
    unfold insS
    split
    · simp
    · split
      · rename_i h; subst h; simp
      · rw [List.mem_cons, mem_ins (l := l), List.mem_cons]
        exact ⟨fun h => by rcases h with h | h | h; exact .inr (.inl h); exact .inl h; exact .inr (.inr h), fun h => by rcases h with h | h | h; exact .inr (.inl h); exact .inl h; exact .inr (.inr h)⟩
theorem asc_ins {x : Str} : ∀ {l : List Str}, Asc l → Asc (insS x l)
  | [], _ => List.pairwise_cons.mpr ⟨fun y hy => by simp at hy, List.Pairwise.nil⟩
  | y :: l, h => by
    obtain ⟨h1, h2⟩ := List.pairwise_cons.mp h
    unfold insS
    split
    · rename_i hxy
      refine List.pairwise_cons.mpr ⟨fun z hz => ?_, h⟩
      rcases List.mem_cons.mp hz with e | hz
      · rw [e]; exact hxy
      · exact ordS.trans _ _ _ hxy (h1 z hz)
    · split
      · exact h
      · rename_i n1 n2
        refine List.pairwise_cons.mpr ⟨fun z hz => ?_, asc_ins h2⟩
        rcases mem_ins.mp hz with e | hz
        · rw [e]
          exact (ordS.tot x y n2).resolve_left n1
        · exact h1 z hz
def asS : List Str → List Str
  | [] => []
  | x :: l => insS x (asS l)
theorem mem_asS {z : Str} : ∀ {l : List Str}, z ∈ asS l ↔ z ∈ l
  | [] => Iff.rfl
  | x :: l => by rw [asS, mem_ins, mem_asS, List.mem_cons]
theorem asc_asS : ∀ l : List Str, Asc (asS l)
  | [] => List.Pairwise.nil
  | x :: l => asc_ins (asc_asS l)
theorem asS_of {l m : List Str} (h : Asc m) (e : ∀ x, x ∈ m ↔ x ∈ l) : m = asS l := asc_uniq h (asc_asS l) fun x => (e x).trans mem_asS.symm
theorem asS_self {l : List Str} (h : Asc l) : asS l = l := (asS_of h fun _ => Iff.rfl).symm
theorem asS_len : ∀ l : List Str, (asS l).length ≤ l.length
  | [] => Nat.le_refl _
  | x :: l => by
    have := asS_len l
    have h : ∀ m : List Str, (insS x m).length ≤ m.length + 1 := fun m => by
      induction m with
      | nil => simp [insS]
      | cons y m ih => unfold insS; split; simp; split; simp; simp; exact ih
    have := h (asS l)
    rw [asS, List.length_cons]
    omega
theorem asc_rising : ∀ {l : List Str} {p : Str}, risingS p l = true → (p :: l).Nodup → Asc (p :: l)
  | [], p, _, _ => List.pairwise_cons.mpr ⟨fun y hy => by simp at hy, List.Pairwise.nil⟩
  | x :: l, p, h, nd => by
    unfold risingS at h
    rw [Bool.and_eq_true] at h
    obtain ⟨h1, h2⟩ := h
    obtain ⟨n1, n2⟩ := List.nodup_cons.mp nd
    have a := asc_rising h2 n2
    have px : ltS p x = true := by
      refine (ordS.tot p x fun z => n1 (z ▸ List.mem_cons_self)).resolve_right fun z => ?_
      rw [← lt_meets] at h1
      unfold ltS at z
      rw [z] at h1
      cases h1
    refine List.pairwise_cons.mpr ⟨fun y hy => ?_, a⟩
    rcases List.mem_cons.mp hy with e | hy
    · rw [e]; exact px
    · exact ordS.trans _ _ _ px ((List.pairwise_cons.mp a).1 y hy)
theorem asc_of : ∀ {l : List Str}, sortedS l = true → l.Nodup → Asc l
  | [], _, _ => List.Pairwise.nil
  | _ :: _, h, nd => asc_rising h nd
/-! ### as_set -/
abbrev sAsSet : Stmt := top 10
theorem scAsSet : FnScope ["names"] ["names"] (defScope sAsSet) := ⟨rfl, rfl, rfl, by decide +kernel, rfl, by decide +kernel, by decide +kernel⟩
def spAsSet (K : PySem.W.Frag) : Sp := fun vs H Q _ => ∃ (a : Addr) (l : List Str), vs = [.ref a] ∧ SqL K H a (sL l) ∧ l.length < 64 ∧ RT H Q (asS l)
section
variable {P : Program} {w : World} {K : PySem.W.Frag} {mg : Str → Option Value} {base : Heap} {f : Addr}
theorem ok_asSet (F : Fn K "as_set" "as_set" sAsSet [] [] f) (T : Blt mg) : FnR P w K mg base CX0 1 f (spAsSet K) := by
  refine Fn.ok0 (ps := ["names"]) F scAsSet (fun kV doc pm an cdv ct us hl => by match us, hl with | [u], _ => rfl) (fun vs H Q E ⟨_, _, e, _⟩ => by rw [e]; rfl) (fun cdv A outer s H vs Q E hr h => ?_)
  obtain ⟨a, l, rfl, ha, hz, k⟩ := h
  refine ⟨_, pss_one (ps_ret (pe_callTy call_tuple_of (by rfl) T.tuple (by decide +kernel) (pa_cons (pe_callB (cr_sortT rfl) (by rfl) T.sorted (by decide +kernel) (pa_cons (pe_callTy (cr_setS rfl) (by rfl) T.set (by decide +kernel) (pa_cons (pv 0) pa_nil)) pa_nil)) pa_nil))), ?_⟩
  refine ⟨.ref a, rfl, a, l, rfl, ha, by omega, fun p hp => ⟨p, l, rfl, upd_same, hz, fun ys q nd so hm hl hq => ⟨q, sL ys, rfl, .inl ⟨SqL.of upd_same, fun r hr => ?_⟩⟩⟩⟩
  have e : ys = asS l := asS_of (asc_of so nd) hm
  subst e
  exact k _ _ (((Ex.new hp).trans (Ex.new hq)).trans (Ex.new hr)) ⟨r, rfl, upd_same⟩
end
end CH
/-! text W3 -/
/-! Comprehensions over anything that walks n items; is_name, rises, is_set. -/
namespace CH
open PySem L2 Evl RZ
section
variable {R : Hp → Hp → Prop} {σ : L2.St} {H1 : Hp} {g : TG} {tt : TT} {te : TE} {vs : List Nat} {Q : Addr → Hp → Prop} {J : It} {n : Nat} {item : Nat → V → Prop} {P : Nat → List V → Hp → Prop}
/-- J walks n items while what H1 tracks stays -/
structure Goes (R : Hp → Hp → Prop) (H1 : Hp) (J : It) (n : Nat) (item : Nat → V → Prop) : Prop where
  go : ∀ i H, i < n → R H1 H → J.go i H
  stop : ∀ i H, n ≤ i → R H1 H → J.stop i H
  yld : ∀ i H x H', i < n → R H1 H → J.yld i H x H' → H' = H ∧ item i x
theorem goes_tup (kp : Kp R) {K : PySem.W.Frag} {a : Addr} {xs : List V} (h : SqT K H1 a xs) : Goes R H1 (Itt K a) xs.length (fun i x => xs[i]? = some x) where
  go := fun i H hi r => ⟨xs, xs[i], kp.tup r h, List.getElem?_eq_getElem hi⟩
  stop := fun i H hi r => ⟨xs, kp.tup r h, hi⟩
  yld := fun i H x H' hi r ⟨e, y⟩ => ⟨e, y xs (kp.tup r h)⟩
theorem goes_lst (kp : Kp R) {K : PySem.W.Frag} {a : Addr} {xs : List V} (h : SqL K H1 a xs) : Goes R H1 (Itl K a) xs.length (fun i x => xs[i]? = some x) where
  go := fun i H hi r => ⟨xs, xs[i], kp.lst r h, List.getElem?_eq_getElem hi⟩
  stop := fun i H hi r => ⟨xs, kp.lst r h, hi⟩
  yld := fun i H x H' hi r ⟨e, y⟩ => ⟨e, y xs (kp.lst r h)⟩
theorem goes_str {x : Str} : Goes R H1 (Its x) x.cps.size (fun i v => ∃ c, x.cps[i]? = some c ∧ v = .str ⟨#[c]⟩) where
  go := fun i H hi r => hi
  stop := fun i H hi r => hi
  yld := fun i H v H' hi r y => y
theorem goes_rng {lo : Int} : Goes R H1 (Itr lo n) n (fun i v => v = .int (lo + i)) where
  go := fun i H hi r => hi
  stop := fun i H hi r => hi
  yld := fun i H v H' hi r y => y
theorem lcJ_in (kp : Kp R) (G : Goes R H1 J n item) (hz : n ≤ 100000) (p0 : ∀ D, H1 D = none → P 0 [] (upd H1 D (.lst [])))
    (hs : ∀ D i x H', i < n → i < 100000 → item i x → LcOk R H1 D P i H' → g x (wipe σ vs) H' fun σ2 H2 => wipe σ2 vs = wipe σ vs ∧ tt σ2 H2 fun b H3 =>
      if b = true then te σ2 H3 fun y H4 => ∃ acc, H4 D = some (.lst acc) ∧ acc.length < sizeLine ∧ LcOk R H1 D P (i + 1) (upd H4 D (.lst (acc ++ [y]))) else LcOk R H1 D P (i + 1) H3)
    (hd : ∀ D H' acc, H1 D = none → R H1 H' → H' D = some (.lst acc) → P n acc H' → Q D H') :
    ∀ D, H1 D = none → ∃ W : Nat → Nat → Hp → Prop, (∃ m, W 0 m (upd H1 D (.lst []))) ∧ ∀ i m H, W i m H →
      (J.stop i H ∧ Q D H) ∨ (J.go i H ∧ ∃ Nx : Hp → Prop, (∀ H', Nx H' → ∃ m', m' < m ∧ W (i + 1) m' H') ∧ ∀ x H', J.yld i H x H' → g x (wipe σ vs) H' fun σ2 H2 => wipe σ2 vs = wipe σ vs ∧ tt σ2 H2 fun b H3 =>
        if b = true then te σ2 H3 fun y H4 => ∃ acc, H4 D = some (.lst acc) ∧ acc.length < sizeLine ∧ Nx (upd H4 D (.lst (acc ++ [y]))) else Nx H3) := fun D hD => by
  refine ⟨fun i m H => m = n - i ∧ i ≤ n ∧ LcOk R H1 D P i H, ⟨n, by simp, Nat.zero_le _, hD, Nat.zero_le _, [], Nat.le_refl _, kp.mtn (kp.refl _) hD, upd_same, p0 D hD⟩, ?_⟩
  rintro i m H ⟨rfl, hi, o⟩
  by_cases hlt : i < n
  · refine .inr ⟨G.go i H hlt o.step, LcOk R H1 D P (i + 1), fun H' o' => ⟨n - (i + 1), by omega, rfl, hlt, o'⟩, fun x H' y => ?_⟩
    obtain ⟨rfl, it⟩ := G.yld i H x H' hlt o.step y
    exact hs D i x H' hlt (by omega) it o
  · obtain rfl : i = n := by omega
    obtain ⟨h1, _, acc, _, h3, h4, h5⟩ := id o
    exact .inl ⟨G.stop i H (Nat.le_refl _) h3, hd D H acc h1 h3 h4 h5⟩
/-- the items that pass a test, mapped; enc: how an item stands; out: what is made of it -/
theorem fmJ {α : Type} {j : Nat} (kp : Kp R) (enc : α → V) (f : α → Bool) (out : α → V) (ns : List α) (G : Goes R H1 J n (fun i x => ∃ a, ns[i]? = some a ∧ x = enc a)) (hn : n = ns.length) (hz : ns.length ≤ 100000) (hj : j < (wipe σ vs).length) (hw : ∀ x, wipe ((wipe σ vs).set j (some x)) vs = wipe σ vs)
    (ht : ∀ a H', a ∈ ns → R H1 H' → EvTR R tt ((wipe σ vs).set j (some (enc a))) H' (f a))
    (he : ∀ a H', a ∈ ns → f a = true → R H1 H' → EvR R te ((wipe σ vs).set j (some (enc a))) H' (fun v _ => v = out a)) (hd : ∀ D H', H1 D = none → R H1 H' → H' D = some (.lst ((ns.filter f).map out)) → Q D H') :
    ∀ D, H1 D = none → ∃ W : Nat → Nat → Hp → Prop, (∃ m, W 0 m (upd H1 D (.lst []))) ∧ ∀ i m H, W i m H →
      (J.stop i H ∧ Q D H) ∨ (J.go i H ∧ ∃ Nx : Hp → Prop, (∀ H', Nx H' → ∃ m', m' < m ∧ W (i + 1) m' H') ∧ ∀ x H', J.yld i H x H' → gName j x (wipe σ vs) H' fun σ2 H2 => wipe σ2 vs = wipe σ vs ∧ tt σ2 H2 fun b H3 =>
        if b = true then te σ2 H3 fun y H4 => ∃ acc, H4 D = some (.lst acc) ∧ acc.length < sizeLine ∧ Nx (upd H4 D (.lst (acc ++ [y]))) else Nx H3) := by
  refine lcJ_in (P := fun i acc _ => acc = ((ns.take i).filter f).map out) kp G (by rw [hn]; exact hz) (fun _ _ => rfl) (fun D i x H' hi hi2 it o => ?_) (fun D H' acc h1 h2 h3 h4 => ?_)
  · obtain ⟨a, e, rfl⟩ := it
    have ha := List.mem_of_getElem? e
    refine ⟨hw _, ht a H' ha o.step _ fun H3 r => ?_⟩
    cases hf : f a with
    | true =>
      refine iteT (he a H3 ha hf (kp.trans o.step r) _ fun v H4 r2 ev => ?_)
      refine o.yes kp (fun _ _ _ _ p _ => p) (fun _ _ _ _ _ _ p => p) hi2 (kp.trans r r2) fun acc p => ?_
      show acc ++ [v] = ((ns.take (i + 1)).filter f).map out
      rw [take_yes e hf, List.map_append, p, ev]
      rfl
    | false =>
      refine iteF (o.no kp hi2 r fun acc p => ?_)
      show acc = ((ns.take (i + 1)).filter f).map out
      rw [take_no e hf]
      exact p
  · refine hd D H' h1 h2 ?_
    rw [h3, h4, hn, List.take_length]
end
section
variable {R : Hp → Hp → Prop} {σ : L2.St} {H1 : Hp} {g : TG} {tt : TT} {te : TE} {vs : List Nat} {Q : Addr → Hp → Prop} {J : It} {n : Nat} {item : Nat → V → Hp → Prop} {P : Nat → List V → Prop}
/-- J walks n items, new ones -/
structure GoesN (R : Hp → Hp → Prop) (H1 : Hp) (J : It) (n : Nat) (item : Nat → V → Hp → Prop) : Prop where
  go : ∀ i H, i < n → R H1 H → J.go i H
  stop : ∀ i H, n ≤ i → R H1 H → J.stop i H
  yld : ∀ i H x H', i < n → R H1 H → J.yld i H x H' → R H H' ∧ item i x H'
theorem lcJ2_in (kp : Kp R) (G : GoesN R H1 J n item) (hz : n ≤ 100000) (p0 : P 0 [])
    (hs : ∀ D i x H', i < n → i < 100000 → item i x H' → LcOk R H1 D (fun i acc _ => P i acc) i H' → g x (wipe σ vs) H' fun σ2 H2 => wipe σ2 vs = wipe σ vs ∧ tt σ2 H2 fun b H3 =>
      if b = true then te σ2 H3 fun y H4 => ∃ acc, H4 D = some (.lst acc) ∧ acc.length < sizeLine ∧ LcOk R H1 D (fun i acc _ => P i acc) (i + 1) (upd H4 D (.lst (acc ++ [y]))) else LcOk R H1 D (fun i acc _ => P i acc) (i + 1) H3)
    (hd : ∀ D H' acc, H1 D = none → R H1 H' → H' D = some (.lst acc) → P n acc → Q D H') :
    ∀ D, H1 D = none → ∃ W : Nat → Nat → Hp → Prop, (∃ m, W 0 m (upd H1 D (.lst []))) ∧ ∀ i m H, W i m H →
      (J.stop i H ∧ Q D H) ∨ (J.go i H ∧ ∃ Nx : Hp → Prop, (∀ H', Nx H' → ∃ m', m' < m ∧ W (i + 1) m' H') ∧ ∀ x H', J.yld i H x H' → g x (wipe σ vs) H' fun σ2 H2 => wipe σ2 vs = wipe σ vs ∧ tt σ2 H2 fun b H3 =>
        if b = true then te σ2 H3 fun y H4 => ∃ acc, H4 D = some (.lst acc) ∧ acc.length < sizeLine ∧ Nx (upd H4 D (.lst (acc ++ [y]))) else Nx H3) := fun D hD => by
  refine ⟨fun i m H => m = n - i ∧ i ≤ n ∧ LcOk R H1 D (fun i acc _ => P i acc) i H, ⟨n, by simp, Nat.zero_le _, hD, Nat.zero_le _, [], Nat.le_refl _, kp.mtn (kp.refl _) hD, upd_same, p0⟩, ?_⟩
  rintro i m H ⟨rfl, hi, o⟩
  by_cases hlt : i < n
  · refine .inr ⟨G.go i H hlt o.step, LcOk R H1 D (fun i acc _ => P i acc) (i + 1), fun H' o' => ⟨n - (i + 1), by omega, rfl, hlt, o'⟩, fun x H' y => ?_⟩
    obtain ⟨r, it⟩ := G.yld i H x H' hlt o.step y
    refine hs D i x H' hlt (by omega) it ?_
    obtain ⟨a1, a2, acc, a3, a4, a5, a6⟩ := o
    exact ⟨a1, a2, acc, a3, kp.trans a4 r, kp.keep r a5 (fun _ z => by cases z), a6⟩
  · obtain rfl : i = n := by omega
    obtain ⟨h1, _, acc, _, h3, h4, h5⟩ := id o
    exact .inl ⟨G.stop i H (Nat.le_refl _) h3, hd D H acc h1 h3 h4 h5⟩
theorem goes_zip (kp : Kp R) {K : PySem.W.Frag} {a b : Addr} {xs ys : List V} (hx : SqT K H1 a xs) (hy : SqT K H1 b ys) : GoesN R H1 (ItzT K a b) (min xs.length ys.length) (fun i v H => ∃ T x y, v = .ref T ∧ H T = some (.tup [x, y]) ∧ xs[i]? = some x ∧ ys[i]? = some y) where
  go := fun i H hi r => ⟨xs, ys, xs[i]'(by omega), ys[i]'(by omega), kp.tup r hx, kp.tup r hy, List.getElem?_eq_getElem _, List.getElem?_eq_getElem _⟩
  stop := fun i H hi r => ⟨xs, ys, kp.tup r hx, kp.tup r hy, by omega⟩
  yld := fun i H v H' hi r ⟨T, x, y, e, hT, e2, z1, z2⟩ => by
    subst e2
    exact ⟨kp.new hT, T, x, y, e, upd_same, z1 xs (kp.tup r hx), z2 ys (kp.tup r hy)⟩
end
theorem nth_map {α : Type} {enc : α → V} {ns : List α} {i : Nat} {x : V} (h : (ns.map enc)[i]? = some x) : ∃ a, ns[i]? = some a ∧ x = enc a := by
  rw [List.getElem?_map] at h
  cases e : ns[i]? with
  | none => rw [e] at h; cases h
  | some a => rw [e] at h; exact ⟨a, rfl, (Option.some.inj h).symm⟩
theorem goes_tupM {α : Type} {R : Hp → Hp → Prop} {H1 : Hp} (kp : Kp R) {K : PySem.W.Frag} {a : Addr} {enc : α → V} {ns : List α} (h : SqT K H1 a (ns.map enc)) : Goes R H1 (Itt K a) ns.length (fun i x => ∃ a, ns[i]? = some a ∧ x = enc a) := by
  have G := goes_tup kp h
  rw [List.length_map] at G
  exact ⟨G.go, G.stop, fun i H x H' hi r y => let ⟨e, z⟩ := G.yld i H x H' hi r y; ⟨e, nth_map z⟩⟩
theorem goes_lstM {α : Type} {R : Hp → Hp → Prop} {H1 : Hp} (kp : Kp R) {K : PySem.W.Frag} {a : Addr} {enc : α → V} {ns : List α} (h : SqL K H1 a (ns.map enc)) : Goes R H1 (Itl K a) ns.length (fun i x => ∃ a, ns[i]? = some a ∧ x = enc a) := by
  have G := goes_lst kp h
  rw [List.length_map] at G
  exact ⟨G.go, G.stop, fun i H x H' hi r y => let ⟨e, z⟩ := G.yld i H x H' hi r y; ⟨e, nth_map z⟩⟩
theorem evT_yes {R : Hp → Hp → Prop} (kp : Kp R) {σ : L2.St} {H : Hp} : EvTR R tYes σ H true := fun Q q => q H (kp.refl _)

/-! ### is_name -/
def letters : Str := Str.ofString "abcdefghijklmnopqrstuvwxyz"
def NameOk (x : Str) : Prop := 1 ≤ x.length ∧ x.length ≤ 8 ∧ ∀ c ∈ x.cps.toList, c ∈ letters.cps.toList
structure Cst (mg : Str → Option Value) : Prop where
  letters : ∃ t, mg "LETTERS" = some (.str letters t)
  longest : ∃ t, mg "LONGEST" = some (.int 8 t)
  pair : ∃ t, mg "PAIR" = some (.int 2 t)
  both : ∃ t, mg "BOTH" = some (.int 2 t)
abbrev sIsName : Stmt := top 7
theorem scIsName : FnScope ["thing", "sign"] ["thing"] (defScope sIsName) := ⟨rfl, rfl, rfl, by decide +kernel, rfl, by decide +kernel, by decide +kernel⟩
def spIsName : Sp := fun vs H Q _ => ∃ x, vs = [.str x] ∧ NameOk x ∧ ∀ H', Ex H H' → Q (.bl true) H'
section
variable {P : Program} {w : World} {K : PySem.W.Frag} {mg : Str → Option Value} {base : Heap} {f : Addr}
theorem all_filter_true {α : Type} {l : List α} : l.filter (fun _ => true) = l := List.filter_eq_self.mpr fun _ _ => rfl
theorem ok_isName (F : Fn K "is_name" "is_name" sIsName [] [] f) (T : Blt mg) (C : Cst mg) : FnR P w K mg base CX0 1 f spIsName := by
  obtain ⟨t1, m1⟩ := C.letters
  obtain ⟨t2, m2⟩ := C.longest
  refine Fn.ok0 (ps := ["thing"]) F scIsName (fun kV doc pm an cdv ct us hl => by match us, hl with | [u], _ => rfl) (fun vs H Q E ⟨_, e, _⟩ => by rw [e]; rfl) (fun cdv A outer s H vs Q E hr h => ?_)
  obtain ⟨x, rfl, ⟨n1, n2, n3⟩, k⟩ := h
  refine ⟨_, pss_one (ps_ret (pe_and (pe_callB call_isi (by rfl) T.isinstance (by decide +kernel) (pa_cons (pv 0) (pa_cons (pe_bltn (v := .ty "str") (by rfl) T.str (by decide +kernel) rfl) pa_nil)))
    (pe_and (pe_chain op_le op_le pe_int (pe_callB call_len_str (by rfl) T.len (by decide +kernel) (pa_cons (pv 0) pa_nil)) (pe_glob (v := .int 8) rfl m2 ⟨_, rfl⟩))
      (pe_one (pe_callB (cr_all rfl) (by rfl) T.all (by decide +kernel) (pa_cons (pe_lc (own := [("sign", 1)]) (g := gName 1) rfl scIsName.nd (pi_str (pv 0)) (blkOk_by (N := ["thing", "sign"]) (sc := defScope sIsName) (by decide +kernel))
        (fun _ _ _ _ _ => pg_name (i := 1) scIsName.nd rfl (Or.inl rfl)) (fun _ _ _ _ _ => pts_nil) (fun _ _ _ _ _ => pe_cmpR op_in_sign (pv 1) (pe_glob (v := .str letters) rfl m1 ⟨_, rfl⟩) (by with_unfolding_all rfl))) pa_nil)))))), ?_⟩
  refine ⟨.str x, rfl, .str x, .ty "str", _, _, true, rfl, .ty _, .base (.str x), kit_ty (by decide +kernel), true, rfl, ?_⟩
  refine ⟨.str x, rfl, x, rfl, Nat.le_trans n2 (by decide), 1, (x.length : Int), rfl, rfl, true, by simp; omega, ?_⟩
  refine ⟨(x.length : Int), 8, rfl, rfl, true, by simp; omega, ?_⟩
  refine ⟨.str x, rfl, x, rfl, fmJ (α := Nat) kpE (fun c => .str ⟨#[c]⟩) (fun _ => true) (fun _ => .bl true) x.cps.toList ⟨goes_str.go, goes_str.stop, fun i H2 v H' hi r y => ?_⟩ (by simp) ?_ (by show 1 < 2; decide) (fun _ => rfl) (fun a H' _ _ => evT_yes kpE) (fun a H' ha _ e Q' q => ?_) (fun D H' hD e hd => ?_)⟩
  · obtain ⟨e, c, hc, ev⟩ := (goes_str (R := Ex) (H1 := H) (x := x)).yld i H2 v H' hi r y
    exact ⟨e, c, by rw [Array.getElem?_toList]; exact hc, ev⟩
  · show x.cps.toList.length ≤ 100000
    rw [Array.length_toList]
    exact Nat.le_trans n2 (by decide)
  · refine ⟨_, rfl, a, letters, rfl, rfl, ?_⟩
    exact q _ _ (Ex.refl _) (by rw [decide_eq_true (n3 a ha)])
  · refine ⟨D, x.cps.toList.map fun _ => true, rfl, SqL.of ?_, ?_⟩
    · rw [hd, all_filter_true, List.map_map]
      rfl
    · have : (x.cps.toList.map fun _ => true).all id = true := by rw [List.all_eq_true]; intro b hb; obtain ⟨_, _, e⟩ := List.mem_map.mp hb; rw [← e]; rfl
      rw [this]
      exact k _ e
/-! ### rises -/
abbrev sRises : Stmt := top 8
theorem scRises : FnScope ["row", "one", "other"] ["row"] (defScope sRises) := ⟨rfl, rfl, rfl, by decide +kernel, rfl, by decide +kernel, by decide +kernel⟩
def spRises (K : PySem.W.Frag) : Sp := fun vs H Q _ => ∃ (v : V) (l : List Str), vs = [v] ∧ NT K H v l ∧ Asc l ∧ l.length ≤ 1000 ∧ ∀ H', Ex H H' → Q (.bl true) H'
theorem ok_rises (F : Fn K "rises" "rises" sRises [] [] f) (T : Blt mg) : FnR P w K mg base CX0 1 f (spRises K) := by
  refine Fn.ok0 (ps := ["row"]) F scRises (fun kV doc pm an cdv ct us hl => by match us, hl with | [u], _ => rfl) (fun vs H Q E ⟨_, _, e, _⟩ => by rw [e]; rfl) (fun cdv A outer s H vs Q E hr h => ?_)
  obtain ⟨v, l, rfl, ⟨a, rfl, ha⟩, asc, hz, k⟩ := h
  refine ⟨_, pss_one (ps_ret (pe_callB (cr_all rfl) (by rfl) T.all (by decide +kernel) (pa_cons (pe_lc (own := [("one", 1), ("other", 2)]) (g := gTup K 2 (gCons (gName 1) (gCons (gName 2) gNil))) rfl scRises.nd (pi_zipA (by rfl) T.zip (pa_cons (pv 0) (pa_cons (pe_slice sl_tupA (pv 0) (po_some pe_int) po_none) pa_nil)))
    (blkOk_by (N := ["row", "one", "other"]) (sc := defScope sRises) (by decide +kernel))
    (fun _ _ _ _ _ => pg_tup rfl (pgs_cons (pg_name (i := 1) scRises.nd rfl (Or.inl rfl) (Or.inr rfl)) (pgs_cons (pg_name (i := 2) scRises.nd rfl (Or.inl rfl) (Or.inr rfl)) pgs_nil))) (fun _ _ _ _ _ => pts_nil) (fun _ _ _ _ _ => pe_cmpR op_lt_str (pv 1) (pv 2) (nomark _))) pa_nil))), ?_⟩
  have cut : cutV (sL l) (some 1) none = (sL l).drop 1 := by
    unfold cutV
    have e1 : HT.sIx (sL l).length 0 (some 1) = min 1 (sL l).length := HT.sIx_nat _ _ 1
    rw [e1, HT.sIx_none]
    cases hl : sL l with
    | nil => rfl
    | cons x r =>
      rw [List.length_cons, Nat.min_eq_left (by omega)]
      show (List.drop 1 (x :: r)).take _ = List.drop 1 (x :: r)
      rw [List.take_of_length_le (by simp)]
  have step : ∀ (b : Addr) (H1 : Hp) (D : Addr) (i : Nat) (x : V) (H' : Hp), i < 100000 → (∃ T x' y', x = .ref T ∧ H' T = some (.tup [x', y']) ∧ (sL l)[i]? = some x' ∧ ((sL l).drop 1)[i]? = some y') → LcOk Ex H1 D (fun i acc _ => acc = (List.replicate i true).map V.bl) i H' →
      ∃ p q T', ltS p q = true ∧ x = .ref T' ∧ SqT K H' T' [.str p, .str q] ∧ ∃ acc, H' D = some (.lst acc) ∧ acc.length < sizeLine ∧ LcOk Ex H1 D (fun i acc _ => acc = (List.replicate i true).map V.bl) (i + 1) (upd H' D (.lst (acc ++ [.bl (decide (p.cps.toList < q.cps.toList))]))) := fun b H1 D i x H' hi2 it o => by
    obtain ⟨T', x', y', ev, hT, hx, hy⟩ := it
    obtain ⟨p, hp, ep⟩ := nth_map hx
    rw [List.getElem?_drop] at hy
    obtain ⟨q, hq, eq⟩ := nth_map hy
    have lt : ltS p q = true := by
      obtain ⟨h1, e1⟩ := List.getElem?_eq_some_iff.mp hp
      obtain ⟨h2, e2⟩ := List.getElem?_eq_some_iff.mp hq
      rw [← e1, ← e2]
      exact List.pairwise_iff_getElem.mp asc _ _ h1 h2 (by omega)
    subst ep eq
    refine ⟨p, q, T', lt, ev, SqT.of hT, o.yes kpE (fun _ _ _ _ p _ => p) (fun _ _ _ _ _ _ p => p) hi2 (Ex.refl _) fun acc ha => ?_⟩
    rw [ha, List.replicate_succ', List.map_append]
    show _ ++ [V.bl (ltS p q)] = _
    rw [lt]
    rfl
  have len : min (sL l).length ((sL l).drop 1).length ≤ 100000 := by rw [List.length_map, List.length_drop, List.length_map]; omega
  have yes : ∀ n, (List.replicate n true).all id = true := fun n => by simp
  refine ⟨.ref a, rfl, .ref a, rfl, 1, rfl, a, sL l, rfl, ha, fun hw => ?_, fun hw p hp => ?_⟩
  · have e1 : (sL l).drop 1 = sL l := by
      have := hw.1
      have e1 : HT.sIx (sL l).length 0 (some 1) = min 1 (sL l).length := HT.sIx_nat _ _ 1
      rw [e1] at this
      have h0 : (sL l).length = 0 := by omega
      rw [List.length_eq_zero_iff.mp h0]
      rfl
    refine ⟨a, a, sL l, (sL l).drop 1, rfl, .inr ⟨ha, by rw [e1]; exact ha, lcJ2_in (P := fun i acc => acc = (List.replicate i true).map V.bl) kpE (goes_zip kpE ha (by rw [e1]; exact ha)) len rfl (fun D i x H' hi hi2 it o => ?_) (fun D H' acc hD e hacc p => ?_)⟩⟩
    · obtain ⟨p, q, T', lt, ev, hT, yes⟩ := step a H D i x H' hi2 it o
      refine ⟨T', [.str p, .str q], ev, hT, rfl, .str p, [.str q], rfl, .str q, [], rfl, rfl, rfl, ?_⟩
      exact ⟨.str p, rfl, .str q, rfl, p, q, rfl, rfl, yes⟩
    · exact ⟨D, List.replicate _ true, rfl, SqL.of (by rw [hacc, p]), by rw [yes]; exact k _ e⟩
  · rw [cut]
    have hb : SqT K (upd H p (.tup ((sL l).drop 1))) p ((sL l).drop 1) := SqT.of upd_same
    have e0 : Ex H (upd H p (.tup ((sL l).drop 1))) := Ex.new hp
    refine ⟨a, p, sL l, (sL l).drop 1, rfl, .inr ⟨kpE.tup e0 ha, hb, lcJ2_in (P := fun i acc => acc = (List.replicate i true).map V.bl) kpE (goes_zip kpE (kpE.tup e0 ha) hb) len rfl (fun D i x H' hi hi2 it o => ?_) (fun D H' acc hD e hacc p => ?_)⟩⟩
    · obtain ⟨p, q, T', lt, ev, hT, yes⟩ := step a _ D i x H' hi2 it o
      refine ⟨T', [.str p, .str q], ev, hT, rfl, .str p, [.str q], rfl, .str q, [], rfl, rfl, rfl, ?_⟩
      exact ⟨.str p, rfl, .str q, rfl, p, q, rfl, rfl, yes⟩
    · exact ⟨D, List.replicate _ true, rfl, SqL.of (by rw [hacc, p]), by rw [yes]; exact k _ (e0.trans e)⟩
/-! ### is_set -/
abbrev sIsSet : Stmt := top 9
theorem scIsSet : FnScope ["thing", "part"] ["thing"] (defScope sIsSet) := ⟨rfl, rfl, rfl, by decide +kernel, rfl, by decide +kernel, by decide +kernel⟩
def spIsSet (K : PySem.W.Frag) : Sp := fun vs H Q _ => ∃ (v : V) (l : List Str), vs = [v] ∧ NT K H v l ∧ Asc l ∧ (∀ x ∈ l, NameOk x) ∧ l.length ≤ 1000 ∧ ∀ H', Ex H H' → Q (.bl true) H'
theorem ok_isSet (F : Fn K "is_set" "is_set" sIsSet [] [] f) (T : Blt mg) (G1 : Pr P w K mg base "is_name" 1 spIsName) (G2 : Pr P w K mg base "rises" 1 (spRises K)) : FnR P w K mg base CX0 2 f (spIsSet K) := by
  refine Fn.ok0 (ps := ["thing"]) F scIsSet (fun kV doc pm an cdv ct us hl => by match us, hl with | [u], _ => rfl) (fun vs H Q E ⟨_, _, e, _⟩ => by rw [e]; rfl) (fun cdv A outer s H vs Q E hr h => ?_)
  obtain ⟨v, l, rfl, ⟨a, rfl, ha⟩, asc, ok, hz, k⟩ := h
  refine ⟨_, pss_one (ps_ret (pe_and (pe_callB call_isi (by rfl) T.isinstance (by decide +kernel) (pa_cons (pv 0) (pa_cons (pe_bltn (v := .ty "tuple") (by rfl) T.tuple (by decide +kernel) rfl) pa_nil)))
    (pe_and (pe_callB (cr_all rfl) (by rfl) T.all (by decide +kernel) (pa_cons (pe_lc (own := [("part", 1)]) (g := gName 1) rfl scIsSet.nd (pi_tup (pv 0)) (blkOk_by (N := ["thing", "part"]) (sc := defScope sIsSet) (by decide +kernel))
        (fun _ _ _ _ _ => pg_name (i := 1) scIsSet.nd rfl (Or.inl rfl)) (fun _ _ _ _ _ => pts_nil) (fun _ _ _ _ _ => pe_pr G1 hr (by rfl) (pa_cons (pv 1) pa_nil))) pa_nil))
      (pe_one (pe_pr G2 hr (by rfl) (pa_cons (pv 0) pa_nil)))))), ?_⟩
  refine ⟨.ref a, rfl, .ref a, .ty "tuple", _, _, true, rfl, .ty _, tyx_T ha, kit_ty (by decide +kernel), true, rfl, ?_⟩
  refine ⟨.ref a, rfl, a, rfl, ⟨_, ha⟩, fmJ kpE V.str (fun _ => true) (fun _ => .bl true) l (goes_tupM kpE ha) rfl (Nat.le_trans hz (by decide)) (by show 1 < 2; decide) (fun _ => rfl) (fun a H' _ _ => evT_yes kpE) (fun n H' hn _ e Q' q => ?_) (fun D H' hD e hd => ?_)⟩
  · exact ⟨_, rfl, n, rfl, ok n hn, fun H2 e2 => q _ _ e2 rfl⟩
  · refine ⟨D, l.map fun _ => true, rfl, SqL.of ?_, true, ?_, ?_⟩
    · rw [hd, all_filter_true, List.map_map]
      rfl
    · rw [show (l.map fun _ => true).all id = true from by rw [List.all_eq_true]; intro b hb; obtain ⟨_, _, e⟩ := List.mem_map.mp hb; rw [← e]; rfl]
    · exact ⟨.ref a, rfl, .ref a, l, rfl, ⟨a, rfl, kpE.tup e ha⟩, asc, hz, fun H2 e2 => k _ (e.trans e2)⟩
end
end CH
/-! text W4 -/
/-! Dict comprehensions; dicts of tuples of names. -/
namespace CH
open PySem L2 Evl RZ
def Plain : HO → Prop
  | .tup _ | .lst _ | .dK _ | .frz _ _ => True
  | _ => False
/-- tuples, lists, dicts stay -/
def Kd (H H' : Hp) : Prop := ∀ b o, Plain o → H b = some o → H' b = some o
theorem Kp.kd {R : Hp → Hp → Prop} (kp : Kp R) {H H' : Hp} (r : R H H') : Kd H H' := fun b o p e => kp.keep r e fun kvs z => by subst z; exact p
theorem Kd.refl (H : Hp) : Kd H H := fun _ _ _ h => h
theorem Kd.trans {H H1 H2 : Hp} (a : Kd H H1) (b : Kd H1 H2) : Kd H H2 := fun x o p e => b x o p (a x o p e)
theorem Ex.kd {H H' : Hp} (r : Ex H H') : Kd H H' := fun b o _ e => r b o e
section
variable {K : PySem.W.Frag} {H H' : Hp} {a : Addr} {xs : List V} {v : V} {l : List Str}
theorem Kd.tup (k : Kd H H') (h : SqT K H a xs) : SqT K H' a xs := by
  rcases h with (h | ⟨o, h⟩) | h
  · exact .inl (.inl (k _ _ trivial h))
  · exact .inl (.inr ⟨o, k _ _ trivial h⟩)
  · exact .inr h
theorem Kd.lst (k : Kd H H') (h : SqL K H a xs) : SqL K H' a xs := by
  rcases h with (h | ⟨o, h⟩) | h
  · exact .inl (.inl (k _ _ trivial h))
  · exact .inl (.inr ⟨o, k _ _ trivial h⟩)
  · exact .inr h
theorem Kd.ns (k : Kd H H') (h : NS H v l) : NS H' v l := let ⟨a, e, z⟩ := h; ⟨a, e, k _ _ trivial z⟩
end
abbrev Rows := List (Str × List Str)
/-- a dict of names to tuples of names -/
def DicR (H : Hp) (d : Addr) (rows : Rows) : Prop := ∃ kvs, H d = some (.dK kvs) ∧ Paired (fun (kv : Key × V) (r : Str × List Str) => kv.1 = .inr r.1 ∧ NS H kv.2 r.2) kvs rows
theorem DicR.kd {H H' : Hp} {d : Addr} {rows : Rows} (k : Kd H H') (h : DicR H d rows) : DicR H' d rows := let ⟨kvs, e, p⟩ := h; ⟨kvs, k _ _ trivial e, L2.Paired.mapP p fun _ _ ⟨a, b⟩ => ⟨a, k.ns b⟩⟩
def lookR (rows : Rows) (n : Str) : Option (List Str) := (rows.find? fun r => decide (r.1 = n)).map (·.2)
theorem lookR_some {rows : Rows} {n : Str} {w : List Str} (h : lookR rows n = some w) : (n, w) ∈ rows := by
  unfold lookR at h
  cases e : rows.find? fun r => decide (r.1 = n) with
  | none => rw [e] at h; cases h
  | some r =>
    rw [e] at h
    have e1 := List.find?_some e
    have e2 := List.mem_of_find?_eq_some e
    have e3 : r.1 = n := of_decide_eq_true e1
    have e4 : r.2 = w := Option.some.inj h
    rw [← e3, ← e4]
    exact e2
theorem lookR_none {rows : Rows} {n : Str} : lookR rows n = none ↔ n ∉ rows.map (·.1) := by
  unfold lookR
  rw [Option.map_eq_none_iff, List.find?_eq_none]
  constructor
  · intro h hm
    obtain ⟨r, hr, e⟩ := List.mem_map.mp hm
    exact h r hr (decide_eq_true e)
  · intro h r hr e
    exact h (List.mem_map.mpr ⟨r, hr, of_decide_eq_true e⟩)
theorem dicR_val {H : Hp} : ∀ {kvs : List (Key × V)} {rows : Rows}, Paired (fun (kv : Key × V) (r : Str × List Str) => kv.1 = .inr r.1 ∧ NS H kv.2 r.2) kvs rows → ∀ n, match lookR rows n with | none => valV kvs (.inr n) = none | some w => ∃ v, valV kvs (.inr n) = some v ∧ NS H v w
  | _, _, .nil, n => by rfl
  | kv :: kvs, r :: rows, .cons ⟨h1, h2⟩ t, n => by
    have ih := dicR_val t n
    by_cases e : r.1 = n
    · have e1 : lookR (r :: rows) n = some r.2 := by unfold lookR; rw [List.find?_cons_of_pos (by simp [e])]; rfl
      rw [e1]
      exact ⟨kv.2, valV_pos (by rw [h1, e]), h2⟩
    · have e1 : lookR (r :: rows) n = lookR rows n := by unfold lookR; rw [List.find?_cons_of_neg (by simp [e])]
      have e2 : valV (kv :: kvs) (.inr n) = valV kvs (.inr n) := by
        unfold valV
        rw [List.find?_cons_of_neg]
        rw [h1]
        intro z
        exact e (Sum.inr.inj (of_decide_eq_true z))
      rw [e1, e2]
      exact ih
theorem dicR_some {H : Hp} {d : Addr} {rows : Rows} (h : DicR H d rows) {n : Str} {w : List Str} (e : lookR rows n = some w) : ∃ v, DGet H d (.str n) (some v) ∧ NS H v w := by
  obtain ⟨kvs, hd, p⟩ := h
  have := dicR_val p n
  rw [e] at this
  obtain ⟨v, h1, h2⟩ := this
  exact ⟨v, by rw [← h1]; exact DGet.k (k := Sum.inr n) hd, h2⟩
theorem dicR_get {H : Hp} {d : Addr} {rows : Rows} (h : DicR H d rows) (n : Str) : ∃ o, DGet H d (.str n) o ∧ o.isSome = decide (n ∈ rows.map (·.1)) := by
  obtain ⟨kvs, hd, p⟩ := h
  refine ⟨_, DGet.k (k := Sum.inr n) hd, ?_⟩
  have := dicR_val p n
  cases e : lookR rows n with
  | none =>
    rw [e] at this
    rw [this, decide_eq_false (lookR_none.mp e)]
    rfl
  | some w =>
    rw [e] at this
    obtain ⟨v, h1, _⟩ := this
    rw [h1, decide_eq_true (List.mem_map.mpr ⟨_, lookR_some e, rfl⟩)]
    rfl
section
variable {R : Hp → Hp → Prop} {σ : L2.St} {H1 : Hp} {g : TG} {tt : TT} {tk tv : TE} {vs : List Nat} {Q : Addr → Hp → Prop} {J : It} {n : Nat} {item : Nat → V → Prop} {P : Nat → List (Key × V) → Hp → Prop}
/-- the state of a dict comprehension -/
def DcOk (R : Hp → Hp → Prop) (H1 : Hp) (D : Addr) (P : Nat → List (Key × V) → Hp → Prop) (i : Nat) (H : Hp) : Prop :=
  H1 D = none ∧ i ≤ 100000 ∧ ∃ kvs : List (Key × V), kvs.length ≤ i ∧ R H1 H ∧ H D = some (.dK kvs) ∧ P i kvs H
theorem DcOk.step {D : Addr} {i : Nat} {H : Hp} (o : DcOk R H1 D P i H) : R H1 H := let ⟨_, _, _, _, r, _, _⟩ := o; r
theorem DcOk.yes (kp : Kp R) {D : Addr} {i : Nat} {H H' : Hp} {k : Key} {y : V} (hP : ∀ i kvs H H', P i kvs H → R H H' → P i kvs H') (hn : ∀ i kvs H (l o : List (Key × V)), H D = some (.dK l) → P i kvs H → P i kvs (upd H D (.dK o))) (o : DcOk R H1 D P i H) (hi : i < 100000) (r : R H H') (p : ∀ kvs, P i kvs H → P (i + 1) (putK kvs k y) H') :
    ∃ kvs, H' D = some (.dK kvs) ∧ kvs.length < sizeLine ∧ DcOk R H1 D P (i + 1) (upd H' D (.dK (putK kvs k y))) := by
  obtain ⟨h1, _, kvs, h2, h3, h4, h5⟩ := o
  refine ⟨kvs, kp.keep r h4 (fun _ z => by cases z), sz_lt (Nat.lt_of_le_of_lt h2 hi), h1, hi, putK kvs k y, Nat.le_trans (length_putK _ _ _) (Nat.succ_le_succ h2), kp.mtn (kp.trans h3 r) h1, upd_same, hn _ _ _ _ _ (kp.keep r h4 fun _ z => by cases z) (p kvs h5)⟩
theorem dcJ_in (kp : Kp R) (G : Goes R H1 J n item) (hz : n ≤ 100000) (p0 : ∀ D, H1 D = none → P 0 [] (upd H1 D (.dK [])))
    (hs : ∀ D i x H', i < n → i < 100000 → item i x → DcOk R H1 D P i H' → g x (wipe σ vs) H' fun σ2 H2 => wipe σ2 vs = wipe σ vs ∧ tt σ2 H2 fun b H3 =>
      if b = true then tk σ2 H3 fun y H4 => tv σ2 H4 fun z H5 => ∃ kvs k, y = kV k ∧ H5 D = some (.dK kvs) ∧ kvs.length < sizeLine ∧ DcOk R H1 D P (i + 1) (upd H5 D (.dK (putK kvs k z))) else DcOk R H1 D P (i + 1) H3)
    (hd : ∀ D H' kvs, H1 D = none → R H1 H' → H' D = some (.dK kvs) → P n kvs H' → Q D H') :
    ∀ D, H1 D = none → ∃ W : Nat → Nat → Hp → Prop, (∃ m, W 0 m (upd H1 D (.dK []))) ∧ ∀ i m H, W i m H →
      (J.stop i H ∧ Q D H) ∨ (J.go i H ∧ ∃ Nx : Hp → Prop, (∀ H', Nx H' → ∃ m', m' < m ∧ W (i + 1) m' H') ∧ ∀ x H', J.yld i H x H' → g x (wipe σ vs) H' fun σ2 H2 => wipe σ2 vs = wipe σ vs ∧ tt σ2 H2 fun b H3 =>
        if b = true then tk σ2 H3 fun y H4 => tv σ2 H4 fun z H5 => ∃ kvs k, y = kV k ∧ H5 D = some (.dK kvs) ∧ kvs.length < sizeLine ∧ Nx (upd H5 D (.dK (putK kvs k z))) else Nx H3) := fun D hD => by
  refine ⟨fun i m H => m = n - i ∧ i ≤ n ∧ DcOk R H1 D P i H, ⟨n, by simp, Nat.zero_le _, hD, Nat.zero_le _, [], Nat.le_refl _, kp.mtn (kp.refl _) hD, upd_same, p0 D hD⟩, ?_⟩
  rintro i m H ⟨rfl, hi, o⟩
  by_cases hlt : i < n
  · refine .inr ⟨G.go i H hlt o.step, DcOk R H1 D P (i + 1), fun H' o' => ⟨n - (i + 1), by omega, rfl, hlt, o'⟩, fun x H' y => ?_⟩
    obtain ⟨rfl, it⟩ := G.yld i H x H' hlt o.step y
    exact hs D i x H' hlt (by omega) it o
  · obtain rfl : i = n := by omega
    obtain ⟨h1, _, kvs, _, h3, h4, h5⟩ := id o
    exact .inl ⟨G.stop i H (Nat.le_refl _) h3, hd D H kvs h1 h3 h4 h5⟩
end
end CH
/-! text W5 -/
/-! Sheet. -/
namespace CH
open PySem L2 Evl RZ
def rowD (r : Str × List Str) : PyData := .tuple [.str r.1, .tuple (r.2.map .str)]
def tomeD (rows : Rows) (emp : List Str) : PyData := .tuple [.tuple (rows.map rowD), .tuple (emp.map .str)]
theorem flat_strD (l : List Str) : flatDs (l.map .str) = l.map .str := by
  induction l with
  | nil => rfl
  | cons x l ih => rw [List.map_cons, flatDs, ih]; rfl
theorem flat_rowD (r : Str × List Str) : flatD (rowD r) = rowD r := by
  unfold rowD
  simp only [flatD, flatDs, flat_strD]
theorem flat_tomeD (rows : Rows) (emp : List Str) : flatD (tomeD rows emp) = tomeD rows emp := by
  have h : flatDs (rows.map rowD) = rows.map rowD := by
    induction rows with
    | nil => rfl
    | cons r rows ih => rw [List.map_cons, flatDs, ih, flat_rowD]
  unfold tomeD
  simp only [flatD, flatDs, flat_strD, h]
/-- a book's size -/
structure TomeOk (rows : Rows) (emp : List Str) : Prop where
  nd : (rows.map (·.1)).Nodup
  len : rows.length ≤ 8
  wl : ∀ r ∈ rows, r.2.length ≤ 40
  el : emp.length ≤ 40
  wnd : ∀ r ∈ rows, r.2.Nodup
  wns : ∀ r ∈ rows, r.1 ∉ r.2
  asc : Asc (rows.map (·.1))
  nm : ∀ r ∈ rows, NameOk r.1
theorem okd_strs {n : Nat} {l : List Str} (h : l.length ≤ 1000) : Okd (n + 1) (.tuple (l.map .str)) := ⟨by rw [List.length_map]; exact h, fun x hx => by obtain ⟨y, _, rfl⟩ := List.mem_map.mp hx; cases n <;> trivial⟩
theorem okd_tome {rows : Rows} {emp : List Str} (T : TomeOk rows emp) : Okd 4 (tomeD rows emp) := by
  refine ⟨by show (2 : Nat) ≤ 1000; decide, fun x hx => ?_⟩
  rcases List.mem_cons.mp hx with rfl | hx
  · refine ⟨by rw [List.length_map]; exact Nat.le_trans T.len (by decide), fun y hy => ?_⟩
    obtain ⟨r, hr, rfl⟩ := List.mem_map.mp hy
    refine ⟨by show (2 : Nat) ≤ 1000; decide, fun z hz => ?_⟩
    rcases List.mem_cons.mp hz with rfl | hz
    · trivial
    · rw [List.mem_singleton.mp hz]
      exact okd_strs (Nat.le_trans (T.wl r hr) (by decide))
  · rw [List.mem_singleton.mp hx]
    exact okd_strs (Nat.le_trans T.el (by decide))
theorem dsAll_strs {H : Hp} : ∀ {l : List Str} {xs : List V}, DsAll H xs (l.map .str) → xs = sL l
  | [], _, .nil => rfl
  | x :: l, _, .cons (.str _) t => by rw [dsAll_strs t]; rfl
theorem ds_ns {H : Hp} {v : V} {l : List Str} (h : Ds H v (.tuple (l.map .str))) : NS H v l := by
  cases h with
  | tup e t => exact ⟨_, rfl, by rw [e, dsAll_strs t]⟩
/-- a row's object -/
def RowH (H : Hp) (x : V) (r : Str × List Str) : Prop := ∃ t w, x = .ref t ∧ H t = some (.tup [.str r.1, w]) ∧ NS H w r.2
theorem ds_row {H : Hp} {v : V} {r : Str × List Str} (h : Ds H v (rowD r)) : RowH H v r := by
  cases h with
  | tup e t =>
    cases t with
    | cons a t =>
      cases a
      cases t with
      | cons b t =>
        cases t
        exact ⟨_, _, rfl, e, ds_ns b⟩
theorem ds_rows {H : Hp} : ∀ {rows : Rows} {xs : List V}, DsAll H xs (rows.map rowD) → Paired (RowH H) xs rows
  | [], _, .nil => .nil
  | r :: rows, _, .cons a t => .cons (ds_row a) (ds_rows t)
theorem ds_tome {H : Hp} {v : V} {rows : Rows} {emp : List Str} (h : Ds H v (tomeD rows emp)) : ∃ a b v2 xs, v = .ref a ∧ H a = some (.tup [.ref b, v2]) ∧ H b = some (.tup xs) ∧ Paired (RowH H) xs rows ∧ NS H v2 emp := by
  cases h with
  | tup e t =>
    cases t with
    | cons a t =>
      cases t with
      | cons b t =>
        cases t
        cases a with
        | tup e2 t2 => exact ⟨_, _, _, _, rfl, e, e2, ds_rows t2, ds_ns b⟩
/-- the class -/
structure ShC (K : PySem.W.Frag) (mg : Str → Option Value) (C : Addr) : Prop where
  mg : mg "Sheet" = some (.ref C)
  cls : SlX.SCls K C
  s0 : ∃ p, SlX.Slot1 K C "own_empties" p 0
  s1 : ∃ p, SlX.Slot1 K C "own_homes" p 1
  s2 : ∃ p, SlX.Slot1 K C "own_rows" p 2
/-- an instance -/
def ShI (C : Addr) (H : Hp) (v : V) (rows : Rows) : Prop := ∃ a dx d vs, v = .ref a ∧ SlX.Slt H a C dx vs ∧ vs[2]? = some (some (.ref d)) ∧ DicR H d rows
/-- the same, its own dict named -/
def ShJ (C : Addr) (H : Hp) (a dx : Addr) (rows : Rows) : Prop := ∃ d vs, SlX.Slt H a C dx vs ∧ vs[2]? = some (some (.ref d)) ∧ DicR H d rows
theorem ShJ.i {C : Addr} {H : Hp} {a dx : Addr} {rows : Rows} (h : ShJ C H a dx rows) : ShI C H (.ref a) rows := let ⟨d, vs, x⟩ := h; ⟨a, dx, d, vs, rfl, x⟩
theorem slt_kp {R : Hp → Hp → Prop} (kp : Kp R) {H H' : Hp} {a C dx : Addr} {vs : List (Option V)} (r : R H H') (h : SlX.Slt H a C dx vs) : SlX.Slt H' a C dx vs := by
  rcases h with ⟨h1, h2⟩ | ⟨h1, h2⟩
  · exact .inl ⟨kp.keep r h1 (fun _ z => by cases z), h2⟩
  · exact .inr ⟨kp.keep r h1 (fun _ z => by unfold SlX.SlO at z; cases z), kp.keep r h2 (fun _ z => by cases z)⟩
theorem ShI.mono {R : Hp → Hp → Prop} (kp : Kp R) {C : Addr} {H H' : Hp} {v : V} {rows : Rows} (r : R H H') (h : ShI C H v rows) : ShI C H' v rows := by
  obtain ⟨a, dx, d, vs, e, h1, h2, h3⟩ := h
  exact ⟨a, dx, d, vs, e, slt_kp kp r h1, h2, h3.kd (kp.kd r)⟩
/-- a store into a slot -/
theorem slH_kd {H : Hp} {a C dx : Addr} {vs vs' : List (Option V)} (h : SlX.Slt H a C dx vs) (hx : ∃ o, H dx = some o ∧ ¬ Plain o) : Kd H (SlX.slH H a C dx vs') := fun b o p e => by
  have n1 : b ≠ a := fun z => by
    subst z
    rcases h with ⟨h1, _⟩ | ⟨h1, _⟩
    · rw [h1] at e; cases e; exact p
    · rw [h1] at e
      have : SlX.SlO b C dx vs = o := Option.some.inj e
      rw [← this] at p
      unfold SlX.SlO at p
      exact p
  have n2 : b ≠ dx := fun z => by
    subst z
    obtain ⟨o', h1, h2⟩ := hx
    rw [h1] at e
    rw [Option.some.inj e] at h2
    exact h2 p
  rw [SlX.slH_ne n1 n2]
  exact e
theorem ShJ.mono {R : Hp → Hp → Prop} (kp : Kp R) {C : Addr} {H H' : Hp} {a dx : Addr} {rows : Rows} (r : R H H') (h : ShJ C H a dx rows) : ShJ C H' a dx rows := by
  obtain ⟨d, vs, h1, h2, h3⟩ := h
  exact ⟨d, vs, slt_kp kp r h1, h2, h3.kd (kp.kd r)⟩
/-- all but two addresses -/
def Ko (x dx : Addr) (H H' : Hp) : Prop := ∀ b o, b ≠ x → b ≠ dx → H b = some o → H' b = some o
theorem Ko.ex {x dx : Addr} {H H' : Hp} (h : Ex H H') : Ko x dx H H' := fun b o _ _ e => h b o e
theorem Ko.trans {x dx : Addr} {H H1 H2 : Hp} (a : Ko x dx H H1) (b : Ko x dx H1 H2) : Ko x dx H H2 := fun c o n1 n2 e => b c o n1 n2 (a c o n1 n2 e)
theorem Ko.slH {x dx C : Addr} {H : Hp} {vs : List (Option V)} : Ko x dx H (SlX.slH H x C dx vs) := fun b o n1 n2 e => by rw [SlX.slH_ne n1 n2]; exact e
/-- a new instance as __init__ finds it -/
structure New (H : Hp) (x dx C : Addr) : Prop where
  ins : H x = some (.ins C dx [])
  own : H dx = some (.own x)
  ne : dx ≠ x
theorem New.of {H : Hp} {x dx C : Addr} (ne : dx ≠ x) : New (upd (upd H dx (.own x)) x (.ins C dx [])) x dx C := ⟨upd_same, by rw [upd_ne ne, upd_same], ne⟩
theorem new_ko {H H' : Hp} {x dx C : Addr} (h1 : H x = none) (h2 : H dx = none) (k : Ko x dx (upd (upd H dx (.own x)) x (.ins C dx [])) H') : Ex H H' := fun b o e => by
  have n1 : b ≠ x := fun z => by rw [z, h1] at e; cases e
  have n2 : b ≠ dx := fun z => by rw [z, h2] at e; cases e
  exact k b o n1 n2 (by rw [upd_ne n1, upd_ne n2]; exact e)
/-- a half-made instance: what its slots hold so far -/
structure Half (H0 H : Hp) (x dx C : Addr) (vs : List (Option V)) : Prop where
  slt : SlX.Slt H x C dx vs
  np : ∃ o, H dx = some o ∧ ¬ Plain o ∧ ∀ kvs, o ≠ .dT kvs
  ne : dx ≠ x
  ko : Ko x dx H0 H
theorem Half.new {H : Hp} {x dx C : Addr} (n : New H x dx C) : Half H H x dx C [] := ⟨.inl ⟨n.ins, rfl⟩, ⟨_, n.own, fun p => p, fun _ z => by cases z⟩, n.ne, fun _ _ _ _ e => e⟩
theorem Half.ex {H0 H H' : Hp} {x dx C : Addr} {vs : List (Option V)} (h : Half H0 H x dx C vs) (r : Ex H H') : Half H0 H' x dx C vs :=
  ⟨slt_kp kpE r h.slt, let ⟨o, a, b⟩ := h.np; ⟨o, r _ _ a, b⟩, h.ne, h.ko.trans (.ex r)⟩
theorem Half.put {H0 H : Hp} {x dx C : Addr} {vs : List (Option V)} (h : Half H0 H x dx C vs) (vs' : List (Option V)) : Half H0 (SlX.slH H x C dx vs') x dx C vs' :=
  ⟨SlX.slH_slt h.ne, ⟨.xd [], by unfold SlX.slH; rw [upd_ne h.ne, upd_same], fun p => p, fun _ z => by cases z⟩, h.ne, h.ko.trans .slH⟩
theorem Half.kd {H0 H : Hp} {x dx C : Addr} {vs : List (Option V)} (h : Half H0 H x dx C vs) (vs' : List (Option V)) : Kd H (SlX.slH H x C dx vs') := slH_kd h.slt (let ⟨o, a, b, _⟩ := h.np; ⟨o, a, b⟩)

theorem NS.updD {H : Hp} {D : Addr} {l o : List (Key × V)} (h : H D = some (.dK l)) {v : V} {n : List Str} (z : NS H v n) : NS (upd H D (.dK o)) v n := by
  obtain ⟨a, e, t⟩ := z
  exact ⟨a, e, by rw [upd_ne (fun q => by rw [q, h] at t; cases t)]; exact t⟩
theorem RowH.mono {R : Hp → Hp → Prop} (kp : Kp R) {H H' : Hp} {x : V} {r : Str × List Str} (k : R H H') (h : RowH H x r) : RowH H' x r := let ⟨t, w, a, b, c⟩ := h; ⟨t, w, a, kp.keep k b (fun _ z => by cases z), c.mono kp k⟩
theorem take_succ_some {α : Type} {l : List α} {i : Nat} {x : α} (h : l[i]? = some x) : l.take (i + 1) = l.take i ++ [x] := by rw [List.take_add_one, h]; rfl
theorem nodup_take {rows : Rows} (nd : (rows.map (·.1)).Nodup) {i : Nat} {r : Str × List Str} (h : rows[i]? = some r) : lookR (rows.take i) r.1 = none := by
  refine lookR_none.mpr fun hm => ?_
  have h2 : (rows.map (·.1)).take (i + 1) = (rows.take i).map (·.1) ++ [r.1] := by rw [← List.map_take, take_succ_some h, List.map_append]; rfl
  have h3 : ((rows.map (·.1)).take (i + 1)).Nodup := nd.sublist (List.take_sublist _ _)
  rw [h2] at h3
  exact (List.nodup_append.mp h3).2.2 _ hm _ (List.mem_singleton.mpr rfl) rfl
theorem paired_snoc {α β : Type} {F : α → β → Prop} : ∀ {l : List α} {m : List β} {a : α} {b : β}, Paired F l m → F a b → Paired F (l ++ [a]) (m ++ [b])
  | _, _, _, _, .nil, h => .cons h .nil
  | _, _, _, _, .cons r t, h => .cons r (paired_snoc t h)
/-- rows so far -/
def DicP (rows : Rows) (i : Nat) (kvs : List (Key × V)) (H : Hp) : Prop := Paired (fun (kv : Key × V) (r : Str × List Str) => kv.1 = .inr r.1 ∧ NS H kv.2 r.2) kvs (rows.take i)
theorem DicP.mono {R : Hp → Hp → Prop} (kp : Kp R) {rows : Rows} (i : Nat) (kvs : List (Key × V)) (H H' : Hp) (p : DicP rows i kvs H) (r : R H H') : DicP rows i kvs H' := L2.Paired.mapP p fun _ _ ⟨a, b⟩ => ⟨a, b.mono kp r⟩
theorem DicP.upd {rows : Rows} (i : Nat) (kvs : List (Key × V)) (H : Hp) {D : Addr} (l o : List (Key × V)) (h : H D = some (.dK l)) (p : DicP rows i kvs H) : DicP rows i kvs (upd H D (.dK o)) := L2.Paired.mapP p fun _ _ ⟨a, b⟩ => ⟨a, b.updD h⟩
theorem DicP.put {rows : Rows} (nd : (rows.map (·.1)).Nodup) {i : Nat} {kvs : List (Key × V)} {H : Hp} {r : Str × List Str} {w : V} (h : rows[i]? = some r) (p : DicP rows i kvs H) (hw : NS H w r.2) : DicP rows (i + 1) (putK kvs (.inr r.1) w) H := by
  have e := dicR_val p r.1
  rw [nodup_take nd h] at e
  unfold DicP
  rw [putK_new w e, take_succ_some h]
  exact paired_snoc p ⟨rfl, hw⟩
theorem DicP.done {rows : Rows} {n : Nat} (hn : n = rows.length) {kvs : List (Key × V)} {H : Hp} {D : Addr} (h : H D = some (.dK kvs)) (p : DicP rows n kvs H) : DicR H D rows := ⟨kvs, h, by unfold DicP at p; rw [hn, List.take_length] at p; exact p⟩
theorem paired_nth {α β : Type} {F : α → β → Prop} : ∀ {l : List α} {m : List β}, Paired F l m → ∀ {i : Nat} {x : α}, l[i]? = some x → ∃ y, m[i]? = some y ∧ F x y
  | _, _, .nil, _, _, h => by simp at h
  | _, _, .cons r t, 0, _, h => ⟨_, rfl, by simp at h; subst h; exact r⟩
  | _, _, .cons r t, i + 1, _, h => by simpa using paired_nth t (i := i) (by simpa using h)
theorem paired_lenW {α β : Type} {F : α → β → Prop} : ∀ {l : List α} {m : List β}, Paired F l m → l.length = m.length
  | _, _, .nil => rfl
  | _, _, .cons _ t => by simp [paired_lenW t]
theorem ShJ.ko {C : Addr} {H H' : Hp} {a b x dx : Addr} {rows : Rows} (h : ShJ C H a b rows) (ko : Ko x dx H H') (kd : Kd H H') (n1 : a ≠ x) (n2 : a ≠ dx) (n3 : b ≠ x) (n4 : b ≠ dx) : ShJ C H' a b rows := by
  obtain ⟨d, vs, h1, h2, h3⟩ := h
  refine ⟨d, vs, ?_, h2, h3.kd kd⟩
  rcases h1 with ⟨e1, e2⟩ | ⟨e1, e2⟩
  · exact .inl ⟨ko _ _ n1 n2 e1, e2⟩
  · exact .inr ⟨ko _ _ n1 n2 e1, ko _ _ n3 n4 e2⟩
abbrev sShInit : Stmt := inn 12 1
theorem scShInit : FnScope ["self", "sheet", "rows", "empties", "name", "wants"] ["self", "sheet"] (defScope sShInit) := ⟨rfl, rfl, rfl, by decide +kernel, rfl, by decide +kernel, by decide +kernel⟩
/-- what an __init__ leaves -/
def MkP (I : Hp → Prop) (H : Hp) (x dx : Addr) (Q : VK) : Prop := ∀ H', Ko x dx H H' → I H' → Q .non H'
def spShInit (K : PySem.W.Frag) (C : Addr) : Sp := fun vs H Q _ => ∃ (x dx : Addr) (v : V) (rows : Rows) (emp : List Str), vs = [.ref x, v] ∧ New H x dx C ∧ Dp K H v (tomeD rows emp) ∧ TomeOk rows emp ∧ MkP (fun H' => ShJ C H' x dx rows) H x dx Q
section
variable {P : Program} {w : World} {K : PySem.W.Frag} {mg : Str → Option Value} {base : Heap} {f C : Addr}
theorem ok_shInit (F : Fn K "__init__" "Sheet.__init__" sShInit [] [] f) (T : Blt mg) (S : ShC K mg C) (G : Pr P w K mg base "tupled" 5 (spTupled K 4)) : FnR P w K mg base CX0 6 f (spShInit K C) := by
  refine Fn.ok0 (ps := ["self", "sheet"]) F scShInit (fun kV doc pm an cdv ct us hl => by match us, hl with | [u, u2], _ => rfl) (fun vs H Q E ⟨_, _, _, _, _, e, _⟩ => by rw [e]; rfl) (fun cdv A outer s H vs Q E hr h => ?_)
  obtain ⟨x, dx, v, rows, emp, rfl, hn, hv, tok, k⟩ := h
  obtain ⟨p0, q0⟩ := S.s0
  obtain ⟨p1, q1⟩ := S.s1
  obtain ⟨p2, q2⟩ := S.s2
  have nd := scShInit.nd
  refine ⟨_, pss_cons (ps_asg (pe_pr G hr (by rfl) (pa_cons (pv 1) pa_nil)) (pg_tup rfl (pgs_cons (pg_name (i := 2) nd rfl (Or.inl rfl) (Or.inl rfl)) (pgs_cons (pg_name (i := 3) nd rfl (Or.inl rfl) (Or.inl rfl)) pgs_nil))))
    (pss_cons (SlX.ps_sl (pv 0) (pe_dc (own := [("name", 4), ("wants", 5)]) (g := gTup K 2 (gCons (gName 4) (gCons (gName 5) gNil))) (tt := tYes) rfl nd (pi_tup (pv 2)) (blkOk_by (N := ["self", "sheet", "rows", "empties", "name", "wants"]) (sc := defScope sShInit) (by decide +kernel))
      (fun _ _ _ _ _ => pg_tup rfl (pgs_cons (pg_name (i := 4) nd rfl (Or.inl rfl) (Or.inr rfl)) (pgs_cons (pg_name (i := 5) nd rfl (Or.inl rfl) (Or.inr rfl)) pgs_nil))) (fun _ _ _ _ _ => pts_nil) (fun _ _ _ _ _ => pv 4) (fun _ _ _ _ _ => pv 5)))
    (pss_cons (SlX.ps_sl (pv 0) (pv 3))
    (pss_one (SlX.ps_sl (pv 0) (pe_dc (own := [("name", 4)]) (g := gName 4) (tt := tYes) rfl nd (pi_list (pe_op op_cat (pe_callTy (call_listD rfl) (by rfl) T.list (by decide +kernel) (pa_cons (SlX.pe_sl (pv 0)) pa_nil)) (pe_callTy call_list_of (by rfl) T.list (by decide +kernel) (pa_cons (pv 3) pa_nil))))
      (blkOk_by (N := ["self", "sheet", "rows", "empties", "name", "wants"]) (sc := defScope sShInit) (by decide +kernel))
      (fun _ _ _ _ _ => pg_name (i := 4) nd rfl (Or.inl rfl)) (fun _ _ _ _ _ => pts_nil) (fun _ _ _ _ _ => pv 4) (fun _ _ _ _ _ => pe_bl)))))), ?_⟩
  refine ⟨v, rfl, v, tomeD rows emp, rfl, hv, okd_tome tok, fun r H1 e1 hr => ?_⟩
  rw [flat_tomeD] at hr
  obtain ⟨a, b, v2, xs, rfl, ha, hb, hrow, ⟨e, rfl, hemp⟩⟩ := ds_tome hr
  refine ⟨a, [.ref b, .ref e], rfl, SqT.of ha, rfl, .ref b, [.ref e], rfl, .ref e, [], rfl, rfl, ?_⟩
  have len := paired_lenW hrow
  have rl : rows.length ≤ 1000 := Nat.le_trans tok.len (by decide)
  have h0 : Half H H1 x dx C [] := (Half.new hn).ex e1
  refine ⟨.ref b, rfl, b, rfl, ⟨_, SqT.of hb⟩, dcJ_in (P := DicP rows) kpE (goes_tup kpE (SqT.of hb)) (by rw [len]; omega) (fun _ _ => .nil) (fun D i y H' hi hi2 hy o => ?_) (fun D H2 kvs hD e2 hkv p => ?_)⟩
  · obtain ⟨r, hri, hrh⟩ := paired_nth hrow hy
    obtain ⟨t, w', rfl, ht, hw⟩ := hrh.mono kpE o.step
    refine ⟨t, [.str r.1, w'], rfl, SqT.of ht, rfl, .str r.1, [w'], rfl, w', [], rfl, rfl, rfl, .str r.1, rfl, w', rfl, ?_⟩
    obtain ⟨kvs, h1, h2, h3⟩ := o.yes (k := .inr r.1) (y := w') kpE (DicP.mono kpE) (fun i kvs H l o h p => DicP.upd i kvs H l o h p) hi2 (Ex.refl _) fun kvs p => DicP.put tok.nd hri p hw
    exact ⟨kvs, .inr r.1, rfl, h1, h2, h3⟩
  have h1 : Half H H2 x dx C [] := h0.ex e2
  have dr : DicR H2 D rows := DicP.done len hkv p
  refine ⟨.ref x, rfl, x, C, dx, p2, [], 2, rfl, h1.slt, S.cls, q2, ?_⟩
  have k1 := h1.kd (SlX.putS 2 (.ref D) [])
  have h2 := h1.put (SlX.putS 2 (.ref D) [])
  have dr2 := dr.kd k1
  have he2 := k1 _ (.tup _) trivial (e2 _ _ hemp)
  generalize SlX.slH H2 x C dx (SlX.putS 2 (.ref D) []) = H3 at h2 dr2 he2
  refine ⟨.ref e, rfl, .ref x, rfl, x, C, dx, p0, _, 0, rfl, h2.slt, S.cls, q0, ?_⟩
  have k3 := h2.kd (SlX.putS 0 (.ref e) (SlX.putS 2 (.ref D) []))
  have h3 := h2.put (SlX.putS 0 (.ref e) (SlX.putS 2 (.ref D) []))
  have dr3 := dr2.kd k3
  have he3 := k3 _ (.tup _) trivial he2
  generalize SlX.slH H3 x C dx (SlX.putS 0 (.ref e) (SlX.putS 2 (.ref D) [])) = H4 at h3 dr3 he3
  obtain ⟨kvs, hkv4, pr4⟩ := id dr3
  have kl := paired_lenW pr4
  refine ⟨.ref x, rfl, x, C, dx, p2, _, 2, .ref D, rfl, h3.slt, S.cls, q2, rfl, D, kvs, rfl, .inl hkv4, fun l1 hl1 => ?_⟩
  have e4 : Ex H4 (upd H4 l1 (.lst (kvs.map fun kv => kV kv.1))) := Ex.new hl1
  refine ⟨.ref e, rfl, e, sL emp, rfl, .inr (SqT.of (e4 _ _ he3)), fun l2 hl2 => ?_⟩
  have e5 : Ex (upd H4 l1 (.lst (kvs.map fun kv => kV kv.1))) (upd (upd H4 l1 (.lst (kvs.map fun kv => kV kv.1))) l2 (.lst (sL emp))) := Ex.new hl2
  refine ⟨l1, l2, _, _, rfl, rfl, e5 _ _ upd_same, upd_same, ?_, fun l3 hl3 => ?_⟩
  · have := tok.el
    rw [List.length_map, List.length_map, sizeLine_eq]
    omega
  have e6 := Ex.new (o := .lst ((kvs.map fun kv => kV kv.1) ++ sL emp)) hl3
  have e46 := (e4.trans e5).trans e6
  have keys : ((kvs.map fun kv => kV kv.1) ++ sL emp) = (rows.map (·.1) ++ emp).map V.str := by
    rw [List.map_append]
    congr 1
    have : ∀ {kvs : List (Key × V)} {rows : Rows}, Paired (fun (kv : Key × V) (r : Str × List Str) => kv.1 = .inr r.1 ∧ NS H4 kv.2 r.2) kvs rows → (kvs.map fun kv => kV kv.1) = (rows.map (·.1)).map V.str := fun {kvs rows} h => by
      induction h with
      | nil => rfl
      | cons r t ih => rw [List.map_cons, List.map_cons, List.map_cons, ih, r.1]; rfl
    exact this pr4
  rw [keys] at e46 ⊢
  have hl3' : SqL K (upd (upd (upd H4 l1 (.lst (kvs.map fun kv => kV kv.1))) l2 (.lst (sL emp))) l3 (.lst ((rows.map (·.1) ++ emp).map V.str))) l3 ((rows.map (·.1) ++ emp).map V.str) := SqL.of upd_same
  refine ⟨l3, rfl, ⟨_, hl3'⟩, dcJ_in (P := fun _ _ _ => True) kpE (goes_lstM kpE hl3') (by rw [List.length_append, List.length_map]; have := tok.el; omega) (fun _ _ => trivial) (fun D2 i y H' hi hi2 hy o => ?_) (fun D2 H5 kvs2 hD2 e7 hkv2 _ => ?_)⟩
  · obtain ⟨n, hn2, rfl⟩ := hy
    refine ⟨rfl, .str n, rfl, ?_⟩
    obtain ⟨kvs, h1, h2, h3⟩ := o.yes (k := .inr n) (y := .bl true) kpE (fun _ _ _ _ _ _ => trivial) (fun _ _ _ _ _ _ _ => trivial) hi2 (Ex.refl _) fun kvs p => trivial
    exact ⟨kvs, .inr n, rfl, h1, h2, h3⟩
  have h5 := h3.ex (e46.trans e7)
  refine ⟨.ref x, rfl, x, C, dx, p1, _, 1, rfl, h5.slt, S.cls, q1, ?_⟩
  refine k _ (h5.put _).ko ⟨D, _, (h5.put _).slt, rfl, (dr3.kd (Ex.kd (e46.trans e7))).kd (h5.kd _)⟩
end
end CH
/-! text W6 -/
/-! Sheet's methods. -/
namespace CH
open PySem L2 Evl RZ
theorem huR {A : Around} {k : Nat} (hr : Room k A) : A.units + 1 < cLine := by have := hr.units; omega
def MtP (P : Program) (w : World) (K : PySem.W.Frag) (mg : Str → Option Value) (base : Heap) (C : Addr) (m : Str) (k : Nat) (sp : Sp) : Prop := ∃ g, Meth K C m g ∧ FnR P w K mg base CX0 k g sp
def BmP (P : Program) (w : World) (K : PySem.W.Frag) (mg : Str → Option Value) (base : Heap) (C : Addr) (m : Str) (k : Nat) (sp : Sp) : Prop := ∃ g, BMeth K C m g ∧ FnR P w K mg base CX0 k g sp
theorem BmP.mt {P : Program} {w : World} {K : PySem.W.Frag} {mg : Str → Option Value} {base : Heap} {C : Addr} {m : Str} {k : Nat} {sp : Sp} (h : BmP P w K mg base C m k sp) : MtP P w K mg base C m k sp := let ⟨g, a, b⟩ := h; ⟨g, a.mt, b⟩
def MkR (P : Program) (w : World) (K : PySem.W.Frag) (mg : Str → Option Value) (base : Heap) (C : Addr) (k : Nat) (sp : Sp) : Prop := ∃ f, Mk K C f ∧ FnR P w K mg base CX0 k f sp
/-- rules with the fragment named -/
theorem pe_slK (K : PySem.W.Frag) {X : Cx} {e : Expr} {f : Str} {pos : Pos} {ta : TE} (he : PE X e ta) (h : X.K = K := by rfl) (hb : attributeBase e f X.env (eval e X.env) = eval e X.env := by rfl) : PE X (.Attribute e f pos) (SlX.tSl K ta f) := by
  subst h
  exact SlX.pe_sl he hb
/-- a name in names -/
def rInS (K : PySem.W.Frag) : R2 := fun x y H Q => ∃ n p l, x = .str n ∧ y = .ref p ∧ (SqT K H p (sL l) ∨ SqL K H p (sL l)) ∧ Q (.bl (decide (n ∈ l))) H
def rNotInS (K : PySem.W.Frag) : R2 := fun x y H Q => ∃ n p l, x = .str n ∧ y = .ref p ∧ (SqT K H p (sL l) ∨ SqL K H p (sL l)) ∧ Q (.bl (!decide (n ∈ l))) H
theorem opInS (K : PySem.W.Frag) {X : Cx} (h : X.K = K := by rfl) : OpR X (compareOp .In) (rInS K) := by
  intro pins s σ H x y v u Q I rx ry ⟨n, p, l, ex, ey, hp, q⟩
  refine opIn K h pins s σ H x y v u Q I rx ry ⟨p, sL l, ey, hp.symm, by rw [ex]; rfl, flats l, ?_⟩
  rw [ex, inV_str]
  exact q
theorem opNotInS (K : PySem.W.Frag) {X : Cx} (h : X.K = K := by rfl) : OpR X (compareOp .NotIn) (rNotInS K) := by
  intro pins s σ H x y v u Q I rx ry ⟨n, p, l, ex, ey, hp, q⟩
  refine opNotIn K h pins s σ H x y v u Q I rx ry ⟨p, sL l, ey, hp.symm, by rw [ex]; rfl, flats l, ?_⟩
  rw [ex, inV_str]
  exact q
section
variable {X : Cx} {k : Nat} {C : Addr} {sp : Sp} {x m : Str} {p pos apos : Pos} {e o : Expr} {es : List Expr} {t : TA} {te ta : TE}
theorem pe_mt {pl : Sem Bool} (M : MtP X.prog X.w X.K X.mg X.base C m k sp) (c : SlX.SCls X.K C) (he : PE X o ta) (hr : Room k X.A) (ha : PA X (e :: es) t)
    (hst : starEach (e :: es) X.env = (false, eval e X.env) :: starEach es X.env := by rfl) (hpl : (backTo pos (starEach es X.env)).any (·.1) = false := by rfl)
    (ht : eval (.Call (.Attribute o m apos) (e :: es) [] pos) X.env = (do
      let ov ← eval o X.env
      standAt apos.atName
      let (f, first) ← holding [ov] (getMethod ov m pl)
      callWith pos f first (backTo pos (starEach (e :: es) X.env)) (backToKw pos (keywordEach [] X.env))) := by rfl) : PE X (.Call (.Attribute o m apos) (e :: es) [] pos) (SlX.tMethSl C sp E0 ta t) := by
  obtain ⟨g, a, F⟩ := M
  exact SlX.pe_methSl he c a F hr pass0 ha hst hpl ht
theorem pe_mt0 {pl : Sem Bool} (M : MtP X.prog X.w X.K X.mg X.base C m k sp) (c : SlX.SCls X.K C) (he : PE X o ta) (hr : Room k X.A)
    (ht : eval (.Call (.Attribute o m apos) [] [] pos) X.env = (do
      let ov ← eval o X.env
      standAt apos.atName
      let (f, first) ← holding [ov] (getMethod ov m pl)
      callWith pos f first (backTo pos (starEach [] X.env)) (backToKw pos (keywordEach [] X.env))) := by rfl) : PE X (.Call (.Attribute o m apos) [] [] pos) (SlX.tMethSl C sp E0 ta tNil) := by
  obtain ⟨g, a, F⟩ := M
  exact SlX.pe_methSl0 he c a F hr pass0 ht
theorem pe_mkr (M : MkR X.prog X.w X.K X.mg X.base C k sp) (hr : Room (k + 1) X.A) (hg : Gl X x) (hm : X.mg x = some (.ref C)) (ha : PA X (e :: es) t) (hdb : (x == ("__debug__" : Str)) = false := by decide)
    (he : starEach (e :: es) X.env = (false, eval e X.env) :: starEach es X.env := by rfl) (hpl : (backTo pos (starEach es X.env)).any (·.1) = false := by rfl) : PE X (.Call (.Name x p) (e :: es) [] pos) (StX.tMakeR C sp E0 t) := by
  obtain ⟨f, M, F⟩ := M
  exact StX.pe_makeR M F hr hg hm pass0 ha hdb he hpl
end
theorem goesL {K : PySem.W.Frag} {H : Hp} {v : V} {l : List Str} (h : NT K H v l) : ∃ a, v = .ref a ∧ SqT K H a (sL l) := h
section
variable {P : Program} {w : World} {K : PySem.W.Frag} {mg : Str → Option Value} {base : Heap} {f C : Addr}
/-! names -/
abbrev sShNames : Stmt := inn 12 2
theorem scShNames : FnScope ["self"] ["self"] (defScope sShNames) := ⟨rfl, rfl, rfl, by decide +kernel, rfl, by decide +kernel, by decide +kernel⟩
def spShNames (C : Addr) : Sp := fun vs H Q _ => ∃ (v : V) (rows : Rows), vs = [v] ∧ ShI C H v rows ∧ RT H Q (rows.map (·.1))
theorem dicP_keys {H : Hp} : ∀ {kvs : List (Key × V)} {rows : Rows}, Paired (fun (kv : Key × V) (r : Str × List Str) => kv.1 = .inr r.1 ∧ NS H kv.2 r.2) kvs rows → (kvs.map fun kv => kV kv.1) = sL (rows.map (·.1))
  | _, _, .nil => rfl
  | _, _, .cons ⟨r, _⟩ t => by rw [List.map_cons, dicP_keys t, r]; rfl
theorem ok_shNames (F : Fn K "names" "Sheet.names" sShNames [] [] f) (T : Blt mg) (S : ShC K mg C) : FnR P w K mg base CX0 1 f (spShNames C) := by
  refine Fn.ok0 (ps := ["self"]) F scShNames (fun kV doc pm an cdv ct us hl => by match us, hl with | [u], _ => rfl) (fun vs H Q E ⟨_, _, e, _⟩ => by rw [e]; rfl) (fun cdv A outer s H vs Q E hr h => ?_)
  obtain ⟨v, rows, rfl, ⟨a, dx, d, vs, rfl, sl, hd, dr⟩, k⟩ := h
  obtain ⟨p2, q2⟩ := S.s2
  refine ⟨_, pss_one (ps_ret (pe_callTy (call_tupleD rfl) (by rfl) T.tuple (by decide +kernel) (pa_cons (pe_slK K (pv 0)) pa_nil))), ?_⟩
  obtain ⟨kvs, hk, pr⟩ := dr
  refine ⟨.ref a, rfl, a, C, dx, p2, vs, 2, _, rfl, sl, S.cls, q2, hd, d, kvs, rfl, .inl hk, fun r hr => k _ _ (Ex.new hr) ⟨r, rfl, ?_⟩⟩
  rw [dicP_keys pr]
  exact upd_same
/-! check -/
abbrev sShCheck : Stmt := inn 12 7
theorem scShCheck : FnScope ["self", "names", "name"] ["self", "names"] (defScope sShCheck) := ⟨rfl, rfl, rfl, by decide +kernel, rfl, by decide +kernel, by decide +kernel⟩
def spShCheck (C : Addr) : Sp := fun vs H Q _ => ∃ (v : V) (rows : Rows) (l : List Str), vs = v :: sL l ∧ ShI C H v rows ∧ l.length ≤ 1000 ∧ (∀ x ∈ l, x ∈ rows.map (·.1)) ∧ ∀ H', Ex H H' → Q .non H'
theorem ok_shCheck (F : Fn K "check" "Sheet.check" sShCheck [] [] f) (T : Blt mg) (S : ShC K mg C) : FnR P w K mg base CX0 1 f (spShCheck C) := by
  refine FnR.imp (Fn.ok1 (k := 0) (sp := fun vs H Q _ => ∃ (v : V) (p : Addr) (rows : Rows) (l : List Str), vs = [v, .ref p] ∧ H p = some (.tup (sL l)) ∧ ShI C H v rows ∧ l.length ≤ 1000 ∧ (∀ x ∈ l, x ∈ rows.map (·.1)) ∧ ∀ H', Ex H H' → Q .non H') F scShCheck
    (fun kV doc pm an cdv ct a rest => by cases rest <;> rfl) (fun cdv A outer s H vs Q E hr h => ?_)) (fun vs H Q E h => ?_)
  · obtain ⟨v, p, rows, l, rfl, hp, ⟨a, dx, d, vs, rfl, sl, hd, dr⟩, hz, hin, k⟩ := h
    obtain ⟨p2, q2⟩ := S.s2
    refine ⟨_, pss_one (ps_for PassesOwn.never rfl (pi_tup (pv 1)) (pg_name (i := 2) scShCheck.nd rfl (Or.inl rfl) (Or.inl rfl)) (pss_one (ps_if (pt_cmp (pc_dnotin (huR hr) (pv 2) (pe_slK K (pv 0))) (by with_unfolding_all rfl)) (pss_one ps_never) pss_nil))), ?_⟩
    refine ⟨_, rfl, p, rfl, ⟨_, SqT.of hp⟩, for_tup (xs := sL l) (fun i σ H' => σ.take 2 = [some (.ref a), some (.ref p)] ∧ σ.length = 3 ∧ H' = H) ⟨rfl, rfl, rfl⟩ (fun i σ H' _ h => by rw [h.2.2]; exact SqT.of hp) (fun i x σ H' hx h => ?_) (fun σ H' h => ?_)⟩
    · obtain ⟨h1, h2, rfl⟩ := h
      obtain ⟨n, hn, rfl⟩ := nth_map hx
      match σ, h1, h2 with
      | [s0, s1, s2], h1, _ =>
        cases h1
        obtain ⟨o, g, e⟩ := dicR_get dr n
        rw [decide_eq_true (hin n (List.mem_of_getElem? hn))] at e
        refine ⟨.str n, rfl, .ref a, rfl, a, C, dx, p2, vs, 2, _, rfl, sl, S.cls, q2, hd, d, o, rfl, g, _, rfl, ?_⟩
        rw [e]
        exact ⟨rfl, rfl, rfl⟩
    · rw [h.2.2]
      exact k _ (Ex.refl _)
  · obtain ⟨v, rows, l, rfl, sh, h1, h2, k⟩ := h
    refine ⟨v, sL l, rfl, ?_, fun p hp => ⟨v, p, rows, l, rfl, upd_same, sh.mono kpE (kpE.new hp), h1, h2, fun H' x => k H' ((kpE.new hp).trans x)⟩⟩
    rw [List.length_map]
    exact Nat.le_trans h1 (by decide)
/-! checked -/
abbrev sShChecked : Stmt := inn 12 8
theorem scShChecked : FnScope ["self", "names", "found"] ["self", "names"] (defScope sShChecked) := ⟨rfl, rfl, rfl, by decide +kernel, rfl, by decide +kernel, by decide +kernel⟩
theorem nt_dp {v : V} {l : List Str} {H : Hp} (h : NT K H v l) : Dp K H v (.tuple (l.map .str)) := by
  obtain ⟨a, rfl, ha⟩ := h
  refine .tup ha ?_
  have : ∀ l : List Str, DpAll K H (sL l) (l.map .str) := fun l => by
    induction l with
    | nil => exact .nil
    | cons x l ih => exact .cons (.str x) ih
  exact this l
theorem flat_nt (l : List Str) : flatD (.tuple (l.map .str)) = .tuple (l.map .str) := by rw [flatD, flat_strD]
def spShChecked (K : PySem.W.Frag) (C : Addr) : Sp := fun vs H Q _ => ∃ (v u : V) (rows : Rows) (l : List Str), vs = [v, u] ∧ ShI C H v rows ∧ NT K H u l ∧ l.length ≤ 1000 ∧ (∀ x ∈ l, x ∈ rows.map (·.1)) ∧ RT H Q l
theorem ok_shChecked (F : Fn K "checked" "Sheet.checked" sShChecked [] [] f) (T : Blt mg) (S : ShC K mg C) (G : Pr P w K mg base "tupled" 5 (spTupled K 4)) (M : BmP P w K mg base C "check" 1 (spShCheck C)) : FnR P w K mg base CX0 6 f (spShChecked K C) := by
  obtain ⟨g, bm, F2⟩ := M
  refine Fn.ok0 (ps := ["self", "names"]) F scShChecked (fun kV doc pm an cdv ct us hl => by match us, hl with | [u, u2], _ => rfl) (fun vs H Q E ⟨_, _, _, _, e, _⟩ => by rw [e]; rfl) (fun cdv A outer s H vs Q E hr h => ?_)
  obtain ⟨v, u, rows, l, rfl, sh, hu, hz, hin, k⟩ := h
  refine ⟨_, pss_cons (ps_set (i := 2) scShChecked.nd rfl (Or.inl rfl) (pe_pr G hr (by rfl) (pa_cons (pv 1) pa_nil))) (pss_cons (ps_expr (pe_methSlS (pv 0) S.cls bm F2 (hr.mono (by decide)) pass0 (pv 2))) (pss_one (ps_ret (pv 2)))), ?_⟩
  refine ⟨u, rfl, u, _, rfl, nt_dp hu, okd_strs hz, fun r H1 e1 hr1 => ?_⟩
  rw [flat_nt] at hr1
  obtain ⟨b, rfl, hb⟩ := ds_ns hr1
  obtain ⟨a, dx, d, vs, rfl, sl, hd, dr⟩ := sh.mono kpE e1
  refine ⟨.ref a, rfl, a, dx, vs, rfl, sl, fun q hq => ⟨.ref b, rfl, b, sL l, rfl, .inl (SqT.of (kpE.new hq _ _ hb)), upd_same, ?_⟩⟩
  have e2 : Ex H1 (upd H1 q (.met g a)) := kpE.new hq
  refine ⟨.ref a, rows, l, rfl, ShI.mono kpE e2 ⟨a, dx, d, vs, rfl, sl, hd, dr⟩, hz, hin, fun H2 e3 => ?_⟩
  exact ⟨.ref b, rfl, k _ _ ((e1.trans e2).trans e3) ⟨b, rfl, (e2.trans e3) _ _ hb⟩⟩
/-! suit -/
abbrev sShSuit : Stmt := inn 12 12
theorem scShSuit : FnScope ["self", "one", "other"] ["self", "one", "other"] (defScope sShSuit) := ⟨rfl, rfl, rfl, by decide +kernel, rfl, by decide +kernel, by decide +kernel⟩
def suitL (rows : Rows) (a b : Str) : Bool := match lookR rows a, lookR rows b with
  | some x, some y => decide (b ∈ x) && decide (a ∈ y)
  | _, _ => false
def spShSuit (C : Addr) : Sp := fun vs H Q _ => ∃ (v : V) (rows : Rows) (x y : Str) (wx wy : List Str), vs = [v, .str x, .str y] ∧ ShI C H v rows ∧ lookR rows x = some wx ∧ lookR rows y = some wy ∧ ∀ H', Ex H H' → Q (.bl (suitL rows x y)) H'
theorem ok_shSuit (F : Fn K "suit" "Sheet.suit" sShSuit [] [] f) (S : ShC K mg C) : FnR P w K mg base CX0 1 f (spShSuit C) := by
  refine Fn.ok0 (ps := ["self", "one", "other"]) F scShSuit (fun kV doc pm an cdv ct us hl => by match us, hl with | [u, u2, u3], _ => rfl) (fun vs H Q E ⟨_, _, _, _, _, _, e, _⟩ => by rw [e]; rfl) (fun cdv A outer s H vs Q E hr h => ?_)
  obtain ⟨v, rows, x, y, wx, wy, rfl, ⟨a, dx, d, vs, rfl, sl, hd, dr⟩, lx, ly, k⟩ := h
  obtain ⟨p2, q2⟩ := S.s2
  have rl : suitL rows x y = (decide (y ∈ wx) && decide (x ∈ wy)) := by unfold suitL; rw [lx, ly]
  obtain ⟨v1, g1, b1, rfl, hb1⟩ := dicR_some dr lx
  obtain ⟨v2, g2, b2, rfl, hb2⟩ := dicR_some dr ly
  refine ⟨_, pss_one (ps_ret (pe_and (pe_cmpR (opInS K) (pv 2) (pe_dget (huR hr) (pe_slK K (pv 0)) (pv 1) (fun _ _ => rfl)) (by with_unfolding_all rfl))
    (pe_one (pe_cmpR (opInS K) (pv 1) (pe_dget (huR hr) (pe_slK K (pv 0)) (pv 2) (fun _ _ => rfl)) (by with_unfolding_all rfl))))), ?_⟩
  refine ⟨.str y, rfl, .ref a, rfl, a, C, dx, p2, vs, 2, _, rfl, sl, S.cls, q2, hd, .str x, rfl, d, _, rfl, g1, y, b1, _, rfl, rfl, .inl (SqT.of hb1), _, rfl, ?_⟩
  cases hy : decide (y ∈ wx) with
  | false =>
    have := k H (Ex.refl _)
    rw [rl, hy] at this
    exact this
  | true =>
    refine ⟨.str x, rfl, .ref a, rfl, a, C, dx, p2, vs, 2, _, rfl, sl, S.cls, q2, hd, .str y, rfl, d, _, rfl, g2, x, b2, _, rfl, rfl, .inl (SqT.of hb2), ?_⟩
    have := k H (Ex.refl _)
    rw [rl, hy] at this
    exact this
/-! suited -/
abbrev sShSuited : Stmt := inn 12 13
theorem scShSuited : FnScope ["self", "name", "other"] ["self", "name"] (defScope sShSuited) := ⟨rfl, rfl, rfl, by decide +kernel, rfl, by decide +kernel, by decide +kernel⟩
/-- those who suit one -/
def suited (rows : Rows) (n : Str) : List Str := ((lookR rows n).getD []).filter fun o => decide (o ∈ rows.map (·.1)) && suitL rows n o
def spShSuited (C : Addr) : Sp := fun vs H Q _ => ∃ (v : V) (rows : Rows) (n : Str) (wn : List Str), vs = [v, .str n] ∧ ShI C H v rows ∧ lookR rows n = some wn ∧ wn.length ≤ 1000 ∧ RT H Q (suited rows n)
theorem ok_shSuited (F : Fn K "suited" "Sheet.suited" sShSuited [] [] f) (T : Blt mg) (S : ShC K mg C) (M : MtP P w K mg base C "suit" 1 (spShSuit C)) : FnR P w K mg base CX0 2 f (spShSuited C) := by
  refine Fn.ok0 (ps := ["self", "name"]) F scShSuited (fun kV doc pm an cdv ct us hl => by match us, hl with | [u, u2], _ => rfl) (fun vs H Q E ⟨_, _, _, _, e, _⟩ => by rw [e]; rfl) (fun cdv A outer s H vs Q E hr h => ?_)
  obtain ⟨v, rows, n, wn, rfl, sh, ln, hz, k⟩ := h
  obtain ⟨a, dx, d, vs, rfl, sl, hd, dr⟩ := id sh
  obtain ⟨p2, q2⟩ := S.s2
  obtain ⟨v1, g1, b1, rfl, hb1⟩ := dicR_some dr ln
  refine ⟨_, pss_one (ps_ret (pe_callTy call_tuple_of (by rfl) T.tuple (by decide +kernel) (pa_cons (pe_lc (own := [("other", 2)]) (g := gName 2) rfl scShSuited.nd (pi_tup (pe_dget (huR hr) (pe_slK K (pv 0)) (pv 1) (fun _ _ => rfl))) (blkOk_by (N := ["self", "name", "other"]) (sc := defScope sShSuited) (by decide +kernel))
    (fun _ _ _ _ _ => pg_name (i := 2) scShSuited.nd rfl (Or.inl rfl)) (fun _ _ _ _ _ => pts_one (PW.pt (pw_and (pt_cmp (pc_din (huR hr) (pv 2) (pe_slK K (pv 0))) (by with_unfolding_all rfl)) (pw_and1 (pt_val (pe_mt M S.cls (pv 0) hr (pa_cons (pv 1) (pa_cons (pv 2) pa_nil)))))))) (fun _ _ _ _ _ => pv 2)) pa_nil))), ?_⟩
  refine ⟨.ref a, rfl, a, C, dx, p2, vs, 2, _, rfl, sl, S.cls, q2, hd, .str n, rfl, d, _, rfl, g1, b1, rfl, ⟨_, SqT.of hb1⟩, fmJ kpE V.str (fun o => decide (o ∈ rows.map (·.1)) && suitL rows n o) V.str wn (goes_tupM kpE (SqT.of hb1)) rfl (Nat.le_trans hz (by decide)) (by show 2 < 3; decide) (fun _ => rfl) (fun o H' ho e Q' q => ?_) (fun o H' _ _ _ Q' q => ⟨.str o, rfl, q _ _ (Ex.refl _) rfl⟩) (fun D H' hD e hl => ?_)⟩
  · obtain ⟨a', dx', d', vs', ea, sl', hd', dr'⟩ := sh.mono kpE e
    cases ea
    obtain ⟨oo, g, eo⟩ := dicR_get dr' o
    refine ⟨.str o, rfl, .ref a, rfl, a, C, dx', p2, vs', 2, _, rfl, sl', S.cls, q2, hd', d', oo, rfl, g, _, rfl, ?_⟩
    rw [eo]
    cases hc : decide (o ∈ rows.map (·.1)) with
    | false =>
      have := q H' (Ex.refl _)
      rw [hc] at this
      exact this
    | true =>
      have hm := of_decide_eq_true hc
      cases lo : lookR rows o with
      | none => exact absurd hm (lookR_none.mp lo)
      | some wo =>
        refine ⟨.ref a, rfl, a, dx', vs', rfl, sl', .str n, rfl, .str o, rfl, .ref a, rows, n, o, wn, wo, rfl, ⟨a, dx', d', vs', rfl, sl', hd', dr'⟩, ln, lo, fun H2 e2 => ⟨_, rfl, ?_⟩⟩
        have := q H2 e2
        rw [hc] at this
        exact this
  · refine ⟨D, _, rfl, .inl ⟨SqL.of hl, fun r hr => k _ _ (e.trans (kpE.new hr)) ⟨r, rfl, ?_⟩⟩⟩
    have : suited rows n = wn.filter fun o => decide (o ∈ rows.map (·.1)) && suitL rows n o := by unfold suited; rw [ln]; rfl
    rw [this]
    exact upd_same
end
end CH
/-! text W7 -/
/-! Comprehensions with two loops. -/
namespace CH
open PySem L2 Evl RZ
def del (H : Hp) (D : Addr) : Hp := fun b => if b = D then none else H b
theorem del_ne {H : Hp} {D b : Addr} (h : b ≠ D) : del H D b = H b := if_neg h
theorem del_self {H : Hp} {D : Addr} : del H D D = none := if_pos rfl
theorem ex_del {H H' : Hp} {D : Addr} (h : Ex H H') : Ex (del H D) H' := fun b o e => by
  unfold del at e
  split at e
  · cases e
  · exact h b o e
theorem ex_of_del {H : Hp} {D : Addr} : Ex (del H D) H := ex_del (Ex.refl H)
section
variable {σ : L2.St} {H1 : Hp} {g g1 : TG} {tt tt1 : TT} {te : TE} {wi1 : TI} {vs vs1 : List Nat} {Q : Addr → Hp → Prop} {J : It} {n : Nat} {item : Nat → V → Prop}
/-- the state of a list under way -/
def L2Ok (H1 : Hp) (D : Addr) (P : List V → Hp → Prop) (H : Hp) : Prop := H1 D = none ∧ ∃ acc : List V, acc.length ≤ 10000 ∧ Ex H1 H ∧ H D = some (.lst acc) ∧ P acc H
theorem L2Ok.step {D : Addr} {P : List V → Hp → Prop} {H : Hp} (o : L2Ok H1 D P H) : Ex H1 H := let ⟨_, _, _, r, _⟩ := o; r
theorem L2Ok.to {D : Addr} {P P' : List V → Hp → Prop} {H H' : Hp} (o : L2Ok H1 D P H) (r : Ex H H') (h : ∀ acc, P acc H → P' acc H') : L2Ok H1 D P' H' := let ⟨a, acc, b, c, d, e⟩ := o; ⟨a, acc, b, c.trans r, r _ _ d, h acc e⟩
/-- one more item -/
theorem L2Ok.yes {D : Addr} {P P' : List V → Hp → Prop} {H H' : Hp} {y : V} (o : L2Ok H1 D P H) (r : Ex H H') (hb : ∀ acc H, P' acc H → acc.length ≤ 10000) (h : ∀ acc, P acc H → P' (acc ++ [y]) (upd H' D (.lst (acc ++ [y])))) :
    ∃ acc, H' D = some (.lst acc) ∧ acc.length < sizeLine ∧ L2Ok H1 D P' (upd H' D (.lst (acc ++ [y]))) := by
  obtain ⟨a, acc, b, c, d, e⟩ := o
  have p := h acc e
  exact ⟨acc, r _ _ d, Nat.lt_of_le_of_lt b (by decide), a, acc ++ [y], hb _ _ p, kpE.mtn (c.trans r) a, upd_same, p⟩
theorem L2Ok.yes2 {D : Addr} {P P' : List V → Hp → Prop} {H4 H H' : Hp} {y : V} (o : L2Ok H1 D P H) (e : Ex (del H4 D) H) (r : Ex H H') (hb : ∀ acc H, P' acc H → acc.length ≤ 10000) (h : ∀ acc, H' D = some (.lst acc) → P acc H → P' (acc ++ [y]) (upd H' D (.lst (acc ++ [y])))) :
    ∃ acc, H' D = some (.lst acc) ∧ acc.length < sizeLine ∧ (Ex (del H4 D) (upd H' D (.lst (acc ++ [y]))) ∧ L2Ok H1 D P' (upd H' D (.lst (acc ++ [y])))) := by
  obtain ⟨a, acc, b, c, d, e'⟩ := o
  have p := h acc (r _ _ d) e'
  exact ⟨acc, r _ _ d, Nat.lt_of_le_of_lt b (by decide), kpE.mtn (e.trans r) del_self, a, acc ++ [y], hb _ _ p, kpE.mtn (c.trans r) a, upd_same, p⟩
theorem lc2I {J1 : It} {n1 : Nat} {item1 : Nat → V → Prop} {H4 : Hp} {D : Addr} {σ2 : L2.St} {Nx : Hp → Prop} (P1 : Nat → List V → Hp → Prop) (G1 : Goes Ex (del H4 D) J1 n1 item1) (o4 : L2Ok H1 D (P1 0) H4) (fin : ∀ H, L2Ok H1 D (P1 n1) H → Nx H)
    (step : ∀ j x H', j < n1 → item1 j x → Ex (del H4 D) H' → L2Ok H1 D (P1 j) H' → g1 x (wipe σ2 vs1) H' fun σ3 H5 => wipe σ3 vs1 = wipe σ2 vs1 ∧ tt1 σ3 H5 fun b H6 =>
      if b = true then te σ3 H6 fun y H7 => ∃ acc, H7 D = some (.lst acc) ∧ acc.length < sizeLine ∧ (Ex (del H4 D) (upd H7 D (.lst (acc ++ [y]))) ∧ L2Ok H1 D (P1 (j + 1)) (upd H7 D (.lst (acc ++ [y])))) else Ex (del H4 D) H6 ∧ L2Ok H1 D (P1 (j + 1)) H6) :
    ∃ W1 : Nat → Nat → Hp → Prop, (∃ m, W1 0 m H4) ∧ ∀ j k H, W1 j k H →
      (J1.stop j H ∧ Nx H) ∨ (J1.go j H ∧ ∃ Nx1 : Hp → Prop, (∀ H', Nx1 H' → ∃ k', k' < k ∧ W1 (j + 1) k' H') ∧ ∀ x H', J1.yld j H x H' → g1 x (wipe σ2 vs1) H' fun σ3 H5 => wipe σ3 vs1 = wipe σ2 vs1 ∧ tt1 σ3 H5 fun b H6 =>
        if b = true then te σ3 H6 fun y H7 => ∃ acc, H7 D = some (.lst acc) ∧ acc.length < sizeLine ∧ Nx1 (upd H7 D (.lst (acc ++ [y]))) else Nx1 H6) := by
  refine ⟨fun j k H => k = n1 - j ∧ j ≤ n1 ∧ Ex (del H4 D) H ∧ L2Ok H1 D (P1 j) H, ⟨n1, by simp, Nat.zero_le _, ex_of_del, o4⟩, ?_⟩
  rintro j k H5 ⟨rfl, hj, e5, o5⟩
  by_cases hjl : j < n1
  · refine .inr ⟨G1.go j H5 hjl e5, fun H => Ex (del H4 D) H ∧ L2Ok H1 D (P1 (j + 1)) H, fun H' o' => ⟨n1 - (j + 1), by omega, rfl, hjl, o'⟩, fun x H' y => ?_⟩
    obtain ⟨rfl, it1⟩ := G1.yld j H5 x H' hjl e5 y
    exact step j x H' hjl it1 e5 o5
  · obtain rfl : j = n1 := by omega
    exact .inl ⟨G1.stop j H5 (Nat.le_refl _) e5, fin _ o5⟩
theorem lc2E (G : Goes Ex H1 J n item) (P : Nat → List V → Hp → Prop) (p0 : ∀ D, H1 D = none → P 0 [] (upd H1 D (.lst [])))
    (hs : ∀ D i x H', i < n → item i x → L2Ok H1 D (P i) H' → g x (wipe σ vs) H' fun σ2 H2 => wipe σ2 vs = wipe σ vs ∧ tt σ2 H2 fun b H3 =>
        if b = true then wi1 σ2 H3 fun J1 H4 => ∃ W1 : Nat → Nat → Hp → Prop, (∃ m, W1 0 m H4) ∧ ∀ j k H, W1 j k H →
          (J1.stop j H ∧ L2Ok H1 D (P (i + 1)) H) ∨ (J1.go j H ∧ ∃ Nx1 : Hp → Prop, (∀ H', Nx1 H' → ∃ k', k' < k ∧ W1 (j + 1) k' H') ∧ ∀ x H', J1.yld j H x H' → g1 x (wipe σ2 vs1) H' fun σ3 H5 => wipe σ3 vs1 = wipe σ2 vs1 ∧ tt1 σ3 H5 fun b H6 =>
            if b = true then te σ3 H6 fun y H7 => ∃ acc, H7 D = some (.lst acc) ∧ acc.length < sizeLine ∧ Nx1 (upd H7 D (.lst (acc ++ [y]))) else Nx1 H6)
        else L2Ok H1 D (P (i + 1)) H3)
    (hd : ∀ D H' acc, H1 D = none → Ex H1 H' → H' D = some (.lst acc) → P n acc H' → Q D H') :
    ∀ D, H1 D = none → ∃ W : Nat → Nat → Hp → Prop, (∃ m, W 0 m (upd H1 D (.lst []))) ∧ ∀ i m H, W i m H →
      (J.stop i H ∧ Q D H) ∨ (J.go i H ∧ ∃ Nx : Hp → Prop, (∀ H', Nx H' → ∃ m', m' < m ∧ W (i + 1) m' H') ∧ ∀ x H', J.yld i H x H' → g x (wipe σ vs) H' fun σ2 H2 => wipe σ2 vs = wipe σ vs ∧ tt σ2 H2 fun b H3 =>
        if b = true then wi1 σ2 H3 fun J1 H4 => ∃ W1 : Nat → Nat → Hp → Prop, (∃ m, W1 0 m H4) ∧ ∀ j k H, W1 j k H →
          (J1.stop j H ∧ Nx H) ∨ (J1.go j H ∧ ∃ Nx1 : Hp → Prop, (∀ H', Nx1 H' → ∃ k', k' < k ∧ W1 (j + 1) k' H') ∧ ∀ x H', J1.yld j H x H' → g1 x (wipe σ2 vs1) H' fun σ3 H5 => wipe σ3 vs1 = wipe σ2 vs1 ∧ tt1 σ3 H5 fun b H6 =>
            if b = true then te σ3 H6 fun y H7 => ∃ acc, H7 D = some (.lst acc) ∧ acc.length < sizeLine ∧ Nx1 (upd H7 D (.lst (acc ++ [y]))) else Nx1 H6)
        else Nx H3) := fun D hD => by
  refine ⟨fun i m H => m = n - i ∧ i ≤ n ∧ L2Ok H1 D (P i) H, ⟨n, by simp, Nat.zero_le _, hD, [], by decide, kpE.mtn (Ex.refl _) hD, upd_same, p0 D hD⟩, ?_⟩
  rintro i m H ⟨rfl, hi, o⟩
  by_cases hlt : i < n
  · refine .inr ⟨G.go i H hlt o.step, L2Ok H1 D (P (i + 1)), fun H' o' => ⟨n - (i + 1), by omega, rfl, hlt, o'⟩, fun x H' y => ?_⟩
    obtain ⟨rfl, it⟩ := G.yld i H x H' hlt o.step y
    exact hs D i x H' hlt it o
  · obtain rfl : i = n := by omega
    obtain ⟨h1, acc, _, h3, h4, h5⟩ := id o
    exact .inl ⟨G.stop i H (Nat.le_refl _) h3, hd D H acc h1 h3 h4 h5⟩
end
theorem pi_tupK (K : PySem.W.Frag) {X : Cx} {tg e : Expr} {te : TE} (he : PE X e te) (h : X.K = K := by rfl) : PI X tg e (iTup K te) := by
  subst h
  exact pi_tup he
def rTupOf (K : PySem.W.Frag) : List V → Hp → VK → Prop := fun xs H Q => ∃ p ys, xs = [.ref p] ∧ ((SqL K H p ys ∧ ∀ l, H l = none → Q (.ref l) (upd H l (.tup ys))) ∨ (SqT K H p ys ∧ Q (.ref p) H))
theorem call_tupK (K : PySem.W.Frag) {X : Cx} (h : X.K = K := by rfl) : CallR X (.type "tuple") (rTupOf K) := by
  subst h
  exact call_tuple_of
/-! ### Swapping -/
def PairS (H : Hp) (x : V) (p : Str × Str) : Prop := ∃ t, x = .ref t ∧ H t = some (.tup [.str p.1, .str p.2])
theorem PairS.ex {H H' : Hp} (r : Kd H H') {x : V} {p : Str × Str} (h : PairS H x p) : PairS H' x p := let ⟨t, a, b⟩ := h; ⟨t, a, r _ (.tup _) trivial b⟩
theorem PairS.updL {H : Hp} {D : Addr} {l o : List V} (h : H D = some (.lst l)) {x : V} {p : Str × Str} (z : PairS H x p) : PairS (upd H D (.lst o)) x p := by
  obtain ⟨t, a, b⟩ := z
  exact ⟨t, a, by rw [upd_ne (fun q => by rw [q, h] at b; cases b)]; exact b⟩
/-- what is kept of a book when some are left out -/
def nearOf (rows : Rows) (gone : List Str) : Rows := ((rows.map (·.1)).filter fun n => !decide (n ∈ gone)).map fun n => (n, (suited rows n).filter fun o => !decide (o ∈ gone))
def nearF (near : Rows) (n : Str) : List Str := (lookR near n).getD []
abbrev pairsF (near : Rows) : List (Str × Str) := GE.pairsOf (nearF near) ltS (near.map (·.1))
/-- an instance, its memo at d -/
structure SwI (C : Addr) (H : Hp) (v : V) (d : Addr) (near : Rows) : Prop where
  ex : ∃ a dx n e p ps vs, v = .ref a ∧ SlX.Slt H a C dx vs ∧ vs[0]? = some (some (.ref d)) ∧ vs[1]? = some (some (.ref n)) ∧ H n = some (.tup (sL (near.map (·.1)))) ∧ vs[2]? = some (some (.ref e)) ∧ DicR H e near ∧
    vs[3]? = some (some (.ref p)) ∧ H p = some (.lst ps) ∧ Paired (PairS H) ps (pairsF near)
theorem SwI.mono {R : Hp → Hp → Prop} (kp : Kp R) {C : Addr} {H H' : Hp} {v : V} {d : Addr} {near : Rows} (r : R H H') (h : SwI C H v d near) : SwI C H' v d near := by
  obtain ⟨a, dx, n, e, p, ps, vs, h1, h2, h3, h4, h5, h6, h7, h8, h9, h10⟩ := h.ex
  exact ⟨a, dx, n, e, p, ps, vs, h1, slt_kp kp r h2, h3, h4, kp.keep r h5 (fun _ z => by cases z), h6, h7.kd (kp.kd r), h8, kp.keep r h9 (fun _ z => by cases z), L2.Paired.mapP h10 fun _ _ q => q.ex (kp.kd r)⟩
structure SwC (K : PySem.W.Frag) (mg : Str → Option Value) (C : Addr) : Prop where
  mg : mg "Swapping" = some (.ref C)
  cls : SlX.SCls K C
  s0 : ∃ p, SlX.Slot1 K C "own_known" p 0
  s1 : ∃ p, SlX.Slot1 K C "own_names" p 1
  s2 : ∃ p, SlX.Slot1 K C "own_near" p 2
  s3 : ∃ p, SlX.Slot1 K C "own_pairs" p 3
abbrev sSwInit : Stmt := inn 17 1
theorem scSwInit : FnScope ["self", "sheet", "gone", "own", "away", "name", "other", "one"] ["self", "sheet", "gone"] (defScope sSwInit) := ⟨rfl, rfl, rfl, by decide +kernel, rfl, by decide +kernel, by decide +kernel⟩
def scSwDc : Scope := { kind := .function, names := [(".0", .local), ("name", .local), ("tuple", .globalImplicit), ("away", .cell), ("own", .cell)], isGenerator := false, isCoroutine := false, more := [] }
def spSwInit (K : PySem.W.Frag) (C : Addr) : Sp := fun vs H Q _ => ∃ (x dx : Addr) (v u : V) (rows : Rows) (emp gone : List Str), vs = [.ref x, v, u] ∧ New H x dx C ∧ Dp K H v (tomeD rows emp) ∧ TomeOk rows emp ∧ NT K H u gone ∧ gone.length ≤ 1000 ∧ (∀ n ∈ gone, n ∈ rows.map (·.1)) ∧
  ∀ H' d, Ko x dx H H' → H d = none → SwI C H' (.ref x) d (nearOf rows gone) → H' d = some (.dT []) → Q .non H'
theorem filter_len {α : Type} {f : α → Bool} {l : List α} {n : Nat} (h : l.length ≤ n) : (l.filter f).length ≤ n := Nat.le_trans (List.length_filter_le _ _) h
theorem pairs_len {nf : Str → List Str} (h : ∀ n, (nf n).length ≤ 40) : ∀ l : List Str, (GE.pairsOf nf ltS l).length ≤ l.length * 40
  | [] => Nat.zero_le _
  | x :: l => by
    have ih := pairs_len h l
    unfold GE.pairsOf at ih ⊢
    rw [List.flatMap_cons, List.length_append, List.length_map, List.length_cons]
    have : ((nf x).filter fun b => ltS x b).length ≤ 40 := filter_len (h x)
    omega
theorem near_keys (rows : Rows) (gone : List Str) : (nearOf rows gone).map (·.1) = (rows.map (·.1)).filter fun n => !decide (n ∈ gone) := by
  unfold nearOf
  rw [List.map_map]
  exact List.map_id'' (fun _ => rfl) _
theorem suited_len {rows : Rows} {emp : List Str} (T : TomeOk rows emp) (n : Str) : (suited rows n).length ≤ 40 := by
  unfold suited
  refine filter_len ?_
  cases e : lookR rows n with
  | none => exact Nat.zero_le _
  | some w => exact T.wl _ (lookR_some e)
theorem near_nd {rows : Rows} {emp : List Str} (T : TomeOk rows emp) (gone : List Str) : ((nearOf rows gone).map (·.1)).Nodup := by rw [near_keys]; exact T.nd.sublist List.filter_sublist
theorem lookR_map {f : Str → List Str} : ∀ {l : List Str} {n : Str}, n ∈ l → lookR (l.map fun x => (x, f x)) n = some (f n)
  | x :: l, n, h => by
    unfold lookR
    rw [List.map_cons]
    by_cases e : x = n
    · subst e; rw [List.find?_cons_of_pos (by simp)]; rfl
    · rw [List.find?_cons_of_neg (by simp [e])]
      exact lookR_map ((List.mem_cons.mp h).resolve_left (Ne.symm e))
theorem near_look {rows : Rows} {gone : List Str} {n : Str} (h : n ∈ (nearOf rows gone).map (·.1)) : lookR (nearOf rows gone) n = some ((suited rows n).filter fun o => !decide (o ∈ gone)) := by
  rw [near_keys] at h
  exact lookR_map h
theorem nearF_len {rows : Rows} {emp : List Str} (T : TomeOk rows emp) (gone : List Str) (n : Str) : (nearF (nearOf rows gone) n).length ≤ 40 := by
  unfold nearF
  cases e : lookR (nearOf rows gone) n with
  | none => exact Nat.zero_le _
  | some w =>
    obtain ⟨m, hm, e2⟩ := List.mem_map.mp (lookR_some e)
    cases e2
    exact filter_len (suited_len T _)
section
variable {P : Program} {w : World} {K : PySem.W.Frag} {mg : Str → Option Value} {base : Heap} {f C CS : Addr}
theorem rd_sheet {H : Hp} {v : V} {rows : Rows} {emp : List Str} {Q : Addr → Hp → Prop} (hv : Dp K H v (tomeD rows emp)) (tok : TomeOk rows emp) (k : ∀ r dx H', H r = none → H dx = none → Ex H H' → ShJ CS H' r dx rows → Q r H') :
    ∀ x dx, H x = none → H dx = none → dx ≠ x → spShInit K CS [.ref x, v] (upd (upd H dx (.own x)) x (.ins CS dx [])) (fun v H2 => v = .non ∧ Q x H2) E0 := fun x dx hx hdx ne => by
  have e : Ex H (upd (upd H dx (.own x)) x (.ins CS dx [])) := (kpE.new hdx).trans (kpE.new (by rw [upd_ne (Ne.symm ne)]; exact hx))
  exact ⟨x, dx, v, rows, emp, rfl, New.of ne, Dp.mono kpE e hv, tok, fun H' ko sh => ⟨rfl, k _ _ _ hx hdx (new_ko hx hdx ko) sh⟩⟩
theorem ok_swInit {fd : FuncData} {dvs : List V} (F : FunD K "__init__" "Swapping.__init__" (defArgs sSwInit) (defBody sSwInit) (defScope sSwInit) dvs [] f fd) (T : Blt mg) (S : SwC K mg C) (SS : ShC K mg CS) (M : MkR P w K mg base CS 6 (spShInit K CS)) (M1 : MtP P w K mg base CS "checked" 6 (spShChecked K CS)) (M2 : MtP P w K mg base CS "names" 1 (spShNames CS)) (M3 : MtP P w K mg base CS "suited" 2 (spShSuited CS)) :
    FnOk P w K mg base CX0 8 f fd ["self", "sheet", "gone"] (spSwInit K C) := by
  refine F.ok scSwInit (fun vs H Q E ⟨_, _, _, _, _, _, _, e, _⟩ => by rw [e]; rfl) fun cdv A outer s H vs Q E hr h => ?_
  obtain ⟨x, dx, v, u, rows, emp, gone, rfl, hn, hv, tok, hu, hz, hin, k⟩ := h
  obtain ⟨p0, q0⟩ := S.s0
  obtain ⟨p1, q1⟩ := S.s1
  obtain ⟨p2, q2⟩ := S.s2
  obtain ⟨p3, q3⟩ := S.s3
  have nd := scSwInit.nd
  refine ⟨_, pss_cons (ps_set (i := 3) nd rfl (Or.inr rfl) (pe_mkr M (hr.mono (by decide)) (by rfl) SS.mg (pa_cons (pv 1) pa_nil)))
    (pss_cons (ps_set (i := 4) nd rfl (Or.inr rfl) (pe_mt M1 SS.cls (pv 3) (hr.mono (by decide)) (pa_cons (pv 2) pa_nil)))
    (pss_cons (SlX.ps_sl (pv 0) (pe_callTy call_tuple_of (by rfl) T.tuple (by decide +kernel) (pa_cons (pe_lc (own := [("name", 5)]) (g := gName 5) rfl nd (pi_tup (pe_mt0 M2 SS.cls (pv 3) (hr.mono (by decide)))) (blkOk_by (N := ["self", "sheet", "gone", "own", "away", "name", "other", "one"]) (sc := defScope sSwInit) (by decide +kernel))
      (fun _ _ _ _ _ => pg_name (i := 5) nd rfl (Or.inl rfl)) (fun _ _ _ _ _ => pts_one (pt_cmpR (opNotInS K) (pv 5) (pv 4) (by with_unfolding_all rfl))) (fun _ _ _ _ _ => pv 5)) pa_nil)))
    (pss_cons (SlX.ps_sl (pv 0) (pe_dc (own := [("name", 5)]) (g := gName 5) (tt := tYes) rfl nd (pi_tup (SlX.pe_sl (pv 0))) (blkOk_by (N := ["self", "sheet", "gone", "own", "away", "name", "other", "one"]) (sc := defScope sSwInit) (by decide +kernel))
      (fun _ _ _ _ _ => pg_name (i := 5) nd rfl (Or.inl rfl)) (fun _ _ _ _ _ => pts_nil) (fun _ _ _ _ _ => pv 5) (fun _ _ _ _ _ => pe_callTy (call_tupK K) (by rfl) T.tuple (by decide +kernel) (pa_cons (pe_lc (own := [("other", 6)]) (g := gName 6) rfl nd (pi_tupK K (pe_mt M3 SS.cls (pv 3) (hr.mono (by decide)) (pa_cons (pv 5) pa_nil))) (blkOk_by (own := [("other", 6)]) (N := ["self", "sheet", "gone", "own", "away", "name", "other", "one"]) (sc := scSwDc) (by decide +kernel))
        (fun _ _ _ _ _ => pg_name (i := 6) nd rfl (Or.inl rfl)) (fun _ _ _ _ _ => pts_one (pt_cmpR (opNotInS K) (pv 6) (pv 4) (by with_unfolding_all rfl))) (fun _ _ _ _ _ => pv 6)) pa_nil))))
    (pss_cons (SlX.ps_sl (pv 0) pe_dnewT)
    (pss_one (SlX.ps_sl (pv 0) (pe_lc2 (own := [("one", 7), ("other", 6)]) (vs1 := [6]) (g := gName 7) (g1 := gName 6) (tt := tYes) rfl nd (pi_tup (SlX.pe_sl (pv 0))) (blkOk_by (N := ["self", "sheet", "gone", "own", "away", "name", "other", "one"]) (sc := defScope sSwInit) (by decide +kernel)) (by decide)
      (fun _ _ _ _ _ => pg_name (i := 7) nd rfl (Or.inl rfl)) (fun _ _ _ _ _ => pts_nil) (fun _ _ _ _ _ => pi_tupK K (pe_dget (huR hr) (pe_slK K (pv 0)) (pv 7) (fun _ _ => rfl))) (fun _ _ _ _ _ => pg_name (i := 6) nd rfl (Or.inl rfl)) (fun _ _ _ _ _ => pts_one (pt_cmpR op_lt_str (pv 7) (pv 6) (nomark _)))
      (fun _ _ _ _ _ => pe_tup (pa_cons (pv 7) (pa_cons (pv 6) pa_nil)))))))))), ?_⟩
  refine ⟨v, rfl, rd_sheet hv tok fun a dx2 H1 fa fdx e1 sj => ?_⟩
  have hsome : ∀ {b o}, H b = some o → a ≠ b ∧ dx2 ≠ b := fun {b o} e => ⟨fun z => (by rw [z, e] at fa; cases fa), fun z => (by rw [z, e] at fdx; cases fdx)⟩
  have nx := hsome hn.ins
  have ndx := hsome hn.own
  obtain ⟨d2, vs2, sl, hd2, dr⟩ := id sj
  refine ⟨.ref a, rfl, a, dx2, vs2, rfl, sl, u, rfl, .ref a, u, rows, gone, rfl, sj.i, hu.mono kpE e1, hz, hin, fun away H2 e2 hw => ?_⟩
  obtain ⟨aw, rfl, haw⟩ := hw
  have sj2 := sj.mono kpE e2
  have len := Nat.le_trans tok.len (by decide : 8 ≤ 1000)
  refine ⟨.ref a, rfl, a, dx2, vs2, rfl, slt_kp kpE e2 sl, .ref a, rows, rfl, sj2.i, fun nm H3 e3 hnm => ?_⟩
  obtain ⟨b, rfl, hb⟩ := hnm
  have nml : (rows.map (·.1)).length ≤ 100000 := by rw [List.length_map]; omega
  refine ⟨b, rfl, ⟨_, SqT.of hb⟩, fmJ kpE V.str (fun n => !decide (n ∈ gone)) V.str (rows.map (·.1)) (goes_tupM kpE (SqT.of hb)) rfl nml (by show 5 < 8; decide) (fun _ => rfl) (fun o H' ho e Q' q => ?_) (fun o H' _ _ _ Q' q => ⟨.str o, rfl, q _ _ (Ex.refl _) rfl⟩) (fun D H4 hD e4 hl => ?_)⟩
  · exact ⟨.str o, rfl, .ref aw, rfl, o, aw, gone, rfl, rfl, .inl (SqT.of (e _ _ (e3 _ _ haw))), _, rfl, q _ (Ex.refl _)⟩
  refine ⟨D, _, rfl, .inl ⟨SqL.of hl, fun r hr => ?_⟩⟩
  have e5 : Ex H4 (upd H4 r (.tup (((rows.map (·.1)).filter fun n => !decide (n ∈ gone)).map V.str))) := Ex.new hr
  have hr5 : (upd H4 r (.tup (((rows.map (·.1)).filter fun n => !decide (n ∈ gone)).map V.str))) r = some (.tup (sL ((nearOf rows gone).map (·.1)))) := by rw [near_keys]; exact upd_same
  generalize upd H4 r (.tup (((rows.map (·.1)).filter fun n => !decide (n ∈ gone)).map V.str)) = H5 at e5 hr5
  have e25 : Ex H2 H5 := (e3.trans e4).trans e5
  have e05 : Ex H H5 := (e1.trans e2).trans e25
  have h5 := (Half.new hn).ex e05
  refine ⟨.ref x, rfl, x, C, dx, p1, [], 1, rfl, h5.slt, S.cls, q1, ?_⟩
  have k5 := h5.kd (SlX.putS 1 (.ref r) [])
  have h6 := h5.put (SlX.putS 1 (.ref r) [])
  have hr6 := k5 _ (.tup _) trivial hr5
  have aw6 := k5 _ (.tup _) trivial (e25 _ _ haw)
  have sj6 := (sj2.mono kpE e25).ko (Ko.slH (vs := SlX.putS 1 (.ref r) [])) k5 nx.1 ndx.1 nx.2 ndx.2
  generalize SlX.slH H5 x C dx (SlX.putS 1 (.ref r) []) = H6 at h6 hr6 aw6 sj6
  have klen : (nearOf rows gone).length ≤ 8 := by unfold nearOf; rw [List.length_map]; exact filter_len (by rw [List.length_map]; exact tok.len)
  have knm : ((nearOf rows gone).map (·.1)).length = (nearOf rows gone).length := List.length_map _
  refine ⟨.ref x, rfl, x, C, dx, p1, _, 1, .ref r, rfl, h6.slt, S.cls, q1, rfl, r, rfl, ⟨_, SqT.of hr6⟩, dcJ_in (P := DicP (nearOf rows gone)) kpE (goes_tupM kpE (SqT.of hr6)) (by rw [knm]; omega) (fun _ _ => .nil) (fun D2 i y H' hi hi2 hy o => ?_) (fun D2 H7 kvs hD2 e7 hkv p => ?_)⟩
  · obtain ⟨n, hni, rfl⟩ := hy
    have hn1 := List.mem_of_getElem? hni
    have ln := near_look hn1
    have hmr : n ∈ rows.map (·.1) := by rw [near_keys] at hn1; exact (List.mem_filter.mp hn1).1
    cases lw : lookR rows n with
    | none => exact absurd hmr (lookR_none.mp lw)
    | some wn =>
      obtain ⟨d3, vs3, sl3, hd3, dr3⟩ := id (sj6.mono kpE o.step)
      have hwl : wn.length ≤ 1000 := Nat.le_trans (tok.wl _ (lookR_some lw)) (by decide)
      refine ⟨rfl, .str n, rfl, .ref a, rfl, a, dx2, vs3, rfl, sl3, .str n, rfl, .ref a, rows, n, wn, rfl, (sj6.mono kpE o.step).i, lw, hwl, fun su H8 e8 hsu => ?_⟩
      obtain ⟨sb, rfl, hsb⟩ := hsu
      refine ⟨sb, rfl, ⟨_, SqT.of hsb⟩, fmJ kpE V.str (fun o => !decide (o ∈ gone)) V.str (suited rows n) (goes_tupM kpE (SqT.of hsb)) rfl (Nat.le_trans (suited_len tok n) (by decide)) (by show 6 < 8; decide) (fun _ => rfl) (fun z H' hz e Q' q => ?_) (fun o H' _ _ _ Q' q => ⟨.str o, rfl, q _ _ (Ex.refl _) rfl⟩) (fun D3 H9 hD3 e9 hl3 => ?_)⟩
      · exact ⟨.str z, rfl, .ref aw, rfl, z, aw, gone, rfl, rfl, .inl (SqT.of (e _ _ (e8 _ _ (o.step _ _ aw6)))), _, rfl, q _ (Ex.refl _)⟩
      refine ⟨D3, _, rfl, .inl ⟨SqL.of hl3, fun t ht => ?_⟩⟩
      have hrow : (nearOf rows gone)[i]? = some (n, (suited rows n).filter fun o => !decide (o ∈ gone)) := by
        rw [near_keys] at hni
        unfold nearOf
        rw [List.getElem?_map, hni]
        rfl
      obtain ⟨kvs, g1, g2, g3⟩ := o.yes (k := .inr n) (y := .ref t) kpE (DicP.mono kpE) (fun i kvs H l o h p => DicP.upd i kvs H l o h p) hi2 ((e8.trans e9).trans (Ex.new ht)) fun kvs p => DicP.put (near_nd tok gone) hrow (DicP.mono kpE _ _ _ _ p ((e8.trans e9).trans (Ex.new ht))) ⟨t, rfl, upd_same⟩
      exact ⟨kvs, .inr n, rfl, g1, g2, g3⟩
  have dn : DicR H7 D2 (nearOf rows gone) := DicP.done knm hkv p
  have h7 := h6.ex e7
  refine ⟨.ref x, rfl, x, C, dx, p2, _, 2, rfl, h7.slt, S.cls, q2, ?_⟩
  have k7 := h7.kd (SlX.putS 2 (.ref D2) (SlX.putS 1 (.ref r) []))
  have h8 := h7.put (SlX.putS 2 (.ref D2) (SlX.putS 1 (.ref r) []))
  have hr8 := k7 _ (.tup _) trivial (e7 _ _ hr6)
  have dn8 := dn.kd k7
  generalize SlX.slH H7 x C dx (SlX.putS 2 (.ref D2) (SlX.putS 1 (.ref r) [])) = H8 at h8 hr8 dn8
  refine fun d hd => ⟨.ref x, rfl, x, C, dx, p0, _, 0, rfl, (h8.ex (Ex.new hd)).slt, S.cls, q0, ?_⟩
  have fd0 : H d = none := by
    cases e : H d with
    | none => rfl
    | some o =>
      by_cases z1 : d = x
      · subst z1
        rcases h8.slt with ⟨z, _⟩ | ⟨z, _⟩ <;> (rw [hd] at z; cases z)
      · by_cases z2 : d = dx
        · subst z2
          obtain ⟨o2, z, _⟩ := h8.np
          rw [hd] at z; cases z
        · have := h8.ko d o z1 z2 e
          rw [hd] at this; cases this
  have h9 := (h8.ex (Ex.new (o := .dT []) hd))
  have e9 : Ex H8 (upd H8 d (.dT [])) := Ex.new hd
  have hd9 : (upd H8 d (.dT [])) d = some (.dT []) := upd_same
  generalize upd H8 d (.dT []) = H9 at h9 e9 hd9
  have k9 := h9.kd (SlX.putS 0 (.ref d) (SlX.putS 2 (.ref D2) (SlX.putS 1 (.ref r) [])))
  have h10 := h9.put (SlX.putS 0 (.ref d) (SlX.putS 2 (.ref D2) (SlX.putS 1 (.ref r) [])))
  have dne : d ≠ x ∧ d ≠ dx := by
    constructor
    · intro z
      subst z
      rcases h9.slt with ⟨z, _⟩ | ⟨z, _⟩ <;> (rw [hd9] at z; first | cases z | (unfold SlX.SlO at z; cases z))
    · intro z
      subst z
      obtain ⟨o2, z, _, nd⟩ := h9.np
      rw [hd9] at z
      exact nd [] (Option.some.inj z).symm
  have hr10 := k9 _ (.tup _) trivial (e9 _ _ hr8)
  have dn10 := (dn8.kd (Ex.kd e9)).kd k9
  have hd10 : (SlX.slH H9 x C dx (SlX.putS 0 (.ref d) (SlX.putS 2 (.ref D2) (SlX.putS 1 (.ref r) [])))) d = some (.dT []) := by rw [SlX.slH_ne dne.1 dne.2]; exact hd9
  generalize SlX.slH H9 x C dx (SlX.putS 0 (.ref d) (SlX.putS 2 (.ref D2) (SlX.putS 1 (.ref r) []))) = H10 at h10 hr10 dn10 hd10
  have nl := nearF_len tok gone
  have bound : ∀ (i : Nat) (l : List (Str × Str)), l.length ≤ 40 → (GE.pairsOf (nearF (nearOf rows gone)) ltS (((nearOf rows gone).map (·.1)).take i) ++ l).length ≤ 10000 := fun i l hl => by
    have := pairs_len nl (((nearOf rows gone).map (·.1)).take i)
    have : (((nearOf rows gone).map (·.1)).take i).length ≤ 8 := by rw [List.length_take]; omega
    rw [List.length_append]
    omega
  refine ⟨.ref x, rfl, x, C, dx, p1, _, 1, .ref r, rfl, h10.slt, S.cls, q1, rfl, r, rfl, ⟨_, SqT.of hr10⟩, lc2E (goes_tupM kpE (SqT.of hr10)) (fun i acc H => Paired (PairS H) acc (GE.pairsOf (nearF (nearOf rows gone)) ltS (((nearOf rows gone).map (·.1)).take i))) (fun _ _ => .nil) (fun D3 i y H' hi hy o => ?_) (fun D3 H11 acc hD3 e11 hacc pr => ?_)⟩
  · obtain ⟨n, hni, rfl⟩ := hy
    have hn1 := List.mem_of_getElem? hni
    have ln := near_look hn1
    have nf : nearF (nearOf rows gone) n = (suited rows n).filter fun o => !decide (o ∈ gone) := by unfold nearF; rw [ln]; rfl
    obtain ⟨wv, gw, b3, rfl, hb3⟩ := dicR_some (dn10.kd (Ex.kd o.step)) ln
    have tk : ((nearOf rows gone).map (·.1)).take (i + 1) = ((nearOf rows gone).map (·.1)).take i ++ [n] := take_succ_some hni
    rw [← nf] at hb3
    refine ⟨rfl, .ref x, rfl, x, C, dx, p2, _, 2, .ref D2, rfl, slt_kp kpE o.step h10.slt, S.cls, q2, rfl, .str n, rfl, D2, .ref b3, rfl, gw, b3, rfl, ⟨_, SqT.of hb3⟩, ?_⟩
    have hb3' : SqT K (del H' D3) b3 (sL (nearF (nearOf rows gone) n)) := SqT.of (by
      rw [del_ne]
      · exact hb3
      · intro z
        subst z
        obtain ⟨_, acc, _, _, ha, _⟩ := o
        rw [ha] at hb3; cases hb3)
    refine lc2I (fun j acc H => Paired (PairS H) acc (GE.pairsOf (nearF (nearOf rows gone)) ltS (((nearOf rows gone).map (·.1)).take i) ++ (((nearF (nearOf rows gone) n).take j).filter fun b => ltS n b).map fun b => (n, b))) (goes_tupM kpE hb3') (o.to (Ex.refl _) fun acc p => by simpa using p) (fun H2 o2 => o2.to (Ex.refl _) fun acc p => ?_) (fun j y H2 hj hy e2 o2 => ?_)
    · rw [List.take_length] at p
      rw [tk]
      unfold GE.pairsOf at p ⊢
      rw [List.flatMap_append, List.flatMap_cons, List.flatMap_nil, List.append_nil]
      exact p
    · obtain ⟨z, hzi, rfl⟩ := hy
      refine ⟨rfl, .str n, rfl, .str z, rfl, n, z, rfl, rfl, _, rfl, ?_⟩
      have lt : decide (n.cps.toList < z.cps.toList) = ltS n z := rfl
      rw [lt]
      cases hl : ltS n z with
      | false =>
        refine ⟨e2, o2.to (Ex.refl _) fun acc p => ?_⟩
        rw [take_no (f := fun b => ltS n b) hzi hl]
        exact p
      | true =>
        refine ⟨.str n, rfl, .str z, rfl, by show (2 : Nat) ≤ sizeLine; decide, fun t ht => ?_⟩
        refine o2.yes2 e2 (Ex.new ht) (fun acc H hp => ?_) (fun acc hacc hp => ?_)
        · rw [paired_lenW hp]
          exact bound i _ (by rw [List.length_map]; exact filter_len (by rw [List.length_take]; have := nl n; omega))
        · rw [take_yes (f := fun b => ltS n b) hzi hl, List.map_append, ← List.append_assoc]
          refine paired_snoc (L2.Paired.mapP hp fun _ _ q => (q.ex (Ex.kd (Ex.new ht))).updL hacc) ?_
          exact PairS.updL hacc ⟨t, rfl, upd_same⟩
  have h11 := h10.ex e11
  refine ⟨.ref x, rfl, x, C, dx, p3, _, 3, rfl, h11.slt, S.cls, q3, ?_⟩
  have k11 := h11.kd (SlX.putS 3 (.ref D3) (SlX.putS 0 (.ref d) (SlX.putS 2 (.ref D2) (SlX.putS 1 (.ref r) []))))
  have h12 := h11.put (SlX.putS 3 (.ref D3) (SlX.putS 0 (.ref d) (SlX.putS 2 (.ref D2) (SlX.putS 1 (.ref r) []))))
  rw [List.take_length] at pr
  refine k _ d h12.ko fd0 ⟨x, dx, r, D2, D3, acc, _, rfl, h12.slt, rfl, rfl, k11 _ (.tup _) trivial (e11 _ _ hr10), rfl, (dn10.kd (Ex.kd e11)).kd k11, rfl, k11 _ (.lst _) trivial hacc, L2.Paired.mapP pr fun _ _ q => q.ex k11⟩ ?_
  rw [SlX.slH_ne dne.1 dne.2]
  exact e11 _ _ hd10
end
end CH
/-! text W8 -/
/-! Swapping.most, with its memo. -/
namespace CH
open PySem L2 Evl RZ
structure NearOk (near : Rows) : Prop where
  nd : (near.map (·.1)).Nodup
  len : near.length ≤ 8
  nl : ∀ n, (nearF near n).length ≤ 40
  n7 : ∀ n, (nearF near n).length ≤ 7
  sym : GE.Sym (GE.adj (nearF near))
  sub : ∀ n, ∀ o ∈ nearF near n, o ∈ near.map (·.1)
abbrev nms (near : Rows) : List Str := near.map (·.1)
abbrev mostN (near : Rows) (l : List Str) : Nat := GE.most (nearF near) l
/-- the memo holds the truth -/
structure MemoOk (near : Rows) (kvs : List (List Key × V)) : Prop where
  nd : (kvs.map (·.1)).Nodup
  ok : ∀ kv ∈ kvs, ∃ l : List Str, kv.1 = l.map Sum.inr ∧ l.Sublist (nms near) ∧ kv.2 = .int (mostN near l)
def GoodM (d : Addr) (near : Rows) (H : Hp) : Prop := ∃ kvs, H d = some (.dT kvs) ∧ MemoOk near kvs
def Rg (d : Addr) (near : Rows) (H H' : Hp) : Prop := Exm d H H' ∧ (GoodM d near H → GoodM d near H')
theorem kpG (d : Addr) (near : Rows) : Kp (Rg d near) where
  refl := fun H => ⟨(kpM d).refl H, id⟩
  trans := fun a b => ⟨(kpM d).trans a.1 b.1, fun g => b.2 (a.2 g)⟩
  ex := fun h => ⟨(kpM d).ex h, fun ⟨kvs, e, m⟩ => ⟨kvs, h _ _ e, m⟩⟩
  keep := fun h => (kpM d).keep h.1
  mtn := fun h n => ⟨(kpM d).mtn h.1 n, fun g => by
    obtain ⟨kvs, e, m⟩ := h.2 g
    obtain ⟨kvs0, e0, _⟩ := g
    exact ⟨kvs, by rw [upd_ne (fun z => by rw [z, n] at e0; cases e0)]; exact e, m⟩⟩
/-! the memo's size -/
def subs : List Str → List (List Str)
  | [] => [[]]
  | x :: l => subs l ++ (subs l).map (x :: ·)
theorem subs_len : ∀ l : List Str, (subs l).length = 2 ^ l.length
  | [] => rfl
  | x :: l => by rw [subs, List.length_append, List.length_map, subs_len l, List.length_cons, Nat.pow_succ]; omega
theorem mem_subs : ∀ {l m : List Str}, m.Sublist l → m ∈ subs l
  | [], m, h => by rw [List.sublist_nil.mp h]; exact List.mem_singleton.mpr rfl
  | x :: l, m, h => by
    rw [subs, List.mem_append]
    cases h with
    | cons _ h => exact .inl (mem_subs h)
    | cons_cons _ h => exact .inr (List.mem_map.mpr ⟨_, mem_subs h, rfl⟩)
theorem nodup_len {α : Type} [DecidableEq α] : ∀ {l m : List α}, l.Nodup → (∀ x ∈ l, x ∈ m) → l.length ≤ m.length
  | [], _, _, _ => Nat.zero_le _
  | x :: l, m, nd, h => by
    obtain ⟨n1, n2⟩ := List.nodup_cons.mp nd
    have hx := h x List.mem_cons_self
    have := nodup_len (l := l) (m := m.erase x) n2 fun y hy => (List.mem_erase_of_ne (fun z => n1 (by rw [← z]; exact hy))).mpr (h y (List.mem_cons_of_mem _ hy))
    rw [List.length_erase_of_mem hx] at this
    have : 0 < m.length := List.length_pos_of_mem hx
    rw [List.length_cons]
    omega
theorem memo_len {near : Rows} (N : NearOk near) {kvs : List (List Key × V)} (M : MemoOk near kvs) : kvs.length ≤ 256 := by
  have h : (kvs.map (·.1)).length ≤ ((subs (nms near)).map fun l => l.map (Sum.inr : Str → Key)).length := by
    refine nodup_len M.nd fun k hk => ?_
    obtain ⟨kv, h1, h2⟩ := List.mem_map.mp hk
    obtain ⟨l, e, s, _⟩ := M.ok kv h1
    exact List.mem_map.mpr ⟨l, mem_subs s, by rw [← h2, e]⟩
  rw [List.length_map, List.length_map, subs_len, List.length_map] at h
  refine Nat.le_trans h ?_
  exact Nat.pow_le_pow_right (by decide) N.len
theorem memo_get {near : Rows} {kvs : List (List Key × V)} (M : MemoOk near kvs) {l : List Str} {v : V} (h : valV kvs (l.map Sum.inr) = some v) : v = .int (mostN near l) := by
  unfold valV at h
  cases e : kvs.find? fun kv => decide (kv.1 = l.map Sum.inr) with
  | none => rw [e] at h; cases h
  | some kv =>
    rw [e] at h
    obtain rfl : kv.2 = v := Option.some.inj h
    obtain ⟨l', e1, _, e2⟩ := M.ok kv (List.mem_of_find?_eq_some e)
    have e0 := List.find?_some e
    have e3 : kv.1 = l.map Sum.inr := of_decide_eq_true e0
    rw [e1] at e3
    have : l' = l := by
      have := congrArg (List.map (fun k : Key => match k with | .inr x => x | .inl _ => Str.empty)) e3
      rw [List.map_map, List.map_map] at this
      rw [show ((fun k : Key => match k with | .inr x => x | .inl _ => Str.empty) ∘ Sum.inr) = (id : Str → Str) from rfl, List.map_id, List.map_id] at this
      exact this
    rw [e2, this]
theorem memo_put {near : Rows} {kvs : List (List Key × V)} (M : MemoOk near kvs) {l : List Str} (hs : l.Sublist (nms near)) : MemoOk near (putK kvs (l.map Sum.inr) (.int (mostN near l))) := by
  unfold putK
  split
  · rename_i h
    refine ⟨?_, fun kv hk => ?_⟩
    · have : (kvs.map fun kv => if kv.1 = l.map Sum.inr then (kv.1, V.int (mostN near l)) else kv).map (·.1) = kvs.map (·.1) := by
        rw [List.map_map]
        exact List.map_congr_left fun kv _ => by show (if _ then _ else _ : List Key × V).1 = _; split <;> rfl
      rw [this]
      exact M.nd
    · obtain ⟨kv0, h0, e⟩ := List.mem_map.mp hk
      split at e
      · rename_i h1
        exact ⟨l, by rw [← e]; exact h1, hs, by rw [← e]⟩
      · rw [← e]; exact M.ok kv0 h0
  · rename_i h
    refine ⟨?_, fun kv hk => ?_⟩
    · rw [List.map_append]
      refine List.nodup_append.mpr ⟨M.nd, List.nodup_cons.mpr ⟨by simp, List.nodup_nil⟩, fun a ha b hb z => ?_⟩
      obtain ⟨kv, h1, h2⟩ := List.mem_map.mp ha
      refine h (List.any_eq_true.mpr ⟨kv, h1, decide_eq_true ?_⟩)
      rw [h2, z]
      exact List.mem_singleton.mp hb
    · rcases List.mem_append.mp hk with hk | hk
      · exact M.ok kv hk
      · rw [List.mem_singleton.mp hk]
        exact ⟨l, rfl, hs, rfl⟩
theorem ns_key {H : Hp} {u : V} {l : List Str} (h : NS H u l) : ∃ b, u = .ref b ∧ H b = some (.tup ((l.map (Sum.inr : Str → Key)).map kV)) := by
  obtain ⟨b, e, hb⟩ := h
  refine ⟨b, e, ?_⟩
  rw [hb, List.map_map]
  rfl
theorem iteY {c : Bool} {A B : Prop} (h : c = true) (a : A) : if c = true then A else B := by rw [if_pos h]; exact a
theorem iteN {c : Bool} {A B : Prop} (h : c = false) (b : B) : if c = true then A else B := by rw [if_neg (by rw [h]; decide)]; exact b
theorem most_max {near : Rows} {f : Str} {rest : List Str} (h : 2 ≤ (f :: rest).length) {m : Int} (hm : m ∈ ((mostN near rest : Nat) : Int) :: ((nearF near f).filter fun o => decide (o ∈ rest)).map fun o => (1 : Int) + (mostN near (butL rest [o]) : Nat)) (hle : ∀ y ∈ ((mostN near rest : Nat) : Int) :: ((nearF near f).filter fun o => decide (o ∈ rest)).map fun o => (1 : Int) + (mostN near (butL rest [o]) : Nat), y ≤ m) : m = (mostN near (f :: rest) : Nat) := by
  have key : m.toNat = mostN near (f :: rest) ∧ 0 ≤ m := by
    have h0 : 0 ≤ m := Int.le_trans (Int.natCast_nonneg _) (hle _ List.mem_cons_self)
    refine ⟨?_, h0⟩
    unfold mostN
    rw [GE.most_step (nearF near) h]
    refine GE.maxL_uniq ?_ ?_ fun x hx => ?_
    · rcases List.mem_cons.mp hm with e | hm
      · left; rw [e]; rfl
      · right
        obtain ⟨o, ho, e⟩ := List.mem_map.mp hm
        refine List.mem_map.mpr ⟨o, ho, ?_⟩
        rw [← e]
        show 1 + mostN near (butL rest [o]) = ((1 : Int) + (mostN near (butL rest [o]) : Nat)).toNat
        omega
    · have := hle _ List.mem_cons_self
      show mostN near rest ≤ m.toNat
      omega
    · obtain ⟨o, ho, e⟩ := List.mem_map.mp hx
      have := hle _ (List.mem_cons_of_mem _ (List.mem_map.mpr ⟨o, ho, rfl⟩))
      rw [← e]
      show 1 + mostN near (butL rest [o]) ≤ m.toNat
      omega
  omega
abbrev sMost : Stmt := inn 17 5
theorem scMost : FnScope ["self", "left", "first", "rest", "some", "other"] ["self", "left"] (defScope sMost) := ⟨rfl, rfl, rfl, by decide +kernel, rfl, by decide +kernel, by decide +kernel⟩
def spMost (C : Addr) (n : Nat) : Sp := fun vs H Q _ => ∃ (v u : V) (d : Addr) (near : Rows) (left : List Str), vs = [v, u] ∧ SwI C H v d near ∧ NearOk near ∧ GoodM d near H ∧ NS H u left ∧ left.Sublist (nms near) ∧ left.length ≤ n ∧
  ∀ H', Rg d near H H' → Q (.int (mostN near left)) H'
def spMost' (C : Addr) : Nat → Sp
  | 0 => fun _ _ _ _ => False
  | n + 1 => spMost C n
section
variable {P : Program} {w : World} {K : PySem.W.Frag} {mg : Str → Option Value} {base : Heap} {f C CS : Addr}
theorem most_stepF {k : Nat} (F : Fn K "most" "Swapping.most" sMost [] [] f) (T : Blt mg) (Cs : Cst mg) (S : SwC K mg C) (Gb : Pr P w K mg base "but" 1 (spBut K)) {n : Nat} (G : MtP P w K mg base C "most" (k + 1) (spMost' C n)) : FnR P w K mg base CX0 (k + 2) f (spMost C n) := by
  refine Fn.ok0 (ps := ["self", "left"]) F scMost (fun kV doc pm an cdv ct us hl => by match us, hl with | [u, u2], _ => rfl) (fun vs H Q E ⟨_, _, _, _, _, e, _⟩ => by rw [e]; rfl) (fun cdv A outer s H vs Q E hr h => ?_)
  obtain ⟨v, u, d, near, left, rfl, sw, nok, gm, hu, hsub, hlen, kk⟩ := h
  obtain ⟨tp, mp⟩ := Cs.pair
  have nd := scMost.nd
  refine ⟨_, pss_cons (ps_if (pt_cmpR op_lt (pe_callB call_len_seq (by rfl) T.len (by decide +kernel) (pa_cons (pv 1) pa_nil)) (pe_glob (v := .int 2) rfl mp ⟨_, rfl⟩) (nomark _)) (pss_one (ps_ret pe_int)) pss_nil)
    (pss_cons (ps_if (pt_cmp (pc_dnotin (huR hr) (pv 1) (pe_slK K (pv 0))) (by with_unfolding_all rfl))
      (pss_cons (ps_asg (pe_tup (pa_cons (pe_ix ix_tup (pv 1) pe_int (fun _ _ => rfl)) (pa_cons (pe_slice sl_tupA (pv 1) (po_some pe_int) po_none) pa_nil))) (pg_tup rfl (pgs_cons (pg_name (i := 2) nd rfl (Or.inl rfl) (Or.inl rfl)) (pgs_cons (pg_name (i := 3) nd rfl (Or.inr rfl) (Or.inl rfl)) pgs_nil))))
      (pss_cons (ps_setLc (i := 4) (own := [("other", 5)]) (g := gName 5) rfl nd rfl rfl (sw_true rfl rfl rfl (by decide +kernel)) (pi_tup (pe_dget (huR hr) (pe_slK K (pv 0)) (pv 2) (fun _ _ => rfl))) (blkOk_by (N := ["self", "left", "first", "rest", "some", "other"]) (sc := defScope sMost) (by decide +kernel))
        (fun _ _ _ _ _ => pg_name (i := 5) nd rfl (Or.inl rfl)) (fun _ _ _ _ _ => pts_one (pt_cmpR (opInS K) (pv 5) (pv 3) (by with_unfolding_all rfl))) (fun _ _ _ _ _ => pe_op op_add pe_int (pe_mt G S.cls (pv 0) hr (pa_cons (pe_pr Gb (hr.mono (by omega)) (by rfl) (pa_cons (pv 3) (pa_cons (pv 5) pa_nil))) pa_nil))))
      (pss_one (ps_dput (huR hr) (pe_slK K (pv 0)) (pv 1) (pe_callB (cr_max rfl) (by rfl) T.max (by decide +kernel) (pa_cons (pe_lst (pa_cons (pe_mt G S.cls (pv 0) hr (pa_cons (pv 3) pa_nil)) (StX.pa_star (pv 4) pa_nil))) pa_nil)) rfl)))) pss_nil)
    (pss_one (ps_ret (pe_dget (huR hr) (pe_slK K (pv 0)) (pv 1) (fun _ _ => rfl))))), ?_⟩
  obtain ⟨a, dx, nn, e, pp, ps, vs, rfl, sl, v0, v1, hnn, v2, dre, v3, hpp, prs⟩ := id sw.ex
  obtain ⟨p0, q0⟩ := S.s0
  obtain ⟨p2, q2⟩ := S.s2
  obtain ⟨b, rfl, hbk⟩ := ns_key hu
  obtain ⟨b', eb, hb⟩ := hu
  cases eb
  have kp := kpG d near
  have ll : (sL left).length = left.length := List.length_map _
  have hsl : (nms near).length ≤ 8 := by rw [List.length_map]; exact nok.len
  have l8 : left.length ≤ 8 := Nat.le_trans hsub.length_le hsl
  refine ⟨.ref b, rfl, b, sL left, rfl, .inr (SqT.of hb), _, _, rfl, rfl, _, rfl, ?_⟩
  by_cases h2 : left.length < 2
  · refine iteY (decide_eq_true (show ((sL left).length : Int) < 2 by omega)) ?_
    have := kk H (kp.refl H)
    unfold mostN at this
    rw [GE.most_short (nearF near) h2] at this
    exact this
  refine iteN (decide_eq_false (show ¬ ((sL left).length : Int) < 2 by omega)) ?_
  obtain ⟨kvs, hd, mok⟩ := id gm
  refine ⟨.ref b, rfl, .ref a, rfl, a, C, dx, p0, vs, 0, _, rfl, sl, S.cls, q0, v0, d, _, rfl, DGet.t hd hbk, _, rfl, ?_⟩
  cases hv : valV kvs (left.map Sum.inr) with
  | some v =>
    refine ⟨.ref a, rfl, a, C, dx, p0, vs, 0, _, rfl, sl, S.cls, q0, v0, .ref b, rfl, d, v, rfl, ?_, ?_⟩
    · rw [← hv]; exact DGet.t hd hbk
    · rw [memo_get mok hv]; exact kk H (kp.refl H)
  | none =>
    match left, h2 with
    | [], h2 => exact absurd (by decide) h2
    | f :: rest, h2 =>
      have hge : 2 ≤ (f :: rest).length := Nat.not_lt.mp h2
      have hrs : rest.Sublist (nms near) := (List.sublist_cons_self f rest).trans hsub
      have hfn : f ∈ nms near := hsub.subset List.mem_cons_self
      have hlr : rest.length + 1 ≤ 8 := l8
      have cut : cutV (sL (f :: rest)) (some 1) none = sL rest := by
        unfold cutV
        have e1 : HT.sIx (sL (f :: rest)).length 0 (some 1) = min 1 (sL (f :: rest)).length := HT.sIx_nat _ _ 1
        rw [e1, HT.sIx_none, ll, Nat.min_eq_left (by omega)]
        show (List.drop 1 (sL (f :: rest))).take _ = _
        rw [List.take_of_length_le (by simp [sL])]
        rfl
      refine ⟨.ref b, rfl, b, sL (f :: rest), 0, .str f, rfl, rfl, SqT.of hb, atI_nat (j := 0) rfl, .ref b, rfl, 1, rfl, b, sL (f :: rest), rfl, SqT.of hb, fun hw => ?_, fun hw p hp => ?_⟩
      · have e1 : HT.sIx (sL (f :: rest)).length 0 (some 1) = min 1 (sL (f :: rest)).length := HT.sIx_nat _ _ 1
        have := hw.1
        rw [e1] at this
        omega
      rw [cut]
      have e1 : Ex H (upd H p (.tup (sL rest))) := Ex.new hp
      have hp1 : (upd H p (.tup (sL rest))) p = some (.tup (sL rest)) := upd_same
      generalize upd H p (.tup (sL rest)) = H1 at e1 hp1
      refine ⟨by show (2 : Nat) ≤ sizeLine; decide, fun t ht => ?_⟩
      have e2 : Ex H1 (upd H1 t (.tup [.str f, .ref p])) := Ex.new ht
      have ht2 : (upd H1 t (.tup [.str f, .ref p])) t = some (.tup [.str f, .ref p]) := upd_same
      generalize upd H1 t (.tup [.str f, .ref p]) = H2 at e2 ht2
      have r2 : Rg d near H H2 := kp.ex (e1.trans e2)
      have hp2 := e2 _ _ hp1
      have lf : lookR near f = some (nearF near f) := by
        cases e : lookR near f with
        | none => exact absurd hfn (lookR_none.mp e)
        | some w => unfold nearF; rw [e]; rfl
      obtain ⟨wv, gw, b3, rfl, hb3⟩ := dicR_some (dre.kd (kp.kd r2)) lf
      refine ⟨t, [.str f, .ref p], rfl, SqT.of ht2, rfl, .str f, [.ref p], rfl, .ref p, [], rfl, rfl, ?_⟩
      have call : ∀ (H' : Hp) (u' : V) (l : List Str) (Q' : VK), Rg d near H H' → NS H' u' l → l.Sublist (nms near) → l.length < (f :: rest).length → (∀ H'', Rg d near H' H'' → Q' (.int (mostN near l)) H'') → spMost' C n [.ref a, u'] H' Q' E0 := fun H' u' l Q' rg hu' hs' hl' k' => by
        cases n with
        | zero => simp at hlen
        | succ n => exact ⟨.ref a, u', d, near, l, rfl, sw.mono kp rg, nok, rg.2 gm, hu', hs', by simp only [List.length_cons] at hlen hl'; omega, k'⟩
      refine ⟨.ref a, rfl, a, C, dx, p2, vs, 2, _, rfl, slt_kp kp r2 sl, S.cls, q2, v2, .str f, rfl, e, _, rfl, gw, b3, rfl, ⟨_, SqT.of hb3⟩,
        fmJ kp V.str (fun o => decide (o ∈ rest)) (fun o => .int ((1 : Int) + (mostN near (butL rest [o]) : Nat))) (nearF near f) (goes_tupM kp (SqT.of hb3)) rfl (Nat.le_trans (nok.nl f) (by decide)) (by show 5 < 6; decide) (fun _ => rfl) (fun o H' ho rg Q' q => ?_) (fun o H' ho hf rg Q' q => ?_) (fun D H3 hD rg hl => ?_)⟩
      · exact ⟨.str o, rfl, .ref p, rfl, o, p, rest, rfl, rfl, .inl (kp.tup rg (SqT.of hp2)), _, rfl, q _ (kp.refl _)⟩
      · refine ⟨.ref a, rfl, a, dx, vs, rfl, slt_kp kp (kp.trans r2 rg) sl, .ref p, rfl, .str o, rfl, .ref p, rest, [o], rfl, ⟨p, rfl, kp.tup rg (SqT.of hp2)⟩, by omega, by show (1 : Nat) ≤ 1000; decide, fun r H4 e4 hr4 => ?_⟩
        refine call H4 r (butL rest [o]) _ (kp.trans (kp.trans r2 rg) (kp.ex e4)) hr4 (List.filter_sublist.trans hrs) (Nat.lt_succ_of_le (List.length_filter_le _ _)) fun H5 rg5 => ?_
        exact ⟨1, _, rfl, rfl, q _ _ (kp.trans (kp.ex e4) rg5) rfl⟩
      have r3 := kp.trans r2 rg
      refine ⟨.ref a, rfl, a, dx, vs, rfl, slt_kp kp r3 sl, .ref p, rfl, call H3 (.ref p) rest _ r3 ⟨p, rfl, kp.keep rg hp2 fun _ z => by cases z⟩ hrs (Nat.lt_succ_self _) fun H4 rg4 => ?_⟩
      have r4 := kp.trans r3 rg4
      have hD4 : SqL K H4 D (((nearF near f).filter fun o => decide (o ∈ rest)).map fun o => .int ((1 : Int) + (mostN near (butL rest [o]) : Nat))) := kp.lst rg4 (SqL.of hl)
      refine ⟨.ref D, rfl, D, _, rfl, .inr hD4, ?_, fun l hl4 => ?_⟩
      · have := nok.nl f
        have : ((nearF near f).filter fun o => decide (o ∈ rest)).length ≤ 40 := filter_len this
        simp only [List.length_cons, List.length_append, List.length_map, List.length_nil, sizeLine_eq]
        omega
      have e5 := Ex.new (o := .lst (V.int (mostN near rest : Nat) :: ((((nearF near f).filter fun o => decide (o ∈ rest)).map fun o => V.int ((1 : Int) + (mostN near (butL rest [o]) : Nat))) ++ []))) hl4
      have hl5 : (upd H4 l (.lst (V.int (mostN near rest : Nat) :: ((((nearF near f).filter fun o => decide (o ∈ rest)).map fun o => V.int ((1 : Int) + (mostN near (butL rest [o]) : Nat))) ++ [])))) l = some _ := upd_same
      generalize upd H4 l (.lst (V.int (mostN near rest : Nat) :: ((((nearF near f).filter fun o => decide (o ∈ rest)).map fun o => V.int ((1 : Int) + (mostN near (butL rest [o]) : Nat))) ++ []))) = H5 at e5 hl5
      have r5 := kp.trans r4 (kp.ex e5)
      refine ⟨l, ((mostN near rest : Nat) : Int) :: ((nearF near f).filter fun o => decide (o ∈ rest)).map fun o => (1 : Int) + (mostN near (butL rest [o]) : Nat), rfl, SqL.of ?_, Nat.succ_pos _, fun m hm hle => ?_⟩
      · rw [List.map_cons, List.map_map]
        rw [List.append_nil] at hl5
        exact hl5
      have em := most_max hge hm hle
      subst em
      obtain ⟨kvs5, hd5, mok5⟩ := r5.2 gm
      have hb5 := kp.keep r5 hbk fun _ z => by cases z
      refine ⟨.ref a, rfl, a, C, dx, p0, vs, 0, _, rfl, slt_kp kp r5 sl, S.cls, q0, v0, .ref b, rfl, d, _, rfl, DPut.t hd5 hb5 ?_, ?_⟩
      · have := memo_len nok mok5
        rw [sizeLine_eq]
        omega
      have mok6 := memo_put mok5 hsub
      generalize hH6 : upd H5 d (.dT (putK kvs5 ((f :: rest).map Sum.inr) (.int (mostN near (f :: rest) : Nat)))) = H6
      have hd6 : H6 d = some (.dT (putK kvs5 ((f :: rest).map Sum.inr) (.int (mostN near (f :: rest) : Nat)))) := by rw [← hH6]; exact upd_same
      have r56 : Rg d near H5 H6 := ⟨fun b o e k => by
        rw [← hH6]
        by_cases z : b = d
        · subst z
          rw [hd5] at e
          exact absurd (Option.some.inj e).symm (k rfl _)
        · rw [upd_ne z]; exact e, fun _ => ⟨_, hd6, mok6⟩⟩
      have r6 := kp.trans r5 r56
      refine ⟨.ref a, rfl, a, C, dx, p0, vs, 0, _, rfl, slt_kp kp r6 sl, S.cls, q0, v0, .ref b, rfl, d, .int (mostN near (f :: rest) : Nat), rfl, ?_, kk H6 r6⟩
      have g := DGet.t hd6 (kp.keep r6 hbk fun _ z => by cases z)
      rw [valV_put, if_pos rfl] at g
      exact g
theorem ok_most (F : Fn K "most" "Swapping.most" sMost [] [] f) (mt : Meth K C "most" f) (T : Blt mg) (Cs : Cst mg) (S : SwC K mg C) (Gb : Pr P w K mg base "but" 1 (spBut K)) : ∀ n, FnR P w K mg base CX0 (n + 2) f (spMost C n)
  | 0 => most_stepF F T Cs S Gb ⟨f, mt, fun _ _ _ _ _ _ _ _ _ _ _ z => z.elim⟩
  | n + 1 => most_stepF F T Cs S Gb ⟨f, mt, ok_most F mt T Cs S Gb n⟩
end
end CH
/-! text W9 -/
/-! Swapping's smaller methods. -/
namespace CH
open PySem L2 Evl RZ
section
variable {P : Program} {w : World} {K : PySem.W.Frag} {mg : Str → Option Value} {base : Heap} {f C CS : Addr}
abbrev sSwNames : Stmt := inn 17 2
theorem scSwNames : FnScope ["self"] ["self"] (defScope sSwNames) := ⟨rfl, rfl, rfl, by decide +kernel, rfl, by decide +kernel, by decide +kernel⟩
def spSwNames (C : Addr) : Sp := fun vs H Q _ => ∃ (v : V) (d : Addr) (near : Rows), vs = [v] ∧ SwI C H v d near ∧ RT H Q (nms near)
theorem ok_swNames (F : Fn K "names" "Swapping.names" sSwNames [] [] f) (S : SwC K mg C) : FnR P w K mg base CX0 1 f (spSwNames C) := by
  refine Fn.ok0 (ps := ["self"]) F scSwNames (fun kV doc pm an cdv ct us hl => by match us, hl with | [u], _ => rfl) (fun vs H Q E ⟨_, _, _, e, _⟩ => by rw [e]; rfl) (fun cdv A outer s H vs Q E hr h => ?_)
  obtain ⟨v, d, near, rfl, sw, k⟩ := h
  obtain ⟨a, dx, nn, e, pp, ps, vs, rfl, sl, v0, v1, hnn, v2, dre, v3, hpp, prs⟩ := id sw.ex
  obtain ⟨p1, q1⟩ := S.s1
  refine ⟨_, pss_one (ps_ret (SlX.pe_sl (pv 0))), ?_⟩
  exact ⟨.ref a, rfl, a, C, dx, p1, vs, 1, _, rfl, sl, S.cls, q1, v1, k _ _ (Ex.refl _) ⟨nn, rfl, hnn⟩⟩
abbrev sSwNear : Stmt := inn 17 3
theorem scSwNear : FnScope ["self", "name"] ["self", "name"] (defScope sSwNear) := ⟨rfl, rfl, rfl, by decide +kernel, rfl, by decide +kernel, by decide +kernel⟩
def spSwNear (C : Addr) : Sp := fun vs H Q _ => ∃ (v : V) (n : Str) (d : Addr) (near : Rows), vs = [v, .str n] ∧ SwI C H v d near ∧ n ∈ nms near ∧ RT H Q (nearF near n)
theorem near_some {near : Rows} {n : Str} (h : n ∈ nms near) : lookR near n = some (nearF near n) := by
  cases e : lookR near n with
  | none => exact absurd h (lookR_none.mp e)
  | some w => unfold nearF; rw [e]; rfl
theorem ok_swNear (F : Fn K "near" "Swapping.near" sSwNear [] [] f) (S : SwC K mg C) : FnR P w K mg base CX0 1 f (spSwNear C) := by
  refine Fn.ok0 (ps := ["self", "name"]) F scSwNear (fun kV doc pm an cdv ct us hl => by match us, hl with | [u, u2], _ => rfl) (fun vs H Q E ⟨_, _, _, _, e, _⟩ => by rw [e]; rfl) (fun cdv A outer s H vs Q E hr h => ?_)
  obtain ⟨v, n, d, near, rfl, sw, hn, k⟩ := h
  obtain ⟨a, dx, nn, e, pp, ps, vs, rfl, sl, v0, v1, hnn, v2, dre, v3, hpp, prs⟩ := id sw.ex
  obtain ⟨p2, q2⟩ := S.s2
  obtain ⟨wv, gw, b3, rfl, hb3⟩ := dicR_some dre (near_some hn)
  refine ⟨_, pss_one (ps_ret (pe_dget (huR hr) (pe_slK K (pv 0)) (pv 1) (fun _ _ => rfl))), ?_⟩
  exact ⟨.ref a, rfl, a, C, dx, p2, vs, 2, _, rfl, sl, S.cls, q2, v2, .str n, rfl, e, _, rfl, gw, k _ _ (Ex.refl _) ⟨b3, rfl, hb3⟩⟩
abbrev sMostAll : Stmt := inn 17 6
theorem scMostAll : FnScope ["self"] ["self"] (defScope sMostAll) := ⟨rfl, rfl, rfl, by decide +kernel, rfl, by decide +kernel, by decide +kernel⟩
def spMostAll (C : Addr) : Sp := fun vs H Q _ => ∃ (v : V) (d : Addr) (near : Rows), vs = [v] ∧ SwI C H v d near ∧ NearOk near ∧ GoodM d near H ∧ ∀ H', Rg d near H H' → Q (.int (mostN near (nms near))) H'
theorem nms_len {near : Rows} (N : NearOk near) : (nms near).length ≤ 8 := by rw [List.length_map]; exact N.len
theorem ok_mostAll (F : Fn K "most_of_all" "Swapping.most_of_all" sMostAll [] [] f) (S : SwC K mg C) (M : MtP P w K mg base C "most" 10 (spMost C 8)) : FnR P w K mg base CX0 11 f (spMostAll C) := by
  refine Fn.ok0 (ps := ["self"]) F scMostAll (fun kV doc pm an cdv ct us hl => by match us, hl with | [u], _ => rfl) (fun vs H Q E ⟨_, _, _, e, _⟩ => by rw [e]; rfl) (fun cdv A outer s H vs Q E hr h => ?_)
  obtain ⟨v, d, near, rfl, sw, nok, gm, k⟩ := h
  obtain ⟨a, dx, nn, e, pp, ps, vs, rfl, sl, v0, v1, hnn, v2, dre, v3, hpp, prs⟩ := id sw.ex
  obtain ⟨p1, q1⟩ := S.s1
  refine ⟨_, pss_one (ps_ret (pe_mt M S.cls (pv 0) hr (pa_cons (SlX.pe_sl (pv 0)) pa_nil))), ?_⟩
  exact ⟨.ref a, rfl, a, dx, vs, rfl, sl, .ref a, rfl, a, C, dx, p1, vs, 1, _, rfl, sl, S.cls, q1, v1, .ref a, .ref nn, d, near, nms near, rfl, sw, nok, gm, ⟨nn, rfl, hnn⟩, List.Sublist.refl _, nms_len nok, k⟩
abbrev sBehind : Stmt := inn 17 7
theorem scBehind : FnScope ["self", "left", "one", "other", "name"] ["self", "left", "one", "other"] (defScope sBehind) := ⟨rfl, rfl, rfl, by decide +kernel, rfl, by decide +kernel, by decide +kernel⟩
abbrev behL (left : List Str) (a b : Str) : List Str := GE.behind ltS left a b
def spBehind (K : PySem.W.Frag) : Sp := fun vs H Q _ => ∃ (v u : V) (left : List Str) (a b : Str), vs = [v, u, .str a, .str b] ∧ NT K H u left ∧ left.length ≤ 1000 ∧ RT H Q (behL left a b)
theorem ok_behind (F : Fn K "behind" "Swapping.behind" sBehind [] [] f) (T : Blt mg) : FnR P w K mg base CX0 1 f (spBehind K) := by
  refine Fn.ok0 (ps := ["self", "left", "one", "other"]) F scBehind (fun kV doc pm an cdv ct us hl => by match us, hl with | [u, u2, u3, u4], _ => rfl) (fun vs H Q E ⟨_, _, _, _, _, e, _⟩ => by rw [e]; rfl) (fun cdv A outer s H vs Q E hr h => ?_)
  obtain ⟨v, u, left, x, y, rfl, ⟨b, rfl, hb⟩, hz, k⟩ := h
  refine ⟨_, pss_one (ps_ret (pe_callTy call_tuple_of (by rfl) T.tuple (by decide +kernel) (pa_cons (pe_lc (own := [("name", 4)]) (g := gName 4) rfl scBehind.nd (pi_tup (pv 1)) (blkOk_by (N := ["self", "left", "one", "other", "name"]) (sc := defScope sBehind) (by decide +kernel))
    (fun _ _ _ _ _ => pg_name (i := 4) scBehind.nd rfl (Or.inl rfl)) (fun _ _ _ _ _ => pts_one (PW.pt (pw_and (pt_cmpR op_gt_str (pv 4) (pv 2) (nomark _)) (pw_and1 (pt_cmpR op_ne (pv 4) (pv 3) (nomark _)))))) (fun _ _ _ _ _ => pv 4)) pa_nil))), ?_⟩
  refine ⟨.ref b, rfl, b, rfl, ⟨_, hb⟩, fmJ kpE V.str (fun n => ltS x n && decide (n ≠ y)) V.str left (goes_tupM kpE hb) rfl (Nat.le_trans hz (by decide)) (by show 4 < 5; decide) (fun _ => rfl) (fun n H' hn e Q' q => ?_) (fun o H' _ _ _ Q' q => ⟨.str o, rfl, q _ _ (Ex.refl _) rfl⟩) (fun D H' hD e hl => ?_)⟩
  · refine ⟨.str n, rfl, .str x, rfl, n, x, rfl, rfl, _, rfl, ?_⟩
    have e1 : decide (x.cps.toList < n.cps.toList) = ltS x n := rfl
    rw [e1]
    have := q H' (Ex.refl _)
    cases h1 : ltS x n with
    | false => rw [h1] at this; exact this
    | true =>
      rw [h1] at this
      have e2 : (!decide (V.str n = V.str y)) = decide (n ≠ y) := by
        by_cases z : n = y
        · subst z; simp
        · have : V.str n ≠ V.str y := fun q => z (by cases q; rfl)
          simp [z]
      refine ⟨.str n, rfl, .str y, rfl, rfl, _, rfl, ?_⟩
      rw [Bool.true_and, ← e2] at this
      exact this
  · exact ⟨D, _, rfl, .inl ⟨SqL.of hl, fun r hr => k _ _ (e.trans (kpE.new hr)) ⟨r, rfl, upd_same⟩⟩⟩
end
end CH
/-! text W10 -/
/-! Swapping.firsts, is_open, is_odd. -/
namespace CH
open PySem L2 Evl RZ
theorem ixTupK (K : PySem.W.Frag) {X : Cx} (h : X.K = K := by rfl) : IxR X (rIxT K) := by subst h; exact ix_tup
section
variable {X : Cx} {k : Nat} {C g : Addr} {sp : Sp} {m : Str} {p pos apos : Pos} {e1 e2 o : Expr} {ta t1 t2 : TE}
theorem pe_mtSB (K : PySem.W.Frag) (he : PE X o ta) (c : SlX.SCls X.K C) (b : BMeth X.K C m g) (F : FnR X.prog X.w X.K X.mg X.base CX0 k g sp) (hr : Room k X.A) (h1 : PE X e1 t1) (h2 : PE X e2 t2) (h : X.K = K := by rfl)
    (hb : attributeBase o m X.env (eval o X.env) = eval o X.env := by rfl) (hst : starEach [e1, .Starred e2 p] X.env = [(false, eval e1 X.env), (true, eval e2 X.env)] := by rfl) :
    PE X (.Call (.Attribute o m apos) [e1, .Starred e2 p] [] pos) (tSlSB K C g sp E0 ta t1 t2) := by
  subst h
  exact pe_methSlSB he c b F hr pass0 h1 h2 hb hst
end
theorem pairs_zip {α β : Type} {F : α → β → Prop} : ∀ {ps : List α} {l : List β}, Paired F ps l → ∃ zs : List (α × β), zs.map (·.1) = ps ∧ zs.map (·.2) = l ∧ ∀ z ∈ zs, F z.1 z.2
  | _, _, .nil => ⟨[], rfl, rfl, fun z h => by simp at h⟩
  | a :: _, b :: _, .cons r t => by
    obtain ⟨zs, h1, h2, h3⟩ := pairs_zip t
    exact ⟨(a, b) :: zs, by rw [List.map_cons, h1], by rw [List.map_cons, h2], fun z hz => by
      rcases List.mem_cons.mp hz with e | hz
      · rw [e]; exact r
      · exact h3 z hz⟩
theorem zip_pairs {α β : Type} {F : α → β → Prop} : ∀ {zs : List (α × β)}, (∀ z ∈ zs, F z.1 z.2) → Paired F (zs.map (·.1)) (zs.map (·.2))
  | [], _ => .nil
  | z :: zs, h => .cons (h z List.mem_cons_self) (zip_pairs fun y hy => h y (List.mem_cons_of_mem _ hy))
/-- a list of pairs -/
def PairsAt (H : Hp) (v : V) (l : List (Str × Str)) : Prop := ∃ a ps, v = .ref a ∧ H a = some (.lst ps) ∧ Paired (PairS H) ps l
theorem PairsAt.kd {H H' : Hp} (k : Kd H H') {v : V} {l : List (Str × Str)} (h : PairsAt H v l) : PairsAt H' v l := let ⟨a, ps, e, z, p⟩ := h; ⟨a, ps, e, k _ (.lst _) trivial z, L2.Paired.mapP p fun _ _ q => q.ex k⟩
abbrev sFirsts : Stmt := inn 17 8
theorem scFirsts : FnScope ["self", "left", "many", "some", "pair"] ["self", "left", "many"] (defScope sFirsts) := ⟨rfl, rfl, rfl, by decide +kernel, rfl, by decide +kernel, by decide +kernel⟩
abbrev firstsN (near : Rows) (left : List Str) (m : Nat) : List (Str × Str) := GE.firsts (nearF near) ltS (nms near) left m
def spFirsts (C : Addr) : Sp := fun vs H Q _ => ∃ (v u : V) (m : Nat) (d : Addr) (near : Rows) (left : List Str), vs = [v, u, .int m] ∧ SwI C H v d near ∧ NearOk near ∧ GoodM d near H ∧ NS H u left ∧ left.Sublist (nms near) ∧
  ∀ r H', Rg d near H H' → PairsAt H' r (firstsN near left m) → Q r H'
section
variable {P : Program} {w : World} {K : PySem.W.Frag} {mg : Str → Option Value} {base : Heap} {f C CS : Addr}
theorem ok_firsts (F : Fn K "firsts" "Swapping.firsts" sFirsts [] [] f) (T : Blt mg) (S : SwC K mg C) (M : MtP P w K mg base C "most" 10 (spMost C 8)) (B : BmP P w K mg base C "behind" 1 (spBehind K)) : FnR P w K mg base CX0 11 f (spFirsts C) := by
  obtain ⟨g, bm, F2⟩ := B
  refine Fn.ok0 (ps := ["self", "left", "many"]) F scFirsts (fun kV doc pm an cdv ct us hl => by match us, hl with | [u, u2, u3], _ => rfl) (fun vs H Q E ⟨_, _, _, _, _, _, e, _⟩ => by rw [e]; rfl) (fun cdv A outer s H vs Q E hr h => ?_)
  obtain ⟨v, u, m, d, near, left, rfl, sw, nok, gm, hu, hsub, k⟩ := h
  have nd := scFirsts.nd
  refine ⟨_, pss_cons (ps_setLc (i := 3) (own := [("pair", 4)]) (g := gName 4) rfl nd rfl rfl (sw_true rfl rfl rfl (by decide +kernel)) (pi_list (SlX.pe_sl (pv 0))) (blkOk_by (N := ["self", "left", "many", "some", "pair"]) (sc := defScope sFirsts) (by decide +kernel))
      (fun _ _ _ _ _ => pg_name (i := 4) nd rfl (Or.inl rfl)) (fun _ _ _ _ _ => pts_one (PW.pt (pw_and (pt_cmpR (opInS K) (pe_ix (ixTupK K) (pv 4) pe_int (fun _ _ => rfl)) (pv 1) (by with_unfolding_all rfl)) (pw_and1 (pt_cmpR (opInS K) (pe_ix (ixTupK K) (pv 4) pe_int (fun _ _ => rfl)) (pv 1) (by with_unfolding_all rfl)))))) (fun _ _ _ _ _ => pv 4))
    (pss_one (ps_ret (pe_lc (own := [("pair", 4)]) (g := gName 4) rfl nd (pi_list (pv 3)) (blkOk_by (N := ["self", "left", "many", "some", "pair"]) (sc := defScope sFirsts) (by decide +kernel))
      (fun _ _ _ _ _ => pg_name (i := 4) nd rfl (Or.inl rfl)) (fun _ _ _ _ _ => pts_one (pt_cmpR op_eq (pe_mt M S.cls (pv 0) hr (pa_cons (pe_mtSB K (pv 0) S.cls bm F2 (hr.mono (by decide)) (pv 1) (pv 4)) pa_nil)) (pe_op op_sub (pv 2) pe_int) (nomark _))) (fun _ _ _ _ _ => pv 4)))), ?_⟩
  obtain ⟨a, dx, nn, e, pp, ps, vs, rfl, sl, v0, v1, hnn, v2, dre, v3, hpp, prs⟩ := id sw.ex
  obtain ⟨p3, q3⟩ := S.s3
  obtain ⟨b, rfl, hb⟩ := hu
  obtain ⟨zs, hz1, hz2, hz3⟩ := pairs_zip prs
  have kp := kpG d near
  have l8 : left.length ≤ 8 := Nat.le_trans hsub.length_le (nms_len nok)
  have zl : zs.length ≤ 100000 := by
    have h1 : zs.length = (pairsF near).length := by rw [← hz2, List.length_map]
    have h2 := pairs_len nok.nl (nms near)
    have h3 := nms_len nok
    have : (pairsF near).length ≤ (nms near).length * 40 := h2
    omega
  have hp1 : SqL K H pp (zs.map (·.1)) := by rw [hz1]; exact SqL.of hpp
  have pr : ∀ {H' : Hp} (z : V × (Str × Str)), z ∈ zs → Rg d near H H' → ∃ t, z.1 = .ref t ∧ SqT K H' t [.str z.2.1, .str z.2.2] := fun z hz rg => by
    obtain ⟨t, e, ht⟩ := (hz3 z hz).ex (kp.kd rg)
    exact ⟨t, e, SqT.of ht⟩
  refine ⟨.ref a, rfl, a, C, dx, p3, vs, 3, _, rfl, sl, S.cls, q3, v3, pp, rfl, ⟨_, hp1⟩, fmJ kp (fun z : V × (Str × Str) => z.1) (fun z => decide (z.2.1 ∈ left) && decide (z.2.2 ∈ left)) (fun z => z.1) zs (goes_lstM kp hp1) rfl zl (by show 4 < 5; decide) (fun _ => rfl) (fun z H' hz rg Q' q => ?_) (fun z H' hz _ rg Q' q => ⟨_, rfl, q _ _ (kp.refl _) rfl⟩) (fun D H1 hD rg hl => ?_)⟩
  · obtain ⟨t, et, ht⟩ := pr z hz rg
    refine ⟨z.1, rfl, t, _, 0, .str z.2.1, et, rfl, ht, rfl, .ref b, rfl, z.2.1, b, left, rfl, rfl, .inl (kp.tup rg (SqT.of hb)), _, rfl, ?_⟩
    have := q H' (kp.refl _)
    cases h1 : decide (z.2.1 ∈ left) with
    | false => rw [h1] at this; exact this
    | true =>
      rw [h1] at this
      exact ⟨z.1, rfl, t, _, 1, .str z.2.2, et, rfl, ht, rfl, .ref b, rfl, z.2.2, b, left, rfl, rfl, .inl (kp.tup rg (SqT.of hb)), _, rfl, this⟩
  have hp2 : SqL K H1 D ((zs.filter fun z => decide (z.2.1 ∈ left) && decide (z.2.2 ∈ left)).map (·.1)) := SqL.of hl
  refine ⟨.ref D, rfl, D, rfl, ⟨_, hp2⟩, fmJ kp (fun z : V × (Str × Str) => z.1) (fun z => decide (mostN near (behL left z.2.1 z.2.2) + 1 = m)) (fun z => z.1) (zs.filter fun z => decide (z.2.1 ∈ left) && decide (z.2.2 ∈ left)) (goes_lstM kp hp2) rfl (filter_len zl) (by show 4 < 5; decide) (fun _ => rfl) (fun z H' hz rg2 Q' q => ?_) (fun z H' hz _ rg Q' q => ⟨_, rfl, q _ _ (kp.refl _) rfl⟩) (fun D2 H2 hD2 rg2 hl2 => ?_)⟩
  · have rgt := kp.trans rg rg2
    obtain ⟨t, et, ht⟩ := pr z (List.mem_filter.mp hz).1 rgt
    have sl' := slt_kp kp rgt sl
    refine ⟨.ref a, rfl, a, dx, vs, rfl, sl', .ref a, rfl, a, dx, vs, rfl, sl', fun q1 hq1 => ⟨.ref b, rfl, z.1, rfl, t, _, et, .inl (kp.tup (kp.new hq1) ht), upd_same, ?_⟩⟩
    have rgq := kp.trans rgt (kp.new (o := .met g a) hq1)
    refine ⟨.ref a, .ref b, left, z.2.1, z.2.2, rfl, ⟨b, rfl, kp.tup rgq (SqT.of hb)⟩, by omega, fun r H3 e3 hr3 => ?_⟩
    have rg3 := kp.trans rgq (kp.ex e3)
    refine ⟨.ref a, r, d, near, behL left z.2.1 z.2.2, rfl, sw.mono kp rg3, nok, rg3.2 gm, hr3, List.filter_sublist.trans hsub, filter_len l8, fun H4 rg4 => ?_⟩
    refine ⟨.int m, rfl, m, 1, rfl, rfl, rfl, _, rfl, ?_⟩
    have e1 : decide (V.int (mostN near (behL left z.2.1 z.2.2) : Nat) = V.int ((m : Int) - 1)) = decide (mostN near (behL left z.2.1 z.2.2) + 1 = m) := by
      by_cases h : mostN near (behL left z.2.1 z.2.2) + 1 = m
      · rw [decide_eq_true h, decide_eq_true]
        congr 1
        omega
      · rw [decide_eq_false h, decide_eq_false]
        intro z
        have := V.int.inj z
        omega
    rw [e1]
    exact q _ (kp.trans (kp.trans (kp.new hq1) (kp.ex e3)) rg4)
  · refine k _ _ (kp.trans rg rg2) ⟨D2, _, rfl, hl2, ?_⟩
    have hm : ((zs.filter fun z => decide (z.2.1 ∈ left) && decide (z.2.2 ∈ left)).filter fun z => decide (mostN near (behL left z.2.1 z.2.2) + 1 = m)).map (·.2) = firstsN near left m := by
      unfold firstsN GE.firsts
      show _ = List.filter _ (List.filter _ (pairsF near))
      rw [← hz2, List.filter_map, List.filter_map]
      rfl
    rw [← hm]
    exact zip_pairs fun z hz => (hz3 z (List.mem_filter.mp (List.mem_filter.mp hz).1).1).ex (kp.kd (kp.trans rg rg2))
end
end CH
/-! text W11 -/
/-! Swapping.is_open, least; is_odd. -/
namespace CH
open PySem L2 Evl RZ
section
variable {P : Program} {w : World} {K : PySem.W.Frag} {mg : Str → Option Value} {base : Heap} {f C CS : Addr}
abbrev sIsOpen : Stmt := inn 17 11
theorem scIsOpen : FnScope ["self", "name"] ["self", "name"] (defScope sIsOpen) := ⟨rfl, rfl, rfl, by decide +kernel, rfl, by decide +kernel, by decide +kernel⟩
abbrev openN (near : Rows) (n : Str) : Bool := decide (mostN near (butL (nms near) [n]) = mostN near (nms near))
def spIsOpen (C : Addr) : Sp := fun vs H Q _ => ∃ (v : V) (n : Str) (d : Addr) (near : Rows), vs = [v, .str n] ∧ SwI C H v d near ∧ NearOk near ∧ GoodM d near H ∧ ∀ H', Rg d near H H' → Q (.bl (openN near n)) H'
theorem ok_isOpen (F : Fn K "is_open" "Swapping.is_open" sIsOpen [] [] f) (S : SwC K mg C) (Gb : Pr P w K mg base "but" 1 (spBut K)) (M : MtP P w K mg base C "most" 10 (spMost C 8)) (M2 : MtP P w K mg base C "most_of_all" 11 (spMostAll C)) : FnR P w K mg base CX0 12 f (spIsOpen C) := by
  refine Fn.ok0 (ps := ["self", "name"]) F scIsOpen (fun kV doc pm an cdv ct us hl => by match us, hl with | [u, u2], _ => rfl) (fun vs H Q E ⟨_, _, _, _, e, _⟩ => by rw [e]; rfl) (fun cdv A outer s H vs Q E hr h => ?_)
  obtain ⟨v, n, d, near, rfl, sw, nok, gm, k⟩ := h
  obtain ⟨a, dx, nn, e, pp, ps, vs, rfl, sl, v0, v1, hnn, v2, dre, v3, hpp, prs⟩ := id sw.ex
  obtain ⟨p1, q1⟩ := S.s1
  have kp := kpG d near
  refine ⟨_, pss_one (ps_ret (pe_cmpR op_eq (pe_mt M S.cls (pv 0) (hr.mono (by decide)) (pa_cons (pe_pr Gb (hr.mono (by decide)) (by rfl) (pa_cons (SlX.pe_sl (pv 0)) (pa_cons (pv 1) pa_nil))) pa_nil)) (pe_mt0 M2 S.cls (pv 0) hr) (nomark _))), ?_⟩
  refine ⟨.ref a, rfl, a, dx, vs, rfl, sl, .ref a, rfl, a, C, dx, p1, vs, 1, _, rfl, sl, S.cls, q1, v1, .str n, rfl, .ref nn, nms near, [n], rfl, ⟨nn, rfl, SqT.of hnn⟩, Nat.le_trans (nms_len nok) (by decide), by show (1 : Nat) ≤ 1000; decide, fun r H1 e1 hr1 => ?_⟩
  have r1 := kp.ex e1
  refine ⟨.ref a, r, d, near, butL (nms near) [n], rfl, sw.mono kp r1, nok, r1.2 gm, hr1, List.filter_sublist, filter_len (nms_len nok), fun H2 r2 => ?_⟩
  have r12 := kp.trans r1 r2
  refine ⟨.ref a, rfl, a, dx, vs, rfl, slt_kp kp r12 sl, .ref a, d, near, rfl, sw.mono kp r12, nok, r12.2 gm, fun H3 r3 => ?_⟩
  refine ⟨rfl, ?_⟩
  have e1 : decide (V.int (mostN near (butL (nms near) [n]) : Nat) = V.int (mostN near (nms near) : Nat)) = openN near n := by
    by_cases h : mostN near (butL (nms near) [n]) = mostN near (nms near)
    · unfold openN; rw [decide_eq_true h, decide_eq_true]; rw [h]
    · unfold openN; rw [decide_eq_false h, decide_eq_false]
      intro z
      have := V.int.inj z
      omega
  rw [e1]
  exact k _ (kp.trans r12 r3)
/-! is_odd -/
abbrev sIsOdd : Stmt := top 18
theorem scIsOdd : FnScope ["part"] ["part"] (defScope sIsOdd) := ⟨rfl, rfl, rfl, by decide +kernel, rfl, by decide +kernel, by decide +kernel⟩
def spIsOdd (K : PySem.W.Frag) : Sp := fun vs H Q _ => ∃ (v : V) (l : List Str), vs = [v] ∧ NT K H v l ∧ ∀ H', Ex H H' → Q (.bl (GE.isOdd l)) H'
theorem ok_isOdd (F : Fn K "is_odd" "is_odd" sIsOdd [] [] f) (T : Blt mg) (Cs : Cst mg) : FnR P w K mg base CX0 1 f (spIsOdd K) := by
  obtain ⟨tp, mp⟩ := Cs.pair
  refine Fn.ok0 (ps := ["part"]) F scIsOdd (fun kV doc pm an cdv ct us hl => by match us, hl with | [u], _ => rfl) (fun vs H Q E ⟨_, _, e, _⟩ => by rw [e]; rfl) (fun cdv A outer s H vs Q E hr h => ?_)
  obtain ⟨v, l, rfl, ⟨a, rfl, ha⟩, k⟩ := h
  refine ⟨_, pss_one (ps_ret (pe_cmpR op_eq (pe_op op_modN (pe_callB call_len_seq (by rfl) T.len (by decide +kernel) (pa_cons (pv 0) pa_nil)) (pe_glob (v := .int 2) rfl mp ⟨_, rfl⟩)) pe_int (nomark _))), ?_⟩
  refine ⟨.ref a, rfl, a, sL l, rfl, .inr ha, _, _, rfl, rfl, show (2 : Int) ≠ 0 by decide, rfl, ?_⟩
  have e : decide (V.int (((sL l).length : Int).fmod 2) = V.int 1) = GE.isOdd l := by
    have h1 : ((sL l).length : Int).fmod 2 = ((l.length % 2 : Nat) : Int) := by
      rw [List.length_map, Int.fmod_eq_emod_of_nonneg _ (by decide)]
      omega
    rw [h1]
    unfold GE.isOdd
    by_cases h : l.length % 2 = 1
    · rw [h]; rfl
    · rw [show (l.length % 2 == 1) = false from by simp [h], decide_eq_false]
      intro z
      have := V.int.inj z
      omega
  rw [e]
  exact k _ (Ex.refl _)
/-! least -/
theorem mostN_le {near : Rows} (s : GE.Sym (GE.adj (nearF near))) {l : List Str} (nd : l.Nodup) : mostN near l ≤ l.length := by
  obtain ⟨S, hS, mS⟩ := (GE.most_nu (nearF near) s nd).has
  have h := GE.Mt.count mS nd hS
  have h2 : GE.cnt S l ≤ l.length := by
    have := GE.cnt_not S l
    omega
  show GE.most (nearF near) l ≤ l.length
  omega
abbrev sLeast : Stmt := inn 17 10
theorem scLeast : FnScope ["self", "left", "found", "rest", "many", "one", "other"] ["self", "left"] (defScope sLeast) := ⟨rfl, rfl, rfl, by decide +kernel, rfl, by decide +kernel, by decide +kernel⟩
abbrev leastN (near : Rows) (m : Nat) (left : List Str) : List (Str × Str) := GE.least (nearF near) ltS (nms near) m left
/-- a tuple of pairs -/
def PairsT (H : Hp) (v : V) (l : List (Str × Str)) : Prop := ∃ a ps, v = .ref a ∧ H a = some (.tup ps) ∧ Paired (PairS H) ps l
def spLeast (C : Addr) : Sp := fun vs H Q _ => ∃ (v u : V) (d : Addr) (near : Rows) (left : List Str), vs = [v, u] ∧ SwI C H v d near ∧ NearOk near ∧ GoodM d near H ∧ NS H u left ∧ left.Sublist (nms near) ∧
  ∀ r H', Rg d near H H' → PairsT H' r (leastN near (mostN near left) left) → Q r H'
theorem ok_least (F : Fn K "least" "Swapping.least" sLeast [] [] f) (T : Blt mg) (S : SwC K mg C) (M : MtP P w K mg base C "most" 10 (spMost C 8)) (MF : MtP P w K mg base C "firsts" 11 (spFirsts C)) (B : MtP P w K mg base C "behind" 1 (spBehind K)) : FnR P w K mg base CX0 12 f (spLeast C) := by
  have nd := scLeast.nd
  refine Fn.ok0 (ps := ["self", "left"]) F scLeast (fun kV doc pm an cdv ct us hl => by match us, hl with | [u, u2], _ => rfl) (fun vs H Q E ⟨_, _, _, _, _, e, _⟩ => by rw [e]; rfl) (fun cdv A outer s H vs Q E hr h => ?_)
  obtain ⟨v, u, d, near, left, rfl, sw, nok, gm, hu, hsub, k⟩ := h
  refine ⟨_, pss_cons (ps_par rfl nd (i := 2) (j := 3) rfl rfl (by decide) rfl rfl (pa_cons (pe_lst pa_nil) (pa_cons (pv 1) pa_nil)) (by rfl))
    (pss_cons (ps_for PassesOwn.never rfl (pi_range3 (by rfl) T.range (pa_cons (pe_mt M S.cls (pv 0) (hr.mono (by decide)) (pa_cons (pv 1) pa_nil)) (pa_cons pe_int (pa_cons (pe_un un_neg pe_int) pa_nil)))) (pg_name (i := 4) nd rfl (Or.inl rfl) (Or.inl rfl))
      (pss_cons (ps_asg (pe_ix ix_list (pe_mt MF S.cls (pv 0) hr (pa_cons (pv 3) (pa_cons (pv 4) pa_nil))) pe_int (fun _ _ => rfl)) (pg_tup rfl (pgs_cons (pg_name (i := 5) nd rfl (Or.inl rfl) (Or.inl rfl)) (pgs_cons (pg_name (i := 6) nd rfl (Or.inl rfl) (Or.inl rfl)) pgs_nil))))
      (pss_cons (ps_expr (pe_bm PySem.F.plainAttrs_list PySem.F.slot_list_append PySem.F.type_list_append mt_append (pv 2) (pa_cons (pe_tup (pa_cons (pv 5) (pa_cons (pv 6) pa_nil))) pa_nil)))
      (pss_one (ps_set (i := 3) nd rfl (Or.inl rfl) (pe_mt B S.cls (pv 0) (hr.mono (by decide)) (pa_cons (pv 3) (pa_cons (pv 5) (pa_cons (pv 6) pa_nil)))))))))
    (pss_one (ps_ret (pe_callTy call_tuple_of (by rfl) T.tuple (by decide +kernel) (pa_cons (pv 2) pa_nil))))), ?_⟩
  obtain ⟨a, dx, nn, e, pp, ps, vs, rfl, sl, v0, v1, hnn, v2, dre, v3, hpp, prs⟩ := id sw.ex
  have kp := kpG d near
  have l8 : left.length ≤ 8 := Nat.le_trans hsub.length_le (nms_len nok)
  have nd0 : (nms near).Nodup := nok.nd
  have m8 : mostN near left ≤ 8 := Nat.le_trans (mostN_le nok.sym (nd0.sublist hsub)) l8
  refine ⟨by show (0 : Nat) ≤ sizeLine; decide, fun D hD => ⟨u, rfl, .ref D, u, rfl, ?_⟩⟩
  have r0 : Rg d near H (upd H D (.lst [])) := kp.new hD
  have hD0 : (upd H D (.lst [])) D = some (.lst []) := upd_same
  generalize upd H D (.lst []) = H0 at r0 hD0
  refine ⟨.ref a, rfl, a, dx, vs, rfl, slt_kp kp r0 sl, u, rfl, .ref a, u, d, near, left, rfl, sw.mono kp r0, nok, r0.2 gm, hu.mono kp r0, hsub, l8, fun H1 r1 => ?_⟩
  generalize hm : mostN near left = m at m8 k
  refine ⟨1, rfl, (m : Int), 0, -1, m, rfl, ?_, for_rangeC (lo := (m : Int)) (c := -1) (n := m) (fun i σ H' => ∃ acc dn rest rv o4 o5 o6, σ = [some (.ref a), some u, some (.ref D), some rv, o4, o5, o6] ∧ Rg d near H H' ∧ H' D = some (.lst acc) ∧ acc.length = i ∧ Paired (PairS H') acc dn ∧ NS H' rv rest ∧ rest.Sublist (nms near) ∧ i ≤ m ∧ mostN near rest = m - i ∧ leastN near m left = dn ++ leastN near (m - i) rest)
    ⟨[], [], left, u, none, none, none, rfl, kp.trans r0 r1, kp.keep r1 hD0 (fun _ z => by cases z), rfl, .nil, hu.mono kp (kp.trans r0 r1), hsub, Nat.zero_le _, by rw [hm]; rfl, rfl⟩ (fun i σ H' hi h => ?_) (fun σ H' h => ?_)⟩
  · have := RgC.neg (i := (m : Int)) (j := 0) (by omega) (by omega) (by decide) (by decide)
    rw [show ((m : Int) - 0).toNat = m by omega] at this
    exact this
  · obtain ⟨acc, dn, rest, rv, o4, o5, o6, rfl, rg, hacc, hal, hpr, hrv, hrs, hi2, hmr, hle⟩ := h
    obtain ⟨j, hj⟩ : ∃ j, m - i = j + 1 := ⟨m - i - 1, by omega⟩
    rw [hj] at hmr hle
    obtain ⟨p, r', hf, hmb⟩ := GE.firsts_ne (near := nearF near) (lt := ltS) nok.sym ordS (names := nms near) (nd0.sublist hrs) (fun x hx => hrs.subset hx) hmr
    have hcast : (m : Int) + (i : Nat) * (-1) = ((m - i : Nat) : Int) := by omega
    refine ⟨.ref a, rfl, a, dx, vs, rfl, slt_kp kp rg sl, rv, rfl, .int ((m : Int) + (i : Nat) * (-1)), rfl, .ref a, rv, m - i, d, near, rest, by rw [hcast], sw.mono kp rg, nok, rg.2 gm, hrv, hrs, fun fr H2 r2 hps => ?_⟩
    obtain ⟨q, ps2, rfl, hq, hpq⟩ := hps
    rw [hj] at hpq
    have hfs : firstsN near rest (j + 1) = p :: r' := hf
    rw [hfs] at hpq
    cases hpq with
    | cons hx hpq' =>
      obtain ⟨t, rfl, ht⟩ := hx
      have rg2 := kp.trans rg r2
      refine ⟨q, _, 0, .ref t, rfl, rfl, SqL.of hq, atI_nat (j := 0) rfl, t, _, rfl, SqT.of ht, rfl, .str p.1, _, rfl, .str p.2, [], rfl, rfl, ?_⟩
      have hD2 := kp.keep r2 hacc fun _ z => by cases z
      refine ⟨.ref D, rfl, .inl ⟨rfl, _, SqL.of hD2⟩, .str p.1, rfl, .str p.2, rfl, by show (2 : Nat) ≤ sizeLine; decide, fun t2 ht2 => ?_⟩
      have r3 : Rg d near H2 (upd H2 t2 (.tup [.str p.1, .str p.2])) := kp.new ht2
      have ht3 : (upd H2 t2 (.tup [.str p.1, .str p.2])) t2 = some (.tup [.str p.1, .str p.2]) := upd_same
      generalize upd H2 t2 (.tup [.str p.1, .str p.2]) = H3 at r3 ht3
      have hD3 := kp.keep r3 hD2 fun _ z => by cases z
      have rg3 := kp.trans rg2 r3
      refine ⟨D, acc, _, rfl, rfl, hD3, sz_lt (by omega), ?_⟩
      have rg4 : Rg d near H (upd H3 D (.lst (acc ++ [.ref t2]))) := kp.mtn rg3 hD
      have hD4 : (upd H3 D (.lst (acc ++ [.ref t2]))) D = some (.lst (acc ++ [.ref t2])) := upd_same
      have pr4 : Paired (PairS (upd H3 D (.lst (acc ++ [.ref t2])))) (acc ++ [.ref t2]) (dn ++ [p]) := paired_snoc (L2.Paired.mapP hpr fun _ _ q => (q.ex (kp.kd (kp.trans r2 r3))).updL hD3) (PairS.updL hD3 ⟨t2, rfl, ht3⟩)
      have hrv4 : NS (upd H3 D (.lst (acc ++ [.ref t2]))) rv rest := by
        obtain ⟨b, e, hb⟩ := hrv.mono kp (kp.trans r2 r3)
        exact ⟨b, e, by rw [upd_ne (fun z => by rw [z, hD3] at hb; cases hb)]; exact hb⟩
      generalize upd H3 D (.lst (acc ++ [.ref t2])) = H4 at rg4 hD4 pr4 hrv4
      have rl : rest.length ≤ 8 := Nat.le_trans hrs.length_le (nms_len nok)
      refine ⟨.ref a, rfl, a, dx, vs, rfl, slt_kp kp rg4 sl, rv, rfl, .str p.1, rfl, .str p.2, rfl, .ref a, rv, rest, p.1, p.2, rfl, hrv4.nt, by omega, fun nr H5 e5 hnr => ?_⟩
      refine ⟨acc ++ [.ref t2], dn ++ [p], behL rest p.1 p.2, nr, _, _, _, rfl, kp.trans rg4 (kp.ex e5), e5 _ _ hD4, by rw [List.length_append, hal]; rfl, L2.Paired.mapP pr4 fun _ _ q => q.ex (Ex.kd e5), hnr, List.filter_sublist.trans hrs, by omega, ?_, ?_⟩
      · have : m - (i + 1) = j := by omega
        rw [this]
        exact hmb
      · have : m - (i + 1) = j := by omega
        rw [this, hle]
        have : leastN near (j + 1) rest = p :: leastN near j (behL rest p.1 p.2) := by
          show GE.least (nearF near) ltS (nms near) (j + 1) rest = _
          rw [GE.least, hf]
        rw [this, List.append_assoc]
        rfl
  · obtain ⟨acc, dn, rest, rv, o4, o5, o6, rfl, rg, hacc, hal, hpr, hrv, hrs, hi2, hmr, hle⟩ := h
    rw [Nat.sub_self] at hle
    have e0 : leastN near m left = dn := by
      rw [hle]
      show dn ++ GE.least (nearF near) ltS (nms near) 0 rest = dn
      rw [GE.least, List.append_nil]
    rw [e0] at k
    refine ⟨.ref D, rfl, D, acc, rfl, .inl ⟨SqL.of hacc, fun r hr => k _ _ (kp.trans rg (kp.new hr)) ⟨r, acc, rfl, upd_same, L2.Paired.mapP hpr fun _ _ q => q.ex (kp.kd (kp.new hr))⟩⟩⟩
end
end CH
/-! text W12 -/
/-! Swapping.lump. -/
namespace CH
open PySem L2 Evl RZ
abbrev adjN (near : Rows) : Str → Str → Prop := GE.adj (nearF near)
/-- those of some that hang together with n -/
noncomputable def lumpN (near : Rows) (some : List Str) (n : Str) : List Str := some.filter fun y => @decide (GE.Rch (adjN near) (· ∈ some) n y) (Classical.propDecidable _)
theorem mem_lumpN {near : Rows} {some : List Str} {n y : Str} : y ∈ lumpN near some n ↔ y ∈ some ∧ GE.Rch (adjN near) (· ∈ some) n y := by
  unfold lumpN
  rw [List.mem_filter, @decide_eq_true_eq _ (Classical.propDecidable _)]
/-- a search under way -/
structure Bfs (near : Rows) (some : List Str) (n : Str) (F W : List Str) : Prop where
  nd : F.Nodup
  sub : ∀ x ∈ F, x ∈ some
  self : n ∈ F
  rch : ∀ x ∈ F, GE.Rch (adjN near) (· ∈ some) n x
  wsub : ∀ x ∈ W, x ∈ F
  wnd : W.Nodup
  shut : ∀ x ∈ F, x ∉ W → ∀ y ∈ nearF near x, y ∈ some → y ∈ F
theorem Bfs.start {near : Rows} {some : List Str} {n : Str} (h : n ∈ some) : Bfs near some n [n] [n] where
  nd := List.nodup_cons.mpr ⟨by simp, List.nodup_nil⟩
  sub := fun x hx => by rw [List.mem_singleton.mp hx]; exact h
  self := List.mem_singleton.mpr rfl
  rch := fun x hx => by rw [List.mem_singleton.mp hx]; exact .refl
  wsub := fun x hx => hx
  wnd := List.nodup_cons.mpr ⟨by simp, List.nodup_nil⟩
  shut := fun x hx hn => absurd hx hn
def nextW (near : Rows) (some F W : List Str) : List Str := (asS (W.flatMap (nearF near))).filter fun o => decide (o ∈ some) && !decide (o ∈ F)
theorem mem_nextW {near : Rows} {some F W : List Str} {x : Str} : x ∈ nextW near some F W ↔ (∃ y ∈ W, x ∈ nearF near y) ∧ x ∈ some ∧ x ∉ F := by
  unfold nextW
  rw [List.mem_filter, mem_asS, List.mem_flatMap]
  simp
theorem Bfs.next {near : Rows} {some : List Str} {n : Str} {F W : List Str} (b : Bfs near some n F W) : Bfs near some n (F ++ nextW near some F W) (nextW near some F W) where
  nd := List.nodup_append.mpr ⟨b.nd, (asc_asS _).nodup.sublist List.filter_sublist, fun x hx y hy e => by subst e; exact (mem_nextW.mp hy).2.2 hx⟩
  sub := fun x hx => by
    rcases List.mem_append.mp hx with h | h
    · exact b.sub x h
    · exact (mem_nextW.mp h).2.1
  self := List.mem_append_left _ b.self
  rch := fun x hx => by
    rcases List.mem_append.mp hx with h | h
    · exact b.rch x h
    · obtain ⟨⟨y, hy, hxy⟩, hs, _⟩ := mem_nextW.mp h
      exact .step (b.rch y (b.wsub y hy)) hxy hs
  wsub := fun x hx => List.mem_append_right _ hx
  wnd := (asc_asS _).nodup.sublist List.filter_sublist
  shut := fun x hx hn y hy hs => by
    rcases List.mem_append.mp hx with h | h
    · by_cases hw : x ∈ W
      · by_cases hf : y ∈ F
        · exact List.mem_append_left _ hf
        · exact List.mem_append_right _ (mem_nextW.mpr ⟨⟨x, hw, hy⟩, hs, hf⟩)
      · exact List.mem_append_left _ (b.shut x h hw y hy hs)
    · exact absurd h hn
theorem Bfs.done {near : Rows} {some : List Str} {n : Str} {F : List Str} (b : Bfs near some n F []) (asc : Asc some) : asS F = lumpN near some n := by
  refine (asS_of (asc.sublist List.filter_sublist) fun x => ?_).symm
  rw [show (x ∈ List.filter _ some) = (x ∈ lumpN near some n) from rfl, mem_lumpN]
  refine ⟨fun h => ?_, fun h => ⟨b.sub x h, b.rch x h⟩⟩
  have : ∀ {y}, GE.Rch (adjN near) (· ∈ some) n y → y ∈ F := fun {y} r => by
    induction r with
    | refl => exact b.self
    | step r g w ih => exact b.shut _ ih (by simp) _ g w
  exact this h.2
theorem flat_len {near : Rows} (N : NearOk near) : ∀ W : List Str, (W.flatMap (nearF near)).length ≤ W.length * 7
  | [] => Nat.zero_le _
  | x :: W => by
    have := flat_len N W
    have := N.n7 x
    rw [List.flatMap_cons, List.length_append, List.length_cons]
    omega
section
variable {P : Program} {w : World} {K : PySem.W.Frag} {mg : Str → Option Value} {base : Heap} {f C CS : Addr}
abbrev sLump : Stmt := inn 17 14
abbrev nLump : List Str := ["self", "name", "some", "found", "new", "near", "one", "other"]
theorem scLump : FnScope nLump ["self", "name", "some"] (defScope sLump) := ⟨rfl, rfl, rfl, by decide +kernel, rfl, by decide +kernel, by decide +kernel⟩
def spLump (K : PySem.W.Frag) (C : Addr) : Sp := fun vs H Q _ => ∃ (v u : V) (n : Str) (d : Addr) (near : Rows) (some : List Str), vs = [v, .str n, u] ∧ SwI C H v d near ∧ NearOk near ∧ NT K H u some ∧ some.Sublist (nms near) ∧ Asc some ∧ n ∈ some ∧ RT H Q (lumpN near some n)
theorem ok_lump (F : Fn K "lump" "Swapping.lump" sLump [] [] f) (T : Blt mg) (S : SwC K mg C) (GA : Pr P w K mg base "as_set" 1 (spAsSet K)) : FnR P w K mg base CX0 2 f (spLump K C) := by
  have nd := scLump.nd
  refine Fn.ok0 (ps := ["self", "name", "some"]) F scLump (fun kV doc pm an cdv ct us hl => by match us, hl with | [u, u2, u3], _ => rfl) (fun vs H Q E ⟨_, _, _, _, _, _, e, _⟩ => by rw [e]; rfl) (fun cdv A outer s H vs Q E hr h => ?_)
  obtain ⟨v, u, n, d, near, some', rfl, sw, nok, hu, hsub, hasc, hin, k⟩ := h
  refine ⟨_, pss_cons (ps_asg (pe_tup (pa_cons (pe_lst (pa_cons (pv 1) pa_nil)) (pa_cons (pe_lst (pa_cons (pv 1) pa_nil)) pa_nil))) (pg_tup rfl (pgs_cons (pg_name (i := 3) nd rfl (Or.inr rfl) (Or.inl rfl)) (pgs_cons (pg_name (i := 4) nd rfl (Or.inl rfl) (Or.inl rfl)) pgs_nil))))
    (pss_cons (ps_while PassesOwn.never (pt_cmpR op_gt (pe_callB call_len_seq (by rfl) T.len (by decide +kernel) (pa_cons (pv 4) pa_nil)) pe_int (nomark _))
      (pss_cons (ps_set (i := 5) nd rfl (Or.inl rfl) (pe_pr GA hr (by rfl) (pa_cons (pe_lc2 (own := [("one", 6), ("other", 7)]) (vs1 := [7]) (g := gName 6) (g1 := gName 7) (tt := tYes) (tt1 := tYes) rfl nd (pi_list (pv 4)) (blkOk_by (N := nLump) (sc := defScope sLump) (by decide +kernel)) (by decide)
          (fun _ _ _ _ _ => pg_name (i := 6) nd rfl (Or.inl rfl)) (fun _ _ _ _ _ => pts_nil) (fun _ _ _ _ _ => pi_tupK K (pe_dget (huR hr) (pe_slK K (pv 0)) (pv 6) (fun _ _ => rfl))) (fun _ _ _ _ _ => pg_name (i := 7) nd rfl (Or.inl rfl)) (fun _ _ _ _ _ => pts_nil) (fun _ _ _ _ _ => pv 7)) pa_nil)))
      (pss_cons (ps_setLc (i := 4) (own := [("other", 7)]) (g := gName 7) rfl nd rfl rfl (sw_true rfl rfl rfl (by decide +kernel)) (pi_tup (pv 5)) (blkOk_by (N := nLump) (sc := defScope sLump) (by decide +kernel))
        (fun _ _ _ _ _ => pg_name (i := 7) nd rfl (Or.inl rfl)) (fun _ _ _ _ _ => pts_one (PW.pt (pw_and (pt_cmpR (opInS K) (pv 7) (pv 2) (by with_unfolding_all rfl)) (pw_and1 (pt_cmpR (opNotInS K) (pv 7) (pv 3) (by with_unfolding_all rfl)))))) (fun _ _ _ _ _ => pv 7))
      (pss_one (ps_expr (pe_bm PySem.F.plainAttrs_list PySem.F.slot_list_extend PySem.F.type_list_extend mt_extend (pv 3) (pa_cons (pv 4) pa_nil)))))))
    (pss_one (ps_ret (pe_pr GA hr (by rfl) (pa_cons (pv 3) pa_nil))))), ?_⟩
  obtain ⟨a, dx, nn, e, pp, ps, vs, rfl, sl, v0, v1, hnn, v2, dre, v3, hpp, prs⟩ := id sw.ex
  obtain ⟨p2, q2⟩ := S.s2
  obtain ⟨ub, rfl, hub⟩ := hu
  have s8 : some'.length ≤ 8 := Nat.le_trans hsub.length_le (nms_len nok)
  refine ⟨.str n, rfl, by show (1 : Nat) ≤ sizeLine; decide, fun p1 hp1 => ⟨.str n, rfl, by show (1 : Nat) ≤ sizeLine; decide, fun pn hpn => ⟨by show (2 : Nat) ≤ sizeLine; decide, fun t ht => ?_⟩⟩⟩
  have e1 : Ex H (upd H p1 (.lst [.str n])) := Ex.new hp1
  have h1 : (upd H p1 (.lst [.str n])) p1 = some (.lst (sL [n])) := upd_same
  generalize upd H p1 (.lst [.str n]) = H1 at e1 h1 hpn ht
  have e2 : Ex H1 (upd H1 pn (.lst [.str n])) := Ex.new hpn
  have h2 : (upd H1 pn (.lst [.str n])) pn = some (.lst (sL [n])) := upd_same
  have npn : pn ≠ p1 := fun z => by rw [z, h1] at hpn; cases hpn
  generalize upd H1 pn (.lst [.str n]) = H2 at e2 h2 ht
  have e3 : Ex H2 (upd H2 t (.tup [.ref p1, .ref pn])) := Ex.new ht
  have h3 : (upd H2 t (.tup [.ref p1, .ref pn])) t = some (.tup [.ref p1, .ref pn]) := upd_same
  generalize upd H2 t (.tup [.ref p1, .ref pn]) = H3 at e3 h3
  refine ⟨t, [.ref p1, .ref pn], rfl, SqT.of h3, rfl, .ref p1, _, rfl, .ref pn, [], rfl, rfl, ?_⟩
  refine ⟨fun m σ H' => ∃ F W na o5 o6 o7, σ = [some (.ref a), some (.str n), some (.ref ub), some (.ref p1), some (.ref na), o5, o6, o7] ∧ Ex H H' ∧ H' p1 = some (.lst (sL F)) ∧ H' na = some (.lst (sL W)) ∧ na ≠ p1 ∧ Bfs near some' n F W ∧ m = 2 * (some'.length - F.length) + (if W = [] then 0 else 1),
    ⟨_, [n], [n], pn, none, none, none, rfl, (e1.trans e2).trans e3, (e2.trans e3) _ _ h1, e3 _ _ h2, npn, .start hin, rfl⟩, ?_⟩
  rintro m σ H4 ⟨F, W, na, o5, o6, o7, rfl, e4, hF, hW, nna, b, hm⟩
  have fl : F.length ≤ 8 := Nat.le_trans (nodup_len b.nd b.sub) s8
  have wl : W.length ≤ 8 := Nat.le_trans (nodup_len b.wnd fun x hx => b.sub x (b.wsub x hx)) s8
  have sl4 := slt_kp kpE e4 sl
  refine ⟨.ref na, rfl, na, sL W, rfl, .inl (SqL.of hW), ((sL W).length : Int), 0, rfl, rfl, _, rfl, ?_⟩
  by_cases hw : W = []
  · subst hw
    refine iteN (by rfl) ?_
    refine ⟨.ref p1, rfl, p1, F, rfl, SqL.of hF, by omega, fun r H5 e5 hr5 => ?_⟩
    rw [b.done hasc] at hr5
    exact k _ _ (e4.trans e5) hr5
  · have hpos : 0 < W.length := List.length_pos_iff.mpr hw
    refine iteY (decide_eq_true (show (0 : Int) < ((sL W).length : Int) by rw [List.length_map]; omega)) ?_
    refine ⟨fun σ' H' => ∃ m', m' < m ∧ ∃ F W na o5 o6 o7, σ' = [some (.ref a), some (.str n), some (.ref ub), some (.ref p1), some (.ref na), o5, o6, o7] ∧ Ex H H' ∧ H' p1 = some (.lst (sL F)) ∧ H' na = some (.lst (sL W)) ∧ na ≠ p1 ∧ Bfs near some' n F W ∧ m' = 2 * (some'.length - F.length) + (if W = [] then 0 else 1), fun σ' H' h => h, ?_⟩
    have fmW := flat_len nok W
    refine ⟨.ref na, rfl, na, rfl, ⟨_, SqL.of hW⟩, lc2E (goes_lstM kpE (SqL.of hW)) (fun i acc _ => acc = sL ((W.take i).flatMap (nearF near))) (fun _ _ => rfl) (fun D i y H' hi hy o => ?_) (fun D H5 acc hD e5 hacc pr => ?_)⟩
    · obtain ⟨z, hzi, rfl⟩ := hy
      have hzm : z ∈ nms near := hsub.subset (b.sub z (b.wsub z (List.mem_of_getElem? hzi)))
      obtain ⟨wv, gw, b3, rfl, hb3⟩ := dicR_some (dre.kd (Ex.kd (e4.trans o.step))) (near_some hzm)
      have tk : W.take (i + 1) = W.take i ++ [z] := take_succ_some hzi
      refine ⟨rfl, .ref a, rfl, a, C, dx, p2, vs, 2, _, rfl, slt_kp kpE o.step sl4, S.cls, q2, v2, .str z, rfl, e, .ref b3, rfl, gw, b3, rfl, ⟨_, SqT.of hb3⟩, ?_⟩
      have hb3' : SqT K (del H' D) b3 (sL (nearF near z)) := SqT.of (by
        rw [del_ne]
        · exact hb3
        · intro y
          subst y
          obtain ⟨_, acc, _, _, ha, _⟩ := o
          rw [ha] at hb3; cases hb3)
      refine lc2I (fun j acc _ => acc = sL ((W.take i).flatMap (nearF near) ++ (nearF near z).take j)) (goes_tupM kpE hb3') (o.to (Ex.refl _) fun acc p => by rw [p]; simp) (fun H2 o2 => o2.to (Ex.refl _) fun acc p => ?_) (fun j y H2 hj hy e2 o2 => ?_)
      · rw [p, tk, List.flatMap_append, List.flatMap_cons, List.flatMap_nil, List.append_nil, List.take_length]
      · obtain ⟨x, hxj, rfl⟩ := hy
        refine ⟨rfl, .str x, rfl, ?_⟩
        refine o2.yes2 e2 (Ex.refl _) (fun acc H hp => ?_) (fun acc hacc hp => ?_)
        · rw [hp, List.length_map, List.length_append]
          have h1 := flat_len nok (W.take i)
          have h2 : (W.take i).length ≤ 8 := by rw [List.length_take]; omega
          have h3 : ((nearF near z).take (j + 1)).length ≤ 7 := by rw [List.length_take]; have := nok.n7 z; omega
          omega
        · rw [hp, take_succ_some hxj, ← List.append_assoc]
          show _ = sL _
          unfold sL
          rw [List.map_append (l₂ := [x])]
          rfl
    rw [List.take_length] at pr
    subst pr
    refine ⟨D, W.flatMap (nearF near), rfl, SqL.of hacc, by omega, fun r H6 e6 hr6 => ?_⟩
    obtain ⟨rb, rfl, hrb⟩ := hr6
    have e46 := (e4.trans e5).trans e6
    have hF6 := (e5.trans e6) _ _ hF
    have al : (asS (W.flatMap (nearF near))).length ≤ 100 := by have := asS_len (W.flatMap (nearF near)); omega
    refine ⟨.ref rb, rfl, rb, rfl, ⟨_, SqT.of hrb⟩, fmJ kpE V.str (fun o => decide (o ∈ some') && !decide (o ∈ F)) V.str (asS (W.flatMap (nearF near))) (goes_tupM kpE (SqT.of hrb)) rfl (by omega) (by show 7 < 8; decide) (fun _ => rfl) (fun o H' ho eo Q' q => ?_) (fun o H' _ _ _ Q' q => ⟨.str o, rfl, q _ _ (Ex.refl _) rfl⟩) (fun D2 H7 hD2 e7 hl7 => ?_)⟩
    · refine ⟨.str o, rfl, .ref ub, rfl, o, ub, some', rfl, rfl, .inl (kpE.tup (e46.trans eo) hub), _, rfl, ?_⟩
      have := q H' (Ex.refl _)
      cases h1 : decide (o ∈ some') with
      | false => rw [h1] at this; exact this
      | true =>
        rw [h1] at this
        exact ⟨.str o, rfl, .ref p1, rfl, o, p1, F, rfl, rfl, .inr (SqL.of (eo _ _ hF6)), _, rfl, this⟩
    have hF7 := e7 _ _ hF6
    have nD2 : D2 ≠ p1 := fun z => by rw [z, hF6] at hD2; cases hD2
    have b' := b.next
    have hl7' : H7 D2 = some (.lst (sL (nextW near some' F W))) := hl7
    have f2 : (F ++ nextW near some' F W).length ≤ some'.length := nodup_len b'.nd b'.sub
    rw [List.length_append] at f2
    refine ⟨.ref p1, rfl, .inl ⟨rfl, _, SqL.of hF7⟩, .ref D2, rfl, p1, D2, sL F, sL (nextW near some' F W), rfl, rfl, hF7, hl7', ?_, ?_⟩
    · rw [List.length_map, List.length_map, sizeLine_eq]
      omega
    · refine ⟨_, ?_, F ++ nextW near some' F W, nextW near some' F W, D2, _, _, _, rfl, kpE.mtn (e46.trans e7) hp1, ?_, ?_, nD2, b', rfl⟩
      · rw [hm, if_neg hw, List.length_append]
        by_cases hz : nextW near some' F W = []
        · rw [if_pos hz, hz, List.length_nil]; omega
        · have := List.length_pos_iff.mpr hz
          rw [if_neg hz]; omega
      · rw [upd_same]
        unfold sL
        rw [List.map_append]
      · rw [upd_ne nD2]; exact hl7'
end
end CH
/-! text W13 -/
/-! Swapping.lumps. -/
namespace CH
open PySem L2 Evl RZ
def strsD (l : List Str) : PyData := .tuple (l.map .str)
theorem alike_strs : ∀ l m : List Str, PySem.W.alikeAll (l.map .str) (m.map .str) = true
  | [], [] => by simp [PySem.W.alikeAll]
  | [], _ :: _ => by simp [PySem.W.alikeAll]
  | _ :: _, [] => by simp [PySem.W.alikeAll]
  | x :: l, y :: m => by simp [PySem.W.alikeAll, PySem.W.alike, alike_strs l m]
theorem alike_strsD (l m : List Str) : PySem.W.alike (strsD l) (strsD m) = true := by
  unfold strsD
  simp [PySem.W.alike, alike_strs]
theorem depth_strs (l : List Str) : (strsD l).depth ≤ 2 := by
  have h : ∀ l : List Str, PyData.depthAll (l.map .str) = 0 := fun l => by
    induction l with
    | nil => rfl
    | cons x l ih => rw [List.map_cons, PyData.depthAll, ih]; rfl
  unfold strsD
  rw [PyData.depth, h]
  decide
noncomputable def lumpsStep (near : Rows) (some : List Str) (acc : List (List Str)) (n : Str) : List (List Str) := if (acc.any fun p => decide (n ∈ p)) = true then acc else acc ++ [lumpN near some n]
theorem step_yes {near : Rows} {some : List Str} {acc : List (List Str)} {n : Str} (h : (acc.any fun p => decide (n ∈ p)) = true) : lumpsStep near some acc n = acc := by unfold lumpsStep; exact if_pos h
theorem step_no {near : Rows} {some : List Str} {acc : List (List Str)} {n : Str} (h : (acc.any fun p => decide (n ∈ p)) = false) : lumpsStep near some acc n = acc ++ [lumpN near some n] := by unfold lumpsStep; exact if_neg (by rw [h]; decide)
noncomputable def lumpsF (near : Rows) (some : List Str) : List (List Str) := some.foldl (lumpsStep near some) []
noncomputable def lumpsN (near : Rows) (some : List Str) : List (List Str) := (lumpsF near some).mergeSort (PySem.W.dataLe false strsD)
/-- a list of tuples of names -/
def PartsL (H : Hp) (v : V) (L : List (List Str)) : Prop := ∃ a ps, v = .ref a ∧ H a = some (.lst ps) ∧ Paired (NS H) ps L
theorem PartsL.kd {H H' : Hp} (k : Kd H H') {v : V} {L : List (List Str)} (h : PartsL H v L) : PartsL H' v L := let ⟨a, ps, e, z, p⟩ := h; ⟨a, ps, e, k _ (.lst _) trivial z, L2.Paired.mapP p fun _ _ q => k.ns q⟩
theorem NS.updL {H : Hp} {D : Addr} {l o : List V} (h : H D = some (.lst l)) {v : V} {n : List Str} (z : NS H v n) : NS (upd H D (.lst o)) v n := by
  obtain ⟨a, e, t⟩ := z
  exact ⟨a, e, by rw [upd_ne (fun q => by rw [q, h] at t; cases t)]; exact t⟩
theorem lumpsF_ne {near : Rows} {some : List Str} : ∀ K ∈ lumpsF near some, K ≠ [] := by
  have : ∀ (l : List Str) (acc : List (List Str)), (∀ x ∈ l, x ∈ some) → (∀ K ∈ acc, K ≠ []) → ∀ K ∈ l.foldl (lumpsStep near some) acc, K ≠ [] := fun l => by
    induction l with
    | nil => intro acc _ h; exact h
    | cons x l ih =>
      intro acc hl h
      refine ih _ (fun y hy => hl y (List.mem_cons_of_mem _ hy)) fun K hK => ?_
      unfold lumpsStep at hK
      split at hK
      · exact h K hK
      · rcases List.mem_append.mp hK with hK | hK
        · exact h K hK
        · rw [List.mem_singleton.mp hK]
          intro z
          have : x ∈ lumpN near some x := mem_lumpN.mpr ⟨hl x List.mem_cons_self, .refl⟩
          rw [z] at this
          simp at this
  exact this some [] (fun x h => h) (fun K h => by simp at h)
theorem lumpsF_len (near : Rows) (some : List Str) : ∀ l : List Str, (l.foldl (lumpsStep near some) []).length ≤ l.length := by
  have : ∀ (l : List Str) (acc : List (List Str)), (l.foldl (lumpsStep near some) acc).length ≤ acc.length + l.length := fun l => by
    induction l with
    | nil => intro acc; exact Nat.le_refl _
    | cons x l ih =>
      intro acc
      refine Nat.le_trans (ih _) ?_
      unfold lumpsStep
      split
      · simp
      · simp; omega
  intro l
  have := this l []
  simpa using this
section
variable {P : Program} {w : World} {K : PySem.W.Frag} {mg : Str → Option Value} {base : Heap} {f C CS : Addr}
abbrev sLumps : Stmt := inn 17 15
abbrev nLumps : List Str := ["self", "some", "found", "name", "part"]
theorem scLumps : FnScope nLumps ["self", "some"] (defScope sLumps) := ⟨rfl, rfl, rfl, by decide +kernel, rfl, by decide +kernel, by decide +kernel⟩
def spLumps (K : PySem.W.Frag) (C : Addr) : Sp := fun vs H Q _ => ∃ (v u : V) (d : Addr) (near : Rows) (some : List Str), vs = [v, u] ∧ SwI C H v d near ∧ NearOk near ∧ NT K H u some ∧ some.Sublist (nms near) ∧ Asc some ∧ ∀ r H', Ex H H' → PartsL H' r (lumpsN near some) → Q r H'
theorem ok_lumps (F : Fn K "lumps" "Swapping.lumps" sLumps [] [] f) (T : Blt mg) (S : SwC K mg C) (ML : MtP P w K mg base C "lump" 2 (spLump K C)) : FnR P w K mg base CX0 3 f (spLumps K C) := by
  have nd := scLumps.nd
  refine Fn.ok0 (ps := ["self", "some"]) F scLumps (fun kV doc pm an cdv ct us hl => by match us, hl with | [u, u2], _ => rfl) (fun vs H Q E ⟨_, _, _, _, _, e, _⟩ => by rw [e]; rfl) (fun cdv A outer s H vs Q E hr h => ?_)
  obtain ⟨v, u, d, near, some', rfl, sw, nok, hu, hsub, hasc, k⟩ := h
  refine ⟨_, pss_cons (ps_set (i := 2) nd rfl (Or.inl rfl) (pe_lst pa_nil))
    (pss_cons (ps_for PassesOwn.never rfl (pi_tup (pv 1)) (pg_name (i := 3) nd rfl (Or.inr rfl) (Or.inl rfl))
      (pss_one (ps_if (pt_not (pt_val (pe_callB (cr_any rfl) (by rfl) T.any (by decide +kernel) (pa_cons (pe_lc (own := [("part", 4)]) (g := gName 4) (tt := tYes) rfl nd (pi_list (pv 2)) (blkOk_by (N := nLumps) (sc := defScope sLumps) (by decide +kernel))
          (fun _ _ _ _ _ => pg_name (i := 4) nd rfl (Or.inl rfl)) (fun _ _ _ _ _ => pts_nil) (fun _ _ _ _ _ => pe_cmpR (opInS K) (pv 3) (pv 4) (by with_unfolding_all rfl))) pa_nil))))
        (pss_one (ps_expr (pe_bm PySem.F.plainAttrs_list PySem.F.slot_list_append PySem.F.type_list_append mt_append (pv 2) (pa_cons (pe_mt ML S.cls (pv 0) hr (pa_cons (pv 3) (pa_cons (pv 1) pa_nil))) pa_nil)))) pss_nil)))
    (pss_one (ps_ret (pe_callB (cr_sortD hr.units) (by rfl) T.sorted (by decide +kernel) (pa_cons (pv 2) pa_nil))))), ?_⟩
  obtain ⟨a, dx, nn, e, pp, ps, vs, rfl, sl, v0, v1, hnn, v2, dre, v3, hpp, prs⟩ := id sw.ex
  obtain ⟨ub, rfl, hub⟩ := hu
  have s8 : some'.length ≤ 8 := Nat.le_trans hsub.length_le (nms_len nok)
  refine ⟨by show (0 : Nat) ≤ sizeLine; decide, fun D hD => ?_⟩
  have e0 : Ex H (upd H D (.lst [])) := Ex.new hD
  refine ⟨.ref ub, rfl, ub, rfl, ⟨_, kpE.tup e0 hub⟩, for_tup (xs := sL some') (fun i σ H' => ∃ acc o3 o4, σ = [some (.ref a), some (.ref ub), some (.ref D), o3, o4] ∧ Ex H H' ∧ H' D = some (.lst acc) ∧ Paired (NS H') acc ((some'.take i).foldl (lumpsStep near some') [])) ⟨[], none, none, rfl, e0, upd_same, .nil⟩ (fun i σ H' _ h => by obtain ⟨_, _, _, _, e, _⟩ := h; exact kpE.tup e hub) (fun i x σ H' hx h => ?_) (fun σ H' h => ?_)⟩
  · obtain ⟨acc, o3, o4, rfl, e1, hacc, pr⟩ := h
    obtain ⟨n, hni, rfl⟩ := nth_map hx
    have hn := List.mem_of_getElem? hni
    obtain ⟨zs, z1, z2, z3⟩ := pairs_zip pr
    have tk : some'.take (i + 1) = some'.take i ++ [n] := take_succ_some hni
    have zl : zs.length ≤ 8 := by
      have h1 : zs.length = ((some'.take i).foldl (lumpsStep near some') []).length := by rw [← z2, List.length_map]
      have h2 := lumpsF_len near some' (some'.take i)
      have h3 : (some'.take i).length ≤ 8 := by rw [List.length_take]; omega
      omega
    have hq1 : SqL K H' D (zs.map (·.1)) := by rw [z1]; exact SqL.of hacc
    refine ⟨.ref D, rfl, D, rfl, ⟨_, hq1⟩, fmJ kpE (fun z : V × List Str => z.1) (fun _ => true) (fun z => .bl (decide (n ∈ z.2))) zs (goes_lstM kpE hq1) rfl (by omega) (by show 4 < 5; decide) (fun _ => rfl) (fun _ _ _ _ => evT_yes kpE) (fun z H2 hz _ e2 Q' q => ?_) (fun D2 H2 hD2 e2 hl => ?_)⟩
    · obtain ⟨b, eb, hb⟩ := (z3 z hz).mono kpE e2
      exact ⟨.str n, rfl, z.1, rfl, n, b, z.2, rfl, eb, .inl (SqT.of hb), q _ _ (Ex.refl _) rfl⟩
    have hany : (zs.map fun z => decide (n ∈ z.2)).any id = ((some'.take i).foldl (lumpsStep near some') []).any fun p => decide (n ∈ p) := by
      rw [← z2, List.any_map, List.any_map]
      rfl
    rw [all_filter_true] at hl
    refine ⟨D2, zs.map fun z => decide (n ∈ z.2), rfl, SqL.of (by rw [List.map_map]; exact hl), _, rfl, ?_⟩
    rw [hany]
    cases hc : ((some'.take i).foldl (lumpsStep near some') []).any fun p => decide (n ∈ p) with
    | true =>
      refine ⟨acc, _, _, rfl, e1.trans e2, e2 _ _ hacc, ?_⟩
      rw [tk, List.foldl_append]
      show Paired (NS H2) acc (lumpsStep near some' _ n)
      rw [step_yes hc]
      exact L2.Paired.mapP pr fun _ _ q => q.mono kpE e2
    | false =>
      have e12 := e1.trans e2
      refine ⟨.ref D, rfl, .inl ⟨rfl, _, SqL.of (e2 _ _ hacc)⟩, .ref a, rfl, a, dx, vs, rfl, slt_kp kpE e12 sl, .str n, rfl, .ref ub, rfl, .ref a, .ref ub, n, d, near, some', rfl, sw.mono kpE e12, nok, ⟨ub, rfl, kpE.tup e12 hub⟩, hsub, hasc, hn, fun r H3 e3 hr3 => ?_⟩
      have hacc3 := e3 _ _ (e2 _ _ hacc)
      refine ⟨D, acc, _, rfl, rfl, hacc3, sz_lt ?_, ?_⟩
      · rw [← z1, List.length_map]; omega
      refine ⟨acc ++ [r], _, _, rfl, kpE.mtn (e12.trans e3) hD, upd_same, ?_⟩
      rw [tk, List.foldl_append]
      show Paired (NS _) (acc ++ [r]) (lumpsStep near some' _ n)
      rw [step_no hc]
      exact paired_snoc (L2.Paired.mapP pr fun _ _ q => (q.mono kpE (e2.trans e3)).updL hacc3) (hr3.updL hacc3)
  · obtain ⟨acc, o3, o4, rfl, e1, hacc, pr⟩ := h
    rw [List.length_map, List.take_length] at pr
    obtain ⟨zs, z1, z2, z3⟩ := pairs_zip pr
    have sort := fun z (hz : z ∈ zs) => (nt_dp (K := K) (z3 z hz).nt : Dp K H' z.1 (strsD z.2))
    refine ⟨.ref D, rfl, D, zs.map fun z => (z.1, strsD z.2), rfl, ?_, ?_, ?_, ?_, ?_, fun p hp => ?_⟩
    · rw [List.map_map]
      show SqL K H' D (zs.map (·.1))
      rw [z1]
      exact SqL.of hacc
    · intro b hb
      obtain ⟨z, hz, rfl⟩ := List.mem_map.mp hb
      exact sort z hz
    · rw [List.map_map]
      exact fun x hx y hy => by
        obtain ⟨p, _, rfl⟩ := List.mem_map.mp hx
        obtain ⟨q, _, rfl⟩ := List.mem_map.mp hy
        exact alike_strsD _ _
    · rw [List.map_map]
      refine .inl fun x hx => ?_
      obtain ⟨p, hp, rfl⟩ := List.mem_map.mp hx
      have : p.2 ≠ [] := lumpsF_ne p.2 (by show p.2 ∈ some'.foldl (lumpsStep near some') []; rw [← z2]; exact List.mem_map.mpr ⟨p, hp, rfl⟩)
      cases hq : p.2 with
      | nil => exact absurd hq this
      | cons y l => exact ⟨.str y, l.map .str, by show strsD p.2 = _; rw [hq]; rfl⟩
    · intro b hb
      obtain ⟨z, hz, rfl⟩ := List.mem_map.mp hb
      exact Nat.le_trans (depth_strs z.2) (by decide)
    · have e2 : Ex H' (upd H' p (.lst (((zs.map fun z => (z.1, strsD z.2)).mergeSort (PySem.W.dataLe false fun b : V × PyData => b.2)).map (·.1)))) := Ex.new hp
      have hp2 : (upd H' p (.lst (((zs.map fun z => (z.1, strsD z.2)).mergeSort (PySem.W.dataLe false fun b : V × PyData => b.2)).map (·.1)))) p = some _ := upd_same
      refine k (.ref p) (upd H' p (.lst (((zs.map fun z => (z.1, strsD z.2)).mergeSort (PySem.W.dataLe false fun b : V × PyData => b.2)).map (·.1)))) (e1.trans e2) ?_
      generalize upd H' p (.lst (((zs.map fun z => (z.1, strsD z.2)).mergeSort (PySem.W.dataLe false fun b : V × PyData => b.2)).map (·.1))) = H2 at e2 hp2 ⊢
      refine ⟨p, _, rfl, hp2, ?_⟩
      have m1 : (zs.map fun z => (z.1, strsD z.2)).mergeSort (PySem.W.dataLe false fun b : V × PyData => b.2) = (zs.mergeSort (PySem.W.dataLe false fun z => strsD z.2)).map fun z => (z.1, strsD z.2) := (List.map_mergeSort (r := PySem.W.dataLe false fun z : V × List Str => strsD z.2) (s := PySem.W.dataLe false fun b : V × PyData => b.2) (f := fun z => (z.1, strsD z.2)) (l := zs) (fun a _ b _ => rfl)).symm
      have m2 : lumpsN near some' = (zs.mergeSort (PySem.W.dataLe false fun z => strsD z.2)).map (·.2) := by
        unfold lumpsN
        rw [show lumpsF near some' = zs.map (·.2) from z2.symm]
        exact (List.map_mergeSort (r := PySem.W.dataLe false fun z : V × List Str => strsD z.2) (s := PySem.W.dataLe false strsD) (f := (·.2)) (l := zs) (fun a _ b _ => rfl)).symm
      rw [m1, m2, List.map_map]
      exact zip_pairs (F := NS _) fun z hz => (z3 z ((List.mergeSort_perm _ _).mem_iff.mp hz)).mono kpE e2
end
end CH
/-! text W14 -/
/-! Of a book: who suits whom; making a Swapping. -/
namespace CH
open PySem L2 Evl RZ
theorem mem_suited {rows : Rows} {n o : Str} : o ∈ suited rows n ↔ ∃ wn wo, lookR rows n = some wn ∧ lookR rows o = some wo ∧ o ∈ wn ∧ n ∈ wo := by
  unfold suited
  rw [List.mem_filter, Bool.and_eq_true, decide_eq_true_eq]
  constructor
  · rintro ⟨h1, h2, h3⟩
    cases e1 : lookR rows n with
    | none => rw [e1] at h1; simp at h1
    | some wn =>
      cases e2 : lookR rows o with
      | none => exact absurd h2 (lookR_none.mp e2)
      | some wo =>
        unfold suitL at h3
        rw [e1, e2] at h3
        simp at h3
        exact ⟨wn, wo, rfl, rfl, h3.1, h3.2⟩
  · rintro ⟨wn, wo, e1, e2, h1, h2⟩
    refine ⟨by rw [e1]; exact h1, List.mem_map.mpr ⟨_, lookR_some e2, rfl⟩, ?_⟩
    unfold suitL
    rw [e1, e2]
    simp [h1, h2]
theorem mem_near {rows : Rows} {gone : List Str} {n o : Str} : o ∈ nearF (nearOf rows gone) n ↔ (n ∉ gone ∧ o ∉ gone) ∧ o ∈ suited rows n := by
  unfold nearF
  constructor
  · intro h
    cases e : lookR (nearOf rows gone) n with
    | none => rw [e] at h; simp at h
    | some w =>
      have hm : n ∈ (nearOf rows gone).map (·.1) := List.mem_map.mpr ⟨_, lookR_some e, rfl⟩
      rw [near_look hm] at h
      rw [near_keys] at hm
      have h1 := (List.mem_filter.mp hm).2
      have h2 := List.mem_filter.mp h
      simp at h1 h2
      exact ⟨⟨h1, h2.2⟩, h2.1⟩
  · rintro ⟨⟨h1, h2⟩, h3⟩
    obtain ⟨wn, wo, e1, _⟩ := mem_suited.mp h3
    have hm : n ∈ (nearOf rows gone).map (·.1) := by
      rw [near_keys]
      exact List.mem_filter.mpr ⟨List.mem_map.mpr ⟨_, lookR_some e1, rfl⟩, by simp [h1]⟩
    rw [near_look hm]
    exact List.mem_filter.mpr ⟨h3, by simp [h2]⟩
theorem suited_symm {rows : Rows} {n o : Str} (h : o ∈ suited rows n) : n ∈ suited rows o := by
  obtain ⟨wn, wo, a, b, c, d⟩ := mem_suited.mp h
  exact mem_suited.mpr ⟨wo, wn, b, a, d, c⟩
theorem suited_irr {rows : Rows} {emp : List Str} (T : TomeOk rows emp) {n : Str} : n ∉ suited rows n := fun h => by
  obtain ⟨wn, wo, a, b, c, d⟩ := mem_suited.mp h
  exact T.wns _ (lookR_some a) c
theorem near_ok {rows : Rows} {emp : List Str} (T : TomeOk rows emp) (gone : List Str) : NearOk (nearOf rows gone) := by
  have sub : ∀ n, ∀ o ∈ nearF (nearOf rows gone) n, o ∈ (nearOf rows gone).map (·.1) := fun n o h => by
    obtain ⟨⟨_, h2⟩, h3⟩ := mem_near.mp h
    obtain ⟨wn, wo, _, b, _, _⟩ := mem_suited.mp h3
    rw [near_keys]
    exact List.mem_filter.mpr ⟨List.mem_map.mpr ⟨_, lookR_some b, rfl⟩, by simp [h2]⟩
  have sym : GE.Sym (GE.adj (nearF (nearOf rows gone))) := {
    sym := fun x y h => by
      obtain ⟨⟨h1, h2⟩, h3⟩ := mem_near.mp h
      exact mem_near.mpr ⟨⟨h2, h1⟩, suited_symm h3⟩
    irr := fun x h => suited_irr T (mem_near.mp h).2 }
  have klen : (nearOf rows gone).length ≤ 8 := by unfold nearOf; rw [List.length_map]; exact filter_len (by rw [List.length_map]; exact T.len)
  refine ⟨near_nd T gone, klen, nearF_len T gone, fun n => ?_, sym, sub⟩
  by_cases hm : n ∈ (nearOf rows gone).map (·.1)
  · have nd : (nearF (nearOf rows gone) n).Nodup := by
      unfold nearF
      rw [near_look hm]
      refine List.Nodup.sublist List.filter_sublist ?_
      unfold suited
      refine List.Nodup.sublist List.filter_sublist ?_
      cases e : lookR rows n with
      | none => exact List.nodup_nil
      | some wn => exact T.wnd _ (lookR_some e)
    have := nodup_len (l := n :: nearF (nearOf rows gone) n) (m := (nearOf rows gone).map (·.1)) (List.nodup_cons.mpr ⟨fun h => sym.irr n h, nd⟩) fun x hx => by
      rcases List.mem_cons.mp hx with e | hx
      · rw [e]; exact hm
      · exact sub n x hx
    rw [List.length_cons, List.length_map] at this
    omega
  · have : nearF (nearOf rows gone) n = [] := by
      unfold nearF
      rw [lookR_none.mpr hm]
      rfl
    rw [this]
    exact Nat.zero_le _
theorem near_asc {rows : Rows} {emp : List Str} (T : TomeOk rows emp) (gone : List Str) : Asc (nms (nearOf rows gone)) := by
  show Asc ((nearOf rows gone).map (·.1))
  rw [near_keys]
  exact T.asc.sublist List.filter_sublist
theorem memo_nil {near : Rows} : MemoOk near [] := ⟨List.nodup_nil, fun kv h => by simp at h⟩
section
variable {P : Program} {w : World} {K : PySem.W.Frag} {mg : Str → Option Value} {base : Heap} {f C CS : Addr}
/-- Swapping(sheet, without), as a call finds it -/
theorem rd_sw {H : Hp} {v u : V} {rows : Rows} {emp gone : List Str} {Q : Addr → Hp → Prop} (hv : Dp K H v (tomeD rows emp)) (tok : TomeOk rows emp) (hu : NT K H u gone) (hz : gone.length ≤ 1000) (hin : ∀ n ∈ gone, n ∈ rows.map (·.1))
    (k : ∀ r d H', H d = none → Ex H H' → SwI C H' (.ref r) d (nearOf rows gone) → GoodM d (nearOf rows gone) H' → Q r H') :
    ∀ x dx, H x = none → H dx = none → dx ≠ x → spSwInit K C [.ref x, v, u] (upd (upd H dx (.own x)) x (.ins C dx [])) (fun v H2 => v = .non ∧ Q x H2) E0 := fun x dx hx hdx ne => by
  have e : Ex H (upd (upd H dx (.own x)) x (.ins C dx [])) := (kpE.new hdx).trans (kpE.new (by rw [upd_ne (Ne.symm ne)]; exact hx))
  refine ⟨x, dx, v, u, rows, emp, gone, rfl, New.of ne, Dp.mono kpE e hv, tok, hu.mono kpE e, hz, hin, fun H' d ko hd sw hd' => ⟨rfl, k _ d _ ?_ (new_ko hx hdx ko) sw ⟨[], hd', memo_nil⟩⟩⟩
  cases h : H d with
  | none => rfl
  | some o => rw [e _ _ h] at hd; cases hd
/-- behind changes of the memo, seen by who has not known it -/
theorem ex_rg {d : Addr} {near : Rows} {H H1 H2 : Hp} (hd : H d = none) (e : Ex H H1) (r : Rg d near H1 H2) : Ex H H2 := fun b o h => r.1 b o (e b o h) fun z => by rw [z, hd] at h; cases h
end
end CH
/-! text W15 -/
/-! Swapping's makers; the defs that make one. -/
namespace CH
open PySem L2 Evl RZ
def Emp (K : PySem.W.Frag) (v : V) : Prop := ∀ H, NT K H v []
section
variable {P : Program} {w : World} {K : PySem.W.Frag} {mg : Str → Option Value} {base : Heap} {f C CS : Addr} {t : V}
theorem sw_mk2 {fd : FuncData} (F : FunD K "__init__" "Swapping.__init__" (defArgs sSwInit) (defBody sSwInit) (defScope sSwInit) [t] [] f fd) (mk : Mk K C f) {k : Nat} (G : FnOk P w K mg base CX0 k f fd ["self", "sheet", "gone"] (spSwInit K C)) : MkR P w K mg base C k (spSwInit K C) := by
  obtain ⟨ds, h1, h2⟩ := F.binds1 (ps := ["self", "sheet", "gone"]) 3 1 (by simp) (by rfl) fun T kV doc pm an cdv ct us its hu hi => by
    match us, hu, its, hi with | [a, b, c], _, [d], _ => exact ⟨_, rfl, rfl⟩
  refine ⟨f, mk, ?_⟩
  have := G.raw h2 h1
  simpa using this
theorem sw_mk1 {fd : FuncData} (F : FunD K "__init__" "Swapping.__init__" (defArgs sSwInit) (defBody sSwInit) (defScope sSwInit) [t] [] f fd) (mk : Mk K C f) {k : Nat} (G : FnOk P w K mg base CX0 k f fd ["self", "sheet", "gone"] (spSwInit K C)) : MkR P w K mg base C k (fun vs => spSwInit K C (vs ++ [t])) := by
  obtain ⟨ds, h1, h2⟩ := F.binds1 (ps := ["self", "sheet", "gone"]) 2 0 (by simp) (by rfl) fun T kV doc pm an cdv ct us its hu hi => by
    match us, hu, its, hi with | [a, b], _, [d], _ => exact ⟨_, rfl, rfl⟩
  refine ⟨f, mk, ?_⟩
  have := G.raw h2 h1
  simpa using this
/-- Swapping(sheet) -/
theorem rd_sw1 {H : Hp} {v : V} {rows : Rows} {emp : List Str} {Q : Addr → Hp → Prop} (ht : Emp K t) (hv : Dp K H v (tomeD rows emp)) (tok : TomeOk rows emp)
    (k : ∀ r d H', H d = none → Ex H H' → SwI C H' (.ref r) d (nearOf rows []) → GoodM d (nearOf rows []) H' → Q r H') :
    ∀ x dx, H x = none → H dx = none → dx ≠ x → (fun vs => spSwInit K C (vs ++ [t])) [.ref x, v] (upd (upd H dx (.own x)) x (.ins C dx [])) (fun v H2 => v = .non ∧ Q x H2) E0 :=
  rd_sw hv tok (ht H) (by decide) (fun n h => by simp at h) k
/-! most_swaps -/
abbrev sMostSwaps : Stmt := top 19
theorem scMostSwaps : FnScope ["sheet", "without"] ["sheet", "without"] (defScope sMostSwaps) := ⟨rfl, rfl, rfl, by decide +kernel, rfl, by decide +kernel, by decide +kernel⟩
abbrev nuOf (rows : Rows) (gone : List Str) : Nat := mostN (nearOf rows gone) (nms (nearOf rows gone))
def spMostSwaps (K : PySem.W.Frag) : Sp := fun vs H Q _ => ∃ (v u : V) (rows : Rows) (emp gone : List Str), vs = [v, u] ∧ Dp K H v (tomeD rows emp) ∧ TomeOk rows emp ∧ NT K H u gone ∧ gone.length ≤ 1000 ∧ (∀ n ∈ gone, n ∈ rows.map (·.1)) ∧ ∀ H', Ex H H' → Q (.int ((2 * nuOf rows gone : Nat) : Int)) H'
theorem ok_mostSwaps {kws : List (Str × V)} {fd : FuncData} (F : FunD K "most_swaps" "most_swaps" (defArgs sMostSwaps) (defBody sMostSwaps) (defScope sMostSwaps) [] kws f fd) (Cs : Cst mg) (S : SwC K mg C) (M : MkR P w K mg base C 8 (spSwInit K C)) (MA : MtP P w K mg base C "most_of_all" 11 (spMostAll C)) :
    FnOk P w K mg base CX0 12 f fd ["sheet", "without"] (spMostSwaps K) := by
  obtain ⟨tp, mp⟩ := Cs.pair
  refine F.ok scMostSwaps (fun vs H Q E ⟨_, _, _, _, _, e, _⟩ => by rw [e]; rfl) fun cdv A outer s H vs Q E hr h => ?_
  obtain ⟨v, u, rows, emp, gone, rfl, hv, tok, hu, hz, hin, k⟩ := h
  refine ⟨_, pss_one (ps_ret (pe_op op_mul (pe_glob (v := .int 2) rfl mp ⟨_, rfl⟩) (pe_mt0 MA S.cls (pe_mkr M (hr.mono (by decide)) (by rfl) S.mg (pa_cons (pv 0) (pa_cons (pv 1) pa_nil))) hr))), ?_⟩
  refine ⟨v, rfl, u, rfl, rd_sw hv tok hu hz hin fun r d H1 hd e1 sw gm => ?_⟩
  have nok := near_ok tok gone
  obtain ⟨a, dx, nn, e, pp, ps, vs, er, sl, _⟩ := id sw.ex
  cases er
  refine ⟨r, dx, vs, rfl, sl, .ref r, d, nearOf rows gone, rfl, sw, nok, gm, fun H2 r2 => ⟨2, _, rfl, rfl, .inl (by decide), ?_⟩⟩
  have := k H2 (ex_rg hd e1 r2)
  have e2 : ((2 * nuOf rows gone : Nat) : Int) = 2 * ((nuOf rows gone : Nat) : Int) := by omega
  rw [e2] at this
  exact this
end
end CH
/-! text W16 -/
/-! kinds. -/
namespace CH
open PySem L2 Evl RZ
theorem crAnyK (K : PySem.W.Frag) {X : Cx} (hc : X.calm = true) (h : X.K = K := by rfl) : CallR X (.builtin "any") (rAny K) := by subst h; exact cr_any hc
theorem crAllK (K : PySem.W.Frag) {X : Cx} (hc : X.calm = true) (h : X.K = K := by rfl) : CallR X (.builtin "all") (rAll K) := by subst h; exact cr_all hc
section
variable {X : Cx} {x : Str} {k : Nat} {sp : Sp} {p pos : Pos} {e : Expr} {es : List Expr} {t : TA}
theorem pe_prS (G : Pr X.prog X.w X.K X.mg X.base x k sp) (hr : Room k X.A) (hg : Gl X x) (ha : PA X (e :: es) t)
    (hd : (x == ("__debug__" : Str)) = false := by decide) (hs : starEach (e :: es) X.env = (false, eval e X.env) :: starEach es X.env := by rfl) (hp : (backTo pos (starEach es X.env)).any (·.1) = true := by rfl) :
    PE X (.Call (.Name x p) (e :: es) [] pos) (tCallF sp E0 t) := by
  obtain ⟨f, hm, hk, F⟩ := G
  exact StX.pe_callS2 F hr hk hg hm pass0 ha hd hs hp
end
abbrev near0 (rows : Rows) : Rows := nearOf rows []
def freeN (rows : Rows) : List Str := (nms (near0 rows)).filter fun n => openN (near0 rows) n
def restN (rows : Rows) : List Str := butL (nms (near0 rows)) (freeN rows)
def holdN (rows : Rows) : List Str := (restN rows).filter fun n => (nearF (near0 rows) n).any fun o => decide (o ∈ freeN rows)
def fixN (rows : Rows) : List Str := butL (restN rows) (holdN rows)
def Three (H : Hp) (r : V) (a b c : List Str) : Prop := ∃ t x y z, r = .ref t ∧ H t = some (.tup [x, y, z]) ∧ NS H x a ∧ NS H y b ∧ NS H z c
abbrev sKinds : Stmt := top 22
abbrev nKinds : List Str := ["sheet", "own", "free", "rest", "hold", "name", "other"]
theorem scKinds : FnScope nKinds ["sheet"] (defScope sKinds) := ⟨rfl, rfl, rfl, by decide +kernel, rfl, by decide +kernel, by decide +kernel⟩
def scKindsB : Scope := { kind := .function, names := [(".0", .local), ("name", .local), ("any", .globalImplicit), ("free", .cell), ("own", .cell)], isGenerator := false, isCoroutine := false, more := [] }
def spKinds (K : PySem.W.Frag) : Sp := fun vs H Q _ => ∃ (v : V) (rows : Rows) (emp : List Str), vs = [v] ∧ Dp K H v (tomeD rows emp) ∧ TomeOk rows emp ∧ ∀ r H', Ex H H' → Three H' r (freeN rows) (holdN rows) (fixN rows) → Q r H'
section
variable {P : Program} {w : World} {K : PySem.W.Frag} {mg : Str → Option Value} {base : Heap} {f C CS : Addr} {t : V}
theorem ok_kinds (F : Fn K "kinds" "kinds" sKinds [] [] f) (T : Blt mg) (S : SwC K mg C) (ht : Emp K t) (M : MkR P w K mg base C 8 (fun vs => spSwInit K C (vs ++ [t]))) (MN : MtP P w K mg base C "names" 1 (spSwNames C)) (MO : MtP P w K mg base C "is_open" 12 (spIsOpen C)) (MR : MtP P w K mg base C "near" 1 (spSwNear C)) (Gb : Pr P w K mg base "but" 1 (spBut K)) : FnR P w K mg base CX0 13 f (spKinds K) := by
  have nd := scKinds.nd
  refine Fn.ok0 (ps := ["sheet"]) F scKinds (fun kV doc pm an cdv ct us hl => by match us, hl with | [u], _ => rfl) (fun vs H Q E ⟨_, _, _, e, _⟩ => by rw [e]; rfl) (fun cdv A outer s H vs Q E hr h => ?_)
  obtain ⟨v, rows, emp, rfl, hv, tok, k⟩ := h
  refine ⟨_, pss_cons (ps_set (i := 1) nd rfl (Or.inr rfl) (pe_mkr M (hr.mono (by decide)) (by rfl) S.mg (pa_cons (pv 0) pa_nil)))
    (pss_cons (ps_set (i := 2) nd rfl (Or.inr rfl) (pe_callTy call_tuple_of (by rfl) T.tuple (by decide +kernel) (pa_cons (pe_lc (own := [("name", 5)]) (g := gName 5) rfl nd (pi_tup (pe_mt0 MN S.cls (pv 1) (hr.mono (by decide)))) (blkOk_by (N := nKinds) (sc := defScope sKinds) (by decide +kernel))
      (fun _ _ _ _ _ => pg_name (i := 5) nd rfl (Or.inl rfl)) (fun _ _ _ _ _ => pts_one (pt_val (pe_mt MO S.cls (pv 1) hr (pa_cons (pv 5) pa_nil)))) (fun _ _ _ _ _ => pv 5)) pa_nil)))
    (pss_cons (ps_set (i := 3) nd rfl (Or.inl rfl) (pe_prS Gb (hr.mono (by decide)) (by rfl) (pa_cons (pe_mt0 MN S.cls (pv 1) (hr.mono (by decide))) (StX.pa_star (pv 2) pa_nil))))
    (pss_cons (ps_set (i := 4) nd rfl (Or.inl rfl) (pe_callTy call_tuple_of (by rfl) T.tuple (by decide +kernel) (pa_cons (pe_lc (own := [("name", 5)]) (g := gName 5) rfl nd (pi_tup (pv 3)) (blkOk_by (N := nKinds) (sc := defScope sKinds) (by decide +kernel))
      (fun _ _ _ _ _ => pg_name (i := 5) nd rfl (Or.inl rfl)) (fun _ _ _ _ _ => pts_one (pt_val (pe_callB (crAnyK K rfl) (by rfl) T.any (by decide +kernel) (pa_cons (pe_lc (own := [("other", 6)]) (g := gName 6) (tt := tYes) rfl nd (pi_tupK K (pe_mt MR S.cls (pv 1) (hr.mono (by decide)) (pa_cons (pv 5) pa_nil))) (blkOk_by (own := [("other", 6)]) (N := nKinds) (sc := scKindsB) (by decide +kernel))
        (fun _ _ _ _ _ => pg_name (i := 6) nd rfl (Or.inl rfl)) (fun _ _ _ _ _ => pts_nil) (fun _ _ _ _ _ => pe_cmpR (opInS K) (pv 6) (pv 2) (by with_unfolding_all rfl))) pa_nil)))) (fun _ _ _ _ _ => pv 5)) pa_nil)))
    (pss_one (ps_ret (pe_tup (pa_cons (pv 2) (pa_cons (pv 4) (pa_cons (pe_prS Gb (hr.mono (by decide)) (by rfl) (pa_cons (pv 3) (StX.pa_star (pv 4) pa_nil))) pa_nil))))))))), ?_⟩
  refine ⟨v, rfl, rd_sw1 ht hv tok fun a d H1 hd e1 sw gm => ?_⟩
  obtain ⟨a', dx, nn, e, pp, ps, vs, er, sl, _⟩ := id sw.ex
  cases er
  have nok := near_ok tok []
  have kp := kpG d (near0 rows)
  have nl : (nms (near0 rows)).length ≤ 8 := nms_len nok
  refine ⟨.ref a, rfl, a, dx, vs, rfl, sl, .ref a, d, near0 rows, rfl, sw, fun nm H2 e2 hnm => ?_⟩
  obtain ⟨nb, rfl, hnb⟩ := hnm
  have r2 : Rg d (near0 rows) H1 H2 := kp.ex e2
  refine ⟨nb, rfl, ⟨_, SqT.of hnb⟩, fmJ kp V.str (fun n => openN (near0 rows) n) V.str (nms (near0 rows)) (goes_tupM kp (SqT.of hnb)) rfl (by omega) (by show 5 < 7; decide) (fun _ => rfl) (fun n H' hn rg Q' q => ?_) (fun o H' _ _ _ Q' q => ⟨.str o, rfl, q _ _ (kp.refl _) rfl⟩) (fun D H3 hD r3 hl => ?_)⟩
  · have rg2 := kp.trans r2 rg
    exact ⟨.ref a, rfl, a, dx, vs, rfl, slt_kp kp rg2 sl, .str n, rfl, .ref a, n, d, near0 rows, rfl, sw.mono kp rg2, nok, rg2.2 gm, fun H3 r3 => ⟨_, rfl, q H3 r3⟩⟩
  refine ⟨D, _, rfl, .inl ⟨SqL.of hl, fun fb hfb => ?_⟩⟩
  have r4 : Rg d (near0 rows) H1 (upd H3 fb (.tup (sL (freeN rows)))) := kp.trans (kp.trans r2 r3) (kp.new hfb)
  have h4 : (upd H3 fb (.tup (sL (freeN rows)))) fb = some (.tup (sL (freeN rows))) := upd_same
  have hff : (((nms (near0 rows)).filter fun n => openN (near0 rows) n).map V.str) = sL (freeN rows) := rfl
  rw [hff]
  generalize upd H3 fb (.tup (sL (freeN rows))) = H4 at r4 h4
  have fl : (freeN rows).length ≤ 8 := filter_len nl
  refine ⟨.ref a, rfl, a, dx, vs, rfl, slt_kp kp r4 sl, .ref a, d, near0 rows, rfl, sw.mono kp r4, fun nm2 H5 e5 hnm2 => ?_⟩
  have r5 := kp.trans r4 (kp.ex e5)
  have h5 := e5 _ _ h4
  refine ⟨.ref fb, rfl, fb, sL (freeN rows), rfl, .inl (SqT.of h5), nm2, nms (near0 rows), freeN rows, by rw [List.append_nil], hnm2.nt, by omega, by omega, fun rr H6 e6 hrr => ?_⟩
  obtain ⟨rb, rfl, hrb⟩ := hrr
  have r6 := kp.trans r5 (kp.ex e6)
  have h6 := e6 _ _ h5
  have rl : (restN rows).length ≤ 8 := filter_len nl
  have hrb' : H6 rb = some (.tup (sL (restN rows))) := hrb
  refine ⟨.ref rb, rfl, rb, rfl, ⟨_, SqT.of hrb'⟩, fmJ kp V.str (fun n => (nearF (near0 rows) n).any fun o => decide (o ∈ freeN rows)) V.str (restN rows) (goes_tupM kp (SqT.of hrb')) rfl (by omega) (by show 5 < 7; decide) (fun _ => rfl) (fun n H' hn rg Q' q => ?_) (fun o H' _ _ _ Q' q => ⟨.str o, rfl, q _ _ (kp.refl _) rfl⟩) (fun D2 H7 hD2 r7 hl2 => ?_)⟩
  · have rg6 := kp.trans r6 rg
    refine ⟨.ref a, rfl, a, dx, vs, rfl, slt_kp kp rg6 sl, .str n, rfl, .ref a, n, d, near0 rows, rfl, sw.mono kp rg6, (List.mem_filter.mp hn).1, fun nr H8 e8 hnr => ?_⟩
    obtain ⟨b8, rfl, hb8⟩ := hnr
    refine ⟨b8, rfl, ⟨_, SqT.of hb8⟩, fmJ kpE V.str (fun _ => true) (fun o => .bl (decide (o ∈ freeN rows))) (nearF (near0 rows) n) (goes_tupM kpE (SqT.of hb8)) rfl (Nat.le_trans (nok.nl n) (by decide)) (by show 6 < 7; decide) (fun _ => rfl) (fun _ _ _ _ => evT_yes kpE) (fun o H9 ho _ e9 Q2 q2 => ?_) (fun D3 H9 hD3 e9 hl3 => ?_)⟩
    · exact ⟨.str o, rfl, .ref fb, rfl, o, fb, freeN rows, rfl, rfl, .inl (kpE.tup (e8.trans e9) (kp.tup rg (SqT.of h6))), q2 _ _ (Ex.refl _) rfl⟩
    · rw [all_filter_true] at hl3
      refine ⟨D3, (nearF (near0 rows) n).map fun o => decide (o ∈ freeN rows), rfl, SqL.of (by rw [List.map_map]; exact hl3), _, rfl, ?_⟩
      have : (((nearF (near0 rows) n).map fun o => decide (o ∈ freeN rows)).any id) = (nearF (near0 rows) n).any fun o => decide (o ∈ freeN rows) := by rw [List.any_map]; rfl
      rw [this]
      exact q _ (kp.ex (e8.trans e9))
  refine ⟨D2, _, rfl, .inl ⟨SqL.of hl2, fun hb hhb => ?_⟩⟩
  have r8 : Rg d (near0 rows) H6 (upd H7 hb (.tup (sL (holdN rows)))) := kp.trans r7 (kp.new hhb)
  have h8 : (upd H7 hb (.tup (sL (holdN rows)))) hb = some (.tup (sL (holdN rows))) := upd_same
  have hhh : (((restN rows).filter fun n => (nearF (near0 rows) n).any fun o => decide (o ∈ freeN rows)).map V.str) = sL (holdN rows) := rfl
  rw [hhh]
  generalize upd H7 hb (.tup (sL (holdN rows))) = H8 at r8 h8
  have hl : (holdN rows).length ≤ 8 := filter_len rl
  refine ⟨.ref fb, rfl, .ref hb, rfl, .ref rb, rfl, .ref hb, rfl, hb, sL (holdN rows), rfl, .inl (SqT.of h8), .ref rb, restN rows, holdN rows, by rw [List.append_nil], ⟨rb, rfl, kp.tup r8 (SqT.of hrb')⟩, by omega, by omega, fun lr H9 e9 hlr => ?_⟩
  refine ⟨by show (3 : Nat) ≤ sizeLine; decide, fun t ht => ?_⟩
  have e10 : Ex H9 (upd H9 t (.tup [.ref fb, .ref hb, lr])) := Ex.new ht
  refine k _ _ (ex_rg hd e1 (kp.trans (kp.trans r6 r8) (kp.ex (e9.trans e10)))) ⟨t, .ref fb, .ref hb, lr, rfl, upd_same, ⟨fb, rfl, ?_⟩, ⟨hb, rfl, (e9.trans e10) _ _ h8⟩, hlr.mono kpE e10⟩
  exact (e9.trans e10) _ _ (kp.keep r8 h6 fun _ z => by cases z)
end
end CH
/-! text W17 -/
/-! suited_to, leaves, parts_in. -/
namespace CH
open PySem L2 Evl RZ
/-- a def called with keywords -/
def KwP (P : Program) (w : World) (K : PySem.W.Frag) (mg : Str → Option Value) (base : Heap) (x : Str) (k : Nat) (sp : Sp) (n : Nat) (ks : List Str) : Prop := ∃ f fd ps, mg x = some (.ref f) ∧ PySem.W.keepIn K (.ref f) = true ∧ FnOk P w K mg base CX0 k f fd ps sp ∧ KBn K fd ps n ks (fun us ws => us ++ ws) (fun vs zs => vs ++ zs)
section
variable {X : Cx} {k n : Nat} {ks : List Str} {sp : Sp} {x : Str} {p pos : Pos} {e : Expr} {es : List Expr} {kws : List Keyword} {t tk : TA}
theorem pe_kw (G : KwP X.prog X.w X.K X.mg X.base x k sp n ks) (hr : Room k X.A) (hg : Gl X x) (ha : PA X (e :: es) t) (hkw : PK X kws tk) (hall : (backToKw pos (keywordEach kws X.env)).all (·.1.isSome) = true := by rfl) (hks : (backToKw pos (keywordEach kws X.env)).filterMap (·.1) = ks := by rfl)
    (hdb : (x == ("__debug__" : Str)) = false := by decide) (he : starEach (e :: es) X.env = (false, eval e X.env) :: starEach es X.env := by rfl)
    (hpl : ((backTo pos (starEach (e :: es) X.env)).any (·.1) || (backToKw pos (keywordEach kws X.env)).any (·.1.isNone)) = false := by rfl) :
    PE X (.Call (.Name x p) (e :: es) kws pos) (tCallN n ks.length sp (fun vs zs => vs ++ zs) E0 t tk) := by
  obtain ⟨f, fd, ps, hm, hk, F, kb⟩ := G
  exact pe_callN F hr hg hm hk kb pass0 ha hkw hall hks hdb he hpl
end
section
variable {P : Program} {w : World} {K : PySem.W.Frag} {mg : Str → Option Value} {base : Heap} {f C CS : Addr} {t : V}
abbrev sSuitedTo : Stmt := top 13
theorem scSuitedTo : FnScope ["sheet", "name", "own"] ["sheet", "name"] (defScope sSuitedTo) := ⟨rfl, rfl, rfl, by decide +kernel, rfl, by decide +kernel, by decide +kernel⟩
def spSuitedTo (K : PySem.W.Frag) : Sp := fun vs H Q _ => ∃ (v : V) (n : Str) (rows : Rows) (emp : List Str), vs = [v, .str n] ∧ Dp K H v (tomeD rows emp) ∧ TomeOk rows emp ∧ n ∈ rows.map (·.1) ∧ RT H Q (suited rows n)
theorem look_some {rows : Rows} {n : Str} (h : n ∈ rows.map (·.1)) : ∃ w, lookR rows n = some w := by
  cases e : lookR rows n with
  | none => exact absurd h (lookR_none.mp e)
  | some w => exact ⟨w, rfl⟩
theorem ok_suitedTo (F : Fn K "suited_to" "suited_to" sSuitedTo [] [] f) (SS : ShC K mg CS) (M : MkR P w K mg base CS 6 (spShInit K CS)) (MC : MtP P w K mg base CS "check" 1 (spShCheck CS)) (MS : MtP P w K mg base CS "suited" 2 (spShSuited CS)) : FnR P w K mg base CX0 8 f (spSuitedTo K) := by
  refine Fn.ok0 (ps := ["sheet", "name"]) F scSuitedTo (fun kV doc pm an cdv ct us hl => by match us, hl with | [u, u2], _ => rfl) (fun vs H Q E ⟨_, _, _, _, e, _⟩ => by rw [e]; rfl) (fun cdv A outer s H vs Q E hr h => ?_)
  obtain ⟨v, n, rows, emp, rfl, hv, tok, hn, k⟩ := h
  refine ⟨_, pss_cons (ps_set (i := 2) scSuitedTo.nd rfl (Or.inl rfl) (pe_mkr M hr (by rfl) SS.mg (pa_cons (pv 0) pa_nil)))
    (pss_cons (ps_expr (pe_mt MC SS.cls (pv 2) (hr.mono (by decide)) (pa_cons (pv 1) pa_nil)))
    (pss_one (ps_ret (pe_mt MS SS.cls (pv 2) (hr.mono (by decide)) (pa_cons (pv 1) pa_nil))))), ?_⟩
  refine ⟨v, rfl, rd_sheet hv tok fun a dx H1 fa fdx e1 sj => ?_⟩
  obtain ⟨d2, vs2, sl, hd2, dr⟩ := id sj
  refine ⟨.ref a, rfl, a, dx, vs2, rfl, sl, .str n, rfl, .ref a, rows, [n], rfl, sj.i, by show (1 : Nat) ≤ 1000; decide, fun x hx => by rw [List.mem_singleton.mp hx]; exact hn, fun H2 e2 => ?_⟩
  obtain ⟨wn, lw⟩ := look_some hn
  exact ⟨.ref a, rfl, a, dx, vs2, rfl, slt_kp kpE e2 sl, .str n, rfl, .ref a, rows, n, wn, rfl, (sj.mono kpE e2).i, lw, Nat.le_trans (tok.wl _ (lookR_some lw)) (by decide), fun r H3 e3 hr3 => k _ _ ((e1.trans e2).trans e3) hr3⟩
/-! leaves -/
abbrev sLeaves : Stmt := top 23
theorem scLeaves : FnScope ["sheet", "name", "own"] ["sheet", "name"] (defScope sLeaves) := ⟨rfl, rfl, rfl, by decide +kernel, rfl, by decide +kernel, by decide +kernel⟩
def LeavesR (rows : Rows) (n : Str) (r : V) (H : Hp) : Prop := if openN (near0 rows) n = true then PairsT H r (leastN (near0 rows) (mostN (near0 rows) (butL (nms (near0 rows)) [n])) (butL (nms (near0 rows)) [n])) else r = .non
def spLeaves (K : PySem.W.Frag) : Sp := fun vs H Q _ => ∃ (v : V) (n : Str) (rows : Rows) (emp : List Str), vs = [v, .str n] ∧ Dp K H v (tomeD rows emp) ∧ TomeOk rows emp ∧ n ∈ rows.map (·.1) ∧ ∀ r H', Ex H H' → LeavesR rows n r H' → Q r H'
theorem ok_leaves (F : Fn K "leaves" "leaves" sLeaves [] [] f) (SS : ShC K mg CS) (S : SwC K mg C) (ht : Emp K t) (MSh : MkR P w K mg base CS 6 (spShInit K CS)) (MC : MtP P w K mg base CS "check" 1 (spShCheck CS)) (M : MkR P w K mg base C 8 (fun vs => spSwInit K C (vs ++ [t]))) (MN : MtP P w K mg base C "names" 1 (spSwNames C)) (MO : MtP P w K mg base C "is_open" 12 (spIsOpen C)) (ML : MtP P w K mg base C "least" 12 (spLeast C)) (Gb : Pr P w K mg base "but" 1 (spBut K)) :
    FnR P w K mg base CX0 13 f (spLeaves K) := by
  refine Fn.ok0 (ps := ["sheet", "name"]) F scLeaves (fun kV doc pm an cdv ct us hl => by match us, hl with | [u, u2], _ => rfl) (fun vs H Q E ⟨_, _, _, _, e, _⟩ => by rw [e]; rfl) (fun cdv A outer s H vs Q E hr h => ?_)
  obtain ⟨v, n, rows, emp, rfl, hv, tok, hn, k⟩ := h
  refine ⟨_, pss_cons (ps_expr (pe_mt MC SS.cls (pe_mkr MSh (hr.mono (by decide)) (by rfl) SS.mg (pa_cons (pv 0) pa_nil)) (hr.mono (by decide)) (pa_cons (pv 1) pa_nil)))
    (pss_cons (ps_set (i := 2) scLeaves.nd rfl (Or.inl rfl) (pe_mkr M (hr.mono (by decide)) (by rfl) S.mg (pa_cons (pv 0) pa_nil)))
    (pss_one (ps_ret (pe_ifExp (pt_val (pe_mt MO S.cls (pv 2) hr (pa_cons (pv 1) pa_nil))) (pe_mt ML S.cls (pv 2) hr (pa_cons (pe_pr Gb (hr.mono (by decide)) (by rfl) (pa_cons (pe_mt0 MN S.cls (pv 2) (hr.mono (by decide))) (pa_cons (pv 1) pa_nil))) pa_nil)) pe_non)))), ?_⟩
  refine ⟨v, rfl, rd_sheet hv tok fun a dx H1 fa fdx e1 sj => ?_⟩
  obtain ⟨d2, vs2, sl, hd2, dr⟩ := id sj
  refine ⟨a, dx, vs2, rfl, sl, .str n, rfl, .ref a, rows, [n], rfl, sj.i, by show (1 : Nat) ≤ 1000; decide, fun x hx => by rw [List.mem_singleton.mp hx]; exact hn, fun H2 e2 => ?_⟩
  have e12 := e1.trans e2
  refine ⟨v, rfl, rd_sw1 ht (Dp.mono kpE e12 hv) tok fun b d H3 hd e3 sw gm => ?_⟩
  obtain ⟨b', dxb, nn, e, pp, ps, vs, er, slb, _⟩ := id sw.ex
  cases er
  have nok := near_ok tok []
  have kp := kpG d (near0 rows)
  have nl : (nms (near0 rows)).length ≤ 8 := nms_len nok
  refine ⟨.ref b, rfl, b, dxb, vs, rfl, slb, .str n, rfl, .ref b, n, d, near0 rows, rfl, sw, nok, gm, fun H4 r4 => ⟨_, rfl, ?_⟩⟩
  cases ho : openN (near0 rows) n with
  | false =>
    exact k _ _ (e12.trans (ex_rg hd e3 r4)) (by unfold LeavesR; rw [ho]; rfl)
  | true =>
    refine ⟨.ref b, rfl, b, dxb, vs, rfl, slt_kp kp r4 slb, .ref b, rfl, b, dxb, vs, rfl, slt_kp kp r4 slb, .ref b, d, near0 rows, rfl, sw.mono kp r4, fun nm H5 e5 hnm => ?_⟩
    have r5 := kp.trans r4 (kp.ex e5)
    refine ⟨.str n, rfl, nm, nms (near0 rows), [n], rfl, hnm.nt, by omega, by show (1 : Nat) ≤ 1000; decide, fun br H6 e6 hbr => ?_⟩
    have r6 := kp.trans r5 (kp.ex e6)
    refine ⟨.ref b, br, d, near0 rows, butL (nms (near0 rows)) [n], rfl, sw.mono kp r6, nok, r6.2 gm, hbr, List.filter_sublist, fun r H7 r7 hp => ?_⟩
    exact k _ _ (e12.trans (ex_rg hd e3 (kp.trans r6 r7))) (by unfold LeavesR; rw [ho, if_pos rfl]; exact hp)
end
end CH
/-! text W18 -/
/-! parts_in, is_barrier. -/
namespace CH
open PySem L2 Evl RZ
section
variable {P : Program} {w : World} {K : PySem.W.Frag} {mg : Str → Option Value} {base : Heap} {f C CS : Addr} {t : V}
abbrev sPartsIn : Stmt := top 21
abbrev nPartsIn : List Str := ["sheet", "some", "odd", "rows", "part"]
theorem scPartsIn : FnScope nPartsIn ["sheet", "some", "odd"] (defScope sPartsIn) := ⟨rfl, rfl, rfl, by decide +kernel, rfl, by decide +kernel, by decide +kernel⟩
def oddT (o : V) (l : List Str) : Bool := match o with
  | .bl b => decide (GE.isOdd l = b)
  | _ => true
def spPartsIn (K : PySem.W.Frag) : Sp := fun vs H Q _ => ∃ (v u o : V) (rows : Rows) (emp some : List Str), vs = [v, u, o] ∧ (o = .non ∨ o = .bl true) ∧ Dp K H v (tomeD rows emp) ∧ TomeOk rows emp ∧ NT K H u some ∧ some.Sublist (nms (near0 rows)) ∧ ∀ r H', Ex H H' → PartsL H' r ((lumpsN (near0 rows) some).filter (oddT o)) → Q r H'
theorem near0_names (rows : Rows) : nms (near0 rows) = rows.map (·.1) := by
  show (nearOf rows []).map (·.1) = _
  rw [near_keys]
  exact List.filter_eq_self.mpr fun x _ => by simp
theorem lumps_len {rows : Rows} {emp : List Str} (tok : TomeOk rows emp) {some : List Str} (h : some.Sublist (nms (near0 rows))) : (lumpsN (near0 rows) some).length ≤ 8 := by
  unfold lumpsN
  rw [List.length_mergeSort]
  have := lumpsF_len (near0 rows) some some
  have := h.length_le
  have : (nms (near0 rows)).length ≤ 8 := nms_len (near_ok tok [])
  show (some.foldl (lumpsStep (near0 rows) some) []).length ≤ 8
  omega
theorem ok_partsIn {kws : List (Str × V)} {fd : FuncData} (F : FunD K "parts_in" "parts_in" (defArgs sPartsIn) (defBody sPartsIn) (defScope sPartsIn) [] kws f fd) (SS : ShC K mg CS) (S : SwC K mg C) (ht : Emp K t) (MSh : MkR P w K mg base CS 6 (spShInit K CS)) (MC : MtP P w K mg base CS "checked" 6 (spShChecked K CS)) (M : MkR P w K mg base C 8 (fun vs => spSwInit K C (vs ++ [t]))) (ML : MtP P w K mg base C "lumps" 3 (spLumps K C)) (GO : Pr P w K mg base "is_odd" 1 (spIsOdd K)) :
    FnOk P w K mg base CX0 10 f fd ["sheet", "some", "odd"] (spPartsIn K) := by
  have nd := scPartsIn.nd
  refine F.ok scPartsIn (fun vs H Q E ⟨_, _, _, _, _, _, e, _⟩ => by rw [e]; rfl) fun cdv A outer s H vs Q E hr h => ?_
  obtain ⟨v, u, o, rows, emp, some', rfl, ho, hv, tok, hu, hsub, k⟩ := h
  refine ⟨_, pss_cons (ps_set (i := 3) nd rfl (Or.inl rfl) (pe_mt ML S.cls (pe_mkr M hr (by rfl) S.mg (pa_cons (pv 0) pa_nil)) (hr.mono (by decide)) (pa_cons (pe_mt MC SS.cls (pe_mkr MSh (hr.mono (by decide)) (by rfl) SS.mg (pa_cons (pv 0) pa_nil)) (hr.mono (by decide)) (pa_cons (pv 1) pa_nil)) pa_nil)))
    (pss_one (ps_ret (pe_lc (own := [("part", 4)]) (g := gName 4) rfl nd (pi_list (pv 3)) (blkOk_by (N := nPartsIn) (sc := defScope sPartsIn) (by decide +kernel))
      (fun _ _ _ _ _ => pg_name (i := 4) nd rfl (Or.inl rfl)) (fun _ _ _ _ _ => pts_one (PW.pt (pw_or (pt_cmpR op_isN (pv 2) pe_non (nomark _)) (pw_or1 (pt_cmpR op_eq (pe_pr GO (hr.mono (by decide)) (by rfl) (pa_cons (pv 4) pa_nil)) (pv 2) (nomark _)))))) (fun _ _ _ _ _ => pv 4)))), ?_⟩
  refine ⟨v, rfl, rd_sw1 ht hv tok fun b d H1 hd e1 sw gm => ?_⟩
  obtain ⟨b', dxb, nn, e, pp, ps, vs, er, slb, _⟩ := id sw.ex
  cases er
  have nok := near_ok tok []
  have asc := near_asc tok []
  have sub' : ∀ x ∈ some', x ∈ rows.map (·.1) := fun x hx => by rw [← near0_names]; exact hsub.subset hx
  have s8 : some'.length ≤ 8 := Nat.le_trans hsub.length_le (nms_len nok)
  refine ⟨b, dxb, vs, rfl, slb, v, rfl, rd_sheet (Dp.mono kpE e1 hv) tok fun a dx H2 fa fdx e2 sj => ?_⟩
  obtain ⟨d2, vs2, sl, hd2, dr⟩ := id sj
  refine ⟨a, dx, vs2, rfl, sl, u, rfl, .ref a, u, rows, some', rfl, sj.i, hu.mono kpE (e1.trans e2), by omega, sub', fun cr H3 e3 hcr => ?_⟩
  have e13 := e2.trans e3
  refine ⟨.ref b, cr, d, near0 rows, some', rfl, sw.mono kpE e13, nok, hcr.nt, hsub, asc.sublist hsub, fun r H4 e4 hp => ?_⟩
  obtain ⟨q, ps4, rfl, hq, hpq⟩ := hp
  obtain ⟨zs, z1, z2, z3⟩ := pairs_zip hpq
  have zl : zs.length ≤ 8 := by
    have h1 : zs.length = (lumpsN (near0 rows) some').length := by rw [← z2, List.length_map]
    have := lumps_len tok hsub
    omega
  have hq1 : SqL K H4 q (zs.map (·.1)) := by rw [z1]; exact SqL.of hq
  refine ⟨.ref q, rfl, q, rfl, ⟨_, hq1⟩, fmJ kpE (fun z : V × List Str => z.1) (fun z => oddT o z.2) (fun z => z.1) zs (goes_lstM kpE hq1) rfl (by omega) (by show 4 < 5; decide) (fun _ => rfl) (fun z H' hz eo Q' q' => ?_) (fun z H' _ _ _ Q' q' => ⟨_, rfl, q' _ _ (Ex.refl _) rfl⟩) (fun D H5 hD e5 hl => ?_)⟩
  · rcases ho with rfl | rfl
    · refine ⟨.non, rfl, rfl, true, rfl, ?_⟩
      exact q' H' (Ex.refl _)
    · refine ⟨.bl true, rfl, rfl, false, rfl, ?_⟩
      refine ⟨z.1, rfl, z.1, z.2, rfl, ((z3 z hz).mono kpE eo).nt, fun H6 e6 => ⟨.bl true, rfl, rfl, _, rfl, ?_⟩⟩
      have e7 : decide (V.bl (GE.isOdd z.2) = V.bl true) = oddT (.bl true) z.2 := by
        unfold oddT
        cases GE.isOdd z.2 <;> rfl
      rw [e7]
      exact q' H6 e6
  · refine k _ _ (((e1.trans e13).trans e4).trans e5) ⟨D, _, rfl, hl, ?_⟩
    have : (lumpsN (near0 rows) some').filter (oddT o) = (zs.filter fun z => oddT o z.2).map (·.2) := by rw [← z2, List.filter_map]; rfl
    rw [this]
    exact zip_pairs (F := NS _) fun z hz => (z3 z (List.mem_filter.mp hz).1).mono kpE e5
end
end CH
/-! text W19 -/
/-! is_barrier; what one household more or less is worth. -/
namespace CH
open PySem L2 Evl RZ
section
variable {P : Program} {w : World} {K : PySem.W.Frag} {mg : Str → Option Value} {base : Heap} {f C CS : Addr} {t : V}
abbrev sBarrier : Stmt := top 24
abbrev nBarrier : List Str := ["sheet", "thing", "own", "odd", "name", "part"]
theorem scBarrier : FnScope nBarrier ["sheet", "thing"] (defScope sBarrier) := ⟨rfl, rfl, rfl, by decide +kernel, rfl, by decide +kernel, by decide +kernel⟩
noncomputable def barrierN (rows : Rows) (l : List Str) : Bool := decide (((((lumpsN (near0 rows) (butL (nms (near0 rows)) l)).filter GE.isOdd).length : Nat) : Int) - (l.length : Nat) = ((nms (near0 rows)).length : Nat) - 2 * (mostN (near0 rows) (nms (near0 rows)) : Nat))
def spBarrier (K : PySem.W.Frag) : Sp := fun vs H Q _ => ∃ (v u : V) (rows : Rows) (emp l : List Str), vs = [v, u] ∧ Dp K H v (tomeD rows emp) ∧ TomeOk rows emp ∧ NT K H u l ∧ l.Sublist (nms (near0 rows)) ∧ ∀ H', Ex H H' → Q (.bl (barrierN rows l)) H'
theorem all_true {α : Type} (l : List α) : (l.map fun _ => true).all id = true := by rw [List.all_eq_true]; intro b hb; obtain ⟨_, _, e⟩ := List.mem_map.mp hb; rw [← e]; rfl
theorem ok_barrier (F : Fn K "is_barrier" "is_barrier" sBarrier [] [] f) (T : Blt mg) (Cs : Cst mg) (S : SwC K mg C) (ht : Emp K t) (M : MkR P w K mg base C 8 (fun vs => spSwInit K C (vs ++ [t]))) (MN : MtP P w K mg base C "names" 1 (spSwNames C)) (ML : MtP P w K mg base C "lumps" 3 (spLumps K C)) (MA : MtP P w K mg base C "most_of_all" 11 (spMostAll C)) (Gb : Pr P w K mg base "but" 1 (spBut K)) (GO : Pr P w K mg base "is_odd" 1 (spIsOdd K)) (GS : Pr P w K mg base "is_set" 2 (spIsSet K)) :
    FnR P w K mg base CX0 12 f (spBarrier K) := by
  have nd := scBarrier.nd
  obtain ⟨tp, mp⟩ := Cs.pair
  refine Fn.ok0 (ps := ["sheet", "thing"]) F scBarrier (fun kV doc pm an cdv ct us hl => by match us, hl with | [u, u2], _ => rfl) (fun vs H Q E ⟨_, _, _, _, _, e, _⟩ => by rw [e]; rfl) (fun cdv A outer s H vs Q E hr h => ?_)
  obtain ⟨v, u, rows, emp, l, rfl, hv, tok, hu, hsub, k⟩ := h
  refine ⟨_, pss_cons (ps_set (i := 2) nd rfl (Or.inr rfl) (pe_mkr M (hr.mono (by decide)) (by rfl) S.mg (pa_cons (pv 0) pa_nil)))
    (pss_cons (ps_if (PW.pt (pw_or (pt_not (pt_val (pe_pr GS (hr.mono (by decide)) (by rfl) (pa_cons (pv 1) pa_nil)))) (pw_or1 (pt_not (pt_val (pe_callB (cr_all rfl) (by rfl) T.all (by decide +kernel) (pa_cons (pe_lc (own := [("name", 4)]) (g := gName 4) (tt := tYes) rfl nd (pi_tup (pv 1)) (blkOk_by (N := nBarrier) (sc := defScope sBarrier) (by decide +kernel))
        (fun _ _ _ _ _ => pg_name (i := 4) nd rfl (Or.inl rfl)) (fun _ _ _ _ _ => pts_nil) (fun _ _ _ _ _ => pe_cmpR (opInS K) (pv 4) (pe_mt0 MN S.cls (pv 2) (hr.mono (by decide))) (by with_unfolding_all rfl))) pa_nil)))))))
      (pss_one (ps_ret pe_bl)) pss_nil)
    (pss_cons (ps_setLc (i := 3) (own := [("part", 5)]) (g := gName 5) rfl nd rfl rfl (sw_true rfl rfl rfl (by decide +kernel)) (pi_list (pe_mt ML S.cls (pv 2) (hr.mono (by decide)) (pa_cons (pe_prS Gb (hr.mono (by decide)) (by rfl) (pa_cons (pe_mt0 MN S.cls (pv 2) (hr.mono (by decide))) (StX.pa_star (pv 1) pa_nil))) pa_nil))) (blkOk_by (N := nBarrier) (sc := defScope sBarrier) (by decide +kernel))
        (fun _ _ _ _ _ => pg_name (i := 5) nd rfl (Or.inl rfl)) (fun _ _ _ _ _ => pts_one (pt_val (pe_pr GO (hr.mono (by decide)) (by rfl) (pa_cons (pv 5) pa_nil)))) (fun _ _ _ _ _ => pv 5))
    (pss_one (ps_ret (pe_cmpR op_eq (pe_op op_sub (pe_callB call_len_seq (by rfl) T.len (by decide +kernel) (pa_cons (pv 3) pa_nil)) (pe_callB call_len_seq (by rfl) T.len (by decide +kernel) (pa_cons (pv 1) pa_nil)))
      (pe_op op_sub (pe_callB call_len_seq (by rfl) T.len (by decide +kernel) (pa_cons (pe_mt0 MN S.cls (pv 2) (hr.mono (by decide))) pa_nil)) (pe_op op_mul (pe_glob (v := .int 2) rfl mp ⟨_, rfl⟩) (pe_mt0 MA S.cls (pv 2) hr))) (nomark _)))))), ?_⟩
  refine ⟨v, rfl, rd_sw1 ht hv tok fun b d H1 hd e1 sw gm => ?_⟩
  obtain ⟨b', dxb, nn, e, pp, ps, vs, er, slb, _⟩ := id sw.ex
  cases er
  have nok := near_ok tok []
  have asc := near_asc tok []
  have nl : (nms (near0 rows)).length ≤ 8 := nms_len nok
  have l8 : l.length ≤ 8 := Nat.le_trans hsub.length_le nl
  have lin : ∀ x ∈ l, NameOk x := fun x hx => by
    have := hsub.subset hx
    rw [near0_names] at this
    obtain ⟨r, hr, e⟩ := List.mem_map.mp this
    rw [← e]; exact tok.nm r hr
  obtain ⟨ub, rfl, hub⟩ := hu
  have hub1 := kpE.tup e1 hub
  refine ⟨.ref ub, rfl, .ref ub, l, rfl, ⟨ub, rfl, hub1⟩, asc.sublist hsub, lin, by omega, fun H2 e2 => ⟨true, rfl, ?_⟩⟩
  have hub2 := kpE.tup e2 hub1
  refine ⟨.ref ub, rfl, ub, rfl, ⟨_, hub2⟩, fmJ kpE V.str (fun _ => true) (fun _ => .bl true) l (goes_tupM kpE hub2) rfl (by omega) (by show 4 < 6; decide) (fun _ => rfl) (fun _ _ _ _ => evT_yes kpE) (fun n H' hn _ eo Q' q => ?_) (fun D H3 hD e3 hl => ?_)⟩
  · have eo2 := e2.trans eo
    refine ⟨.str n, rfl, .ref b, rfl, b, dxb, vs, rfl, slt_kp kpE eo2 slb, .ref b, d, near0 rows, rfl, sw.mono kpE eo2, fun nm H4 e4 hnm => ?_⟩
    obtain ⟨nb, rfl, hnb⟩ := hnm
    exact ⟨n, nb, nms (near0 rows), rfl, rfl, .inl (SqT.of hnb), q _ _ e4 (by rw [decide_eq_true (hsub.subset hn)])⟩
  refine ⟨D, l.map fun _ => true, rfl, SqL.of (by rw [hl, all_filter_true, List.map_map]; rfl), _, rfl, ?_⟩
  rw [all_true]
  have e23 := e2.trans e3
  have kp := kpG d (near0 rows)
  have r3 : Rg d (near0 rows) H1 H3 := kp.ex e23
  refine ⟨.ref b, rfl, b, dxb, vs, rfl, slt_kp kp r3 slb, .ref b, rfl, b, dxb, vs, rfl, slt_kp kp r3 slb, .ref b, d, near0 rows, rfl, sw.mono kp r3, fun nm H4 e4 hnm => ?_⟩
  have r4 := kp.trans r3 (kp.ex e4)
  have hub4 := kp.tup r4 hub1
  refine ⟨.ref ub, rfl, ub, sL l, rfl, .inl hub4, nm, nms (near0 rows), l, by rw [List.append_nil], hnm.nt, by omega, by omega, fun br H5 e5 hbr => ?_⟩
  have r5 := kp.trans r4 (kp.ex e5)
  refine ⟨.ref b, br, d, near0 rows, butL (nms (near0 rows)) l, rfl, sw.mono kp r5, nok, hbr.nt, List.filter_sublist, asc.sublist List.filter_sublist, fun r H6 e6 hp => ?_⟩
  obtain ⟨q, ps4, rfl, hq, hpq⟩ := hp
  have r6 := kp.trans r5 (kp.ex e6)
  obtain ⟨zs, z1, z2, z3⟩ := pairs_zip hpq
  have zl : zs.length ≤ 8 := by
    have h1 : zs.length = (lumpsN (near0 rows) (butL (nms (near0 rows)) l)).length := by rw [← z2, List.length_map]
    have := lumps_len tok (some := butL (nms (near0 rows)) l) List.filter_sublist
    omega
  have hq1 : SqL K H6 q (zs.map (·.1)) := by rw [z1]; exact SqL.of hq
  refine ⟨q, rfl, ⟨_, hq1⟩, fmJ kpE (fun z : V × List Str => z.1) (fun z => GE.isOdd z.2) (fun z => z.1) zs (goes_lstM kpE hq1) rfl (by omega) (by show 5 < 6; decide) (fun _ => rfl) (fun z H' hz eo Q' q' => ?_) (fun z H' _ _ _ Q' q' => ⟨_, rfl, q' _ _ (Ex.refl _) rfl⟩) (fun D2 H7 hD2 e7 hl2 => ?_)⟩
  · exact ⟨z.1, rfl, z.1, z.2, rfl, ((z3 z hz).mono kpE eo).nt, fun H8 e8 => ⟨_, rfl, q' H8 e8⟩⟩
  have r7 := kp.trans r6 (kp.ex e7)
  refine ⟨.ref D2, rfl, D2, _, rfl, .inl (SqL.of hl2), .ref ub, rfl, ub, sL l, rfl, .inr (kp.tup r7 hub1), _, _, rfl, rfl, ?_⟩
  refine ⟨.ref b, rfl, b, dxb, vs, rfl, slt_kp kp r7 slb, .ref b, d, near0 rows, rfl, sw.mono kp r7, fun nm2 H8 e8 hnm2 => ?_⟩
  obtain ⟨nb2, rfl, hnb2⟩ := hnm2
  have r8 := kp.trans r7 (kp.ex e8)
  refine ⟨nb2, sL (nms (near0 rows)), rfl, .inr (SqT.of hnb2), .ref b, rfl, b, dxb, vs, rfl, slt_kp kp r8 slb, .ref b, d, near0 rows, rfl, sw.mono kp r8, nok, r8.2 gm, fun H9 r9 => ?_⟩
  refine ⟨2, _, rfl, rfl, .inl (by decide), _, _, rfl, rfl, rfl, ?_⟩
  have hc : ((zs.filter fun z => GE.isOdd z.2).map (·.1)).length = ((lumpsN (near0 rows) (butL (nms (near0 rows)) l)).filter GE.isOdd).length := by rw [← z2, List.filter_map, List.length_map, List.length_map]; rfl
  have eb : decide (V.int ((((zs.filter fun z => GE.isOdd z.2).map (·.1)).length : Nat) - ((sL l).length : Nat) : Int) = V.int (((sL (nms (near0 rows))).length : Nat) - 2 * (mostN (near0 rows) (nms (near0 rows)) : Nat) : Int)) = barrierN rows l := by
    unfold barrierN
    rw [hc, List.length_map, List.length_map]
    by_cases h : ((((lumpsN (near0 rows) (butL (nms (near0 rows)) l)).filter GE.isOdd).length : Nat) : Int) - (l.length : Nat) = ((nms (near0 rows)).length : Nat) - 2 * (mostN (near0 rows) (nms (near0 rows)) : Nat)
    · rw [decide_eq_true h, decide_eq_true]
      rw [h]
    · rw [decide_eq_false h, decide_eq_false]
      exact fun z => h (V.int.inj z)
  rw [eb]
  exact k _ (ex_rg hd e1 (kp.trans r8 r9))
end
end CH
/-! text W20 -/
/-! gain_by_household, loss_by_household, can_leave. -/
namespace CH
open PySem L2 Evl RZ
section
variable {P : Program} {w : World} {K : PySem.W.Frag} {mg : Str → Option Value} {base : Heap} {f C CS : Addr} {t : V}
theorem ms_pos {fd : FuncData} (F : FunD K "most_swaps" "most_swaps" (defArgs sMostSwaps) (defBody sMostSwaps) (defScope sMostSwaps) [] [("without", t)] f fd) {k : Nat} (G : FnOk P w K mg base CX0 k f fd ["sheet", "without"] (spMostSwaps K)) (hm : mg "most_swaps" = some (.ref f)) : Pr P w K mg base "most_swaps" k (fun vs => spMostSwaps K (vs ++ [t])) := by
  obtain ⟨ds, h1, h2⟩ := F.binds0 (ps := ["sheet", "without"]) 1 (by simp) (by rfl) fun D doc pm an cdv ct us ks hu hk => by
    match us, hu, ks, hk with | [a], _, [d], _ => exact ⟨_, _, _, _, _, _, rfl, rfl, rfl⟩
  exact ⟨f, hm, F.kp, G.raw h2 h1⟩
theorem ms_kw {fd : FuncData} {kws : List (Str × V)} (F : FunD K "most_swaps" "most_swaps" (defArgs sMostSwaps) (defBody sMostSwaps) (defScope sMostSwaps) [] kws f fd) {k : Nat} (G : FnOk P w K mg base CX0 k f fd ["sheet", "without"] (spMostSwaps K)) (hm : mg "most_swaps" = some (.ref f)) : KwP P w K mg base "most_swaps" k (spMostSwaps K) 1 ["without"] := by
  refine ⟨f, fd, _, hm, F.kp, G, ?_⟩
  obtain ⟨oc, od, dV, kV, doc, pm, an, cdv, ct, osl, rfl, lk, hcd, hD, hK⟩ := F.ex
  rcases hD with ⟨_, rfl⟩ | ⟨e, _⟩
  · refine ⟨fun s us ws X h1 h2 => ?_, fun r1 r2 => r1.append r2⟩
    match us, ws, h1, h2 with
    | [a], [b], _, _ => exact .of_eq (by rfl)
  · exact absurd rfl e
/-- most_swaps(sheet) -/
theorem rd_ms {H : Hp} {v : V} {rows : Rows} {emp : List Str} {Q : VK} (ht : Emp K t) (hv : Dp K H v (tomeD rows emp)) (tok : TomeOk rows emp) (k : ∀ H', Ex H H' → Q (.int ((2 * nuOf rows [] : Nat) : Int)) H') : (fun vs => spMostSwaps K (vs ++ [t])) [v] H Q E0 :=
  ⟨v, t, rows, emp, [], rfl, hv, tok, ht H, by decide, fun n h => by simp at h, k⟩
abbrev sGain : Stmt := top 33
abbrev nGain : List Str := ["sheet", "suits", "some", "name"]
theorem scGain : FnScope nGain ["sheet", "suits"] (defScope sGain) := ⟨rfl, rfl, rfl, by decide +kernel, rfl, by decide +kernel, by decide +kernel⟩
def gainN (rows : Rows) (l : List Str) : Int := if (l.any fun n => decide (n ∈ freeN rows)) = true then 2 else 0
def spGain (K : PySem.W.Frag) : Sp := fun vs H Q _ => ∃ (v u : V) (rows : Rows) (emp l : List Str), vs = [v, u] ∧ Dp K H v (tomeD rows emp) ∧ TomeOk rows emp ∧ NT K H u l ∧ l.length ≤ 1000 ∧ (∀ n ∈ l, n ∈ rows.map (·.1)) ∧ ∀ H', Ex H H' → Q (.int (gainN rows l)) H'
theorem ok_gain (F : Fn K "gain_by_household" "gain_by_household" sGain [] [] f) (T : Blt mg) (Cs : Cst mg) (SS : ShC K mg CS) (MSh : MkR P w K mg base CS 6 (spShInit K CS)) (MC : MtP P w K mg base CS "checked" 6 (spShChecked K CS)) (GK : Pr P w K mg base "kinds" 13 (spKinds K)) : FnR P w K mg base CX0 14 f (spGain K) := by
  have nd := scGain.nd
  obtain ⟨tb, mb⟩ := Cs.both
  refine Fn.ok0 (ps := ["sheet", "suits"]) F scGain (fun kV doc pm an cdv ct us hl => by match us, hl with | [u, u2], _ => rfl) (fun vs H Q E ⟨_, _, _, _, _, e, _⟩ => by rw [e]; rfl) (fun cdv A outer s H vs Q E hr h => ?_)
  obtain ⟨v, u, rows, emp, l, rfl, hv, tok, hu, hz, hin, k⟩ := h
  refine ⟨_, pss_cons (ps_set (i := 2) nd rfl (Or.inl rfl) (pe_mt MC SS.cls (pe_mkr MSh (hr.mono (by decide)) (by rfl) SS.mg (pa_cons (pv 0) pa_nil)) (hr.mono (by decide)) (pa_cons (pv 1) pa_nil)))
    (pss_one (ps_ret (pe_ifExp (pt_val (pe_callB (cr_any rfl) (by rfl) T.any (by decide +kernel) (pa_cons (pe_lc (own := [("name", 3)]) (g := gName 3) (tt := tYes) rfl nd (pi_tup (pv 2)) (blkOk_by (N := nGain) (sc := defScope sGain) (by decide +kernel))
      (fun _ _ _ _ _ => pg_name (i := 3) nd rfl (Or.inl rfl)) (fun _ _ _ _ _ => pts_nil) (fun _ _ _ _ _ => pe_cmpR (opInS K) (pv 3) (pe_ix (ixTupK K) (pe_pr GK hr (by rfl) (pa_cons (pv 0) pa_nil)) pe_int (fun _ _ => rfl)) (by with_unfolding_all rfl))) pa_nil))) (pe_glob (v := .int 2) rfl mb ⟨_, rfl⟩) pe_int))), ?_⟩
  refine ⟨v, rfl, rd_sheet hv tok fun a dx H1 fa fdx e1 sj => ?_⟩
  obtain ⟨d2, vs2, sl, hd2, dr⟩ := id sj
  refine ⟨a, dx, vs2, rfl, sl, u, rfl, .ref a, u, rows, l, rfl, sj.i, hu.mono kpE e1, hz, hin, fun cr H2 e2 hcr => ?_⟩
  obtain ⟨cb, rfl, hcb⟩ := hcr
  refine ⟨.ref cb, rfl, cb, rfl, ⟨_, SqT.of hcb⟩, fmJ kpE V.str (fun _ => true) (fun n => .bl (decide (n ∈ freeN rows))) l (goes_tupM kpE (SqT.of hcb)) rfl (by omega) (by show 3 < 4; decide) (fun _ => rfl) (fun _ _ _ _ => evT_yes kpE) (fun n H' hn _ eo Q' q => ?_) (fun D H3 hD e3 hl => ?_)⟩
  · refine ⟨.str n, rfl, v, rfl, v, rows, emp, rfl, Dp.mono kpE ((e1.trans e2).trans eo) hv, tok, fun r H4 e4 hth => ?_⟩
    obtain ⟨t3, x, y, z, rfl, ht3, ⟨xb, rfl, hxb⟩, _, _⟩ := hth
    exact ⟨t3, _, 0, .ref xb, rfl, rfl, SqT.of ht3, atI_nat (j := 0) rfl, n, xb, freeN rows, rfl, rfl, .inl (SqT.of hxb), q _ _ e4 rfl⟩
  refine ⟨D, l.map fun n => decide (n ∈ freeN rows), rfl, SqL.of (by rw [hl, all_filter_true, List.map_map]; rfl), _, rfl, ?_⟩
  have ha : ((l.map fun n => decide (n ∈ freeN rows)).any id) = l.any fun n => decide (n ∈ freeN rows) := by rw [List.any_map]; rfl
  rw [ha]
  have fin := k H3 ((e1.trans e2).trans e3)
  unfold gainN at fin
  cases hc : l.any fun n => decide (n ∈ freeN rows) with
  | true => rw [hc] at fin; exact fin
  | false => rw [hc] at fin; exact fin
/-! loss_by_household -/
abbrev sLoss : Stmt := top 34
theorem scLoss : FnScope ["sheet", "name"] ["sheet", "name"] (defScope sLoss) := ⟨rfl, rfl, rfl, by decide +kernel, rfl, by decide +kernel, by decide +kernel⟩
def spLoss (K : PySem.W.Frag) : Sp := fun vs H Q _ => ∃ (v : V) (n : Str) (rows : Rows) (emp : List Str), vs = [v, .str n] ∧ Dp K H v (tomeD rows emp) ∧ TomeOk rows emp ∧ n ∈ rows.map (·.1) ∧ ∀ H', Ex H H' → Q (.int (((2 * nuOf rows [] : Nat) : Int) - ((2 * nuOf rows [n] : Nat) : Int))) H'
theorem ok_loss (F : Fn K "loss_by_household" "loss_by_household" sLoss [] [] f) (ht : Emp K t) (G1 : Pr P w K mg base "most_swaps" 12 (fun vs => spMostSwaps K (vs ++ [t]))) (G2 : KwP P w K mg base "most_swaps" 12 (spMostSwaps K) 1 ["without"]) : FnR P w K mg base CX0 13 f (spLoss K) := by
  refine Fn.ok0 (ps := ["sheet", "name"]) F scLoss (fun kV doc pm an cdv ct us hl => by match us, hl with | [u, u2], _ => rfl) (fun vs H Q E ⟨_, _, _, _, e, _⟩ => by rw [e]; rfl) (fun cdv A outer s H vs Q E hr h => ?_)
  obtain ⟨v, n, rows, emp, rfl, hv, tok, hn, k⟩ := h
  refine ⟨_, pss_one (ps_ret (pe_op op_sub (pe_pr G1 hr (by rfl) (pa_cons (pv 0) pa_nil)) (pe_kw (ks := ["without"]) G2 hr (by rfl) (pa_cons (pv 0) pa_nil) (pk_cons (pe_tup (pa_cons (pv 1) pa_nil)) pk_nil)))), ?_⟩
  refine ⟨v, rfl, v, t, rows, emp, [], rfl, hv, tok, ht H, by show (0 : Nat) ≤ 1000; decide, (fun n h => by simp at h), fun H1 e1 => ⟨v, rfl, .str n, rfl, by show (1 : Nat) ≤ sizeLine; decide, fun p hp => ⟨rfl, rfl, ?_⟩⟩⟩
  have e2 : Ex H1 (upd H1 p (.tup [.str n])) := Ex.new hp
  refine ⟨v, .ref p, rows, emp, [n], rfl, Dp.mono kpE (e1.trans e2) hv, tok, ⟨p, rfl, SqT.of upd_same⟩, by show (1 : Nat) ≤ 1000; decide, fun x hx => by rw [List.mem_singleton.mp hx]; exact hn, fun H3 e3 => ?_⟩
  exact ⟨_, _, rfl, rfl, k _ ((e1.trans e2).trans e3)⟩
/-! can_leave -/
abbrev sCanLeave : Stmt := top 35
theorem scCanLeave : FnScope ["sheet", "some"] ["sheet", "some"] (defScope sCanLeave) := ⟨rfl, rfl, rfl, by decide +kernel, rfl, by decide +kernel, by decide +kernel⟩
def spCanLeave (K : PySem.W.Frag) : Sp := fun vs H Q _ => ∃ (v u : V) (rows : Rows) (emp l : List Str), vs = [v, u] ∧ Dp K H v (tomeD rows emp) ∧ TomeOk rows emp ∧ NT K H u l ∧ l.length ≤ 1000 ∧ (∀ n ∈ l, n ∈ rows.map (·.1)) ∧ ∀ H', Ex H H' → Q (.bl (decide (nuOf rows l = nuOf rows []))) H'
theorem ok_canLeave (F : Fn K "can_leave" "can_leave" sCanLeave [] [] f) (ht : Emp K t) (SS : ShC K mg CS) (MSh : MkR P w K mg base CS 6 (spShInit K CS)) (MC : MtP P w K mg base CS "checked" 6 (spShChecked K CS)) (G1 : Pr P w K mg base "most_swaps" 12 (fun vs => spMostSwaps K (vs ++ [t]))) (G2 : KwP P w K mg base "most_swaps" 12 (spMostSwaps K) 1 ["without"]) : FnR P w K mg base CX0 13 f (spCanLeave K) := by
  refine Fn.ok0 (ps := ["sheet", "some"]) F scCanLeave (fun kV doc pm an cdv ct us hl => by match us, hl with | [u, u2], _ => rfl) (fun vs H Q E ⟨_, _, _, _, _, e, _⟩ => by rw [e]; rfl) (fun cdv A outer s H vs Q E hr h => ?_)
  obtain ⟨v, u, rows, emp, l, rfl, hv, tok, hu, hz, hin, k⟩ := h
  refine ⟨_, pss_one (ps_ret (pe_cmpR op_eq (pe_kw (ks := ["without"]) G2 hr (by rfl) (pa_cons (pv 0) pa_nil) (pk_cons (pe_mt MC SS.cls (pe_mkr MSh (hr.mono (by decide)) (by rfl) SS.mg (pa_cons (pv 0) pa_nil)) (hr.mono (by decide)) (pa_cons (pv 1) pa_nil)) pk_nil)) (pe_pr G1 hr (by rfl) (pa_cons (pv 0) pa_nil)) (nomark _))), ?_⟩
  refine ⟨v, rfl, v, rfl, rd_sheet hv tok fun a dx H1 fa fdx e1 sj => ?_⟩
  obtain ⟨d2, vs2, sl, hd2, dr⟩ := id sj
  refine ⟨a, dx, vs2, rfl, sl, u, rfl, .ref a, u, rows, l, rfl, sj.i, hu.mono kpE e1, hz, hin, fun cr H2 e2 hcr => ⟨rfl, rfl, ?_⟩⟩
  refine ⟨v, cr, rows, emp, l, rfl, Dp.mono kpE (e1.trans e2) hv, tok, hcr.nt, hz, hin, fun H3 e3 => ?_⟩
  refine ⟨v, rfl, v, t, rows, emp, [], rfl, Dp.mono kpE ((e1.trans e2).trans e3) hv, tok, ht H3, by show (0 : Nat) ≤ 1000; decide, (fun n h => by simp at h), fun H4 e4 => ⟨rfl, ?_⟩⟩
  have eb : decide (V.int ((2 * nuOf rows l : Nat) : Int) = V.int ((2 * nuOf rows [] : Nat) : Int)) = decide (nuOf rows l = nuOf rows []) := by
    by_cases h : nuOf rows l = nuOf rows []
    · rw [decide_eq_true h, decide_eq_true]
      rw [h]
    · rw [decide_eq_false h, decide_eq_false]
      intro z
      have := V.int.inj z
      omega
  rw [eb]
  exact k _ (((e1.trans e2).trans e3).trans e4)
end
end CH
/-! text W21 -/
/-! names_of, line_of. -/
namespace CH
open PySem L2 Evl RZ
theorem pe_no {X : Cx} {e : Expr} : PE X e (fun _ _ _ => False) := ⟨fun _ _ _ _ _ _ h => h.elim⟩
section
variable {P : Program} {w : World} {K : PySem.W.Frag} {mg : Str → Option Value} {base : Heap} {f C CS CO : Addr} {t : V}
/-- the class Order: no list is one -/
structure OrC (K : PySem.W.Frag) (mg : Str → Option Value) (CO : Addr) : Prop where
  mg : mg "Order" = some (.ref CO)
  no : PySem.W.kitOne K (.type "list") (.ref CO) = some false
abbrev sNamesOf : Stmt := top 27
theorem scNamesOf : FnScope ["order"] ["order"] (defScope sNamesOf) := ⟨rfl, rfl, rfl, by decide +kernel, rfl, by decide +kernel, by decide +kernel⟩
def spNamesOf (K : PySem.W.Frag) : Sp := fun vs H Q _ => ∃ (a : Addr) (l : List Str), vs = [.ref a] ∧ SqL K H a (sL l) ∧ l.length ≤ 1000 ∧ RT H Q l
theorem dpL {H : Hp} {a : Addr} {l : List Str} (h : SqL K H a (sL l)) : Dp K H (.ref a) (.list (l.map .str)) := by
  refine .lst h ?_
  have : ∀ l : List Str, DpAll K H (sL l) (l.map .str) := fun l => by
    induction l with
    | nil => exact .nil
    | cons x l ih => exact .cons (.str x) ih
  exact this l
theorem ok_namesOf (F : Fn K "names_of" "names_of" sNamesOf [] [] f) (T : Blt mg) (O : OrC K mg CO) (G : Pr P w K mg base "tupled" 5 (spTupled K 4)) : FnR P w K mg base CX0 6 f (spNamesOf K) := by
  refine Fn.ok0 (ps := ["order"]) F scNamesOf (fun kV doc pm an cdv ct us hl => by match us, hl with | [u], _ => rfl) (fun vs H Q E ⟨_, _, e, _⟩ => by rw [e]; rfl) (fun cdv A outer s H vs Q E hr h => ?_)
  obtain ⟨a, l, rfl, ha, hz, k⟩ := h
  refine ⟨_, pss_one (ps_ret (pe_ifExp (pt_val (pe_callB call_isi (by rfl) T.isinstance (by decide +kernel) (pa_cons (pv 0) (pa_cons (pe_glob (v := .ref CO) rfl O.mg rfl) pa_nil)))) pe_no (pe_pr G hr (by rfl) (pa_cons (pv 0) pa_nil)))), ?_⟩
  refine ⟨.ref a, rfl, .ref a, .ref CO, _, _, false, rfl, .own CO, tyx_L ha, O.no, false, rfl, ?_⟩
  refine ⟨.ref a, rfl, .ref a, _, rfl, dpL ha, ?_, fun r H1 e1 hr1 => ?_⟩
  · exact ⟨by rw [List.length_map]; exact hz, fun x hx => by obtain ⟨y, _, rfl⟩ := List.mem_map.mp hx; trivial⟩
  · rw [flatD, flat_strD] at hr1
    exact k _ _ e1 (ds_ns hr1)
abbrev sLineOf : Stmt := top 29
abbrev nLineOf : List Str := ["sheet", "order", "first", "names", "front", "name"]
theorem scLineOf : FnScope nLineOf ["sheet", "order", "first"] (defScope sLineOf) := ⟨rfl, rfl, rfl, by decide +kernel, rfl, by decide +kernel, by decide +kernel⟩
def spLineOf (K : PySem.W.Frag) : Sp := fun vs H Q _ => ∃ (v u : V) (a : Addr) (rows : Rows) (emp l : List Str), vs = [v, .ref a, u] ∧ Dp K H v (tomeD rows emp) ∧ TomeOk rows emp ∧ SqL K H a (sL l) ∧ l.length ≤ 1000 ∧ (∀ n ∈ l, n ∈ rows.map (·.1)) ∧ NT K H u [] ∧ RT H Q l
theorem ok_lineOf {fd : FuncData} (F : FunD K "line_of" "line_of" (defArgs sLineOf) (defBody sLineOf) (defScope sLineOf) [t] [] f fd) (SS : ShC K mg CS) (MSh : MkR P w K mg base CS 6 (spShInit K CS)) (MC : MtP P w K mg base CS "checked" 6 (spShChecked K CS)) (GN : Pr P w K mg base "names_of" 6 (spNamesOf K)) : FnOk P w K mg base CX0 8 f fd ["sheet", "order", "first"] (spLineOf K) := by
  have nd := scLineOf.nd
  refine F.ok scLineOf (fun vs H Q E ⟨_, _, _, _, _, _, e, _⟩ => by rw [e]; rfl) fun cdv A outer s H vs Q E hr h => ?_
  obtain ⟨v, u, a, rows, emp, l, rfl, hv, tok, ha, hz, hin, hu, k⟩ := h
  refine ⟨_, pss_cons (ps_asg (pe_tup (pa_cons (pe_mt MC SS.cls (pe_mkr MSh hr (by rfl) SS.mg (pa_cons (pv 0) pa_nil)) (hr.mono (by decide)) (pa_cons (pe_pr GN (hr.mono (by decide)) (by rfl) (pa_cons (pv 1) pa_nil)) pa_nil)) (pa_cons (pe_mt MC SS.cls (pe_mkr MSh hr (by rfl) SS.mg (pa_cons (pv 0) pa_nil)) (hr.mono (by decide)) (pa_cons (pv 2) pa_nil)) pa_nil)))
      (pg_tup rfl (pgs_cons (pg_name (i := 3) nd rfl (Or.inl rfl) (Or.inl rfl)) (pgs_cons (pg_name (i := 4) nd rfl (Or.inr rfl) (Or.inl rfl)) pgs_nil))))
    (pss_one (ps_ret (pe_tup (StX.pa_star (pv 4) (StX.pa_star (pe_lc (own := [("name", 5)]) (g := gName 5) rfl nd (pi_tup (pv 3)) (blkOk_by (N := nLineOf) (sc := defScope sLineOf) (by decide +kernel))
      (fun _ _ _ _ _ => pg_name (i := 5) nd rfl (Or.inl rfl)) (fun _ _ _ _ _ => pts_one (pt_cmpR (opNotInS K) (pv 5) (pv 4) (by with_unfolding_all rfl))) (fun _ _ _ _ _ => pv 5)) pa_nil))))), ?_⟩
  refine ⟨v, rfl, rd_sheet hv tok fun b dx H1 fa fdx e1 sj => ?_⟩
  obtain ⟨d2, vs2, sl, hd2, dr⟩ := id sj
  refine ⟨b, dx, vs2, rfl, sl, .ref a, rfl, a, l, rfl, kpE.lst e1 ha, hz, fun nr H2 e2 hnr => ?_⟩
  refine ⟨.ref b, nr, rows, l, rfl, (sj.mono kpE e2).i, hnr.nt, hz, hin, fun cr H3 e3 hcr => ?_⟩
  have e13 := (e1.trans e2).trans e3
  refine ⟨v, rfl, rd_sheet (Dp.mono kpE e13 hv) tok fun b2 dx2 H4 fa2 fdx2 e4 sj2 => ?_⟩
  obtain ⟨d4, vs4, sl4, hd4, dr4⟩ := id sj2
  refine ⟨b2, dx2, vs4, rfl, sl4, u, rfl, .ref b2, u, rows, [], rfl, sj2.i, hu.mono kpE (e13.trans e4), by show (0 : Nat) ≤ 1000; decide, fun n h => by simp at h, fun fr H5 e5 hfr => ⟨by show (2 : Nat) ≤ sizeLine; decide, fun tp htp => ?_⟩⟩
  have e6 : Ex H5 (upd H5 tp (.tup [cr, fr])) := Ex.new htp
  obtain ⟨cb, rfl, hcb⟩ := hcr.mono kpE ((e4.trans e5).trans e6)
  obtain ⟨fb, rfl, hfb⟩ := hfr.mono kpE e6
  have h6 : (upd H5 tp (.tup [.ref cb, .ref fb])) tp = some (.tup [.ref cb, .ref fb]) := upd_same
  generalize upd H5 tp (.tup [.ref cb, .ref fb]) = H6 at e6 hcb hfb h6
  refine ⟨tp, _, rfl, SqT.of h6, rfl, .ref cb, _, rfl, .ref fb, [], rfl, rfl, ?_⟩
  refine ⟨.ref fb, rfl, fb, sL [], rfl, .inl (SqT.of hfb), ?_⟩
  refine ⟨.ref cb, rfl, cb, rfl, ⟨_, SqT.of hcb⟩, fmJ kpE V.str (fun n => !decide (n ∈ ([] : List Str))) V.str l (goes_tupM kpE (SqT.of hcb)) rfl (by omega) (by show 5 < 6; decide) (fun _ => rfl) (fun n H' hn eo Q' q => ?_) (fun o H' _ _ _ Q' q => ⟨.str o, rfl, q _ _ (Ex.refl _) rfl⟩) (fun D H7 hD e7 hl => ?_)⟩
  · exact ⟨.str n, rfl, .ref fb, rfl, n, fb, [], rfl, rfl, .inl (kpE.tup eo (SqT.of hfb)), _, rfl, q _ (Ex.refl _)⟩
  have hfl : (l.filter fun n => !decide (n ∈ ([] : List Str))) = l := List.filter_eq_self.mpr fun x _ => by simp
  rw [hfl] at hl
  refine ⟨D, _, rfl, .inr (SqL.of hl), ?_, fun r hr7 => ?_⟩
  · show ([] ++ (sL l ++ [])).length ≤ sizeLine
    rw [List.append_nil, List.nil_append, List.length_map, sizeLine_eq]
    omega
  · refine k _ _ (((((e13.trans e4).trans e5).trans e6).trans e7).trans (Ex.new hr7)) ⟨r, rfl, ?_⟩
    rw [upd_same]
    show some (HO.tup ([] ++ (sL l ++ []))) = _
    rw [List.append_nil, List.nil_append]
end
end CH
/-! text GE4 -/
/-! What the law asks of a sheet, in plain terms. -/
namespace CH
open PySem L2 Evl RZ
theorem isNu_congr {α : Type} {G : α → α → Prop} {V W : α → Prop} {n : Nat} (h : GE.IsNu G V n) (e : ∀ x, V x ↔ W x) : GE.IsNu G W n := by
  rw [show W = V from funext fun x => propext (e x).symm]; exact h
/-! parts -/
theorem rch_in {G : Str → Str → Prop} {W : Str → Prop} {x y : Str} (hx : W x) (h : GE.Rch G W x y) : W y := by
  cases h with
  | refl => exact hx
  | step _ _ w => exact w
theorem rch_trans {G : Str → Str → Prop} {W : Str → Prop} {x y z : Str} (h : GE.Rch G W x y) (k : GE.Rch G W y z) : GE.Rch G W x z := by
  induction k with
  | refl => exact h
  | step _ g w ih => exact .step ih g w
theorem rch_symm {G : Str → Str → Prop} (s : GE.Sym G) {W : Str → Prop} {x y : Str} (hx : W x) (h : GE.Rch G W x y) : GE.Rch G W y x := by
  induction h with
  | refl => exact .refl
  | step h' g w ih => exact rch_trans (.step .refl (s.sym _ _ g) (rch_in hx h')) ih
structure LmI (near : Rows) (some : List Str) (acc : List (List Str)) : Prop where
  nd : acc.flatten.Nodup
  of : ∀ K ∈ acc, ∃ k ∈ some, K = lumpN near some k
theorem lmI_step {near : Rows} (N : NearOk near) {some : List Str} (nd : some.Nodup) {acc : List (List Str)} {n : Str} (hn : n ∈ some) (I : LmI near some acc) : LmI near some (lumpsStep near some acc n) := by
  cases h : acc.any fun p => decide (n ∈ p) with
  | true => rw [step_yes h]; exact I
  | false =>
    rw [step_no h]
    refine ⟨?_, fun K hK => ?_⟩
    · rw [List.flatten_append]
      refine List.nodup_append.mpr ⟨I.nd, ?_, fun x hx y hy e => ?_⟩
      · simp only [List.flatten_cons, List.flatten_nil, List.append_nil]
        exact nd.sublist List.filter_sublist
      · subst e
        simp only [List.flatten_cons, List.flatten_nil, List.append_nil] at hy
        obtain ⟨K, hK, hxK⟩ := List.mem_flatten.mp hx
        obtain ⟨k, hk, rfl⟩ := I.of K hK
        have h1 := (mem_lumpN.mp hxK).2
        have h2 := (mem_lumpN.mp hy).2
        have : n ∈ lumpN near some k := mem_lumpN.mpr ⟨hn, rch_trans h1 (rch_symm N.sym hn h2)⟩
        rw [List.any_eq_false] at h
        exact absurd (decide_eq_true this) (h _ hK)
    · rcases List.mem_append.mp hK with hK | hK
      · exact I.of K hK
      · exact ⟨n, hn, List.mem_singleton.mp hK⟩
theorem lmI_fold {near : Rows} (N : NearOk near) {some : List Str} (nd : some.Nodup) : ∀ (l : List Str) (acc : List (List Str)), (∀ x ∈ l, x ∈ some) → LmI near some acc → LmI near some (l.foldl (lumpsStep near some) acc) ∧ (∀ K ∈ acc, K ∈ l.foldl (lumpsStep near some) acc) ∧ ∀ x ∈ l, ∃ K ∈ l.foldl (lumpsStep near some) acc, x ∈ K
  | [], acc, _, I => ⟨I, fun K h => h, fun x h => nomatch h⟩
  | n :: l, acc, hl, I => by
    have hn := hl n List.mem_cons_self
    obtain ⟨h1, h2, h3⟩ := lmI_fold N nd l (lumpsStep near some acc n) (fun x hx => hl x (List.mem_cons_of_mem _ hx)) (lmI_step N nd hn I)
    have sub : ∀ K ∈ acc, K ∈ lumpsStep near some acc n := fun K hK => by
      cases h : acc.any fun p => decide (n ∈ p) with
      | true => rw [step_yes h]; exact hK
      | false => rw [step_no h]; exact List.mem_append_left _ hK
    have self : ∃ K ∈ lumpsStep near some acc n, n ∈ K := by
      cases h : acc.any fun p => decide (n ∈ p) with
      | true =>
        rw [step_yes h]
        obtain ⟨K, hK, z⟩ := List.any_eq_true.mp h
        exact ⟨K, hK, of_decide_eq_true z⟩
      | false => rw [step_no h]; exact ⟨_, List.mem_append_right _ (List.mem_singleton.mpr rfl), mem_lumpN.mpr ⟨hn, .refl⟩⟩
    refine ⟨h1, fun K hK => h2 K (sub K hK), fun x hx => ?_⟩
    rcases List.mem_cons.mp hx with rfl | hx
    · obtain ⟨K, hK, z⟩ := self
      exact ⟨K, h2 K hK, z⟩
    · exact h3 x hx
theorem lumps_ok {near : Rows} (N : NearOk near) {some : List Str} (nd : some.Nodup) : GE.Lumps (adjN near) (· ∈ some) (lumpsN near some) := by
  obtain ⟨I, _, hc⟩ := lmI_fold N nd some [] (fun x h => h) ⟨List.nodup_nil, fun K h => nomatch h⟩
  have pm : (lumpsN near some).Perm (lumpsF near some) := List.mergeSort_perm _ _
  have mm : ∀ K, K ∈ lumpsN near some ↔ K ∈ lumpsF near some := fun K => pm.mem_iff
  refine {
    nd := (pm.flatten).nodup_iff.mpr I.nd
    cov := fun x => ⟨fun h => ?_, fun h => ?_⟩
    ne := fun K hK => lumpsF_ne K ((mm K).mp hK)
    rch := fun K hK x hx y => ?_ }
  · obtain ⟨K, hK, hx⟩ := List.mem_flatten.mp h
    obtain ⟨k, hk, rfl⟩ := I.of K ((mm K).mp hK)
    exact (mem_lumpN.mp hx).1
  · obtain ⟨K, hK, hx⟩ := hc x h
    exact List.mem_flatten.mpr ⟨K, (mm K).mpr hK, hx⟩
  · obtain ⟨k, hk, rfl⟩ := I.of K ((mm K).mp hK)
    obtain ⟨hxs, hkx⟩ := mem_lumpN.mp hx
    refine ⟨fun h => rch_trans (rch_symm N.sym hk hkx) (mem_lumpN.mp h).2, fun h => mem_lumpN.mpr ⟨rch_in (W := (· ∈ some)) hxs h, rch_trans hkx h⟩⟩
/-! the kinds -/
section
variable {rows : Rows} {emp : List Str}
abbrev vsN (rows : Rows) : List Str := nms (near0 rows)
abbrev DmN (rows : Rows) (n : Str) : Prop := GE.Dm (adjN (near0 rows)) (· ∈ vsN rows) (nuOf rows []) n
theorem nu0 (T : TomeOk rows emp) : GE.IsNu (adjN (near0 rows)) (· ∈ vsN rows) (nuOf rows []) := GE.most_nu _ (near_ok T []).sym (near_ok T []).nd
theorem butL_nd {l g : List Str} (h : l.Nodup) : (butL l g).Nodup := h.sublist List.filter_sublist
theorem mem_butL {l g : List Str} {x : Str} : x ∈ butL l g ↔ x ∈ l ∧ x ∉ g := by
  unfold butL; rw [List.mem_filter, decide_eq_true_eq]
theorem nu1 (T : TomeOk rows emp) (n : Str) : GE.IsNu (adjN (near0 rows)) (fun x => x ∈ vsN rows ∧ x ≠ n) (mostN (near0 rows) (butL (vsN rows) [n])) :=
  isNu_congr (GE.most_nu _ (near_ok T []).sym (butL_nd (near_ok T []).nd)) fun x => by rw [mem_butL, List.mem_singleton]
theorem nu_gone (T : TomeOk rows emp) (n : Str) : nuOf rows [n] = mostN (near0 rows) (butL (vsN rows) [n]) := by
  refine GE.IsNu.uniq (V := fun x => x ∈ vsN rows ∧ x ≠ n) (G := adjN (near0 rows)) ?_ (nu1 T n)
  have h := GE.most_nu _ (near_ok T [n]).sym (near_ok T [n]).nd
  have h1 := isNu_congr h (W := fun x => x ∈ vsN rows ∧ x ≠ n) fun x => by
    show x ∈ (nearOf rows [n]).map (·.1) ↔ x ∈ nms (near0 rows) ∧ x ≠ n
    rw [near0_names, near_keys rows [n], List.mem_filter]
    simp
  refine h1.of_adj fun x y hx hy => ?_
  show y ∈ nearF (nearOf rows [n]) x ↔ y ∈ nearF (nearOf rows []) x
  rw [mem_near, mem_near]
  simp only [List.mem_singleton, List.not_mem_nil, not_false_eq_true, true_and, hx.2, hy.2]
theorem open_dm (T : TomeOk rows emp) {n : Str} (hn : n ∈ vsN rows) : openN (near0 rows) n = true ↔ DmN rows n := by
  rw [decide_eq_true_eq]
  exact GE.open_iff (nu0 T) hn (nu1 T n)
theorem mem_free (T : TomeOk rows emp) {n : Str} : n ∈ freeN rows ↔ DmN rows n := by
  unfold freeN
  rw [List.mem_filter]
  exact ⟨fun ⟨a, b⟩ => (open_dm T a).mp b, fun h => ⟨h.1, (open_dm T h.1).mpr h⟩⟩
theorem nu_free (T : TomeOk rows emp) {n : Str} (hn : n ∈ vsN rows) : nuOf rows [n] = nuOf rows [] ↔ n ∈ freeN rows := by
  rw [nu_gone T n, mem_free T]
  exact GE.open_iff (nu0 T) hn (nu1 T n)
theorem mem_rest (T : TomeOk rows emp) {n : Str} : n ∈ restN rows ↔ n ∈ vsN rows ∧ ¬ DmN rows n := by
  unfold restN; rw [mem_butL, mem_free T]
theorem mem_hold (T : TomeOk rows emp) {n : Str} : n ∈ holdN rows ↔ n ∈ vsN rows ∧ ¬ DmN rows n ∧ ∃ d, DmN rows d ∧ adjN (near0 rows) n d := by
  unfold holdN
  rw [List.mem_filter, mem_rest T, List.any_eq_true]
  constructor
  · rintro ⟨⟨a, b⟩, d, h1, h2⟩
    exact ⟨a, b, d, (mem_free T).mp (of_decide_eq_true h2), h1⟩
  · rintro ⟨a, b, d, h1, h2⟩
    exact ⟨⟨a, b⟩, d, h2, decide_eq_true ((mem_free T).mpr h1)⟩
theorem vs_nd (T : TomeOk rows emp) : (vsN rows).Nodup := (near_ok T []).nd
theorem free_nd (T : TomeOk rows emp) : (freeN rows).Nodup := (vs_nd T).sublist List.filter_sublist
theorem free_sub : (freeN rows).Sublist (vsN rows) := List.filter_sublist
theorem hold_sub : (holdN rows).Sublist (vsN rows) := List.Sublist.trans List.filter_sublist List.filter_sublist
theorem fix_sub : (fixN rows).Sublist (vsN rows) := List.Sublist.trans List.filter_sublist List.filter_sublist
theorem hold_nd (T : TomeOk rows emp) : (holdN rows).Nodup := (vs_nd T).sublist hold_sub
/-- the three kinds are all households -/
theorem kinds_all (T : TomeOk rows emp) : (freeN rows ++ holdN rows ++ fixN rows).Nodup ∧ ∀ x, x ∈ freeN rows ++ holdN rows ++ fixN rows ↔ x ∈ vsN rows := by
  have m1 : ∀ x, x ∈ holdN rows → x ∈ restN rows := fun x h => (List.mem_filter.mp h).1
  have m2 : ∀ x, x ∈ fixN rows ↔ x ∈ restN rows ∧ x ∉ holdN rows := fun x => mem_butL
  have m3 : ∀ x, x ∈ restN rows ↔ x ∈ vsN rows ∧ x ∉ freeN rows := fun x => mem_butL
  refine ⟨?_, fun x => ?_⟩
  · rw [List.append_assoc]
    refine List.nodup_append.mpr ⟨free_nd T, List.nodup_append.mpr ⟨hold_nd T, (vs_nd T).sublist fix_sub, fun x hx y hy e => ?_⟩, fun x hx y hy e => ?_⟩
    · subst e; exact ((m2 x).mp hy).2 hx
    · subst e
      rcases List.mem_append.mp hy with h | h
      · exact ((m3 x).mp (m1 x h)).2 hx
      · exact ((m3 x).mp ((m2 x).mp h).1).2 hx
  · rw [List.mem_append, List.mem_append]
    by_cases hv : x ∈ vsN rows
    · refine ⟨fun _ => hv, fun _ => ?_⟩
      by_cases hf : x ∈ freeN rows
      · exact .inl (.inl hf)
      · by_cases hh : x ∈ holdN rows
        · exact .inl (.inr hh)
        · exact .inr ((m2 x).mpr ⟨(m3 x).mpr ⟨hv, hf⟩, hh⟩)
    · refine ⟨fun h => ?_, fun h => absurd h hv⟩
      rcases h with (h | h) | h
      · exact free_sub.subset h
      · exact hold_sub.subset h
      · exact fix_sub.subset h
theorem struct (T : TomeOk rows emp) :
    (∀ LD, GE.Lumps (adjN (near0 rows)) (DmN rows) LD → (∀ K ∈ LD, GE.isOdd K = true) ∧ (vsN rows).length + (holdN rows).length = 2 * nuOf rows [] + LD.length) ∧
    (∀ LV, GE.Lumps (adjN (near0 rows)) (fun x => x ∈ vsN rows ∧ x ∉ holdN rows) LV → (vsN rows).length + (holdN rows).length = 2 * nuOf rows [] + (LV.filter GE.isOdd).length) :=
  GE.structure_of (near_ok T []).sym (vs_nd T) (nu0 T) (hold_nd T) fun a => mem_hold T
theorem lumps_congr {G : Str → Str → Prop} {V W : Str → Prop} {L : List (List Str)} (h : GE.Lumps G V L) (e : ∀ x, V x ↔ W x) : GE.Lumps G W L := by
  rw [show W = V from funext fun x => propext (e x).symm]; exact h
/-- the parts of the open ones -/
theorem groups_ok (T : TomeOk rows emp) : (∀ K ∈ lumpsN (near0 rows) (freeN rows), GE.isOdd K = true) ∧ (vsN rows).length + (holdN rows).length = 2 * nuOf rows [] + (lumpsN (near0 rows) (freeN rows)).length :=
  (struct T).1 _ (lumps_congr (lumps_ok (near_ok T []) (free_nd T)) fun x => mem_free T)
theorem barrier_ok (T : TomeOk rows emp) : barrierN rows (holdN rows) = true := by
  have h := (struct T).2 _ (lumps_congr (W := fun x => x ∈ vsN rows ∧ x ∉ holdN rows) (lumps_ok (near_ok T []) (butL_nd (g := holdN rows) (vs_nd T))) fun x => mem_butL)
  unfold barrierN
  rw [decide_eq_true_eq]
  have h : (vsN rows).length + (holdN rows).length = 2 * nuOf rows [] + ((lumpsN (near0 rows) (butL (vsN rows) (holdN rows))).filter GE.isOdd).length := h
  show (((lumpsN (near0 rows) (butL (vsN rows) (holdN rows))).filter GE.isOdd).length : Int) - (holdN rows).length = (vsN rows).length - 2 * (nuOf rows [] : Nat)
  omega
theorem hold_less (T : TomeOk rows emp) {n : Str} (h : n ∈ holdN rows) : 2 * nuOf rows [n] + 2 = 2 * nuOf rows [] := by
  obtain ⟨hv, hd, _⟩ := (mem_hold T).mp h
  obtain ⟨k, hk, hi⟩ := GE.nu_less (near_ok T []).sym (nu0 T) hv hd
  have := GE.IsNu.uniq hi (nu1 T n)
  rw [nu_gone T n, ← this]
  omega
theorem wide_iff (T : TomeOk rows emp) : freeN rows = [] ↔ 2 * nuOf rows [] = (vsN rows).length := by
  have hg := (groups_ok T).2
  constructor
  · intro h
    have hh : holdN rows = [] := List.eq_nil_iff_forall_not_mem.mpr fun x hx => by
      obtain ⟨_, _, d, hd, _⟩ := (mem_hold T).mp hx
      have := (mem_free T).mpr hd
      rw [h] at this
      cases this
    have hl : lumpsN (near0 rows) (freeN rows) = [] := by
      have L := lumps_ok (near_ok T []) (free_nd T)
      refine List.eq_nil_iff_forall_not_mem.mpr fun K hK => ?_
      obtain ⟨x, hx⟩ := List.exists_mem_of_ne_nil K (L.ne K hK)
      have := (L.cov x).mp (List.mem_flatten.mpr ⟨K, hK, hx⟩)
      rw [h] at this
      cases this
    rw [hh, hl] at hg
    simpa using hg.symm
  · intro h
    refine List.eq_nil_iff_forall_not_mem.mpr fun x hx => ?_
    obtain ⟨hv, S, hS, mS, hn⟩ := (mem_free T).mp hx
    have c := mS.count (vs_nd T) hS
    have c1 := GE.cnt_not S (vsN rows)
    have c2 := GE.cnt_one (p := fun y => ¬ S y) (vs_nd T) hv hn
    omega
theorem gain_in (T : TomeOk rows emp) {n : Str} : gainN rows [n] = if n ∈ freeN rows then 2 else 0 := by
  unfold gainN
  by_cases h : n ∈ freeN rows <;> simp [h]
theorem gain_none (T : TomeOk rows emp) {l : List Str} (h : ∀ x ∈ l, x ∈ holdN rows ∨ x ∈ fixN rows) : gainN rows l = 0 := by
  unfold gainN
  refine if_neg fun z => ?_
  obtain ⟨x, hx, hf⟩ := List.any_eq_true.mp z
  have hf := of_decide_eq_true hf
  have m3 : ∀ x, x ∈ restN rows ↔ x ∈ vsN rows ∧ x ∉ freeN rows := fun x => mem_butL
  rcases h x hx with h | h
  · exact ((m3 x).mp (List.mem_filter.mp h).1).2 hf
  · exact ((m3 x).mp (mem_butL.mp h).1).2 hf
/-- hold: those who suit an open one -/
theorem hold_near (T : TomeOk rows emp) {n : Str} (hv : n ∈ vsN rows) (hf : n ∉ freeN rows) : n ∈ holdN rows ↔ (suited rows n).filter (fun o => decide (o ∈ freeN rows)) ≠ [] := by
  have hs : ∀ o, o ∈ nearF (near0 rows) n ↔ o ∈ suited rows n := fun o => by rw [mem_near]; simp
  rw [mem_hold T]
  constructor
  · rintro ⟨_, _, d, hd, g⟩ e
    have : d ∈ (suited rows n).filter (fun o => decide (o ∈ freeN rows)) := List.mem_filter.mpr ⟨(hs d).mp g, decide_eq_true ((mem_free T).mpr hd)⟩
    rw [e] at this
    cases this
  · intro h
    obtain ⟨d, hd⟩ := List.exists_mem_of_ne_nil _ h
    obtain ⟨h1, h2⟩ := List.mem_filter.mp hd
    exact ⟨hv, fun z => hf ((mem_free T).mpr z), d, (mem_free T).mp (of_decide_eq_true h2), (hs d).mpr h1⟩
/-- the least choice without an open one -/
theorem least_open (T : TomeOk rows emp) {n : Str} (hv : n ∈ vsN rows) (hf : n ∈ freeN rows) :
    (leastN (near0 rows) (mostN (near0 rows) (butL (vsN rows) [n])) (butL (vsN rows) [n])).length = nuOf rows [] ∧ ∀ p ∈ leastN (near0 rows) (mostN (near0 rows) (butL (vsN rows) [n])) (butL (vsN rows) [n]), p.1 ≠ n ∧ p.2 ≠ n := by
  have h := GE.least_ok (near := nearF (near0 rows)) (lt := ltS) (near_ok T []).sym ordS (nms (near0 rows)) _ (butL (vsN rows) [n]) (butL_nd (vs_nd T)) (fun x hx => (mem_butL.mp hx).1) rfl
  have e : mostN (near0 rows) (butL (vsN rows) [n]) = nuOf rows [] := by rw [← nu_gone T n]; exact (nu_free T hv).mpr hf
  refine ⟨h.1.trans e, fun p hp => ?_⟩
  have m : ∀ x, x ∈ GE.flat (leastN (near0 rows) (mostN (near0 rows) (butL (vsN rows) [n])) (butL (vsN rows) [n])) → x ≠ n := fun x hx z => (mem_butL.mp (h.2 x hx)).2 (List.mem_singleton.mpr z)
  exact ⟨m _ (GE.mem_flat.mpr ⟨p, hp, .inl rfl⟩), m _ (GE.mem_flat.mpr ⟨p, hp, .inr rfl⟩)⟩
/-- the best sets, as the program has them -/
structure BestOk (near : Rows) (rs : List (List (Str × Str))) (bests : List (List Str)) : Prop where
  of : ∀ b ∈ bests, ∃ row ∈ rs, ∀ x, x ∈ b ↔ x ∈ GE.flat row
  all : ∀ row ∈ rs, ∃ b ∈ bests, ∀ x, x ∈ b ↔ x ∈ GE.flat row
theorem kept_dm (T : TomeOk rows emp) {bests : List (List Str)} (B : BestOk (near0 rows) (GE.every (nearF (near0 rows)) ltS (vsN rows) (nuOf rows []) (vsN rows)) bests) {n : Str} (hv : n ∈ vsN rows) :
    n ∉ GE.keptM bests [] ((vsN rows).filter (fun x => decide (x ≠ n)) ++ [n]) ↔ n ∈ freeN rows := by
  rw [mem_free T]
  have nd := vs_nd T
  have sy := (near_ok T []).sym
  refine GE.kept_last sy (nu0 T) (fun b hb => ?_) (fun S hS mS => ?_) hv fun x => by rw [List.mem_filter, decide_eq_true_eq]
  · obtain ⟨row, hr, he⟩ := B.of b hb
    obtain ⟨h1, h2⟩ := GE.every_sound sy ordS (vsN rows) _ _ row hr
    exact ⟨fun x hx => h1 x ((he x).mp hx), h2.congr fun x => (he x).symm⟩
  · obtain ⟨row, hr, he⟩ := GE.every_complete sy ordS (vsN rows) (nuOf rows []) (vsN rows) nd (fun x h => h) rfl S hS mS
    obtain ⟨b, hb, h2⟩ := B.all row hr
    exact ⟨b, hb, fun x => (he x).trans (h2 x).symm⟩
end
end CH
/-! text S1 -/
/-! A milder model: «yield from» over a generator yields without a guard. What runs in the given model runs there. -/
namespace CH
open PySem
open Sem (wp)

/-- the delegate of a «yield from» -/
def yf? : Code → Option Value
  | .builtin id args => if id = "proto.yield_from" then args.pos.head? else none
  | _ => none
def mk : Value := .ellipsis
/-- a yield within «yield from» -/
def bless (it v : Value) (g : Bool) (k : Resume → Sem PySem.Fin) : Sem PySem.Fin :=
  match g, it with
  | false, _ => .yield v false [] k
  | true, .ref a => .load a none fun o => if o.genNumber?.isSome = true then .yield v false [mk] k else .unsupported "ch"
  | true, _ => .unsupported "ch"
def soft (it : Value) : Sem PySem.Fin → Sem PySem.Fin
  | .yield v g _ k => bless it v g fun r => soft it (k r)
  | .pure a => .pure a
  | .raise a => .raise a
  | .unsupported a => .unsupported a
  | .finish a => .finish a
  | .rule a k => .rule a fun r => soft it (k r)
  | .at a k => .at a fun r => soft it (k r)
  | .load a b k => .load a b fun r => soft it (k r)
  | .update a b c k => .update a b c fun r => soft it (k r)
  | .alloc a k => .alloc a fun r => soft it (k r)
  | .loadIfAlive a k => .loadIfAlive a fun r => soft it (k r)
  | .point a k => .point a fun r => soft it (k r)
  | .register a k => .register a fun r => soft it (k r)
  | .fresh k => .fresh fun r => soft it (k r)
  | .ask k => .ask fun r => soft it (k r)
  | .choose a b k => .choose a b fun r => soft it (k r)
  | .os a b k => .os a b fun r => soft it (k r)
  | .call a b c d k => .call a b c d fun r => soft it (k r)
  | .handled a k => .handled a fun r => soft it (k r)
  | .newGen a k => .newGen a fun r => soft it (k r)
  | .genState a k => .genState a fun r => soft it (k r)
  | .resume a b c k => .resume a b c fun r => soft it (k r)
  | .stack k => .stack fun r => soft it (k r)
  | .fork a k => .fork a fun r => soft it (k r)
  | .thread k => .thread fun r => soft it (k r)
  | .await a b c d k => .await a b c d fun r => soft it (k r)
/-- what runs under the code c -/
def sf (c : Code) (t : Sem PySem.Fin) : Sem PySem.Fin := match yf? c with | some it => soft it t | none => t
def sfr : Frame → Frame
  | .ret k h g l c p kp => .ret (fun r => sf c (k r)) h g l c p kp
  | .gen g k l c p => .gen g (fun r => sf c (k r)) l c p
def sfl (c : Code) (b : Bool) (l : List Value) : List Value := match yf? c with | some _ => if b = true then [mk] else [] | none => l
def sfg : GenState → GenState
  | .suspended k l c p fs cl => .suspended (fun r => sf c (k r)) (sfl c cl l) c p (fs.map sfr) (match yf? c with | some _ => false | none => cl)
  | x => x
/-- the milder model -/
def M2 (prog : Program) (w : World) : Model := ⟨fun c => sf c ((model prog w).den c), prog, w⟩
theorem M2_den {prog : Program} {w : World} {c : Code} (h : yf? c = none) : (M2 prog w).den c = (model prog w).den c := by
  show sf c _ = _
  unfold sf
  rw [h]

section
variable {c : Code} {t : Sem PySem.Fin}
theorem sf_none (h : yf? c = none) : sf c t = t := by unfold sf; rw [h]
theorem sf_pure {a} : sf c (.pure a) = .pure a := by unfold sf; cases yf? c <;> rfl
theorem sf_raise {a} : sf c (.raise a) = .raise a := by unfold sf; cases yf? c <;> rfl
theorem sf_unsupported {a} : sf c (.unsupported a) = .unsupported a := by unfold sf; cases yf? c <;> rfl
theorem sf_finish {a} : sf c (.finish a) = .finish a := by unfold sf; cases yf? c <;> rfl
theorem sf_rule {a k} : sf c (.rule a k) = .rule a fun r => sf c (k r) := by unfold sf; cases yf? c <;> rfl
theorem sf_at {a k} : sf c (.at a k) = .at a fun r => sf c (k r) := by unfold sf; cases yf? c <;> rfl
theorem sf_load {a b k} : sf c (.load a b k) = .load a b fun r => sf c (k r) := by unfold sf; cases yf? c <;> rfl
theorem sf_update {a b d k} : sf c (.update a b d k) = .update a b d fun r => sf c (k r) := by unfold sf; cases yf? c <;> rfl
theorem sf_alloc {a k} : sf c (.alloc a k) = .alloc a fun r => sf c (k r) := by unfold sf; cases yf? c <;> rfl
theorem sf_loadIfAlive {a k} : sf c (.loadIfAlive a k) = .loadIfAlive a fun r => sf c (k r) := by unfold sf; cases yf? c <;> rfl
theorem sf_point {a k} : sf c (.point a k) = .point a fun r => sf c (k r) := by unfold sf; cases yf? c <;> rfl
theorem sf_register {a k} : sf c (.register a k) = .register a fun r => sf c (k r) := by unfold sf; cases yf? c <;> rfl
theorem sf_fresh {k} : sf c (.fresh k) = .fresh fun r => sf c (k r) := by unfold sf; cases yf? c <;> rfl
theorem sf_ask {k} : sf c (.ask k) = .ask fun r => sf c (k r) := by unfold sf; cases yf? c <;> rfl
theorem sf_choose {a b k} : sf c (.choose a b k) = .choose a b fun r => sf c (k r) := by unfold sf; cases yf? c <;> rfl
theorem sf_os {a b k} : sf c (.os a b k) = .os a b fun r => sf c (k r) := by unfold sf; cases yf? c <;> rfl
theorem sf_call {a b d e k} : sf c (.call a b d e k) = .call a b d e fun r => sf c (k r) := by unfold sf; cases yf? c <;> rfl
theorem sf_handled {a k} : sf c (.handled a k) = .handled a fun r => sf c (k r) := by unfold sf; cases yf? c <;> rfl
theorem sf_newGen {a k} : sf c (.newGen a k) = .newGen a fun r => sf c (k r) := by unfold sf; cases yf? c <;> rfl
theorem sf_genState {a k} : sf c (.genState a k) = .genState a fun r => sf c (k r) := by unfold sf; cases yf? c <;> rfl
theorem sf_resume {a b d k} : sf c (.resume a b d k) = .resume a b d fun r => sf c (k r) := by unfold sf; cases yf? c <;> rfl
theorem sf_stack {k} : sf c (.stack k) = .stack fun r => sf c (k r) := by unfold sf; cases yf? c <;> rfl
theorem sf_fork {a k} : sf c (.fork a k) = .fork a fun r => sf c (k r) := by unfold sf; cases yf? c <;> rfl
theorem sf_thread {k} : sf c (.thread k) = .thread fun r => sf c (k r) := by unfold sf; cases yf? c <;> rfl
theorem sf_await {a b d e k} : sf c (.await a b d e k) = .await a b d e fun r => sf c (k r) := by unfold sf; cases yf? c <;> rfl
theorem sf_yield {v l k} : sf c (.yield v false l k) = .yield v false (sfl c false l) fun r => sf c (k r) := by unfold sf sfl; cases yf? c <;> rfl
theorem sf_leaf (r : Result) : sf c (leafOf r) = leafOf r := by cases r; exact sf_raise; exact sf_pure
end

/-! ### frames -/
theorem sfr_where (F : Frame) : (sfr F).where_ = F.where_ := by cases F <;> rfl
theorem sfr_guarded (F : Frame) : (sfr F).guarded = F.guarded := by cases F <;> rfl
theorem sfr_marks (F : Frame) : (sfr F).marks = F.marks := by cases F <;> rfl
theorem map_where (fs : List Frame) : (fs.map sfr).map Frame.where_ = fs.map Frame.where_ := by
  rw [List.map_map]; exact List.map_congr_left fun F _ => sfr_where F
theorem any_guarded (fs : List Frame) : (fs.map sfr).any Frame.guarded = fs.any Frame.guarded := by
  rw [List.any_map]
  congr 1
  funext F
  exact sfr_guarded F
theorem map_marks (fs : List Frame) (x) : marksOver (fs.map sfr) x = marksOver fs x := by
  induction fs with
  | nil => rfl
  | cons F fs ih => rw [List.map_cons, marksOver_cons, marksOver_cons, ih, sfr_marks]
theorem map_split (fs : List Frame) : splitAtGen (fs.map sfr) = (splitAtGen fs).map fun x => (x.1.map sfr, (x.2.1.1, (fun r => sf x.2.1.2.2.1 (x.2.1.2.1 r)), x.2.1.2.2), x.2.2.map sfr) := by
  induction fs with
  | nil => rfl
  | cons F fs ih =>
    cases F with
    | gen g k l c p => rfl
    | ret k h g l c p kp =>
      show (splitAtGen (fs.map sfr)).map _ = ((splitAtGen fs).map _).map _
      rw [ih]
      cases splitAtGen fs <;> rfl
theorem split_none {fs : List Frame} (h : splitAtGen fs = none) : splitAtGen (fs.map sfr) = none := by rw [map_split, h]; rfl
theorem top_map (fs : List Frame) : topHandled (fs.map sfr) = topHandled fs := by
  have go : ∀ (fs : List Frame) (b : Bool), topHandled.go b (fs.map sfr) = topHandled.go b fs := by
    intro fs
    induction fs with
    | nil => intro b; rfl
    | cons F fs ih =>
      intro b
      cases F with
      | gen g k l c p => cases b <;> exact ih false
      | ret k h g l c p kp =>
        cases b with
        | true => exact ih true
        | false =>
          cases h with
          | none => exact ih false
          | some e =>
            show (if e == byPass then _ else _) = (if e == byPass then _ else _)
            rw [ih true]
  exact go fs false
theorem over_map {Γ : Ctx} {fs : List Frame} (h : splitAtGen fs = none) : Γ.over (fs.map sfr) = Γ.over fs := by
  unfold Ctx.over
  rw [map_marks, map_where, map_marks, h, split_none h]

/-! ### states -/
def isS : GenState → Bool
  | .suspended .. => true
  | _ => false
/-- a sleeper that can't be woken -/
def dead : GenState → GenState
  | .suspended _ l c p fs cl => .suspended (fun _ => .unsupported "ch") l c p fs cl
  | x => x
def Old (G : Array GenState) (i : Nat) : Prop := ∃ x, G[i]? = some x ∧ isS x = true
/-- z: a state of the given model, whose old sleepers G are dead; s: the milder model's, where they sleep on -/
structure Rl (G : Array GenState) (z s : Shared) : Prop where
  heap : z.heap = s.heap
  drawn : z.drawn = s.drawn
  toks : z.toks = s.toks
  os : z.os = s.os
  size : z.gens.size = s.gens.size
  old : ∀ (i : Nat) (x : GenState), G[i]? = some x → isS x = true → s.gens[i]? = some x ∧ z.gens[i]? = some (dead x)
  new : ∀ (i : Nat), ¬ Old G i → s.gens[i]? = (z.gens[i]?).map sfg
/-- the new sleepers' frames hold no generator's frame -/
def Ng (G : Array GenState) (z : Shared) : Prop := ∀ (i : Nat) k l c p fs cl, ¬ Old G i → z.gens[i]? = some (.suspended k l c p fs cl) → splitAtGen fs = none
def NgE : End → Prop
  | .ret _ => True
  | .susp _ _ _ _ _ _ fs => splitAtGen fs = none
def sfe : End → End
  | .ret r => .ret r
  | .susp v g l k c p fs => .susp v g (sfl c false l) (fun r => sf c (k r)) c p (fs.map sfr)
theorem no_runs {M : Model} {Γ : Ctx} {p : Pos} {w : String} {fs : List Frame} {s s' : Shared} {e : End} (h : Runs M Γ p (.unsupported w) fs s e s') : False := by
  generalize ht : Sem.unsupported (α := PySem.Fin) w = t at h
  induction h <;> first | (cases ht; done) | (subst ht; simp_all)
section
variable {G : Array GenState} {z s : Shared}
theorem Rl.isOld (R : Rl G z s) {i : Nat} {y : GenState} (h : z.gens[i]? = some y) (hn : isS y = false) : ¬ Old G i := fun ⟨x, hx, hs⟩ => by
  have := (R.old i x hx hs).2
  rw [h] at this
  cases x <;> cases hs
  rw [Option.some.inj this] at hn
  cases hn
theorem Rl.at (R : Rl G z s) {i : Nat} {y : GenState} (h : z.gens[i]? = some y) (hn : ¬ Old G i) : s.gens[i]? = some (sfg y) := by rw [R.new i hn, h]; rfl
theorem Rl.set (R : Rl G z s) {i : Nat} (hn : ¬ Old G i) (x : GenState) : Rl G (z.setGen i x) (s.setGen i (sfg x)) := by
  refine ⟨R.heap, R.drawn, R.toks, R.os, by simp [Shared.setGen, R.size], fun j y hj hs => ?_, fun j hj => ?_⟩
  · have hji : i ≠ j := fun e => hn (by rw [e]; exact ⟨y, hj, hs⟩)
    obtain ⟨h1, h2⟩ := R.old j y hj hs
    simp only [Shared.setGen, Array.getElem?_setIfInBounds_ne hji]
    exact ⟨h1, h2⟩
  · by_cases hji : i = j
    · subst hji
      simp only [Shared.setGen, Array.getElem?_setIfInBounds, R.size, if_true]
      split <;> rfl
    · simp only [Shared.setGen, Array.getElem?_setIfInBounds_ne hji]
      exact R.new j hj
theorem Ng.set (R : Ng G z) {i : Nat} {x : GenState} (h : ∀ k l c p fs cl, x = .suspended k l c p fs cl → splitAtGen fs = none) : Ng G (z.setGen i x) := by
  intro j k l c p fs cl hj e
  by_cases hji : i = j
  · subst hji
    simp only [Shared.setGen, Array.getElem?_setIfInBounds, if_true] at e
    split at e
    · exact h _ _ _ _ _ _ (Option.some.inj e)
    · cases e
  · simp only [Shared.setGen, Array.getElem?_setIfInBounds_ne hji] at e
    exact R j k l c p fs cl hj e
theorem Rl.push (R : Rl G z s) (c : Code) : Rl G { z with gens := z.gens.push (.fresh c) } { s with gens := s.gens.push (.fresh c) } := by
  have lt : ∀ {a : Array GenState} {x y : GenState} {i : Nat}, a[i]? = some x → (a.push y)[i]? = some x := fun {a x y i} h => by
    obtain ⟨h1, _⟩ := Array.getElem?_eq_some_iff.mp h
    rw [Array.getElem?_push, if_neg (Nat.ne_of_lt h1)]
    exact h
  refine ⟨R.heap, R.drawn, R.toks, R.os, by simp [R.size], fun j y hj hs => ?_, fun j hj => ?_⟩
  · obtain ⟨h1, h2⟩ := R.old j y hj hs
    exact ⟨lt h1, lt h2⟩
  · simp only [Array.getElem?_push, R.size]
    split
    · rfl
    · exact R.new j hj
theorem Ng.push (R : Ng G z) (c : Code) : Ng G { z with gens := z.gens.push (.fresh c) } := by
  intro j k l d p fs cl hj e
  simp only [Array.getElem?_push] at e
  split at e
  · cases e
  · exact R j k l d p fs cl hj e
theorem sfg_seen (x : GenState) : (sfg x).seen = x.seen := by
  cases x with
  | suspended k l c p fs cl =>
    show (_, some (_ :: (fs.map sfr).map Frame.where_)) = (_, some (_ :: fs.map Frame.where_))
    rw [map_where]
  | _ => rfl
theorem dead_seen (x : GenState) : (dead x).seen = x.seen := by cases x <;> rfl
theorem Rl.seen (R : Rl G z s) {i : Nat} {x : GenState} (h : z.gens[i]? = some x) : ∃ y, s.gens[i]? = some y ∧ y.seen = x.seen := by
  by_cases ho : Old G i
  · obtain ⟨y, hy, hs⟩ := ho
    obtain ⟨h1, h2⟩ := R.old i y hy hs
    rw [h] at h2
    exact ⟨y, h1, by rw [Option.some.inj h2, dead_seen]⟩
  · exact ⟨_, R.at h ho, sfg_seen x⟩
theorem sfe_result (e : End) : (sfe e).result = e.result := by cases e <;> rfl
theorem sfe_quiet (e : End) : (sfe e).quiet = e.quiet := by
  cases e with
  | ret r => rfl
  | susp v g l k c p fs => show (!(g || (fs.map sfr).any Frame.guarded)) = _; rw [any_guarded]; rfl
theorem quiet_parts {v g l k c p} {fs : List Frame} (h : (End.susp v g l k c p fs).quiet = true) : g = false ∧ fs.any Frame.guarded = false := by
  have : (!(g || fs.any Frame.guarded)) = true := h
  cases g <;> cases hf : fs.any Frame.guarded <;> rw [hf] at this <;> first | exact ⟨rfl, rfl⟩ | cases this
theorem sfe_gen {e : End} (h : e.quiet = true) : (sfe e).genState = sfg e.genState := by
  cases e with
  | ret r => rfl
  | susp v g l k c p fs =>
    obtain ⟨rfl, hf⟩ := quiet_parts h
    show GenState.suspended _ _ c p _ (false || (fs.map sfr).any Frame.guarded) = GenState.suspended _ (sfl c (false || fs.any Frame.guarded) l) c p _ _
    rw [any_guarded, hf]
    congr 1
    cases yf? c <;> rfl
end
end CH
/-! text S2 -/
namespace CH
open PySem
open Sem (wp)

section
variable {prog : Program} {w : World} {G : Array GenState}
theorem any_app (a b : List Frame) : (a ++ b).any Frame.guarded = (a.any Frame.guarded || b.any Frame.guarded) := by rw [List.any_append]
theorem quiet_pre {v g l k c p} {a b : List Frame} (h : (End.susp v g l k c p (a ++ b)).quiet = true) : (End.susp v g l k c p a).quiet = true := by
  obtain ⟨rfl, hf⟩ := quiet_parts h
  rw [any_app] at hf
  show (!(false || a.any Frame.guarded)) = true
  cases ha : a.any Frame.guarded
  · rfl
  · rw [ha] at hf; cases hf
theorem quiet_gen {v g l k c p} {fs : List Frame} (h : (End.susp v g l k c p fs).quiet = true) (hn : splitAtGen fs = none) : ∀ k' l' c' p' fs' cl, (End.susp v g l k c p fs).genState = .suspended k' l' c' p' fs' cl → splitAtGen fs' = none := by
  intro k' l' c' p' fs' cl e
  cases e
  exact hn
theorem ngE_gen {e : End} (h : NgE e) : ∀ k l c p fs cl, e.genState = .suspended k l c p fs cl → splitAtGen fs = none := by
  cases e with
  | ret r => intro k l c p fs cl e; cases e
  | susp v g l k c p fs => intro k' l' c' p' fs' cl e; cases e; exact h
theorem no_susp {x : GenState} (h : ∀ k l c p fs cl, x ≠ .suspended k l c p fs cl) : ∀ k l c p fs cl, x = .suspended k l c p fs cl → splitAtGen fs = none := fun k l c p fs cl e => absurd e (h k l c p fs cl)
theorem tr_runs {Γ : Ctx} {p : Pos} {t : Sem PySem.Fin} {fs : List Frame} {z z' : Shared} {e : End} (h : Runs (model prog w) Γ p t fs z e z') :
    e.quiet = true → splitAtGen fs = none → Ng G z → ∀ s, Rl G z s → ∃ s', Rl G z' s' ∧ Ng G z' ∧ NgE e ∧ Runs (M2 prog w) Γ p (sf Γ.code t) (fs.map sfr) s (sfe e) s' := by
  induction h with
  | done => intro _ _ n s R; exact ⟨s, R, n, trivial, by rw [sf_pure]; exact .done⟩
  | raise => intro _ _ n s R; exact ⟨s, R, n, trivial, by rw [sf_raise]; exact .raise⟩
  | again hq _ ih =>
    intro q _ n s R
    obtain ⟨s', R', n', ne, r⟩ := ih q rfl n s R
    exact ⟨s', R', n', ne, by rw [sf_pure]; exact .again hq r⟩
  | rule _ ih =>
    intro q _ n s R
    obtain ⟨s', R', n', ne, r⟩ := ih q rfl n s R
    exact ⟨s', R', n', ne, by rw [sf_rule]; exact .rule r⟩
  | «at» _ ih =>
    intro q _ n s R
    obtain ⟨s', R', n', ne, r⟩ := ih q rfl n s R
    exact ⟨s', R', n', ne, by rw [sf_at]; exact .at r⟩
  | load ho _ ih =>
    intro q _ n s R
    obtain ⟨s', R', n', ne, r⟩ := ih q rfl n s R
    exact ⟨s', R', n', ne, by rw [sf_load]; exact .load (by rw [← R.heap]; exact ho) r⟩
  | @update _ _ k _ e _ a part f ha _ ih =>
    intro q _ n s R
    obtain ⟨s', R', n', ne, r⟩ := ih q rfl n { s with heap := s.heap.update a f } ⟨by rw [R.heap], R.drawn, R.toks, R.os, R.size, R.old, R.new⟩
    exact ⟨s', R', n', ne, by rw [sf_update]; exact .update (by rw [← R.heap]; exact ha) r⟩
  | loadIfAlive _ ih =>
    intro q _ n s R
    obtain ⟨s', R', n', ne, r⟩ := ih q rfl n s R
    exact ⟨s', R', n', ne, by rw [sf_loadIfAlive]; exact .loadIfAlive (by rw [R.heap] at r; exact r)⟩
  | point _ ih =>
    intro q _ n s R
    obtain ⟨s', R', n', ne, r⟩ := ih q rfl n s R
    exact ⟨s', R', n', ne, by rw [sf_point]; exact .point r⟩
  | @alloc _ _ k _ e _ o _ ih =>
    intro q _ n s R
    obtain ⟨s', R', n', ne, r⟩ := ih q rfl n { s with heap := s.heap.push o } ⟨by rw [R.heap], R.drawn, R.toks, R.os, R.size, R.old, R.new⟩
    exact ⟨s', R', n', ne, by rw [sf_alloc]; exact .alloc (by rw [R.heap] at r; exact r)⟩
  | fresh _ ih =>
    intro q _ n s R
    obtain ⟨s', R', n', ne, r⟩ := ih q rfl n { s with toks := s.toks + 1 } ⟨R.heap, R.drawn, by rw [R.toks], R.os, R.size, R.old, R.new⟩
    exact ⟨s', R', n', ne, by rw [sf_fresh]; exact .fresh (by rw [R.toks] at r; exact r)⟩
  | ask _ ih =>
    intro q _ n s R
    obtain ⟨s', R', n', ne, r⟩ := ih q rfl n s R
    exact ⟨s', R', n', ne, by rw [sf_ask]; exact .ask r⟩
  | @choose m _ _ k _ e _ src hn _ ih =>
    intro q _ n s R
    obtain ⟨s', R', n', ne, r⟩ := ih q rfl n { s with drawn := s.drawn.bump src } ⟨R.heap, by rw [R.drawn], R.toks, R.os, R.size, R.old, R.new⟩
    exact ⟨s', R', n', ne, by rw [sf_choose]; exact .choose hn (by rw [R.drawn] at r; exact r)⟩
  | @os _ _ k _ e _ q l _ ih =>
    intro q2 _ n s R
    obtain ⟨s', R', n', ne, r⟩ := ih q2 rfl n { s with os := (Os.step s.os q).1 } ⟨R.heap, R.drawn, R.toks, by rw [R.os], R.size, R.old, R.new⟩
    exact ⟨s', R', n', ne, by rw [sf_os]; exact .os (by rw [R.os] at r; exact r)⟩
  | handled _ ih =>
    intro q _ n s R
    obtain ⟨s', R', n', ne, r⟩ := ih q rfl n s R
    exact ⟨s', R', n', ne, by rw [sf_handled]; exact .handled r⟩
  | genState hg _ ih =>
    intro q _ n s R
    obtain ⟨s', R', n', ne, r⟩ := ih q rfl n s R
    obtain ⟨y, hy, hs⟩ := R.seen hg
    exact ⟨s', R', n', ne, by rw [sf_genState]; exact .genState hy (by rw [hs]; exact r)⟩
  | stack _ ih =>
    intro q _ n s R
    obtain ⟨s', R', n', ne, r⟩ := ih q rfl n s R
    exact ⟨s', R', n', ne, by rw [sf_stack]; exact .stack r⟩
  | thread _ ih =>
    intro q _ n s R
    obtain ⟨s', R', n', ne, r⟩ := ih q rfl n s R
    exact ⟨s', R', n', ne, by rw [sf_thread]; exact .thread r⟩
  | @newGen _ _ k _ e _ c _ ih =>
    intro q _ n s R
    obtain ⟨s', R', n', ne, r⟩ := ih q rfl (n.push c) { s with gens := s.gens.push (.fresh c) } (R.push c)
    exact ⟨s', R', n', ne, by rw [sf_newGen]; exact .newGen (by rw [R.size] at r; exact r)⟩
  | call _ _ ih1 ih2 =>
    intro q _ n s R
    obtain ⟨s1, R1, n1, _, r1⟩ := ih1 rfl rfl n s R
    obtain ⟨s', R', n', ne, r⟩ := ih2 q rfl n1 s1 R1
    exact ⟨s', R', n', ne, by rw [sf_call]; exact .call r1 r⟩
  | callSusp _ ih =>
    intro q _ n s R
    obtain ⟨s', R', n', ne, r⟩ := ih (quiet_pre q) rfl n s R
    refine ⟨s', R', n', ?_, ?_⟩
    · show splitAtGen (_ ++ _) = none
      rw [splitAtGen_append_none _ ne]; rfl
    · rw [sf_call]
      show Runs _ _ _ _ _ _ (.susp _ _ _ _ _ _ (List.map sfr (_ ++ _))) _
      rw [List.map_append]
      exact Runs.callSusp r
  | @yield _ _ v g l k _ =>
    intro q _ n s R
    obtain ⟨rfl, _⟩ := quiet_parts q
    exact ⟨s, R, n, rfl, by rw [sf_yield]; exact .yield⟩
  | @resumeFresh Γ p g l k s0 c e₁ s₁ e s' hg _ hq _ ih1 ih2 =>
    intro q _ n s R
    have ho := R.isOld hg rfl
    obtain ⟨s1, R1, n1, ne1, r1⟩ := ih1 hq rfl (n.set (x := .running) fun _ _ _ _ _ _ z => by cases z) _ (R.set ho .running)
    obtain ⟨s', R', n', ne, r⟩ := ih2 q rfl (n1.set (ngE_gen ne1)) _ (R1.set ho e₁.genState)
    refine ⟨s', R', n', ne, ?_⟩
    rw [sf_resume]
    rw [← sfe_gen hq] at r
    exact .resumeFresh (R.at hg ho) r1 (by rw [sfe_quiet]; exact hq) (by rw [sfe_result]; exact r)
  | @resumeSuspended Γ p g r l k s0 k₀ l₀ c₀ p₀ fs cl e₁ s₁ e s' hg hr hq _ ih1 ih2 =>
    intro q _ n s R
    by_cases ho : Old G g
    · obtain ⟨x, hx, hs⟩ := ho
      have hd := (R.old g x hx hs).2
      rw [hg] at hd
      cases x <;> cases hs
      have hk := Option.some.inj hd
      unfold dead at hk
      injection hk with h1
      rw [h1] at hr
      exact (no_runs hr).elim
    · obtain ⟨s1, R1, n1, ne1, r1⟩ := ih1 hq (n _ _ _ _ _ _ _ ho hg) (n.set (x := .running) fun _ _ _ _ _ _ z => by cases z) _ (R.set ho .running)
      obtain ⟨s', R', n', ne, r2⟩ := ih2 q rfl (n1.set (ngE_gen ne1)) _ (R1.set ho e₁.genState)
      refine ⟨s', R', n', ne, ?_⟩
      rw [sf_resume]
      rw [← sfe_gen hq] at r2
      exact .resumeSuspended (R.at hg ho) r1 (by rw [sfe_quiet]; exact hq) (by rw [sfe_result]; exact r2)
  | resumeJustStarted hg hv _ ih =>
    intro q _ n s R
    obtain ⟨s', R', n', ne, r⟩ := ih q rfl n s R
    exact ⟨s', R', n', ne, by rw [sf_resume]; exact .resumeJustStarted (R.at hg (R.isOld hg rfl)) hv r⟩
  | resumeThrowFresh hg _ ih =>
    intro q _ n s R
    have ho := R.isOld hg rfl
    obtain ⟨s', R', n', ne, r⟩ := ih q rfl (n.set (x := .finished) fun _ _ _ _ _ _ z => by cases z) _ (R.set ho .finished)
    exact ⟨s', R', n', ne, by rw [sf_resume]; exact .resumeThrowFresh (R.at hg ho) r⟩
  | resumeRunning hg _ ih =>
    intro q _ n s R
    obtain ⟨s', R', n', ne, r⟩ := ih q rfl n s R
    exact ⟨s', R', n', ne, by rw [sf_resume]; exact .resumeRunning (R.at hg (R.isOld hg rfl)) r⟩
  | resumeFinished hg _ ih =>
    intro q _ n s R
    obtain ⟨s', R', n', ne, r⟩ := ih q rfl n s R
    exact ⟨s', R', n', ne, by rw [sf_resume]; exact .resumeFinished (R.at hg (R.isOld hg rfl)) r⟩
  | @segRet Γ p t k h g l c₁ p₁ kp fs s0 r s₁ e s' _ _ ih1 ih2 =>
    intro q hs n s R
    have hf : splitAtGen fs = none := by
      rw [splitAtGen_ret] at hs
      cases hh : splitAtGen fs with
      | none => rfl
      | some x => rw [hh] at hs; cases hs
    obtain ⟨s1, R1, n1, _, r1⟩ := ih1 rfl rfl n s R
    obtain ⟨s', R', n', ne, r2⟩ := ih2 q hf n1 s1 R1
    refine ⟨s', R', n', ne, .segRet ?_ r2⟩
    have := over_map (Γ := Γ) hs
    rw [List.map_cons] at this
    have e : Γ.over (.ret (fun r => sf c₁ (k r)) h g l c₁ p₁ kp :: fs.map sfr) = _ := this
    rw [e]
    exact r1
  | segGen _ _ _ _ => intro q hs; rw [splitAtGen_gen] at hs; cases hs
  | @segSuspOut Γ p t F fs s0 v g₀ l₀ k₀ c₀ p₀ fs₀ s' hsp _ ih =>
    intro q hs n s R
    obtain ⟨s', R', n', ne, r⟩ := ih (quiet_pre q) rfl n s R
    refine ⟨s', R', n', ?_, ?_⟩
    · show splitAtGen (_ ++ _) = none
      rw [splitAtGen_append_none _ ne, hs]; rfl
    · show Runs _ _ _ _ _ _ (.susp _ _ _ _ _ _ (List.map sfr (_ ++ _))) _
      rw [List.map_append]
      refine .segSuspOut (split_none hs) ?_
      have := over_map (Γ := Γ) hs
      rw [List.map_cons] at this
      rw [this]
      exact r
  | segSuspGen hsp _ _ _ _ _ => intro q hs; rw [hsp] at hs; cases hs
end
end CH
/-! text S3 -/
namespace CH
open PySem PyProof.Rows
open Sem (wp)

section
variable {prog : Program} {w : World} {G : Array GenState}
theorem tr_wakes {Γ : Ctx} {p : Pos} {g : Nat} {r : Resume} {z z' s : Shared} {res : GenResult} (h : Wakes (model prog w) Γ p g r z res z') (n : Ng G z) (R : Rl G z s) :
    ∃ s', Rl G z' s' ∧ Ng G z' ∧ Wakes (M2 prog w) Γ p g r s res s' := by
  unfold Wakes at h
  cases hg : z.gens[g]? with
  | none => rw [hg] at h; exact h.elim
  | some x =>
    rw [hg] at h
    cases x with
    | fresh c =>
      have ho := R.isOld hg rfl
      have hs := R.at hg ho
      cases r with
      | send v =>
        by_cases hv : v = .none
        · subst hv
          obtain ⟨e₁, s₁, hr, hq, rfl, rfl⟩ := h
          obtain ⟨s1, R1, n1, ne1, r1⟩ := tr_runs hr hq rfl (n.set (x := .running) fun _ _ _ _ _ _ z => by cases z) _ (R.set ho .running)
          refine ⟨s1.setGen g (sfe e₁).genState, by rw [sfe_gen hq]; exact R1.set ho _, n1.set (ngE_gen ne1), ?_⟩
          unfold Wakes
          rw [hs]
          exact ⟨sfe e₁, s1, r1, by rw [sfe_quiet]; exact hq, (sfe_result e₁).symm, rfl⟩
        · have h2 : res = .justStarted ∧ z' = z := by cases v <;> first | exact absurd rfl hv | exact h
          obtain ⟨rfl, rfl⟩ := h2
          refine ⟨s, R, n, ?_⟩
          unfold Wakes
          rw [hs]
          cases v <;> first | exact absurd rfl hv | exact ⟨rfl, rfl⟩
      | throw x =>
        obtain ⟨rfl, rfl⟩ := h
        refine ⟨s.setGen g .finished, R.set ho .finished, n.set (x := .finished) (fun _ _ _ _ _ _ z => by cases z), ?_⟩
        unfold Wakes
        rw [hs]
        exact ⟨rfl, rfl⟩
    | suspended k₀ l₀ c₀ p₀ fs cl =>
      obtain ⟨e₁, s₁, hr, hq, rfl, rfl⟩ := h
      by_cases ho : Old G g
      · obtain ⟨x, hx, hs⟩ := ho
        have hd := (R.old g x hx hs).2
        rw [hg] at hd
        cases x <;> cases hs
        have hk := Option.some.inj hd
        unfold dead at hk
        injection hk with h1
        rw [h1] at hr
        exact (no_runs hr).elim
      · have hs := R.at hg ho
        obtain ⟨s1, R1, n1, ne1, r1⟩ := tr_runs hr hq (n _ _ _ _ _ _ _ ho hg) (n.set (x := .running) fun _ _ _ _ _ _ z => by cases z) _ (R.set ho .running)
        refine ⟨s1.setGen g (sfe e₁).genState, by rw [sfe_gen hq]; exact R1.set ho _, n1.set (ngE_gen ne1), ?_⟩
        unfold Wakes
        rw [hs]
        exact ⟨sfe e₁, s1, r1, by rw [sfe_quiet]; exact hq, (sfe_result e₁).symm, rfl⟩
    | running =>
      have hs := R.at hg (R.isOld hg rfl)
      obtain ⟨rfl, rfl⟩ := h
      refine ⟨s, R, n, ?_⟩
      unfold Wakes
      rw [hs]
      exact ⟨rfl, rfl⟩
    | finished =>
      have hs := R.at hg (R.isOld hg rfl)
      obtain ⟨rfl, rfl⟩ := h
      refine ⟨s, R, n, ?_⟩
      unfold Wakes
      rw [hs]
      exact ⟨rfl, rfl⟩
/-- THE TRANSFER: what is shown in the given model holds in the milder one -/
theorem tr_wp {α : Type} {Γ : Ctx} (t : Sem α) : ∀ {Q : α → Pos → Shared → Prop} {E : Value → Pos → Shared → Prop} {p : Pos} {z s : Shared}, wp (model prog w) Γ t Q E p z → Ng G z → Rl G z s →
    wp (M2 prog w) Γ t (fun a p' s' => ∃ z', Rl G z' s' ∧ Ng G z' ∧ Q a p' z') (fun e p' s' => ∃ z', Rl G z' s' ∧ Ng G z' ∧ E e p' z') p s := by
  induction t with
  | pure a => intro Q E p z s h n R; exact ⟨z, R, n, h⟩
  | raise a => intro Q E p z s h n R; exact ⟨z, R, n, h⟩
  | unsupported | finish | yield | fork | await | register => intro Q E p z s h n R; exact h.elim
  | rule _ k ih => intro Q E p z s h n R; exact ih () h n R
  | «at» _ k ih => intro Q E p z s h n R; exact ih () h n R
  | load a _ k ih => intro Q E p z s h n R; obtain ⟨o, ho, h⟩ := h; exact ⟨o, by rw [← R.heap]; exact ho, ih o h n R⟩
  | update a _ f k ih =>
    intro Q E p z s h n R
    obtain ⟨ha, h⟩ := h
    exact ⟨by rw [← R.heap]; exact ha, ih () h n ⟨by rw [R.heap], R.drawn, R.toks, R.os, R.size, R.old, R.new⟩⟩
  | alloc o k ih =>
    intro Q E p z s h n R
    have h' : wp (model prog w) Γ (k z.heap.objs.size) Q E p { z with heap := z.heap.push o } := h
    have := ih _ h' n (s := { s with heap := s.heap.push o }) ⟨by rw [R.heap], R.drawn, R.toks, R.os, R.size, R.old, R.new⟩
    rw [R.heap] at this
    exact this
  | loadIfAlive a k ih =>
    intro Q E p z s h n R
    have := ih _ h n R
    rw [R.heap] at this
    exact this
  | point _ k ih => intro Q E p z s h n R; exact ih () h n R
  | fresh k ih =>
    intro Q E p z s h n R
    have h' : wp (model prog w) Γ (k z.toks) Q E p { z with toks := z.toks + 1 } := h
    have := ih _ h' n (s := { s with toks := s.toks + 1 }) ⟨R.heap, R.drawn, by rw [R.toks], R.os, R.size, R.old, R.new⟩
    rw [R.toks] at this
    exact this
  | ask k ih => intro Q E p z s h n R; exact ih _ h n R
  | choose src m k ih =>
    intro Q E p z s h n R
    obtain ⟨hm, h⟩ := h
    have := ih _ h n (s := { s with drawn := s.drawn.bump src }) ⟨R.heap, by rw [R.drawn], R.toks, R.os, R.size, R.old, R.new⟩
    rw [R.drawn] at this
    exact ⟨hm, this⟩
  | os q l k ih =>
    intro Q E p z s h n R
    have h' : wp (model prog w) Γ (k (Os.step z.os q).2) Q E p { z with os := (Os.step z.os q).1 } := h
    have := ih _ h' n (s := { s with os := (Os.step s.os q).1 }) ⟨R.heap, R.drawn, R.toks, by rw [R.os], R.size, R.old, R.new⟩
    rw [R.os] at this
    exact this
  | call c hd _ _ k ih =>
    intro Q E p z s h n R
    obtain ⟨r, z1, hr, h⟩ := h
    obtain ⟨s1, R1, n1, _, r1⟩ := tr_runs hr rfl rfl n s R
    exact ⟨r, s1, r1, ih r h n1 R1⟩
  | handled own k ih => intro Q E p z s h n R; exact ih _ h n R
  | newGen c k ih =>
    intro Q E p z s h n R
    have h' : wp (model prog w) Γ (k z.gens.size) Q E p { z with gens := z.gens.push (.fresh c) } := h
    have := ih _ h' (n.push c) (R.push c)
    rw [R.size] at this
    exact this
  | genState g k ih =>
    intro Q E p z s h n R
    obtain ⟨x, hx, h⟩ := h
    obtain ⟨y, hy, hs⟩ := R.seen hx
    exact ⟨y, hy, by rw [hs]; exact ih _ h n R⟩
  | resume g r l k ih =>
    intro Q E p z s h n R
    obtain ⟨res, z1, hw, h⟩ := h
    obtain ⟨s1, R1, n1, w1⟩ := tr_wakes hw n R
    exact ⟨res, s1, w1, ih res h n1 R1⟩
  | stack k ih => intro Q E p z s h n R; exact ih _ h n R
  | thread k ih => intro Q E p z s h n R; exact ih _ h n R
end

/-! ### the sleepers of a state -/
def numb (s : Shared) : Shared := { s with gens := s.gens.map dead }
/-- no sleeper yields from a generator -/
def Ny (G : Array GenState) : Prop := ∀ (i : Nat) k l c p fs cl, G[i]? = some (.suspended k l c p fs cl) → (yf? c).isSome = true → l = []
structure Aft (s z s' : Shared) : Prop where
  heap : z.heap = s'.heap
  toks : z.toks = s'.toks
  os : z.os = s'.os
  drawn : z.drawn = s'.drawn
  old : ∀ (i : Nat) x, s.gens[i]? = some x → isS x = true → s'.gens[i]? = some x
  size : s.gens.size ≤ s'.gens.size
  bare : AllBare z.gens → AllBare s.gens → AllBare s'.gens
  mark : AllBare z.gens → ∀ (i : Nat) k l c p fs cl, s'.gens[i]? = some (.suspended k l c p fs cl) → (yf? c).isSome = true → l = [] ∨ s.gens[i]? = some (.suspended k l c p fs cl)
theorem numb_rl (s : Shared) : Rl s.gens (numb s) s where
  heap := rfl
  drawn := rfl
  toks := rfl
  os := rfl
  size := by simp [numb]
  old := fun i x hx _ => ⟨hx, by simp [numb, Array.getElem?_map, hx]⟩
  new := fun i h => by
    simp only [numb, Array.getElem?_map]
    cases hx : s.gens[i]? with
    | none => rfl
    | some x =>
      cases x with
      | suspended k l c p fs cl => exact absurd ⟨_, hx, rfl⟩ h
      | _ => rfl
theorem numb_ng (s : Shared) : Ng s.gens (numb s) := by
  intro i k l c p fs cl ho e
  simp only [numb, Array.getElem?_map] at e
  cases hx : s.gens[i]? with
  | none => rw [hx] at e; cases e
  | some x =>
    rw [hx] at e
    have e' : dead x = _ := Option.some.inj e
    cases x with
    | suspended k l c p fs cl => exact absurd ⟨_, hx, rfl⟩ ho
    | fresh => cases e'
    | running => cases e'
    | finished => cases e'
theorem numb_bare {s : Shared} (h : AllBare s.gens) : AllBare (numb s).gens := by
  intro x hx
  simp only [numb, Array.mem_map] at hx
  obtain ⟨y, hy, rfl⟩ := hx
  have := h y hy
  cases y <;> exact this
theorem mem_of_at {G : Array GenState} {i : Nat} {x : GenState} (h : G[i]? = some x) : x ∈ G := by
  obtain ⟨h1, rfl⟩ := Array.getElem?_eq_some_iff.mp h
  exact Array.getElem_mem h1
theorem Rl.bare_of {G : Array GenState} {z s' : Shared} (R : Rl G z s') (hz : AllBare z.gens) {i : Nat} {x : GenState} (hx : s'.gens[i]? = some x) (ho : ¬ Old G i) : x.bare = true ∧ ∀ k l c p fs cl, x = .suspended k l c p fs cl → (yf? c).isSome = true → l = [] := by
  have hn := R.new i ho
  rw [hx] at hn
  cases hy : z.gens[i]? with
  | none => rw [hy] at hn; cases hn
  | some y =>
    rw [hy] at hn
    have e : x = sfg y := Option.some.inj hn
    have hb := hz y (mem_of_at hy)
    subst e
    cases y with
    | suspended k l c p fs cl =>
      have hcl : cl = false := by cases cl; rfl; cases hb
      subst hcl
      refine ⟨?_, fun k' l' c' p' fs' cl' e hc => ?_⟩
      · show (!(match yf? c with | some _ => false | none => false)) = true
        cases yf? c <;> rfl
      · injection e with _ e2 e3
        subst e3
        rw [← e2]
        unfold sfl
        cases h : yf? c with
        | none => rw [h] at hc; cases hc
        | some _ => rfl
    | fresh => exact ⟨rfl, fun _ _ _ _ _ _ e => by cases e⟩
    | running => exact ⟨rfl, fun _ _ _ _ _ _ e => by cases e⟩
    | finished => exact ⟨rfl, fun _ _ _ _ _ _ e => by cases e⟩
theorem Rl.aft {s z s' : Shared} (R : Rl s.gens z s') (hs : (numb s).gens.size ≤ z.gens.size) : Aft s z s' where
  heap := R.heap
  toks := R.toks
  os := R.os
  drawn := R.drawn
  old := fun i x hx h => (R.old i x hx h).1
  size := by
    have : (numb s).gens.size = s.gens.size := by simp [numb]
    rw [← R.size, ← this]
    exact hs
  bare := fun hz hb x hx => by
    obtain ⟨i, hi, rfl⟩ := Array.mem_iff_getElem.mp hx
    have e : s'.gens[i]? = some s'.gens[i] := Array.getElem?_eq_getElem hi
    by_cases ho : Old s.gens i
    · obtain ⟨y, hy, hsu⟩ := ho
      have := (R.old i y hy hsu).1
      rw [e] at this
      rw [Option.some.inj this]
      exact hb y (mem_of_at hy)
    · exact (R.bare_of hz e ho).1
  mark := fun hz i k l c p fs cl e hc => by
    by_cases ho : Old s.gens i
    · obtain ⟨y, hy, hsu⟩ := ho
      have := (R.old i y hy hsu).1
      rw [e] at this
      rw [← Option.some.inj this] at hy
      exact .inr hy
    · exact .inl ((R.bare_of hz e ho).2 _ _ _ _ _ _ rfl hc)
theorem Aft.ny {s z s' : Shared} (a : Aft s z s') (hz : AllBare z.gens) (n : Ny s.gens) : Ny s'.gens := fun i k l c p fs cl e hc => (a.mark hz i k l c p fs cl e hc).elim id fun h => n i k l c p fs cl h hc
/-- the transfer, of all arounds -/
theorem tr_any {prog : Program} {w : World} {α : Type} {A : Around} {t : Sem α} {s : Shared} {Q Q' : α → Shared → Prop} {E E' : Value → Shared → Prop} (h : wpAny (model prog w) A t Q E (numb s))
    (hQ : ∀ a z s', Aft s z s' → Q a z → Q' a s') (hE : ∀ a z s', Aft s z s' → E a z → E' a s') : wpAny (M2 prog w) A t Q' E' s := by
  intro Γ p hΓ
  have h1 := GenW.wp_gsz (model prog w) Γ (numb s).gens.size t _ _ p (numb s) (Nat.le_refl _) (h Γ p hΓ)
  exact Sem.wp_mono _ _ _ (fun a _ s' ⟨z, R, _, hs, q⟩ => hQ a z s' (R.aft hs) q) (fun a _ s' ⟨z, R, _, hs, q⟩ => hE a z s' (R.aft hs) q) _ _ (tr_wp t h1 (numb_ng s) (numb_rl s))
/-- a state of the given model beside the milder model's, both behind s -/
structure Rx (s z s' : Shared) : Prop where
  rl : Rl s.gens z s'
  ng : Ng s.gens z
  sz : (numb s).gens.size ≤ z.gens.size
theorem Rx.aft {s z s' : Shared} (r : Rx s z s') : Aft s z s' := r.rl.aft r.sz
theorem Rx.here (s : Shared) : Rx s (numb s) s := ⟨numb_rl s, numb_ng s, Nat.le_refl _⟩
theorem tr_more {prog : Program} {w : World} {α : Type} {A : Around} {t : Sem α} {s z s' : Shared} {Q Q' : α → Shared → Prop} {E E' : Value → Shared → Prop} (r : Rx s z s') (h : wpAny (model prog w) A t Q E z)
    (hQ : ∀ a z s', Rx s z s' → Q a z → Q' a s') (hE : ∀ a z s', Rx s z s' → E a z → E' a s') : wpAny (M2 prog w) A t Q' E' s' := by
  intro Γ p hΓ
  have h1 := GenW.wp_gsz (model prog w) Γ (numb s).gens.size t _ _ p z r.sz (h Γ p hΓ)
  exact Sem.wp_mono _ _ _ (fun a _ s' ⟨z, R, n, hs, q⟩ => hQ a z s' ⟨R, n, hs⟩ q) (fun a _ s' ⟨z, R, n, hs, q⟩ => hE a z s' ⟨R, n, hs⟩ q) _ _ (tr_wp t h1 r.ng r.rl)
theorem Rx.same {s s' : Shared} (r : Rx s (numb s) s') : s' = s := by
  have hg : s'.gens = s.gens := Array.ext_getElem? fun i => by
    by_cases ho : Old s.gens i
    · obtain ⟨x, hx, hs⟩ := ho
      rw [(r.rl.old i x hx hs).1, hx]
    · rw [r.rl.new i ho, (numb_rl s).new i ho]
  obtain ⟨h, g, d, t, o⟩ := s
  obtain ⟨h', g', d', t', o'⟩ := s'
  have e1 : h = h' := r.rl.heap
  have e2 : d = d' := r.rl.drawn
  have e3 : t = t' := r.rl.toks
  have e4 : o = o' := r.rl.os
  have hg : g' = g := hg
  subst e1 e2 e3 e4 hg
  rfl
end CH
/-! text S4 -/
/-! The machine: where the milder model's run ends, the given machine's run ends, alike. -/
namespace CH
open PySem PyProof.Rows
open Sem (wp)

def sfs (s : Shared) : Shared := { s with gens := s.gens.map sfg }
def sft (t : Thread) : Thread := ⟨sf t.code t.cur, t.code, t.pos, t.stack.map sfr⟩
/-- a guarded yield within «yield from» -/
def Bad (t : Thread) : Prop := ∃ v l k, t.cur = .yield v true l k ∧ (yf? t.code).isSome = true
theorem sfs_set (s : Shared) (g : Nat) (x : GenState) : (s.gens.map sfg).setIfInBounds g (sfg x) = (s.gens.setIfInBounds g x).map sfg := by rw [Array.map_setIfInBounds]
section
variable {prog : Program} {w : World}
theorem step_go2 {s s₁ : Shared} {t t₁ : Thread} (hb : ¬ Bad t) (hc : (sft t).calm = true) (h : step (M2 prog w).den prog w (sfs s) (sft t) = .go s₁ t₁) : ∃ s' t', step (denote table) prog w s t = .go s' t' ∧ s₁ = sfs s' ∧ t₁ = sft t' := by
  obtain ⟨heap, gens, drawn, toks, os⟩ := s
  obtain ⟨cur, code, pos, stack⟩ := t
  cases cur with
  | pure fin =>
    cases fin with
    | again c =>
      simp only [sft, sf_pure, step] at h
      cases h
      refine ⟨_, _, rfl, rfl, ?_⟩
      unfold sft
      congr 1
      cases code <;> cases c <;> (first | rfl | (cases stack with | nil => rfl | cons F r => cases F <;> rfl))
    | done f =>
      cases stack with
      | nil =>
        simp only [sft, sf_pure, step, List.map_nil, finish] at h
        split at h <;> cases h
      | cons F r =>
        cases F with
        | ret k hd g l c p kp =>
          simp only [sft, sf_pure, step, List.map_cons, sfr] at h
          cases h
          exact ⟨_, _, rfl, rfl, rfl⟩
        | gen g k l c p =>
          simp only [sft, sf_pure, step, List.map_cons, sfr, sfs] at h
          cases h
          refine ⟨_, _, rfl, ?_, rfl⟩
          unfold sfs
          congr 1
          exact sfs_set ⟨heap, gens, drawn, toks, os⟩ g .finished
  | raise e =>
    cases stack with
    | nil =>
      simp only [sft, sf_raise, step, List.map_nil, finish] at h
      split at h <;> cases h
    | cons F r =>
      cases F with
      | ret k hd g l c p kp =>
        simp only [sft, sf_raise, step, List.map_cons, sfr] at h
        cases h
        exact ⟨_, _, rfl, rfl, rfl⟩
      | gen g k l c p =>
        simp only [sft, sf_raise, step, List.map_cons, sfr, sfs] at h
        cases h
        refine ⟨_, _, rfl, ?_, rfl⟩
        unfold sfs
        congr 1
        exact sfs_set ⟨heap, gens, drawn, toks, os⟩ g .finished
  | unsupported what => simp only [sft, sf_unsupported, step] at h; cases h
  | finish e => simp only [sft, sf_finish, step] at h; split at h <;> cases h
  | rule a k => simp only [sft, sf_rule, step] at h; cases h; exact ⟨_, _, rfl, rfl, rfl⟩
  | «at» a k => simp only [sft, sf_at, step] at h; cases h; exact ⟨_, _, rfl, rfl, rfl⟩
  | load a b k =>
    simp only [sft, sf_load, step, sfs] at h
    cases ho : heap.get? a with
    | none => rw [ho] at h; cases h
    | some o => rw [ho] at h; cases h; exact ⟨⟨heap, gens, drawn, toks, os⟩, ⟨k o, code, pos, stack⟩, by simp only [step, ho], rfl, rfl⟩
  | update a b f k =>
    simp only [sft, sf_update, step, sfs] at h
    split at h
    · rename_i ho
      cases h
      exact ⟨⟨heap.update a f, gens, drawn, toks, os⟩, ⟨k (), code, pos, stack⟩, by simp only [step, ho, if_true], rfl, rfl⟩
    · cases h
  | alloc a k => simp only [sft, sf_alloc, step] at h; cases h; exact ⟨_, _, rfl, rfl, rfl⟩
  | loadIfAlive a k => simp only [sft, sf_loadIfAlive, step] at h; cases h; exact ⟨_, _, rfl, rfl, rfl⟩
  | point a k => simp only [sft, sf_point, step] at h; cases h; exact ⟨_, _, rfl, rfl, rfl⟩
  | register a k => simp only [sft, sf_register, step] at h; cases h
  | fresh k => simp only [sft, sf_fresh, step] at h; cases h; exact ⟨_, _, rfl, rfl, rfl⟩
  | ask k => simp only [sft, sf_ask, step] at h; cases h; exact ⟨_, _, rfl, rfl, rfl⟩
  | choose a n k =>
    simp only [sft, sf_choose, step, sfs] at h
    split at h
    · cases h
    · rename_i hn
      cases h
      exact ⟨⟨heap, gens, drawn.bump a, toks, os⟩, ⟨_, code, pos, stack⟩, by simp only [step, hn, if_false], rfl, rfl⟩
  | os a b k => simp only [sft, sf_os, step] at h; cases h; exact ⟨_, _, rfl, rfl, rfl⟩
  | call c hd g l k => simp only [sft, sf_call, step] at h; cases h; exact ⟨_, _, rfl, rfl, rfl⟩
  | handled own k =>
    simp only [sft, sf_handled, step] at h
    cases h
    refine ⟨_, _, rfl, rfl, ?_⟩
    unfold sft
    congr 2
    cases own
    · simp only [Bool.false_eq_true, if_false]; exact congrArg k (top_map stack)
    · simp only [if_true, map_split]
      cases splitAtGen stack with
      | none => exact congrArg k (top_map stack)
      | some x => exact congrArg k (top_map x.1)
  | newGen c k =>
    simp only [sft, sf_newGen, step, sfs] at h
    cases h
    refine ⟨⟨heap, gens.push (.fresh c), drawn, toks, os⟩, ⟨k gens.size, code, pos, stack⟩, rfl, ?_, ?_⟩
    · unfold sfs; congr 1; rw [Array.map_push]; rfl
    · unfold sft; congr 2; simp
  | genState g k =>
    simp only [sft, sf_genState, step, sfs, Array.getElem?_map] at h
    cases hg : gens[g]? with
    | none => rw [hg] at h; cases h
    | some x =>
      rw [hg] at h
      simp only [Option.map_some] at h
      refine ⟨⟨heap, gens, drawn, toks, os⟩, ⟨k x.seen, code, pos, stack⟩, ?_, ?_⟩
      · simp only [step, hg]; cases x <;> rfl
      · cases x with
        | suspended k' l c p fs cl =>
          simp only [sfg] at h
          cases h
          refine ⟨rfl, ?_⟩
          unfold sft
          congr 2
          show k (_, some (_ :: (fs.map sfr).map Frame.where_)) = k (_, some (_ :: fs.map Frame.where_))
          rw [map_where]
        | fresh c => cases h; exact ⟨rfl, rfl⟩
        | running => cases h; exact ⟨rfl, rfl⟩
        | finished => cases h; exact ⟨rfl, rfl⟩
  | resume g r l k =>
    simp only [sft, sf_resume, step, sfs, Array.getElem?_map] at h
    cases hg : gens[g]? with
    | none => rw [hg] at h; cases h
    | some x =>
      rw [hg] at h
      simp only [Option.map_some] at h
      cases x with
      | suspended k' l' c p fs cl =>
        simp only [sfg] at h
        cases h
        refine ⟨⟨heap, gens.setIfInBounds g .running, drawn, toks, os⟩, ⟨k' r, c, p, fs ++ .gen g k l code pos :: stack⟩, by simp only [step, hg], ?_, ?_⟩
        · unfold sfs; congr 1; exact sfs_set ⟨heap, gens, drawn, toks, os⟩ g .running
        · unfold sft; congr 1; rw [List.map_append]; rfl
      | fresh c =>
        simp only [sfg] at h
        cases r with
        | throw e =>
          cases h
          refine ⟨⟨heap, gens.setIfInBounds g .finished, drawn, toks, os⟩, ⟨k (.raised e), code, pos, stack⟩, by simp only [step, hg], ?_, rfl⟩
          unfold sfs; congr 1; exact sfs_set ⟨heap, gens, drawn, toks, os⟩ g .finished
        | send v =>
          by_cases hv : v = .none
          · subst hv
            cases h
            refine ⟨⟨heap, gens.setIfInBounds g .running, drawn, toks, os⟩, ⟨denote table c, c, pos, .gen g k l code pos :: stack⟩, by simp only [step, hg], ?_, ?_⟩
            · unfold sfs; congr 1; exact sfs_set ⟨heap, gens, drawn, toks, os⟩ g .running
            · rfl
          · refine ⟨⟨heap, gens, drawn, toks, os⟩, ⟨k .justStarted, code, pos, stack⟩, ?_, ?_⟩
            · cases v <;> first | exact absurd rfl hv | simp only [step, hg]
            · cases v <;> first | exact absurd rfl hv | (cases h; exact ⟨rfl, rfl⟩)
      | running => cases h; exact ⟨⟨heap, gens, drawn, toks, os⟩, ⟨k .running, code, pos, stack⟩, by simp only [step, hg], rfl, rfl⟩
      | finished => cases h; exact ⟨⟨heap, gens, drawn, toks, os⟩, ⟨k .finished, code, pos, stack⟩, by simp only [step, hg], rfl, rfl⟩
  | yield v g l k =>
    have main : ∀ (l' : List Value), sf code (.yield v g l k) = .yield v g l' (fun r => sf code (k r)) → (∀ fs, splitAtGen stack = some fs → sfg (.suspended k l code pos fs.1 (g || fs.1.any Frame.guarded)) = .suspended (fun r => sf code (k r)) l' code pos (fs.1.map sfr) (g || (fs.1.map sfr).any Frame.guarded)) →
        ∃ s' t', step (denote table) prog w ⟨heap, gens, drawn, toks, os⟩ ⟨.yield v g l k, code, pos, stack⟩ = .go s' t' ∧ s₁ = sfs s' ∧ t₁ = sft t' := fun l' e1 e2 => by
      simp only [sft, e1, step, map_split, sfs] at h
      cases hs : splitAtGen stack with
      | none => rw [hs] at h; cases h
      | some x =>
        rw [hs] at h
        obtain ⟨fs, ⟨g', k', c', p'⟩, rest⟩ := x
        simp only [Option.map_some] at h
        cases h
        refine ⟨⟨heap, gens.setIfInBounds g' (.suspended k l code pos fs (g || fs.any Frame.guarded)), drawn, toks, os⟩, ⟨k' (.yielded v), c', p', rest⟩, by simp only [step, hs], ?_, rfl⟩
        unfold sfs
        congr 1
        show _ = (gens.setIfInBounds g' _).map sfg
        rw [← sfs_set ⟨heap, gens, drawn, toks, os⟩ g' _, e2 _ hs]
    cases hy : yf? code with
    | none =>
      refine main l (sf_none hy |>.trans ?_) fun fs _ => ?_
      · congr 1; funext r; exact (sf_none hy).symm
      · rw [any_guarded]
        show GenState.suspended _ (sfl code _ l) code pos _ (match yf? code with | some _ => false | none => _) = _
        unfold sfl
        rw [hy]
    | some it =>
      cases g with
      | true => exact absurd ⟨v, l, k, rfl, by rw [hy]; rfl⟩ hb
      | false =>
        refine main [] (sf_yield.trans ?_) fun fs hs => ?_
        · unfold sfl; rw [hy]; rfl
        · have hl : (sft ⟨.yield v false l k, code, pos, stack⟩).loud = false := by
            rw [Thread.calm_eq] at hc
            cases hh : (sft ⟨.yield v false l k, code, pos, stack⟩).loud
            · rfl
            · rw [hh] at hc; cases hc
          obtain ⟨fr, b, rest⟩ := fs
          have hm := map_split stack
          rw [hs] at hm
          have he : sft ⟨.yield v false l k, code, pos, stack⟩ = ⟨.yield v false (sfl code false l) (fun r => sf code (k r)), code, pos, stack.map sfr⟩ := by
            unfold sft
            rw [sf_yield]
          rw [he, Thread.loud_yield _ _ _ _ _ _ hm] at hl
          have hg : fr.any Frame.guarded = false := by
            have : (false || (fr.map sfr).any Frame.guarded) = false := hl
            rw [any_guarded] at this
            simpa using this
          rw [any_guarded, hg]
          show GenState.suspended _ (sfl code _ l) code pos _ (match yf? code with | some _ => false | none => _) = _
          unfold sfl
          rw [hy]
          rfl
  | stack k =>
    simp only [sft, sf_stack, step] at h
    cases h
    refine ⟨_, _, rfl, rfl, ?_⟩
    unfold sft
    congr 2
    show k (_ :: (stack.map sfr).map Frame.where_) = k _
    rw [map_where]
  | fork a k => simp only [sft, sf_fork, step] at h; cases h
  | thread k => simp only [sft, sf_thread, step] at h; cases h; exact ⟨_, _, rfl, rfl, rfl⟩
  | await a b c d k => simp only [sft, sf_await, step] at h; cases h
end
end CH
/-! text S5 -/
namespace CH
open PySem PyProof.Rows
open Sem (wp)

section
variable {prog : Program} {w : World}
theorem left_of {gens : Array GenState} (h : leftWithCleanup (gens.map sfg) = false) (n : Ny (gens.map sfg)) : leftWithCleanup gens = false := by
  cases hl : leftWithCleanup gens with
  | false => rfl
  | true =>
    unfold leftWithCleanup at hl
    obtain ⟨i, hi, hx⟩ := Array.any_eq_true.mp hl
    have hg : gens[i]? = some gens[i] := Array.getElem?_eq_getElem hi
    cases he : gens[i] with
    | suspended k l c p fs cl =>
      rw [he] at hx hg
      have hcl : cl = true := hx
      subst hcl
      have hm : (gens.map sfg)[i]? = some (sfg (.suspended k l c p fs true)) := by rw [Array.getElem?_map, hg]; rfl
      cases hy : yf? c with
      | some it =>
        have := n i _ _ _ _ _ _ hm (by rw [hy]; rfl)
        unfold sfl at this
        rw [hy] at this
        cases this
      | none =>
        have : leftWithCleanup (gens.map sfg) = true := by
          unfold leftWithCleanup
          refine Array.any_eq_true.mpr ⟨i, by simpa using hi, ?_⟩
          rw [Array.getElem?_eq_getElem (by simpa using hi)] at hm
          rw [Option.some.inj hm]
          show (match yf? c with | some _ => false | none => true) = true
          rw [hy]
        rw [h] at this
        cases this
    | fresh c => rw [he] at hx; cases hx
    | running => rw [he] at hx; cases hx
    | finished => rw [he] at hx; cases hx
theorem step_halt2 {s s₂ : Shared} {t : Thread} {o : Outcome} (h : step (M2 prog w).den prog w (sfs s) (sft t) = .halt o s₂) (ho : o.ends = true) (n : Ny (sfs s).gens) : s₂ = sfs s ∧ step (denote table) prog w s t = .halt o s := by
  refine ⟨step_halt_same _ _ _ _ _ _ _ h, ?_⟩
  obtain ⟨heap, gens, drawn, toks, os⟩ := s
  obtain ⟨cur, code, pos, stack⟩ := t
  have fin : ∀ o', finish o' (sfs ⟨heap, gens, drawn, toks, os⟩) = .halt o s₂ → finish o' ⟨heap, gens, drawn, toks, os⟩ = .halt o ⟨heap, gens, drawn, toks, os⟩ := fun o' h => by
    unfold finish at h ⊢
    cases hl : leftWithCleanup (sfs ⟨heap, gens, drawn, toks, os⟩).gens with
    | true => rw [hl] at h; cases h; cases ho
    | false =>
      rw [hl] at h
      have := left_of hl n
      rw [if_neg (by rw [this]; decide)]
      cases h
      rfl
  have bad : ∀ {w : String}, o = .stuck w ∨ o = .unsupported w → False := fun e => by rcases e with e | e <;> (rw [e] at ho; cases ho)
  cases cur with
  | pure fl =>
    cases fl with
    | again c => simp only [sft, sf_pure, step] at h; cases h
    | done f =>
      cases stack with
      | nil => simp only [sft, sf_pure, step, List.map_nil] at h; exact fin _ h
      | cons F r => cases F <;> (simp only [sft, sf_pure, step, List.map_cons, sfr] at h; cases h)
  | raise e =>
    cases stack with
    | nil => simp only [sft, sf_raise, step, List.map_nil] at h; exact fin _ h
    | cons F r => cases F <;> (simp only [sft, sf_raise, step, List.map_cons, sfr] at h; cases h)
  | unsupported a => simp only [sft, sf_unsupported, step] at h; cases h; cases ho
  | finish e =>
    simp only [sft, sf_finish, step] at h ⊢
    split at h
    · cases h; cases ho
    · rename_i hl
      have := left_of (by simpa [sfs] using hl) n
      rw [if_neg (by rw [this]; decide)]
      cases h
      rfl
  | rule a k => simp only [sft, sf_rule, step] at h; cases h
  | «at» a k => simp only [sft, sf_at, step] at h; cases h
  | load a b k => simp only [sft, sf_load, step] at h; split at h <;> (first | (cases h; done) | (cases h; cases ho))
  | update a b f k => simp only [sft, sf_update, step] at h; split at h <;> (first | (cases h; done) | (cases h; cases ho))
  | alloc a k => simp only [sft, sf_alloc, step] at h; cases h
  | loadIfAlive a k => simp only [sft, sf_loadIfAlive, step] at h; cases h
  | point a k => simp only [sft, sf_point, step] at h; cases h
  | register a k => simp only [sft, sf_register, step] at h; cases h; cases ho
  | fresh k => simp only [sft, sf_fresh, step] at h; cases h
  | ask k => simp only [sft, sf_ask, step] at h; cases h
  | choose a b k => simp only [sft, sf_choose, step] at h; split at h <;> (first | (cases h; done) | (cases h; cases ho))
  | os a b k => simp only [sft, sf_os, step] at h; cases h
  | call a b c d k => simp only [sft, sf_call, step] at h; cases h
  | handled a k => simp only [sft, sf_handled, step] at h; cases h
  | newGen a k => simp only [sft, sf_newGen, step] at h; cases h
  | genState a k => simp only [sft, sf_genState, step] at h; split at h <;> (first | (cases h; done) | (cases h; cases ho))
  | resume a b c k =>
    simp only [sft, sf_resume, step] at h
    split at h
    · cases h; cases ho
    · split at h <;> cases h
    · cases h
    · cases h
    · cases h
  | yield v g l k =>
    have e : ∀ {st : Shared} {t' : Sem PySem.Fin}, (∃ v g l k, t' = .yield v g l k) ∨ (∃ a b k, t' = .load a b k) ∨ (∃ a, t' = .unsupported a) → step (M2 prog w).den prog w st ⟨t', code, pos, stack.map sfr⟩ = .halt o s₂ → False := fun {st t'} hh hs => by
      obtain ⟨h1, h2, h3, h4, h5⟩ := st
      rcases hh with ⟨v, g, l, k, rfl⟩ | ⟨a, b, k, rfl⟩ | ⟨a, rfl⟩
      · simp only [step] at hs; split at hs <;> (first | (cases hs; done) | (cases hs; cases ho))
      · simp only [step] at hs; split at hs <;> (first | (cases hs; done) | (cases hs; cases ho))
      · simp only [step] at hs; cases hs; cases ho
    refine (e ?_ h).elim
    show (∃ v' g' l' k', sf code (.yield v g l k) = _) ∨ _
    unfold sf
    cases yf? code with
    | none => exact .inl ⟨_, _, _, _, rfl⟩
    | some it =>
      cases g with
      | false => exact .inl ⟨_, _, _, _, rfl⟩
      | true => cases it <;> first | exact .inr (.inl ⟨_, _, _, rfl⟩) | exact .inr (.inr ⟨_, rfl⟩)
  | stack k => simp only [sft, sf_stack, step] at h; cases h
  | fork a k => simp only [sft, sf_fork, step] at h; cases h; cases ho
  | thread k => simp only [sft, sf_thread, step] at h; cases h
  | await a b c d k => simp only [sft, sf_await, step] at h; cases h; cases ho

/-! ### the guarded yield -/
theorem pick_bad {s : Shared} {t : Thread} (hb : Bad t) (hr : s.heap.life.registered = []) : (Config.single s t).pick w = .ok (.run 0, .single s t) := by
  obtain ⟨cur, code, pos, stack⟩ := t
  obtain ⟨v, l, k, hc, _⟩ := hb
  have hc : cur = _ := hc
  subst hc
  have h1 : (Config.single s ⟨.yield v true l k, code, pos, stack⟩).collect? w.params = none := by simp [Config.collect?, Config.single, (nothing_to_collect _ _ _ s _ hr).1]
  have h2 : (Config.single s ⟨.yield v true l k, code, pos, stack⟩).collectable = [] := by simp [Config.collectable, Config.single, (nothing_to_collect w.params _ _ s _ hr).2]
  have h3 : ∀ pr, (Config.single s ⟨.yield v true l k, code, pos, stack⟩).moves pr = [.run 0] := fun pr => by
    simp [Config.moves, Config.single, movesFrom, Thread.moves]
  simp only [Config.pick, h1, h2, Config.pickThread, h3]
  cases w.params.lifetimes <;> simp
theorem life_bad {s : Shared} {v : Value} {l : List Value} {k : Resume → Sem PySem.Fin} {code : Code} {pos : Pos} {stack : List Frame} {others : List Value} {a : Addr} {ob : Obj} {fs r b} (hy : yf? code = some (.ref a)) (hs : splitAtGen stack = some (fs, b, r)) (hg : fs.any Frame.guarded = false)
    (ho : s.heap.get? a = some ob) (hn : ob.genNumber?.isSome = true) (hz : s.asleep) : lifeStep (denote table) prog w others s ⟨.yield v true l k, code, pos, stack⟩ = step (denote table) prog w s ⟨.yield v true l k, code, pos, stack⟩ := by
  obtain ⟨hr, hc⟩ := hz
  have hsp : Thread.special ⟨.yield v true l k, code, pos, stack⟩ = true := by simp [Thread.special, Thread.yieldsInsideHandler]
  have hcl : closingShows s fs code true = false := by
    cases code with
    | builtin id args =>
      have hy : (if id = "proto.yield_from" then args.pos.head? else none) = some (.ref a) := hy
      split at hy
      · rename_i e
        subst e
        obtain ⟨ps, kw⟩ := args
        cases ps with
        | nil => cases hy
        | cons x xs =>
          have : x = .ref a := Option.some.inj hy
          subst this
          unfold closingShows
          rw [hg]
          show (false || (true && delegateShows s (.ref a))) = false
          have hd : delegateShows s (.ref a) = false := by
            cases hq : ob.genNumber? with
            | none => rw [hq] at hn; cases hn
            | some n => simp [delegateShows, ho, hq, hr]
          rw [hd]
          rfl
      · cases hy
    | _ => cases hy
  unfold lifeStep
  rw [if_pos hsp]
  have e1 : collectorTurn? w.params others s ⟨.yield v true l k, code, pos, stack⟩ = none := rfl
  simp only [e1, hs, hcl]
  simp [stepCounting, hc, Thread.atItsEnd]
theorem sstep_bad {s : Shared} {v : Value} {l : List Value} {k : Resume → Sem PySem.Fin} {code : Code} {pos : Pos} {stack : List Frame} {a : Addr} {ob : Obj} {fs r b} (hy : yf? code = some (.ref a)) (hs : splitAtGen stack = some (fs, b, r)) (hg : fs.any Frame.guarded = false)
    (ho : s.heap.get? a = some ob) (hn : ob.genNumber?.isSome = true) (hz : s.asleep) : sstep (denote table) prog w (.single s ⟨.yield v true l k, code, pos, stack⟩) = (step (denote table) prog w s ⟨.yield v true l k, code, pos, stack⟩).lift := by
  have hb : Bad ⟨.yield v true l k, code, pos, stack⟩ := ⟨v, l, k, rfl, by rw [hy]; rfl⟩
  simp only [sstep, pick_bad (w := w) hb hz.1, Config.move]
  have hl := fun others => life_bad (prog := prog) (w := w) (v := v) (l := l) (k := k) (pos := pos) (others := others) hy hs hg ho hn hz
  simp only [Config.run, Config.single]
  simp [hl, others_single, frozenBadly, ThreadState.insideWrite, Thread.finalizes]
  split <;> simp_all [Step.lift, Config.single]
end
end CH
/-! text S6 -/
namespace CH
open PySem PyProof.Rows
open Sem (wp)

section
variable {prog : Program} {w : World}
theorem calm_real {t : Thread} (hb : ¬ Bad t) (h : (sft t).calm = true) : t.calm = true := by
  obtain ⟨cur, code, pos, stack⟩ := t
  cases cur with
  | yield v g l k =>
    have key : ∀ l' k', (⟨.yield v g l' k', code, pos, stack.map sfr⟩ : Thread).calm = true → (⟨.yield v g l k, code, pos, stack⟩ : Thread).calm = true := fun l' k' h => by
      have e : (⟨.yield v g l' k', code, pos, stack.map sfr⟩ : Thread).yieldsInsideHandler = (⟨.yield v g l k, code, pos, stack⟩ : Thread).yieldsInsideHandler := by
        simp only [Thread.yieldsInsideHandler, map_split]
        cases splitAtGen stack with
        | none => rfl
        | some x =>
          show (g || (x.1.map sfr).any Frame.guarded) = (g || x.1.any Frame.guarded)
          rw [any_guarded]
      unfold Thread.calm at h ⊢
      rw [e] at h
      exact h
    unfold sft sf at h
    cases hy : yf? code with
    | none => simp only [hy] at h; exact key l k h
    | some it =>
      cases g with
      | false => simp only [hy] at h; exact key [] (fun r => soft it (k r)) h
      | true => exact absurd ⟨v, l, k, rfl, by rw [hy]; rfl⟩ hb
  | pure a => simp only [sft, sf_pure] at h; exact h
  | raise a => simp only [sft, sf_raise] at h; exact h
  | unsupported a => simp only [sft, sf_unsupported] at h; exact h
  | finish a => simp only [sft, sf_finish] at h; exact h
  | rule a k => simp only [sft, sf_rule] at h; exact h
  | «at» a k => simp only [sft, sf_at] at h; exact h
  | load a b k => simp only [sft, sf_load] at h; exact h
  | update a b c k => simp only [sft, sf_update] at h; exact h
  | alloc a k => simp only [sft, sf_alloc] at h; exact h
  | loadIfAlive a k => simp only [sft, sf_loadIfAlive] at h; exact h
  | point a k => simp only [sft, sf_point] at h; exact h
  | register a k => simp only [sft, sf_register] at h; exact h
  | fresh k => simp only [sft, sf_fresh] at h; exact h
  | ask k => simp only [sft, sf_ask] at h; exact h
  | choose a b k => simp only [sft, sf_choose] at h; exact h
  | os a b k => simp only [sft, sf_os] at h; exact h
  | call a b c d k => simp only [sft, sf_call] at h; exact h
  | handled a k => simp only [sft, sf_handled] at h; exact h
  | newGen a k => simp only [sft, sf_newGen] at h; exact h
  | genState a k => simp only [sft, sf_genState] at h; exact h
  | resume a b c k => simp only [sft, sf_resume] at h; exact h
  | stack k => simp only [sft, sf_stack] at h; exact h
  | fork a k => simp only [sft, sf_fork] at h; exact h
  | thread k => simp only [sft, sf_thread] at h; exact h
  | await a b c d k => simp only [sft, sf_await] at h; exact h
theorem runN_succ {den : Code → Sem PySem.Fin} {n : Nat} {s s' : Shared} {t t' : Thread} (h : step den prog w s t = .go s' t') : runN den prog w (n + 1) s t = runN den prog w n s' t' := by
  simp only [runN, h]
theorem machine : ∀ (n : Nat) (s : Shared) (t : Thread) (s₂ : Shared) (o : Outcome), s.asleep → (∀ k s₁ t₁, runN (M2 prog w).den prog w k (sfs s) (sft t) = .running s₁ t₁ → t₁.calm = true) →
    runN (M2 prog w).den prog w n (sfs s) (sft t) = .halted o s₂ → o.ends = true → Ny s₂.gens → ∃ m s', schedN (denote table) prog w m (.single s t) = .halted o s' ∧ s₂ = sfs s' ∧ s'.heap.life = s.heap.life := by
  intro n
  induction n using Nat.strongRecOn with
  | ind n ih =>
    intro s t s₂ o hz hc hr ho ny
    cases n with
    | zero => cases hr
    | succ n =>
      have hc0 : (sft t).calm = true := hc 0 _ _ rfl
      by_cases hb : Bad t
      · obtain ⟨cur, code, pos, stack⟩ := t
        obtain ⟨v, l, k, e, hy⟩ := hb
        have e : cur = _ := e
        subst e
        cases hy' : yf? code with
        | none => rw [show yf? code = none from hy'] at hy; cases hy
        | some it =>
          have e1 : sft ⟨.yield v true l k, code, pos, stack⟩ = ⟨bless it v true fun r => soft it (k r), code, pos, stack.map sfr⟩ := by
            unfold sft sf
            simp only [hy']
            rfl
          rw [e1] at hr hc
          cases it with
          | ref a =>
            obtain ⟨heap, gens, drawn, toks, os⟩ := s
            cases hob : heap.get? a with
            | none => simp only [runN, bless, step, sfs, hob] at hr; cases hr; cases ho
            | some ob =>
              have g1 : step (M2 prog w).den prog w (sfs ⟨heap, gens, drawn, toks, os⟩) ⟨bless (.ref a) v true fun r => soft (.ref a) (k r), code, pos, stack.map sfr⟩ =
                  .go (sfs ⟨heap, gens, drawn, toks, os⟩) ⟨if ob.genNumber?.isSome = true then .yield v false [mk] (fun r => soft (.ref a) (k r)) else .unsupported "ch", code, pos, stack.map sfr⟩ := by simp only [bless, step, sfs, hob]
              rw [runN_succ g1] at hr
              have hc1 : ∀ k' s₁ t₁, runN (M2 prog w).den prog w k' _ _ = .running s₁ t₁ → t₁.calm = true := fun k' s₁ t₁ e => hc (k' + 1) s₁ t₁ (by rw [runN_succ g1]; exact e)
              cases n with
              | zero => cases hr
              | succ n =>
                cases hn : ob.genNumber?.isSome with
                | false =>
                  rw [hn] at hr
                  simp only [Bool.false_eq_true, if_false, runN, step, sfs] at hr
                  cases hr
                  cases ho
                | true =>
                  rw [hn, if_pos rfl] at hr hc1
                  cases hs : splitAtGen stack with
                  | none =>
                    simp only [runN, step, sfs, map_split, hs, Option.map_none] at hr
                    cases hr
                    cases ho
                  | some x =>
                    obtain ⟨fs, ⟨g', k', c', p'⟩, rest⟩ := x
                    have hm := map_split stack
                    rw [hs] at hm
                    have hcc := hc1 0 _ _ rfl
                    have hl : (⟨.yield v false [mk] (fun r => soft (.ref a) (k r)), code, pos, stack.map sfr⟩ : Thread).loud = false := by
                      rw [Thread.calm_eq] at hcc
                      cases hh : (⟨.yield v false [mk] (fun r => soft (.ref a) (k r)), code, pos, stack.map sfr⟩ : Thread).loud
                      · rfl
                      · rw [hh] at hcc; cases hcc
                    rw [Thread.loud_yield _ _ _ _ _ _ hm] at hl
                    have hg : fs.any Frame.guarded = false := by
                      have : (false || (fs.map sfr).any Frame.guarded) = false := hl
                      rw [any_guarded] at this
                      simpa using this
                    have g2 : step (denote table) prog w ⟨heap, gens, drawn, toks, os⟩ ⟨.yield v true l k, code, pos, stack⟩ = .go ⟨heap, gens.setIfInBounds g' (.suspended k l code pos fs true), drawn, toks, os⟩ ⟨k' (.yielded v), c', p', rest⟩ := by
                      simp only [step, hs, Bool.true_or]
                    have g3 : step (M2 prog w).den prog w (sfs ⟨heap, gens, drawn, toks, os⟩) ⟨.yield v false [mk] (fun r => soft (.ref a) (k r)), code, pos, stack.map sfr⟩ =
                        .go (sfs ⟨heap, gens.setIfInBounds g' (.suspended k l code pos fs true), drawn, toks, os⟩) (sft ⟨k' (.yielded v), c', p', rest⟩) := by
                      simp only [step, sfs, hm, Option.map_some]
                      congr 2
                      rw [← sfs_set ⟨heap, gens, drawn, toks, os⟩ g' _]
                      congr 1
                      rw [any_guarded, hg]
                      show _ = GenState.suspended _ (sfl code true l) code pos _ (match yf? code with | some _ => false | none => true)
                      unfold sfl sf
                      rw [hy']
                      rfl
                    rw [runN_succ g3] at hr
                    obtain ⟨m, s', h1, h2, h3⟩ := ih n (by omega) ⟨heap, gens.setIfInBounds g' (.suspended k l code pos fs true), drawn, toks, os⟩ ⟨k' (.yielded v), c', p', rest⟩ s₂ o hz (fun k' s₁ t₁ e => hc1 (k' + 1) s₁ t₁ (by rw [runN_succ g3]; exact e)) hr ho ny
                    refine ⟨m + 1, s', ?_, h2, h3⟩
                    simp only [schedN, sstep_bad (prog := prog) (w := w) (v := v) (l := l) (k := k) (pos := pos) hy' hs hg (show (⟨heap, gens, drawn, toks, os⟩ : Shared).heap.get? a = some ob from hob) hn hz, g2, Step.lift]
                    exact h1
          | _ => simp only [runN, bless, step, sfs] at hr; cases hr; cases ho
      · have hrc := calm_real hb hc0
        simp only [runN] at hr
        cases hs : step (M2 prog w).den prog w (sfs s) (sft t) with
        | go s₁ t₁ =>
          rw [hs] at hr
          obtain ⟨s', t', g, rfl, rfl⟩ := step_go2 hb hc0 hs
          obtain ⟨m, s'', h1, h2, h3⟩ := ih n (by omega) s' t' s₂ o (Shared.asleep_of_life (step_life _ _ _ _ _ _ _ g) hz) (fun k s₁ t₁ e => hc (k + 1) s₁ t₁ (by rw [runN_succ hs]; exact e)) hr ho ny
          refine ⟨m + 1, s'', ?_, h2, h3.trans (step_life _ _ _ _ _ _ _ g)⟩
          rcases sstep_single (denote table) prog w s t hrc hz with e | e
          · simp only [schedN, e, g, Step.lift]
            exact h1
          · rw [g] at e; cases e
        | halt o' s' =>
          rw [hs] at hr
          cases hr
          obtain ⟨rfl, g⟩ := step_halt2 hs ho (by rw [step_halt_same _ _ _ _ _ _ _ hs] at ny; exact ny)
          refine ⟨1, s, ?_, rfl, rfl⟩
          rcases sstep_single (denote table) prog w s t hrc hz with e | e
          · simp only [schedN, e, g, Step.lift]
          · rw [g] at e
            cases e
            cases ho
theorem ny_forget {G G' : Array GenState} (e : G.map GenState.forget = G'.map GenState.forget) (n : Ny G) : Ny G' := by
  intro i k l c p fs cl h hc
  have h1 : (G'.map GenState.forget)[i]? = some (GenState.forget (.suspended k l c p fs cl)) := by rw [Array.getElem?_map, h]; rfl
  rw [← e, Array.getElem?_map] at h1
  cases hg : G[i]? with
  | none => rw [hg] at h1; cases h1
  | some x =>
    rw [hg] at h1
    have h2 : x.forget = _ := Option.some.inj h1
    cases x with
    | suspended k' l' c' p' fs' cl' =>
      injection h2 with a1 a2 a3
      subst a2
      subst a3
      exact n i _ _ _ _ _ _ hg hc
    | fresh c => cases h2
    | running => cases h2
    | finished => cases h2
/-- a thread of the milder model that ends: the given machine ends alike -/
theorem ends2 {t : Sem PySem.Fin} {s : Shared} {R : Result → Shared → Prop} (hz : s.asleep) (hg : s.gens = #[])
    (h : wpAny (M2 prog w) callerA t (fun fin s' => ∃ f, fin = .done f ∧ (R (.ok f) s' ∧ AllBare s'.gens ∧ Ny s'.gens)) (fun e s' => R (.error e) s' ∧ AllBare s'.gens ∧ Ny s'.gens) s) :
    ∃ n r s' s'', schedN (denote table) prog w n (.single s ⟨t, .builtin "claim.caller" {}, default, []⟩) = .halted (outcomeOf r) s' ∧ s'.heap = s''.heap ∧ s'.os = s''.os ∧ s'.heap.life = s.heap.life ∧ R r s'' := by
  obtain ⟨n, r, s', hn, ⟨hR, hny⟩⟩ := (wp_iff_halts t (fun r s' => R r s' ∧ Ny s'.gens) default s).mp (wp_of_wpAny_done (R := fun r s' => (R r s' ∧ Ny s'.gens) ∧ leftWithCleanup s'.gens = false) caller_in
    (wpAny_mono h (fun _ _ ⟨f, e, a, b, c⟩ => ⟨f, e, ⟨a, c⟩, leftWithCleanup_false_of_bare b⟩) fun _ _ ⟨a, b, c⟩ => ⟨⟨a, c⟩, leftWithCleanup_false_of_bare b⟩) default)
  obtain ⟨s'', h1, h2, h3⟩ := runNI_real (M2 prog w).den (M2 prog w).prog (M2 prog w).w hn (outcomeOf_ends r)
  obtain ⟨eh, eg, _, eo, _⟩ := Shared.forget_eq h2
  have es : sfs s = s := by
    obtain ⟨a, b, c, d, e⟩ := s
    have hg : b = #[] := hg
    subst hg
    simp [sfs]
  have et : sft ⟨t, .builtin "claim.caller" {}, default, []⟩ = ⟨t, .builtin "claim.caller" {}, default, []⟩ := rfl
  rw [← es, ← et] at h1
  obtain ⟨m, s3, q1, q2, q3⟩ := machine n s _ s'' _ hz (fun k s₁ t₁ e => h3 k s₁ t₁ (by rw [es, et] at e; exact e)) h1 (outcomeOf_ends r) (ny_forget (congrArg Shared.gens h2).symm hny)
  refine ⟨m, r, s3, s', q1, ?_, ?_, q3, hR⟩
  · have : s''.heap = s3.heap := by rw [q2]; rfl
    rw [← this]
    exact eh
  · have : s''.os = s3.os := by rw [q2]; rfl
    rw [← this]
    exact eo
end
end CH
/-! text R3 -/
/-! The layer over the milder model: judgements, what comes over from the given model. -/
namespace CH
open PySem PySem.Spec PyProof.Rows L2 Evl
open Sem (wp)

abbrev NoE : Value → Shared → Prop := fun _ _ => False
def EP2 (X : Cx) (pins : List (Addr × Obj)) (σ : L2.St) (Q : VK) (u : Value) (s' : Shared) : Prop := ∃ v H', Inv X pins σ H' s' ∧ Ny s'.gens ∧ RelV v u ∧ Q v H'
def AP2 (X : Cx) (pins : List (Addr × Obj)) (σ : L2.St) (Q : List V → Hp → Prop) (us : List Value) (s' : Shared) : Prop := ∃ vs H', Inv X pins σ H' s' ∧ Ny s'.gens ∧ Vals vs us ∧ Q vs H'
def SP2 (X : Cx) (pins : List (Addr × Obj)) (D : Ends) (f : Flow) (s' : Shared) : Prop := SP X pins D f s' ∧ Ny s'.gens
/-- what is shown of an expression, a list of arguments, a statement, a block in the milder model; no exception leaves it -/
structure PE2 (X : Cx) (e : Expr) (t : TE) : Prop where
  run : ∀ (pins : List (Addr × Obj)) (s : Shared) (σ : L2.St) (H : Hp) (Q : VK), Inv X pins σ H s → Ny s.gens → t σ H Q → wpAny (M2 X.prog X.w) X.A (eval e X.env) (EP2 X pins σ Q) NoE s
structure PA2 (X : Cx) (es : List Expr) (t : TA) : Prop where
  run : ∀ (pos : Pos) (pins : List (Addr × Obj)) (s : Shared) (σ : L2.St) (H : Hp) (Q : List V → Hp → Prop), Inv X pins σ H s → Ny s.gens → t σ H Q → wpAny (M2 X.prog X.w) X.A (spliced (backTo pos (starEach es X.env))) (AP2 X pins σ Q) NoE s
structure PS2 (X : Cx) (st : Stmt) (t : TS) : Prop where
  run : ∀ (pins : List (Addr × Obj)) (s : Shared) (σ : L2.St) (H : Hp) (D : Ends), Inv X pins σ H s → Ny s.gens → t D σ H → wpAny (M2 X.prog X.w) X.A (exec st X.env) (SP2 X pins D) NoE s
structure PSs2 (X : Cx) (st : List Stmt) (t : TS) : Prop where
  run : ∀ (pins : List (Addr × Obj)) (s : Shared) (σ : L2.St) (H : Hp) (D : Ends), Inv X pins σ H s → Ny s.gens → t D σ H → wpAny (M2 X.prog X.w) X.A (execs st X.env) (SP2 X pins D) NoE s

section
variable {X : Cx} {pins : List (Addr × Obj)} {σ : L2.St} {H : Hp} {s z s' : Shared}
theorem inv_numb (I : Inv X pins σ H s) : Inv X pins σ H (numb s) := ⟨I.ok, I.os, numb_bare I.bare, I.base, I.loc, I.cell, I.free, I.freeC, I.pin, I.hok, I.len⟩
theorem inv_state (I : Inv X pins σ H z) (h1 : z.heap = s'.heap) (h2 : z.os = s'.os) (h3 : AllBare s'.gens) : Inv X pins σ H s' := by
  obtain ⟨hh, g, d, t, o⟩ := s'
  have h1 : z.heap = hh := h1
  have h2 : z.os = o := h2
  subst h1 h2
  exact ⟨I.ok, I.os, h3, I.base, I.loc, I.cell, I.free, I.freeC, I.pin, I.hok, I.len⟩
theorem inv_aft {pins' : List (Addr × Obj)} {σ' : L2.St} {H' : Hp} {X' : Cx} (a : Aft s z s') (hb : AllBare s.gens) (I : Inv X' pins' σ' H' z) : Inv X' pins' σ' H' s' := inv_state I a.heap a.os (a.bare I.bare hb)
theorem sp_aft {D : Ends} {f : Flow} (a : Aft s z s') (hb : AllBare s.gens) (hn : Ny s.gens) (h : SP X pins D f z) : SP2 X pins D f s' := by
  cases f with
  | next => obtain ⟨σ', H', I, q⟩ := h; exact ⟨⟨σ', H', inv_aft a hb I, q⟩, a.ny I.bare hn⟩
  | brk => obtain ⟨σ', H', I, q⟩ := h; exact ⟨⟨σ', H', inv_aft a hb I, q⟩, a.ny I.bare hn⟩
  | cont => obtain ⟨σ', H', I, q⟩ := h; exact ⟨⟨σ', H', inv_aft a hb I, q⟩, a.ny I.bare hn⟩
  | ret u => obtain ⟨v, σ', H', I, r, q⟩ := h; exact ⟨⟨v, σ', H', inv_aft a hb I, r, q⟩, a.ny I.bare hn⟩
end
section
variable {X : Cx} {e : Expr} {es : List Expr} {st : Stmt} {sts : List Stmt} {te : TE} {ta : TA} {t u : TS} {pos : Pos}
theorem pe2 (h : PE X.nox e te) : PE2 X e te := ⟨fun pins s σ H Q I n hw => tr_any (h.run pins (numb s) σ H Q (inv_numb (I.wish _)) hw)
  (fun _ z s' a ⟨v, H', I', r, q⟩ => ⟨v, H', (inv_aft a I.bare I').unwish, a.ny I'.bare n, r, q⟩) fun _ _ _ _ q => q⟩
theorem pa2 (h : PA X.nox es ta) : PA2 X es ta := ⟨fun pos pins s σ H Q I n hw => tr_any (h.run pos pins (numb s) σ H Q (inv_numb (I.wish _)) hw)
  (fun _ z s' a ⟨v, H', I', r, q⟩ => ⟨v, H', (inv_aft a I.bare I').unwish, a.ny I'.bare n, r, q⟩) fun _ _ _ _ q => q⟩
theorem ps2 (h : PS X.nox st t) : PS2 X st t := ⟨fun pins s σ H D I n hw => tr_any (h.run pins (numb s) σ H D (inv_numb (I.wish _)) hw)
  (fun _ z s' a q => let ⟨p, m⟩ := sp_aft a I.bare n q; ⟨p.unwish, m⟩) fun _ _ _ _ q => q⟩
theorem pss2 (h : PSs X.nox sts t) : PSs2 X sts t := ⟨fun pins s σ H D I n hw => tr_any (h.run pins (numb s) σ H D (inv_numb (I.wish _)) hw)
  (fun _ z s' a q => let ⟨p, m⟩ := sp_aft a I.bare n q; ⟨p.unwish, m⟩) fun _ _ _ _ q => q⟩
theorem pss2_cons (a : PS2 X st t) (b : PSs2 X sts u) : PSs2 X (st :: sts) (tSeq t u) := ⟨fun pins s σ H D I n h => wpAny_execs_cons (thn (a.run pins s σ H { D with nx := u D } I n h) fun f s1 q => by
  obtain ⟨q, m⟩ := q
  cases f with
  | next => obtain ⟨σ1, H1, I1, q⟩ := q; exact b.run pins s1 σ1 H1 D I1 m q
  | brk => exact ⟨q, m⟩
  | cont => exact ⟨q, m⟩
  | ret v => exact ⟨q, m⟩)⟩
theorem pss2_one (a : PS2 X st t) : PSs2 X [st] t := ⟨fun pins s σ H D I n h => wpAny_execs_cons (thn (a.run pins s σ H D I n h) fun f s1 q => by
  cases f with
  | next => exact wpAny_execs_nil q
  | brk => exact q
  | cont => exact q
  | ret v => exact q)⟩
theorem ps2_ret (h : PE2 X e te) : PS2 X (.Return (some e) pos) (tRet te) := ⟨fun pins s σ H D I n hw => wpAny_Return_some (thn (h.run pins s σ H D.rt I n hw) fun u s1 ⟨v, H1, I1, n1, r, q⟩ => ⟨⟨v, σ, H1, I1, r, q⟩, n1⟩)⟩
theorem ps2_set {i : Nat} {x : Str} {pos' : Pos} (hN : X.N.Nodup) (hi : X.N[i]? = some x) (hx : Loc X.env.scope x) (h : PE2 X e te) (hs : swapsWith e (some (.Name x pos')) pos.line X.env = pure false := by rfl)
    (hf : X.fn x = true ∨ X.env.scope.names.lookup x = some .local := by first | exact .inl rfl | exact .inr rfl | assumption) : PS2 X (.Assign [.Name x pos'] e pos) (tAsg te (gName i)) := ⟨fun pins s σ H D I n hw => by
  refine wpAny_Assign_Name (thn (h.run pins s σ H _ I n hw) fun u s1 ⟨v, H1, I1, n1, r, q⟩ => ?_) hs
  exact tr_any (Q := fun _ z => SP X pins D .next z) (E := NoE) (store_ok (s := numb s1) (inv_numb I1) hN hi hx r (fun s2 I2 => ⟨_, H1, I2, q⟩) hf) (fun _ z s' a p => sp_aft a I1.bare n1 p) fun _ _ _ _ q => q⟩
end
end CH
/-! text R4 -/
/-! The layer over the milder model: defs and their calls. -/
namespace CH
open PySem PySem.Spec PyProof.Rows L2 Evl
open Sem (wp)

section
variable {prog : Program} {w : World} {A : Around} {s : Shared} {R : Result → Shared → Prop}
theorem den_call {f : Value} {a : Args} : (M2 prog w).den (.call f a) = (model prog w).den (.call f a) := M2_den rfl
theorem den_func {b : List Stmt} {env : Env} : (M2 prog w).den (.func b env) = (model prog w).den (.func b env) := M2_den rfl
theorem code2_fn {a : Addr} {args : Args} {o : Obj} {fd : FuncData} {body : List Stmt} (room : A.depth < recursionLimit) (ho : s.heap.get? a = some o) (hd : o.data = .func fd) (h1 : fd.scope.isCoroutine = false) (h2 : fd.scope.isGenerator = false)
    (hb : fd.body = .stmts body) (hc : s.heap.CodeRec fd.code fd.qualname)
    (h : wpAny (M2 prog w) A.in1 (bindArgs fd args) (fun bs s₁ => wpAny (M2 prog w) A.in1 (newFunctionEnv fd.scope fd.globals fd.closure bs (fd.qualname ++ ".<locals>.") (some a) fd.code none fd.builtins)
      (fun env s₂ => s₂.heap.NoLimit ∧ codeAny (M2 prog w) A (.func body env) R s₂) (fun e s' => R (.error e) s') s₁) (fun e s' => R (.error e) s') s) : codeAny (M2 prog w) A (.call (.ref a) args) R s := by
  refine codeAny_of_tree ?_
  rw [den_call]
  show wpAny _ A.in1 (callAny (.ref a) args) _ _ s
  obtain ⟨c, oc, vs, tq, e, ho2, hd2, hq⟩ := hc
  rw [e] at h
  simp only [callAny]
  refine wpAny_bind (wpAny_load ho ?_)
  simp only [hd, callFunction, h1, h2, hb, e]
  refine wpAny_bind (m := field (.ref c) 1) (wpAny_field ho2 hd2 hq (wpAny_bind (wpAny_pure ?_)))
  refine wpAny_bind (wpAny_mono h (fun bs s₁ k => wpAny_bind (wpAny_mono k (fun env s₂ k2 => ?_) fun _ _ q => q)) fun _ _ q => q)
  exact wpAny_bind (wpAny_enterFrame k2.1 room (wpAny_pure ⟨rfl, k2.2⟩))
theorem code2_func {body : List Stmt} {env : Env} (h : wpAny (M2 prog w) (A.deeper env) (execs body env) (fun f s' => R (.ok (.ret (match f with | .ret v => v | _ => .none))) s') NoE s) : codeAny (M2 prog w) A (.func body env) R s := by
  refine codeAny_of_tree ?_
  rw [den_func]
  show wpAny _ (A.deeper env) (do point; match ← (execs body env).onRaise (leaving env) with | .ret v => ret v | _ => ret .none) _ _ s
  refine wpAny_bind (wpAny_point (wpAny_bind (wpAny_onRaise (wpAny_mono h (fun f s' q => ?_) fun _ _ q => q.elim))))
  cases f <;> exact wpAny_pure q
end

/-- the end of a call -/
def CR2 (outer : List Env) (P : Program) (w : World) (H : Hp) (s : Shared) (Q : VK) : Result → Shared → Prop
  | .ok (.ret u), s' => CE outer P w H s Q u s' ∧ Ny s'.gens
  | _, _ => False
abbrev Sq := List V → Hp → VK → Prop
/-- a def's promise in the milder model: by what is bound; by positional values -/
def FnO2 (P : Program) (w : World) (K : PySem.W.Frag) (mg : Str → Option Value) (base : Heap) (k : Nat) (f : Addr) (fd : FuncData) (ps : List Str) (sp : Sq) : Prop :=
  ∀ (A : Around) (outer : List Env) (s : Shared) (H : Hp) (args : Args) (us : List Value) (vs : List V) (Q : VK), Room k A → Env0 P w K mg base A outer s H → Ny s.gens → BindsTo s fd args (ps.zip us) → us.length = ps.length → Vals vs us → sp vs H Q → codeAny (M2 P w) A (.call (.ref f) args) (CR2 outer P w H s Q) s
def FnR2 (P : Program) (w : World) (K : PySem.W.Frag) (mg : Str → Option Value) (base : Heap) (k : Nat) (f : Addr) (sp : Sq) : Prop :=
  ∀ (A : Around) (outer : List Env) (s : Shared) (H : Hp) (us : List Value) (vs : List V) (Q : VK), Room k A → Env0 P w K mg base A outer s H → Ny s.gens → Vals vs us → sp vs H Q → codeAny (M2 P w) A (.call (.ref f) ⟨us, []⟩) (CR2 outer P w H s Q) s
section
variable {P : Program} {w : World} {K : PySem.W.Frag} {mg : Str → Option Value} {base : Heap} {f : Addr} {x qual : Str} {st : Stmt} {N ps : List Str} {k : Nat} {sp : Sq} {dvs : List V} {kws : List (Str × V)} {fd : FuncData}
theorem fn2 (F : FunD K x qual (defArgs st) (defBody st) (defScope st) dvs kws f fd) (S : FnScope N ps (defScope st))
    (hbody : ∀ (cdv : Value) (A : Around) (outer : List Env) (s : Shared) (H : Hp) (vs : List V) (Q : VK), Room k (A.deeper (envOfC qual (defScope st) s.heap.objs.size f cdv)) → sp vs H Q →
      ∃ t, PSs2 (cxOf CX0 P w K mg base N qual (defScope st) f cdv A outer s H E0).nox (defBody st) t ∧ t { nx := fun _ H' => Q .non H', rt := Q } (start N vs) H) : FnO2 P w K mg base (k + 1) f fd ps sp := by
  obtain ⟨oc, od, dV, kV, doc, pm, an, cdv, ct, osl, rfl, lk, hcd, _, _⟩ := F.ex
  intro A outer s H args us vs Q hr e0 ny hb hl r hsp
  have KX : K.In s.heap := e0.mod.kin.keeps fun b o e => (e0.bs b o e).1
  have lim : s.heap.NoLimit := e0.mod.nolimit.keeps fun b o e => (e0.bs b o e).1
  have hk : ∀ y ∈ ps.zip us, (defScope st).names.lookup y.1 = some .local ∨ ((defScope st).names.lookup y.1 = some .cell ∧ ((cellsFrom (s.heap.objs.size + 1) (defScope st).names []).lookup y.1).isSome = true) := fun y hy => by
    rcases S.par y.1 (List.of_mem_zip (show (y.1, y.2) ∈ _ from hy)).1 with q | q
    · exact .inl q
    · exact .inr ⟨q, PySem.W.cellsFrom_some _ _ _ (.inl q)⟩
  refine code2_fn hr.depth (KX _ _ lk) rfl S.co S.gen rfl (PySem.W.codeRec_of KX hcd) (hb _ _ _ _ (wpAny_newFunctionEnv_cells S.kind hk fun env he s1 ic => ?_))
  subst he
  obtain ⟨t, ht, hq⟩ := hbody cdv A outer s H vs Q (hr.deeper _) hsp
  have I : Inv (cxOf CX0 P w K mg base N qual (defScope st) f cdv A outer s H E0) [] (start N vs) H s1 := inv_start S hr.hd e0 (by rw [r.length]; exact hl) r ic
  have n1 : Ny s1.gens := by
    obtain ⟨_, _, e, _⟩ := ic.done
    rw [e]
    exact ny
  refine ⟨lim.keeps ic.toInCall.keep, code2_func (wpAny_mono (ht.run [] s1 (start N vs) H _ (I.wish _) n1 hq) (fun fl s' hs => ?_) fun _ _ q => q)⟩
  obtain ⟨hs, n2⟩ := hs
  cases fl with
  | ret u => obtain ⟨v, σ', H', J, rv, q⟩ := hs; exact ⟨⟨v, H', J.os, J.bare, J.base, J.hok, rv, q⟩, n2⟩
  | next => obtain ⟨σ', H', J, q⟩ := hs; exact ⟨⟨.non, H', J.os, J.bare, J.base, J.hok, rfl, q⟩, n2⟩
  | brk => obtain ⟨_, _, _, q⟩ := hs; exact q.elim
  | cont => obtain ⟨_, _, _, q⟩ := hs; exact q.elim
theorem FnO2.raw {ds : List Value} {dv : List V} (F : FnO2 P w K mg base k f fd ps sp) (hb : Binds K fd ps ds) (hd : Vals dv ds) (len : ∀ vs H Q, sp vs H Q → vs.length = ps.length) : FnR2 P w K mg base k f (fun vs H Q => sp (vs ++ dv) H Q) := by
  intro A outer s H us vs Q hr e0 ny r hs
  have r2 : Vals (vs ++ dv) (us ++ ds) := r.append hd
  have hl : (us ++ ds).length = ps.length := by rw [← r2.length]; exact len _ _ _ hs
  exact F A outer s H ⟨us, []⟩ (us ++ ds) (vs ++ dv) Q hr e0 ny (hb s us (e0.mod.kin.keeps fun b o e => (e0.bs b o e).1) hl) hl r2 hs
/-- a def without defaults -/
theorem Fn.ok2 (F : Fn K x qual st [] [] f) (S : FnScope N ps (defScope st))
    (hbind : ∀ (kV doc pm : Value) (an : Option Addr) (cdv ct : Value) (us : List Value), us.length = ps.length → bindArgs (PySem.W.fnOf x qual (defArgs st) (defBody st) (defScope st) .none kV doc pm an cdv ct) ⟨us, []⟩ = pure (ps.zip us))
    (len : ∀ vs H Q, sp vs H Q → vs.length = ps.length)
    (hbody : ∀ (cdv : Value) (A : Around) (outer : List Env) (s : Shared) (H : Hp) (vs : List V) (Q : VK), Room k (A.deeper (envOfC qual (defScope st) s.heap.objs.size f cdv)) → sp vs H Q →
      ∃ t, PSs2 (cxOf CX0 P w K mg base N qual (defScope st) f cdv A outer s H E0).nox (defBody st) t ∧ t { nx := fun _ H' => Q .non H', rt := Q } (start N vs) H) : FnR2 P w K mg base (k + 1) f sp := by
  obtain ⟨fd, F⟩ := F
  have := (fn2 (mg := mg) (base := base) (P := P) (w := w) F S hbody).raw (F.bindsN hbind) .nil len
  simpa using this
end
section
variable {X : Cx} {pins : List (Addr × Obj)} {σ : L2.St} {H : Hp} {s : Shared} {k : Nat} {f : Addr} {sp : Sq} {x : Str} {p pos : Pos} {e a b : Expr} {es : List Expr} {ta : TA} {te tb : TE}
theorem inv_after2 {Q : VK} {r : Result} {s' : Shared} (I : Inv X pins σ H s) (h : CR2 X.stack X.prog X.w H s Q r s') : ∃ u, r = .ok (.ret u) ∧ EP2 X pins σ Q u s' := by
  rcases r with _ | (_ | _ | _ | u)
  · exact h.elim
  · exact h.elim
  · exact h.elim
  · exact h.elim
  · obtain ⟨⟨v, H', h1, h2, h3, h4, rv, q⟩, n⟩ := h
    exact ⟨u, rfl, v, H', I.call' h1 h3 h4 h2 (fun _ z => absurd z List.not_mem_nil), n, rv, q⟩
theorem run2 {us : List Value} {vs : List V} {Q : VK} (F : FnR2 X.prog X.w X.K X.mg X.base k f sp) (hr : Room k X.A) (I : Inv X pins σ H s) (n : Ny s.gens) (r : Vals vs us) (h : sp vs H Q) : wpAny (M2 X.prog X.w) X.A (call (.ref f) us) (EP2 X pins σ Q) NoE s :=
  wpAny_call (codeAny_mono (F X.A X.stack s H us vs Q hr I.env0 n r h) fun r s' hq => by
    obtain ⟨u, rfl, q⟩ := inv_after2 I hq
    exact q)
def tCall2 (sp : Sq) (t : TA) : TE := fun σ H Q => t σ H fun vs H1 => sp vs H1 Q
theorem ld2 {Q : Value → Shared → Prop} {u : Value} (I : Inv X pins σ H s) (hg : Gl X x) (hm : X.mg x = some u) (h : Q u s) (hd : (x == ("__debug__" : Str)) = false := by decide) : wpAny (M2 X.prog X.w) X.A (eval (.Name x pos) X.env) Q NoE s :=
  Calls.Name_function_global I.ok.kind hg (Calls.loadGlobal_global (by rw [I.ok.glob]; exact I.mod.glob.keeps I.bk) hm h) hd
/-- f(e, ..) -/
theorem pe2_call (F : FnR2 X.prog X.w X.K X.mg X.base k f sp) (hr : Room k X.A) (hk : PySem.W.keepIn X.K (.ref f) = true) (hg : Gl X x) (hm : X.mg x = some (.ref f)) (ha : PA2 X (e :: es) ta) (hd : (x == ("__debug__" : Str)) = false := by decide)
    (hs : starEach (e :: es) X.env = (false, eval e X.env) :: starEach es X.env := by rfl) (hp : (backTo pos (starEach es X.env)).any (·.1) = false := by rfl) : PE2 X (.Call (.Name x p) (e :: es) [] pos) (tCall2 sp ta) :=
  ⟨fun pins s σ H Q I n h => wpAny_Call_Name_kw (ld2 I hg hm (PySem.W.callWith_K (h₀ := X.base) I.ok.mod.kin hk (thn (ha.run pos pins s σ H _ I n h) fun us s1 ⟨vs, H1, I1, n1, r, q⟩ => ⟨I1.kIn, run2 F hr I1 n1 r q⟩) hs hp) hd)⟩
theorem pe2_call0 (F : FnR2 X.prog X.w X.K X.mg X.base k f sp) (hr : Room k X.A) (hk : PySem.W.keepIn X.K (.ref f) = true) (hg : Gl X x) (hm : X.mg x = some (.ref f)) (hd : (x == ("__debug__" : Str)) = false := by decide) : PE2 X (.Call (.Name x p) [] [] pos) (tCall2 sp tNil) :=
  ⟨fun pins s σ H Q I n h => wpAny_Call_Name_kw (ld2 I hg hm (PySem.W.callWith_K0 I.kIn hk (run2 (us := []) F hr I n .nil h)) hd)⟩
/-- a and b -/
theorem pe2_and (ha : PE2 X a te) (hb : PE2 X b tb) : PE2 X (.BoolOp .And [a, b] pos) (tAndV te tb) := ⟨fun pins s σ H Q I n h => by
  refine BoolOp_and (thn (ha.run pins s σ H _ I n h) fun v s1 ⟨y, H1, I1, n1, r, c, e, q⟩ => ?_)
  subst e
  cases r
  refine wpAny_truthy_bool ?_
  cases c with
  | false => exact ⟨.bl false, H1, I1, n1, rfl, q⟩
  | true => exact BoolOp_one (hb.run pins s1 σ H1 Q I1 n1 q)⟩
end
end CH
/-! text R5 -/
/-! The layer over the milder model: operators, displays, built-ins, for, list comprehensions. -/
namespace CH
open PySem PySem.Spec PyProof.Rows L2 Evl
open Sem (wp)
section
variable {X : Cx} {pins : List (Addr × Obj)} {σ : L2.St} {H : Hp} {s : Shared} {x : Str} {p pos : Pos} {e a b : Expr} {es : List Expr} {ta : TA} {te tb : TE} {r : R2}
theorem ep2_rx {s z s' : Shared} {Q : VK} {u : Value} (k : Rx s z s') (hb : AllBare s.gens) (n : Ny s.gens) (h : EP X.nox pins σ Q u z) : EP2 X pins σ Q u s' := by
  obtain ⟨v, H', I, r, q⟩ := h
  exact ⟨v, H', (inv_aft k.aft hb I).unwish, k.aft.ny I.bare n, r, q⟩
theorem opr2 {f : Value → Value → Sem Value} {u v : Value} {y z : V} {Q : VK} (ho : OpR X.nox f r) (I : Inv X pins σ H s) (n : Ny s.gens) (ry : RelV y v) (rz : RelV z u) (h : r y z H Q) : wpAny (M2 X.prog X.w) X.A (f v u) (EP2 X pins σ Q) NoE s :=
  tr_more (Rx.here s) (ho pins (numb s) σ H y z v u Q (inv_numb (I.wish _)) ry rz h) (fun _ _ _ k q => ep2_rx k I.bare n q) fun _ _ _ _ q => q
theorem callr2 {f : Value} {us : List Value} {vs : List V} {Q : VK} {r : List V → Hp → VK → Prop} (ho : CallR X.nox f r) (I : Inv X pins σ H s) (n : Ny s.gens) (rv : Vals vs us) (h : r vs H Q) : wpAny (M2 X.prog X.w) X.A (call f us) (EP2 X pins σ Q) NoE s :=
  tr_more (Rx.here s) (ho pins (numb s) σ H vs us Q (inv_numb (I.wish _)) rv h) (fun _ _ _ k q => ep2_rx k I.bare n q) fun _ _ _ _ q => q
theorem pe2_op {op : Operator} (ho : OpR X.nox (binaryOp op) r) (ha : PE2 X a te) (hb : PE2 X b tb) : PE2 X (.BinOp a op b pos) (tOp r te tb) := ⟨fun pins s σ H Q I n h =>
  wpAny_BinOp (thn (ha.run pins s σ H _ I n h) fun v s1 ⟨y, H1, I1, n1, r1, q1⟩ => thn (hb.run pins s1 σ H1 _ I1 n1 q1) fun u s2 ⟨z, H2, I2, n2, r2, q2⟩ => opr2 ho I2 n2 r1 r2 q2)⟩
theorem pe2_cmp {op : CmpOp} (ho : OpR X.nox (compareOp op) r) (ha : PE2 X a te) (hb : PE2 X b tb) (hm : behindInMarks op b = false) : PE2 X (.Compare a [op] [b] pos) (tOp r te tb) := ⟨fun pins s σ H Q I n h =>
  wpAny_Compare1 (thn (ha.run pins s σ H _ I n h) fun v s1 ⟨y, H1, I1, n1, r1, q1⟩ => thn (hb.run pins s1 σ H1 _ I1 n1 q1) fun u s2 ⟨z, H2, I2, n2, r2, q2⟩ => opr2 ho I2 n2 r1 r2 q2) hm⟩
theorem pa2_nil : PA2 X [] tNil := ⟨fun _ _ _ _ H _ I n h => Calls.spliced_nil ⟨[], H, I, n, .nil, h⟩⟩
theorem pa2_cons (ha : PE2 X e te) (hr : PA2 X es ta) (hs : ∀ pos, backTo pos (starEach (e :: es) X.env) = (false, (do let v ← eval e X.env; standAt pos; pure v)) :: backTo pos (starEach es X.env) := by intro _; rfl) : PA2 X (e :: es) (tCons te ta) := ⟨fun pos pins s σ H Q I n h => by
  rw [hs]
  refine Calls.spliced_cons (wpAny_bind (thn (ha.run pins s σ H _ I n h) fun u s1 ⟨v, H1, I1, n1, r1, q1⟩ => wpAny_bind (wpAny_standAt (wpAny_pure ?_))))
  exact thn (hr.run pos pins s1 σ H1 _ I1 n1 q1) fun us s2 ⟨vs, H2, I2, n2, r2, q2⟩ => ⟨v :: vs, H2, I2, n2, .cons r1 r2, q2⟩⟩
theorem ny_same {s s' : Shared} (h : s'.gens = s.gens) (n : Ny s.gens) : Ny s'.gens := by rw [h]; exact n
theorem pe2_lst (h : PA2 X es ta) : PE2 X (.List es pos) (tLst ta) := ⟨fun pins s σ H Q I n hq => by
  rw [arm_eval_List]
  refine wpAny_bind (wpAny_standAt (wpAny_bind (thn (h.run pos pins s σ H _ I n hq) fun us s1 ⟨xs, H1, I1, n1, rv, z, q⟩ => wpAny_newList ?_ (by rw [← rv.length]; exact z))))
  have new : H1 s1.heap.objs.size = none := I1.hok.fresh (Nat.le_refl _)
  exact ⟨.ref s1.heap.objs.size, upd H1 s1.heap.objs.size (.lst xs), I1.laid (t' := s1.toks) (fun b u e => Heap.get?_push_of_some _ e) (Nat.le_refl _) ⟨z, us, 0, rv, Heap.get?_push_size _ rfl⟩, n1, rfl, q _ new⟩⟩
/-- f(e), f a built-in -/
theorem pe2_callB {id : String} {rc : List V → Hp → VK → Prop} (hc : CallR X.nox (.builtin id) rc) (hg : Gl X x) (hm : X.mg x = none) (hv : bootBuiltins x = some (.builtin id)) (ha : PA2 X (e :: es) ta) (hn : x ≠ "__name__" := by decide) (hd : (x == ("__debug__" : Str)) = false := by decide)
    (he : starEach (e :: es) X.env = (false, eval e X.env) :: starEach es X.env := by rfl) (hp : (backTo pos (starEach es X.env)).any (·.1) = false := by rfl) : PE2 X (.Call (.Name x p) (e :: es) [] pos) (tCB rc ta) := ⟨fun pins s σ H Q I n h => by
  refine wpAny_Call_Name_kw ?_
  obtain ⟨mb, h1, h2⟩ := I.mod.blt
  refine Calls.Name_function_global I.ok.kind hg (Calls.loadGlobal_builtin (by rw [I.ok.glob]; exact I.mod.glob.keeps I.bk) hm (by rw [I.ok.blt]; exact h1.keeps I.bk) ((h2 x hn).trans hv) ?_) hd
  refine Calls.callWith_builtin (by rw [he]; exact hp) ?_
  have := ha.run pos pins s σ H _ I n h
  rw [he] at this ⊢
  exact Calls.evalArgs_plain (thn this fun us s1 ⟨vs, H1, I1, n1, rv, q⟩ => callr2 hc I1 n1 rv q)⟩
end

/-! ### loops -/
section
variable {prog : Program} {w : World} {A : Around} {s : Shared} {R : Result → Shared → Prop}
theorem den_for {tg : Expr} {it : Value} {b o : List Stmt} {env : Env} : (M2 prog w).den (.forLoop tg it b o env) = (model prog w).den (.forLoop tg it b o env) := M2_den rfl
theorem den_block {b : List Stmt} {env : Env} : (M2 prog w).den (.block b env) = (model prog w).den (.block b env) := M2_den rfl
theorem den_comp {e : Expr} {i : Nat} {it acc : Value} {env : Env} : (M2 prog w).den (.compLoop e i it acc env) = (model prog w).den (.compLoop e i it acc env) := M2_den rfl
theorem den_compS {e : Expr} {i : Nat} {it acc : Value} {env : Env} : (M2 prog w).den (.compStart e i it acc env) = (model prog w).den (.compStart e i it acc env) := M2_den rfl
theorem noted2 {α : Type} {t : Sem α} {h : Value → Sem Unit} {Q : α → Shared → Prop} {E : Value → Shared → Prop} {M : Model} (k : wpAny M A t Q NoE s) : wpAny M A (t.onRaise h) Q E s := wpAny_onRaise (wpAny_mono k (fun _ _ q => q) fun _ _ q => q.elim)
theorem block2 {env : Env} (h : R (.ok .next) s) : codeAny (M2 prog w) A (.block [] env) R s := by
  refine codeAny_of_tree ?_
  rw [den_block]
  show wpAny _ _ ((execs [] env).onRaise _ >>= fun f => pure (PySem.Fin.done f)) _ _ s
  exact wpAny_bind (noted2 (wpAny_execs_nil (wpAny_pure h)))
theorem code2_for {tg : Expr} {it : Value} {body : List Stmt} {env : Env} (J : Nat → Shared → Prop)
    (turn : ∀ m s, J m s → wpAny (M2 prog w) A (pyNext it) (fun r s1 => match r with
      | none => R (.ok .next) s1
      | some v => wpAny (M2 prog w) A (letOwnedTupleGo tg it v) (fun _ s2 => wpAny (M2 prog w) A (assign tg env v) (fun _ s3 => wpAny (M2 prog w) A (execs body env) (fun f s4 => match f with
        | .brk => R (.ok .next) s4
        | .ret v => R (.ok (.ret v)) s4
        | .next | .cont => ∃ m', m' < m ∧ J m' s4) NoE s3) NoE s2) NoE s1) NoE s) (m : Nat) (h : J m s) : codeAny (M2 prog w) A (.forLoop tg it body [] env) R s := by
  refine codeAny_loop' rfl J (fun m s hJ => ?_) m h
  rw [den_for]
  show wpAny _ _ ((forTurn tg it body [] env).onRaise _) _ _ s
  refine noted2 ?_
  unfold forTurn
  refine wpAny_bind (wpAny_standAt (wpAny_bind (noted2 (thn (turn m s hJ) fun r s1 k => ?_))))
  cases r with
  | none => exact wpAny_pure (.inr ⟨rfl, block2 k⟩)
  | some v =>
    refine wpAny_bind (thn k fun _ s2 k => wpAny_bind (thn k fun _ s3 k => wpAny_bind (thn k fun f s4 k => ?_)))
    cases f with
    | next => exact wpAny_pure (.inl ⟨rfl, k⟩)
    | cont => exact wpAny_pure (.inl ⟨rfl, k⟩)
    | brk => exact wpAny_pure k
    | ret v => exact wpAny_pure k
theorem code2_lc {elt tg iter : Expr} {scope : Scope} {pos : Pos} {it acc : Value} {env : Env} (J : Nat → Shared → Prop)
    (turn : ∀ m s, J m s → wpAny (M2 prog w) A (pyNext it) (fun r s1 => match r with
      | none => R (.ok .next) s1
      | some v => wpAny (M2 prog w) A (letOwnedTupleGo tg it v) (fun _ s2 => wpAny (M2 prog w) A (assign tg env v) (fun _ s3 => wpAny (M2 prog w) A (eval elt env) (fun x s4 =>
        wpAny (M2 prog w) A (call (.builtin "list.append") [acc, x]) (fun _ s5 => ∃ m', m' < m ∧ J m' s5) NoE s4) NoE s3) NoE s2) NoE s1) NoE s) (m : Nat) (h : J m s) :
    codeAny (M2 prog w) A (.compLoop (.ListComp elt [⟨tg, iter, [], 0⟩] scope pos) 0 it acc env) R s := by
  refine codeAny_loop rfl J (fun m s hJ => ?_) m h
  rw [den_comp]
  show wpAny _ A ((compTurn (.ListComp elt [⟨tg, iter, [], 0⟩] scope pos) 0 it acc env).onRaise _) _ _ s
  refine noted2 ?_
  rw [compTurn_list]
  refine wpAny_bind (wpAny_standAt (wpAny_bind (thn (turn m s hJ) fun r s1 k => ?_)))
  cases r with
  | none => exact wpAny_pure k
  | some v =>
    refine wpAny_bind (thn k fun _ s2 k => wpAny_bind (thn k fun _ s3 k => wpAny_bind (wpAny_pure ?_)))
    exact wpAny_bind (wpAny_bind (thn k fun x s4 k => wpAny_bind (thn k fun _ s5 k => wpAny_pure (wpAny_pure ⟨rfl, k⟩))))
theorem start2_lc {elt tg iter : Expr} {scope : Scope} {pos : Pos} {it acc : Value} {env : Env} (h0 : codeAny (M2 prog w) A (.compLoop (.ListComp elt [⟨tg, iter, [], 0⟩] scope pos) 0 it acc env) R s)
    (h : wpAny (M2 prog w) A (pyIter it) (fun it' s' => codeAny (M2 prog w) A (.compLoop (.ListComp elt [⟨tg, iter, [], 0⟩] scope pos) 0 it' acc env) R s') NoE s) : codeAny (M2 prog w) A (.compStart (.ListComp elt [⟨tg, iter, [], 0⟩] scope pos) 0 it acc env) R s := by
  refine codeAny_of_tree ?_
  rw [den_compS]
  show wpAny _ _ ((compStart (.ListComp elt [⟨tg, iter, [], 0⟩] scope pos) 0 it acc env).onRaise _) _ _ s
  refine noted2 ?_
  unfold compStart
  show wpAny _ _ (ask >>= _) _ _ s
  refine wpAny_bind (wpAny_askSetting (wpAny_ite ?_))
  split
  · first
      | exact wpAny_bind (wpAny_pure (wpAny_pure ⟨rfl, h0⟩))
      | exact wpAny_pure ⟨rfl, h0⟩
  · first
      | exact wpAny_bind (wpAny_rule (wpAny_bind (wpAny_standAt (wpAny_bind (thn h fun it' s' k => wpAny_pure ⟨rfl, k⟩)))))
      | (refine wpAny_bind (wpAny_rule ?_); show wpAny _ _ (standAt iter.pos >>= _) _ _ s; exact wpAny_bind (wpAny_standAt (wpAny_bind (thn h fun it' s' k => wpAny_pure ⟨rfl, k⟩))))
end
end CH
/-! text R6 -/
namespace CH
open PySem PySem.Spec PyProof.Rows L2 Evl
open Sem (wp)
section
variable {X : Cx} {iter tg elt : Expr} {body : List Stmt} {wi : TI} {g : TG} {tb : TS} {te : TE} {pos : Pos}
theorem Cx.Ok.calm {X : Cx} (h : X.calm = true) : X.nox.calm = true := h
theorem ps2_for (hc : X.calm = true) (hi : PI X.nox tg iter wi) (hg : PG X.nox tg g) (hb : PSs2 X body tb) (hs : ∀ x, foldedSetIterable iter X.env x = pure x := by intro _; rfl) : PS2 X (.For tg iter body [] pos) (tFor wi g tb) := ⟨fun pins s σ H D I n h => by
  refine wpAny_For (tr_more (Rx.here s) (hi.run pins (numb s) σ H _ (inv_numb (I.wish _)) h) (fun v z1 s1 k1 h1 => tr_more k1 h1 (fun itv z2 s2 k2 h2 => ?_) fun _ _ _ _ q => q) fun _ _ _ _ q => q) hs
  obtain ⟨it, fp, tn, J, H2, rfl, I2', T, st2, f2, W, ⟨m0, w0⟩, turn⟩ := h2
  have I2 : Inv X.nox pins σ H2 s2 := inv_aft k2.aft I.bare I2'
  have n2 : Ny s2.gens := k2.aft.ny I2'.bare n
  rw [k2.rl.heap] at st2
  have ok : ∀ {H' : Hp}, (∀ b ∈ fp, H' b = none) → ∀ b ∈ fp, FpOk X.nox pins H' b := fun hn b hb => ⟨hn b hb, (f2 b hb).2⟩
  refine code2_for (fun m s' => ∃ i σ' H', Inv X.nox pins σ' H' s' ∧ Ny s'.gens ∧ tn i s'.heap ∧ (∀ b ∈ fp, H' b = none) ∧ W i m σ' H') ?_ m0 ⟨0, σ, H2, I2, n2, st2, fun b hb => (f2 b hb).1, w0⟩
  rintro m s3 ⟨i, σ3, H3, I3, n3, st3, fr3, w3⟩
  rcases turn i m σ3 H3 w3 with ⟨stop, qn⟩ | ⟨go, N, hN, step⟩
  · refine tr_more (Rx.here s3) (T.done X.nox rfl rfl rfl hc i pins (numb s3) σ3 H3 NoE (inv_numb I3) (ok fr3) st3 stop) (fun r z s4 k q => ?_) fun _ _ _ _ q => q
    obtain ⟨rfl, I4⟩ := q
    exact ⟨⟨σ3, H3, (inv_aft k.aft I3.bare I4).unwish, qn⟩, k.aft.ny I4.bare n3⟩
  · refine tr_more (Rx.here s3) (T.item X.nox rfl rfl rfl hc i pins (numb s3) σ3 H3 NoE (inv_numb I3) (ok fr3) st3 go) (fun r z s4 k q => ?_) fun _ _ _ _ q => q
    obtain ⟨u, rfl, h4⟩ := q
    refine tr_more k h4 (fun _ z5 s5 k5 q => ?_) fun _ _ _ _ q => q
    obtain ⟨x, H5, I5', rx, y5, st5, fr5⟩ := q
    have I5 : Inv X.nox pins σ3 H5 s5 := inv_aft k5.aft I3.bare I5'
    have n5 : Ny s5.gens := k5.aft.ny I5'.bare n3
    rw [k5.rl.heap] at st5
    have I5p := I5.pinned (ok fr5) (T.obj _ _ st5)
    refine tr_more (Rx.here s5) (hg.run _ (numb s5) σ3 H5 x u _ (inv_numb I5p) rx (step x H5 y5)) (fun _ z6 s6 k6 q => ?_) fun _ _ _ _ q => q
    obtain ⟨σ6, H6, I6', q6⟩ := q
    have I6 := inv_aft k6.aft I5.bare I6'
    refine thn (hb.run _ s6 σ6 H6 _ I6.unwish (k6.aft.ny I6'.bare n5) q6) fun f s7 hq => ?_
    obtain ⟨hq, n7⟩ := hq
    have fin : ∀ {σ' : L2.St} {H' : Hp}, Inv X (pins ++ pinsAt fp s5.heap) σ' H' s7 → N σ' H' → ∃ m', m' < m ∧ ∃ i σ' H', Inv X.nox pins σ' H' s7 ∧ Ny s7.gens ∧ tn i s7.heap ∧ (∀ b ∈ fp, H' b = none) ∧ W i m' σ' H' := fun {σ' H'} J' q => by
      obtain ⟨m', hm, w'⟩ := hN σ' H' q
      have at' : ∀ b ∈ fp, ∀ o, s5.heap.get? b = some o → s7.heap.get? b = some o ∧ H' b = none := fun b hb o e => by
        have := J'.pin (b, o) (List.mem_append_right _ (List.mem_append_right _ (mem_pinsAt hb e)))
        exact ⟨this.1, this.2.1⟩
      refine ⟨m', hm, i + 1, σ', H', (J'.unpinned (pins := pins)).wish _, n7, T.keep _ _ _ st5 (fun b hb o e => (at' b hb o e).1), fun b hb => ?_, w'⟩
      obtain ⟨o, e, _⟩ := T.obj _ _ st5 b hb
      exact (at' b hb o e).2
    cases f with
    | next => obtain ⟨σ', H', J', q⟩ := hq; exact fin J' q
    | cont => obtain ⟨σ', H', J', q⟩ := hq; exact fin J' q
    | brk => obtain ⟨σ', H', J', q⟩ := hq; exact ⟨⟨σ', H', J'.unpinned, q⟩, n7⟩
    | ret v => obtain ⟨y, σ', H', J', r, q⟩ := hq; exact ⟨⟨y, σ', H', J'.unpinned, r, q⟩, n7⟩⟩
theorem pe2_lc {scope : Scope} {own : List (Str × Nat)} (hc : X.calm = true) (hN : X.N.Nodup) (hi : PI X.nox tg iter wi) (ok : BlkOk X.N X.env.scope scope own)
    (hg : ∀ (s : Shared) (H : Hp) (C : Addr) (cl : List (Str × Addr)) (fp : List Addr), PG (X.blk s H scope (compEnvC scope cl C X.env) fp) tg g)
    (he : ∀ (s : Shared) (H : Hp) (C : Addr) (cl : List (Str × Addr)) (fp : List Addr), PE2 (X.blk s H scope (compEnvC scope cl C X.env) fp) elt te) (hs : ∀ x, foldedSetIterable iter X.env x = pure x := by intro _; rfl) :
    PE2 X (.ListComp elt [⟨tg, iter, [], 0⟩] scope pos) (tLc wi g tYes te (own.map (·.2))) := ⟨fun pins s σ H Q I n h => by
  rw [eval_ListComp]
  have hfree : ∀ y ∈ scope.names, y.2 = .free → ∃ c, X.env.cells.lookup y.1 = some c := fun y hy e => (ok.free y hy e).elim (fun k => I.ok.has _ (.inl k)) fun k => I.ok.has _ (.inr k)
  refine wpAny_comprehension_free (use := none) rfl hs (closure_ok hfree) ok.kind (fun y hy e => by rw [ok.uniq y hy, e])
    (tr_more (Rx.here s) (hi.run pins (numb s) σ H _ (inv_numb (I.wish _)) h) (fun v z1 s1 k1 h1 => tr_more k1 h1 (fun itv z2 s2 k2 h2 => ?_) fun _ _ _ _ q => q) fun _ _ _ _ q => q)
  obtain ⟨it, fp, tn, J, H2, rfl, I2', T, st2, f2, q⟩ := h2
  have I2 : Inv X.nox pins σ H2 s2 := inv_aft k2.aft I.bare I2'
  have n2 : Ny s2.gens := k2.aft.ny I2'.bare n
  rw [k2.rl.heap] at st2
  refine wpAny_newObj_type (newEnv_comp ?_) (by show 0 ≤ sizeLine; decide)
  generalize hD : s2.heap.objs.size = D
  have hDn : H2 D = none := I2.hok.fresh (Nat.le_of_eq hD)
  obtain ⟨W, ⟨m0, w0⟩, turn⟩ := q D hDn
  generalize hs3 : ({ s2 with heap := s2.heap.push { cls := .type "list", data := .seq ([] : List Value).toArray } } : Shared) = s3
  have e3 : s3.heap = s2.heap.push { cls := .type "list", data := .seq ([] : List Value).toArray } := by rw [← hs3]
  have n3 : Ny s3.gens := by rw [← hs3]; exact n2
  have I3 : Inv X.nox pins σ (upd H2 D (.lst [])) s3 := by
    rw [← hs3]
    refine I2.laid (t' := s2.toks) (fun b o e => Heap.get?_push_of_some _ e) (Nat.le_of_eq hD) ⟨Nat.zero_le _, [], 0, .nil, ?_⟩
    rw [← hD]
    exact Heap.get?_push_size _ rfl
  have lt : ∀ b ∈ fp, b < s2.heap.objs.size := fun b hb => by obtain ⟨o, e, _⟩ := T.obj _ _ st2 b hb; exact Heap.lt_size e
  have f3 : ∀ b ∈ fp, FpOk X.nox pins (upd H2 D (.lst [])) b ∧ b < s3.heap.objs.size := fun b hb =>
    ⟨⟨by rw [upd_ne (by rw [← hD]; exact Nat.ne_of_lt (lt b hb))]; exact (f2 b hb).1, (f2 b hb).2⟩, by rw [e3, Heap.size_push]; exact Nat.lt_succ_of_lt (lt b hb)⟩
  have st3 : tn 0 s3.heap := T.keep _ _ _ st2 fun b _ o e => by rw [e3]; exact Heap.get?_push_of_some _ e
  have I4 := block_start I3 ok hN f3
  have pg := hg s3 (upd H2 D (.lst [])) s3.heap.objs.size (cellsFrom (s3.heap.objs.size + 1) scope.names (cloFrom X.env.cells scope.names [])) fp
  have pe := he s3 (upd H2 D (.lst [])) s3.heap.objs.size (cellsFrom (s3.heap.objs.size + 1) scope.names (cloFrom X.env.cells scope.names [])) fp
  show codeAny _ _ (.compStart (.ListComp elt [⟨tg, iter, [], 0⟩] scope pos) 0 (.ref it) (.ref D) (compEnvC scope (cellsFrom (s3.heap.objs.size + 1) scope.names (cloFrom X.env.cells scope.names [])) s3.heap.objs.size X.env)) _ { s3 with heap := pushCells (s3.heap.push { cls := .type "dict", data := .dict #[] }) scope.names }
  have nfp : ∀ b ∈ fp, (upd H2 D (.lst [])) b = none := fun b hb => (f3 b hb).1.1
  generalize hce : compEnvC scope (cellsFrom (s3.heap.objs.size + 1) scope.names (cloFrom X.env.cells scope.names [])) s3.heap.objs.size X.env = ce at I4 pg pe ⊢
  have cL : ce.locals = s3.heap.objs.size := by subst hce; rfl
  generalize hH3 : upd H2 D (.lst []) = H3 at I3 I4 pg pe w0 nfp f3
  generalize hs4 : ({ s3 with heap := pushCells (s3.heap.push { cls := .type "dict", data := .dict #[] }) scope.names } : Shared) = s4 at I4 ⊢
  have n4 : Ny s4.gens := by rw [← hs4]; exact n3
  have st4 : tn 0 s4.heap := T.keep _ _ _ st3 fun b _ o e => by rw [← hs4]; exact pushCells_keeps _ _ _ _ (Heap.get?_push_of_some _ e)
  have stat : ∀ {σ' : L2.St} {H' : Hp} {s' : Shared}, Inv (X.blk s3 H3 scope ce fp) [] σ' H' s' → (∀ b ∈ fp, H' b = none) → ∀ b ∈ fp, FpOk (X.blk s3 H3 scope ce fp) [] H' b := fun {σ' H' s'} I' hn b hb =>
    ⟨hn b hb, (I'.ok.exf b hb).1, I'.ok.exfs b hb, .inl hb, fun x c e => (I'.ok.exf b hb).2 x c e, fun p hp => nomatch (show p ∈ ([] : List (Addr × Obj)) from hp)⟩
  have loop : codeAny (M2 X.prog X.w) X.A (.compLoop (.ListComp elt [⟨tg, iter, [], 0⟩] scope pos) 0 (.ref it) (.ref D) ce) (compPost (M2 X.prog X.w) X.A NoE none (EP2 X pins σ Q) (.ref D) s3.heap.objs.size) s4 := by
    refine code2_lc (fun m s' => ∃ i H', Inv (X.blk s3 H3 scope ce fp) [] (wipe σ (own.map (·.2))) H' s' ∧ Ny s'.gens ∧ tn i s'.heap ∧ (∀ b ∈ fp, H' b = none) ∧ W i m H') ?_ m0 ⟨0, H3, I4, n4, st4, nfp, w0⟩
    rintro m s5 ⟨i, H5, I5, n5, st5, fr5, w5⟩
    rcases turn i m H5 w5 with ⟨stop, qq⟩ | ⟨go, Nx, hNx, step⟩
    · refine tr_more (Rx.here s5) (T.done (X.blk s3 H3 scope ce fp) rfl rfl rfl hc i [] (numb s5) _ H5 NoE (inv_numb I5) (stat I5 fr5) st5 stop) (fun r z s6 k q => ?_) fun _ _ _ _ q => q
      obtain ⟨rfl, I6'⟩ := q
      have I6 := inv_aft k.aft I5.bare I6'
      have n6 := k.aft.ny I6'.bare n5
      have I7 : Inv X.nox pins σ H5 s6 := I3.call' (ch := fp) I6.os I6.base I6.hok I6.bare fun b hb => ⟨(f3 b hb).1.2.2.2.1, (f3 b hb).1.2.1, (f3 b hb).1.2.2.2.2.1, (f3 b hb).1.2.2.2.2.2⟩
      obtain ⟨mm, hn, _⟩ := I6.loc
      have hn : s6.heap.Ns ce.locals mm := hn
      rw [cL] at hn
      have nC : H5 s3.heap.objs.size = none := by rw [← cL]; exact I6.free
      refine ⟨mm, hn, fun h'' sb => ?_⟩
      obtain ⟨f0, f1, f2, f3, f4, f5⟩ := I3.fpOk (Nat.le_refl _) nC
      exact ⟨.ref D, H5, (I7.turned (t' := s6.toks) (fun b o hb e => (sb.2 b hb).trans e) f0 f1 f3 f4 f5).unwish, n6, rfl, qq⟩
    · refine tr_more (Rx.here s5) (T.item (X.blk s3 H3 scope ce fp) rfl rfl rfl hc i [] (numb s5) _ H5 NoE (inv_numb I5) (stat I5 fr5) st5 go) (fun r z s6 k q => ?_) fun _ _ _ _ q => q
      obtain ⟨u, rfl, h6⟩ := q
      refine tr_more k h6 (fun _ z7 s7 k7 q => ?_) fun _ _ _ _ q => q
      obtain ⟨x, H7, I7', rx, y7, st7, fr7⟩ := q
      have I7 := inv_aft k7.aft I5.bare I7'
      have n7 := k7.aft.ny I7'.bare n5
      rw [k7.rl.heap] at st7
      have I7p := I7.pinned (stat I7 fr7) (T.obj _ _ st7)
      refine tr_more (Rx.here s7) (pg.run _ (numb s7) _ H7 x u _ (inv_numb I7p) rx (step x H7 y7)) (fun _ z8 s8 k8 q => ?_) fun _ _ _ _ q => q
      obtain ⟨σ8, H8, I8', hw8, q8⟩ := q
      have I8 := inv_aft k8.aft I7.bare I8'
      have n8 := k8.aft.ny I8'.bare n7
      refine thn (pe.run _ s8 σ8 H8 _ I8 n8 (by simpa [tYes] using q8)) fun v s9 q => ?_
      obtain ⟨y, H9, I9, n9, ry, acc, hD9, hz9, nx⟩ := q
      refine tr_more (Rx.here s9) (app_ok (X := X.blk s3 H3 scope ce fp) (s := numb s9) (Q := fun _ z => Inv (X.blk s3 H3 scope ce fp) ([] ++ pinsAt fp s7.heap) σ8 (upd H9 D (.lst (acc ++ [y]))) z) (E := NoE) (inv_numb I9) hD9 hz9 ry fun s11 I11 => I11) (fun _ z s10 k10 I10' => ?_) fun _ _ _ _ q => q
      have I10 := inv_aft k10.aft I9.bare I10'
      obtain ⟨m', hm, w'⟩ := hNx _ nx
      have at' : ∀ b ∈ fp, ∀ o, s7.heap.get? b = some o → s10.heap.get? b = some o ∧ upd H9 D (.lst (acc ++ [y])) b = none := fun b hb o e => by
        have := I10.pin (b, o) (List.mem_append_right _ (List.mem_append_right _ (mem_pinsAt hb e)))
        exact ⟨this.1, this.2.1⟩
      refine ⟨m', hm, i + 1, _, (I10.unpinned (pins := [])).weak (by rw [← hw8, wipe_length]) (fun j v e => ?_), k10.aft.ny I10'.bare n9, T.keep _ _ _ st7 (fun b hb o e => (at' b hb o e).1), fun b hb => ?_, w'⟩
      · rw [← hw8] at e
        exact (wipe_some e).1
      · obtain ⟨o, e, _⟩ := T.obj _ _ st7 b hb
        exact (at' b hb o e).2
  refine start2_lc loop (tr_more (Rx.here s4) (T.self X.A 0 (numb s4) (fun v z => v = .ref it ∧ z = numb s4) NoE st4 ⟨rfl, rfl⟩) (fun v z s' k q => ?_) fun _ _ _ _ q => q)
  obtain ⟨rfl, rfl⟩ := q
  rw [k.same]
  exact loop⟩
end
end CH
/-! text R7 -/
/-! The layer over the milder model: methods, making an instance. -/
namespace CH
open PySem PySem.Spec PyProof.Rows L2 Evl
open Sem (wp)
theorem yf_ne {id : String} {args : Args} (h : id ≠ "proto.yield_from") : yf? (.builtin id args) = none := if_neg h
theorem rx_gens {s z s' : Shared} (r : Rx s z s') (h : z.gens = (numb s).gens) : s'.gens = s.gens := Array.ext_getElem? fun i => by
  by_cases ho : Old s.gens i
  · obtain ⟨x, hx, hs⟩ := ho
    rw [(r.rl.old i x hx hs).1, hx]
  · rw [r.rl.new i ho, h, (numb_rl s).new i ho]
section
variable {prog : Program} {w : World}
theorem tr_code {A : Around} {c : Code} {s : Shared} {R R' : Result → Shared → Prop} (h : codeAny (model prog w) A c R (numb s)) (hR : ∀ r z s', Rx s z s' → R r z → R' r s') : codeAny (M2 prog w) A c R' s := by
  intro Γ p hc hΓ
  obtain ⟨r, z, hr, q⟩ := h Γ p hc hΓ
  obtain ⟨s', R1, n1, _, r1⟩ := tr_runs hr rfl rfl (numb_ng s) s (numb_rl s)
  exact ⟨r, s', r1, hR r z s' ⟨R1, n1, GenW.runs_gsz hr⟩ q⟩
theorem code2_builtin {A : Around} {id : String} {args : Args} {b : Builtin} {s : Shared} {R : Result → Shared → Prop} (hy : yf? (.builtin id args) = none) (hq : (Code.builtin id args).quiet = true) (hb : entryFor table id = some b)
    (h : wpAny (M2 prog w) A.in1 (checkBuiltinCall id args) (fun _ s1 => wpAny (M2 prog w) (A.under (.builtin id args)) (b args) (fun fin s' => match fin with | .done f => R (.ok f) s' | .again c' => c'.quiet = true ∧ codeAny (M2 prog w) A c' R s') (fun e s' => R (.error e) s') s1) NoE s) :
    codeAny (M2 prog w) A (.call (.builtin id) args) R s := by
  refine codeAny_of_tree ?_
  rw [den_call]
  show wpAny _ A.in1 (do checkBuiltinCall id args; again (.builtin id args)) _ _ s
  refine wpAny_bind (wpAny_mono h (fun _ s1 k => wpAny_pure ⟨hq, codeAny_of_tree ?_⟩) fun _ _ q => q.elim)
  rw [M2_den hy]
  show wpAny _ _ (match entryFor table id with | some b => b args | none => unsupported ((withoutEnding? id "#data").getD id)) _ _ s1
  rw [hb]
  exact k
end
section
variable {prog : Program} {w : World} {A : Around} {C : Addr} {R : Result → Shared → Prop} {h : Heap} {g : Array GenState} {d : Drawn} {t : Nat} {os : OsState}
theorem make2 {rest : List Value} {init : Value} (Y : PySem.W.Makes (M2 prog w) h C) (Y1 : PySem.W.Makes (model prog w) h C) (hi : ∀ M, PySem.W.Looks M h (typeLookup (.ref C) "__init__") (some init)) (hb : ∀ self, PySem.W.Looks (M2 prog w) h (bindSpecial init self) (init, [self]))
    (hne : (some init != some (Value.builtin "object.__init__")) = true)
    (hq : codeAny (M2 prog w) (A.under (.builtin "type.__call__" ⟨.ref C :: rest, []⟩)) (.call init ⟨.ref (h.objs.size + 1) :: rest, []⟩) (PySem.W.InitBack (h.objs.size + 1) R) ⟨(h.push PySem.W.emptyDict).push (PySem.W.instObj C h.objs.size), g, d, t, os⟩) :
    codeAny (M2 prog w) A (.call (.ref C) ⟨rest, []⟩) R ⟨h, g, d, t, os⟩ := by
  have lInit := hi (M2 prog w)
  obtain ⟨⟨oc, od, cd, sl, hC, e1, e2, e4⟩, made, base, self, top, call, typ⟩ := Y
  refine codeAny_of_tree ?_
  rw [den_call]
  show wpAny _ _ (callAny (.ref C) _) _ _ _
  refine PySem.W.nd_load hC ?_
  show wpAny _ _ (callAny.viaDunder (.ref C) _) _ _ _
  unfold callAny.viaDunder
  refine wpAny_bind (call.at ?_)
  dsimp only
  rw [tc_bind]
  refine wpAny_bind (wpAny_pure (wpAny_bind (wpAny_pure ?_)))
  refine wpAny_pure (a := Fin.again (.call (.builtin "type.__call__") ⟨.ref C :: rest, []⟩)) (And.intro rfl ?_)
  refine code2_builtin (yf_ne (by decide)) (Code.quiet_builtin _ (by decide +kernel)) entry_typeCall (PySem.W.check_slot tc_kind tc_split typ (PySem.W.tc_args _ _ _) ?_)
  unfold Builtin.«type.__call__»
  have hm : PySem.W.Looks (M2 prog w) h (mroOf (.ref C)) cd.mro := ((PySem.W.Looks.ld (part := none) hC).andThen .now).andThen .now
  repeat (first | simp only [e4, Bool.false_eq_true, if_false] | with_reducible refine wpAny_call ?_ | lk)
  refine tr_code (R := fun r z => r = .ok (.ret (.ref (h.objs.size + 1))) ∧ z = { numb ⟨h, g, d, t, os⟩ with heap := (h.push PySem.W.emptyDict).push (PySem.W.instObj C h.objs.size) }) (PySem.W.new_K Y1 (hi _) (.inl hne) ⟨rfl, rfl⟩) fun r z s' k q => ?_
  obtain ⟨rfl, rfl⟩ := q
  have es : s' = ⟨(h.push PySem.W.emptyDict).push (PySem.W.instObj C h.objs.size), g, d, t, os⟩ := by
    have hg := rx_gens k rfl
    obtain ⟨h', g', d', t', o'⟩ := s'
    have a1 := k.rl.heap
    have a2 := k.rl.drawn
    have a3 := k.rl.toks
    have a4 := k.rl.os
    simp only [numb] at a1 a2 a3 a4
    subst a1 a2 a3 a4 hg
    rfl
  subst es
  have kp : ∀ b o, h.get? b = some o → ((h.push PySem.W.emptyDict).push (PySem.W.instObj C h.objs.size)).get? b = some o := fun b o e => Heap.get?_push_of_some _ (Heap.get?_push_of_some _ e)
  have hx : ((h.push PySem.W.emptyDict).push (PySem.W.instObj C h.objs.size)).get? (h.objs.size + 1) = some (PySem.W.instObj C h.objs.size) := by heap_get
  have t1 : PySem.W.Looks (M2 prog w) ((h.push PySem.W.emptyDict).push (PySem.W.instObj C h.objs.size)) (typeOf (.ref (h.objs.size + 1))) (.ref C) := (PySem.W.Looks.ld hx).andThen .now
  have s1 := self.keeps kp
  have i1 := lInit.keeps kp
  have b1 := (hb (.ref (h.objs.size + 1))).keeps kp
  unfold isInstance callSpecial? specialOf
  repeat (first | with_reducible refine wpAny_call ?_ | lk)
  refine codeAny_mono hq fun r s' z => ?_
  rcases r with e | (v | _ | _ | _) <;> first | exact z | exact z.elim | skip
  obtain ⟨rfl, z⟩ := z
  exact wpAny_pure (wpAny_pure z)
end
section
variable {X : Cx} {pins : List (Addr × Obj)} {σ : L2.St} {H : Hp} {s : Shared} {k : Nat} {f C g : Addr} {sp : Sq} {x m : Str} {p pos apos : Pos} {e o : Expr} {es : List Expr} {ta : TA} {te : TE}
def tMake2 (C : Addr) (sp : Sq) (t : TA) : TE := fun σ H Q => t σ H fun vs H1 => ∀ x dx, H1 x = none → H1 dx = none → dx ≠ x → sp (V.ref x :: vs) (upd (upd H1 dx (.own x)) x (.ins C dx [])) (fun v H2 => v = .non ∧ Q (.ref x) H2)
theorem run2_make {Q : VK} {us : List Value} {vs : List V} (M : Mk X.K C f) (hne : (some (Value.ref f) != some (Value.builtin "object.__init__")) = true) (F : FnR2 X.prog X.w X.K X.mg X.base k f sp) (hr : Room (k + 1) X.A) (I : Inv X pins σ H s) (n : Ny s.gens) (r : Vals vs us)
    (h : ∀ x dx, H x = none → H dx = none → dx ≠ x → sp (V.ref x :: vs) (upd (upd H dx (.own x)) x (.ins C dx [])) (fun v H2 => v = .non ∧ Q (.ref x) H2)) : wpAny (M2 X.prog X.w) X.A (call (.ref C) us) (EP2 X pins σ Q) NoE s := by
  have hq := h (s.heap.objs.size + 1) s.heap.objs.size (I.hok.fresh (Nat.le_succ _)) (I.hok.fresh (Nat.le_refl _)) (Nat.ne_of_lt (Nat.lt_succ_self _))
  have I2 := Inv.made (C := C) I
  have KX := I.kIn
  refine wpAny_call ?_
  obtain ⟨hh, gg, d, t, os⟩ := s
  refine make2 (PySem.W.makes_of KX M.makes) (PySem.W.makes_of KX M.makes) (fun _ => PySem.W.looks_findIn KX M.init) (fun self => PySem.W.bind_fn KX self (beq_iff_eq.mp M.fn)) hne ?_
  refine codeAny_mono (F _ X.stack _ _ (Value.ref (hh.objs.size + 1) :: us) _ _ (hr.make C us []) (I2.env0.make C us []) n (Paired.cons (a := V.ref (hh.objs.size + 1)) (show RelV (V.ref (hh.objs.size + 1)) _ from rfl) r) hq) fun r s' hq' => ?_
  obtain ⟨u, rfl, v, H', I3, n3, rv, ⟨ev, q3⟩⟩ := inv_after2 I2 hq'
  subst ev
  exact ⟨rv, V.ref (hh.objs.size + 1), H', I3, n3, rfl, q3⟩
theorem pe2_make (M : Mk X.K C f) (hne : (some (Value.ref f) != some (Value.builtin "object.__init__")) = true) (F : FnR2 X.prog X.w X.K X.mg X.base k f sp) (hr : Room (k + 1) X.A) (hg : Gl X x) (hm : X.mg x = some (.ref C)) (ha : PA2 X (e :: es) ta) (hd : (x == ("__debug__" : Str)) = false := by decide)
    (he : starEach (e :: es) X.env = (false, eval e X.env) :: starEach es X.env := by rfl) (hp : (backTo pos (starEach es X.env)).any (·.1) = false := by rfl) : PE2 X (.Call (.Name x p) (e :: es) [] pos) (tMake2 C sp ta) := ⟨fun pins s σ H Q I n h =>
  wpAny_Call_Name_kw (ld2 I hg hm (PySem.W.callWith_K (h₀ := X.base) I.ok.mod.kin M.kp (thn (ha.run pos pins s σ H _ I n h) fun us s1 ⟨vs, H1, I1, n1, r, q⟩ => ⟨I1.kIn, run2_make M hne F hr I1 n1 r q⟩) he hp) hd)⟩
/-- o.m(e, ..): o is made in the milder model, m is a def of the given one -/
theorem pe2_methSl {spm : Sp} {pl : Sem Bool} (ho : PE2 X o te) (c : SlX.SCls X.K C) (hm : Meth X.K C m g) (F : FnR X.prog X.w X.K X.mg X.base CX0 k g spm) (hr : Room k X.A) (ha : PA X.nox (e :: es) ta)
    (hst : starEach (e :: es) X.env = (false, eval e X.env) :: starEach es X.env := by rfl) (hpl : (backTo pos (starEach es X.env)).any (·.1) = false := by rfl)
    (ht : eval (.Call (.Attribute o m apos) (e :: es) [] pos) X.env = (do
      let ov ← eval o X.env
      standAt apos.atName
      let (f, first) ← holding [ov] (getMethod ov m pl)
      callWith pos f first (backTo pos (starEach (e :: es) X.env)) (backToKw pos (keywordEach [] X.env))) := by rfl) : PE2 X (.Call (.Attribute o m apos) (e :: es) [] pos) (SlX.tMethSl C spm E0 te ta) := ⟨fun pins s σ H Q I n h => by
  rw [ht]
  refine wpAny_bind (thn (ho.run pins s σ H _ I n h) fun u s1 ⟨x, H1, I1, n1, rx, a, dx, vs, ex, hsl, q⟩ => ?_)
  subst ex
  cases rx
  refine tr_more (Rx.here s1) (Q := EP X.nox pins σ Q) (E := NoE) ?_ (fun _ _ _ k q => ep2_rx k I1.bare n1 q) fun _ _ _ _ q => q
  have I1' := inv_numb (I1.wish (fun _ _ => False))
  refine wpAny_bind (wpAny_standAt (wpAny_bind (wpAny_holding (SlX.getmethsl_ok (X := X.nox) I1' hsl c hm ?_))))
  refine PySem.W.callWith_K (first := [.ref a]) (h₀ := X.base) I.ok.mod.kin hm.kp (thn (ha.run pos pins (numb s1) σ H1 _ I1' q) fun us s2 ⟨ws, H2, I2, r, q2⟩ => ⟨I2.kIn, ?_⟩) hst hpl
  exact wpAny_call (run_fnR (X := X.nox) (us := .ref a :: us) (vs := .ref a :: ws) F hr pass0 I2 (.cons rfl r) q2)⟩
end
end CH
/-! text G1 -/
/-! Generators: a stretch of a generator's run, from a wake to its next yield or its end; what waits for what. -/
namespace CH
open PySem PySem.Spec PyProof.Rows L2 Evl
open Sem (wp)

/-- one stretch: the end is as F says -/
def Stretch (M : Model) (A : Around) (F : End → Shared → Prop) (c : Code) (t : Sem PySem.Fin) (fs : List Frame) (s : Shared) : Prop := ∀ Γ p, Γ.code = c → Γ.Woken A → ∃ e s', Runs M Γ p t fs s e s' ∧ F e s'
section
variable {M : Model} {A : Around} {F : End → Shared → Prop} {c : Code} {fs : List Frame} {s : Shared}
theorem Stretch.imp {F' : End → Shared → Prop} {t : Sem PySem.Fin} (h : Stretch M A F c t fs s) (k : ∀ e s', F e s' → F' e s') : Stretch M A F' c t fs s := fun Γ p hc hΓ =>
  let ⟨e, s', r, q⟩ := h Γ p hc hΓ; ⟨e, s', r, k e s' q⟩
theorem st_wrap {α : Type} {m : Sem α} {K : α → Sem PySem.Fin} {J : Value → Sem PySem.Fin} {gd lv} (h : wpAny M (A.over c fs) m (fun a s' => Stretch M A F c (K a) fs s') (fun x s' => Stretch M A F c (J x) fs s') s) : Stretch M A F c (m.wrap K J gd lv) fs s := by
  rintro Γ p rfl hΓ
  exact runs_wrap_of_wp K J gd lv m (h (Γ.over fs) p (hΓ.over fs)) (fun a p' s' k => k Γ p' rfl hΓ) fun x p' s' k => k Γ p' rfl hΓ
theorem st_bind {α : Type} {m : Sem α} {K : α → Sem PySem.Fin} (h : wpAny M (A.over c fs) m (fun a s' => Stretch M A F c (K a) fs s') (fun x s' => Stretch M A F c (.raise x) fs s') s) : Stretch M A F c (m >>= K) fs s := by
  rw [Sem.bind_eq_wrap']
  exact st_wrap h
theorem st_call {c' : Code} {h g l} {k : Result → Sem PySem.Fin} (q : ∀ p, Stretch M A F c' (M.den c') (.ret k h g l c p [] :: fs) s) : Stretch M A F c (.call c' h g l k) fs s := by
  rintro Γ p rfl hΓ
  obtain ⟨e, s', r, z⟩ := q p (Γ.goto c') p rfl (hΓ.goto c')
  exact ⟨e, s', runs_call_seg r, z⟩
theorem st_leaf {k h g l c₁ p₁ kp} (r : Result) (q : Stretch M A F c₁ (k r) fs s) : Stretch M A F c (leafOf r) (.ret k h g l c₁ p₁ kp :: fs) s := by
  rintro Γ p rfl hΓ
  obtain ⟨e, s', z, y⟩ := q (Γ.goto c₁) p₁ rfl (hΓ.goto c₁)
  exact ⟨e, s', Runs.pop r z, y⟩
theorem st_again {c' : Code} (hq : c'.quiet = true) (q : Stretch M A F c' (M.den c') fs s) : Stretch M A F c (.pure (.again c')) fs s := by
  rintro Γ p rfl hΓ
  obtain ⟨e, s', z, y⟩ := q (Γ.goto c') p rfl (hΓ.goto c')
  exact ⟨e, s', Runs.head (c₁ := c') (fun _ _ x => .again hq x) z, y⟩
theorem st_end (r : Result) (q : F (.ret r) s) : Stretch M A F c (leafOf r) [] s := by
  rintro Γ p rfl _
  exact ⟨.ret r, s, Runs.leaf r, q⟩
theorem st_yield {v g l} {k : Resume → Sem PySem.Fin} (hfs : splitAtGen fs = none) (q : ∀ p, F (.susp v g l k c p fs) s) : Stretch M A F c (.yield v g l k) fs s := by
  rintro Γ p rfl _
  exact ⟨_, s, Runs.yield' fs hfs, q p⟩
theorem st_at {p' : Pos} {k : Unit → Sem PySem.Fin} (q : Stretch M A F c (k ()) fs s) : Stretch M A F c (.at p' k) fs s := st_wrap (m := standAt p') (K := k) (J := .raise) (gd := id) (lv := id) (wpAny_standAt q)
theorem st_point {l : List Value} {k : Unit → Sem PySem.Fin} (q : Stretch M A F c (k ()) fs s) : Stretch M A F c (.point l k) fs s := st_wrap (m := point) (K := k) (J := .raise) (gd := id) (lv := fun _ => l) (wpAny_point q)
theorem st_load {a : Addr} {b} {k : Obj → Sem PySem.Fin} {o : Obj} (ho : s.heap.get? a = some o) (q : Stretch M A F c (k o) fs s) : Stretch M A F c (.load a b k) fs s :=
  st_wrap (m := (.load a b .pure : Sem Obj)) (K := k) (J := .raise) (gd := id) (lv := id) (fun _ _ _ => ⟨o, ho, q⟩)
end

/-- a generator as it waits: what its next stretch reaches -/
def Goes2 (M : Model) (A : Around) (F : End → Shared → Prop) (gs : GenState) (s : Shared) : Prop :=
  match gs with
  | .fresh c => Stretch M A F c (M.den c) [] s
  | .suspended k _ c _ fs _ => Stretch M A F c (k (.send .none)) fs s
  | _ => False
theorem resume2 {M : Model} {A : Around} {s : Shared} {g : Nat} {gs : GenState} {l : List Value} {α : Type} {k : GenResult → Sem α} {Q : α → Shared → Prop} {E : Value → Shared → Prop} (hg : s.gens[g]? = some gs)
    (h : Goes2 M A (fun e s' => e.quiet = true ∧ wpAny M A (k e.result) Q E (s'.setGen g e.genState)) gs (s.setGen g .running)) : wpAny M A (.resume g (.send .none) l k) Q E s := by
  intro Γ p hΓ
  rw [Sem.wp_resume]
  cases gs with
  | fresh c =>
    obtain ⟨e, s', r, hq, z⟩ := h (Γ.wake c p) p rfl (hΓ.wake c p)
    exact ⟨_, _, by unfold Wakes; rw [hg]; exact ⟨e, s', r, hq, rfl, rfl⟩, z Γ p hΓ⟩
  | suspended k₀ l₀ c p₀ fs cl =>
    obtain ⟨e, s', r, hq, z⟩ := h (Γ.wake c p) p₀ rfl (hΓ.wake c p)
    exact ⟨_, _, by unfold Wakes; rw [hg]; exact ⟨e, s', r, hq, rfl, rfl⟩, z Γ p hΓ⟩
  | running => exact h.elim
  | finished => exact h.elim
theorem Goes2.imp {M : Model} {A : Around} {F F' : End → Shared → Prop} {gs : GenState} {s : Shared} (h : Goes2 M A F gs s) (k : ∀ e s', F e s' → F' e s') : Goes2 M A F' gs s := by
  cases gs with
  | fresh c => exact Stretch.imp h k
  | suspended => exact Stretch.imp h k
  | running => exact h
  | finished => exact h

/-- a generator object, no delegator asleep over it -/
def GenAt2 (h : Heap) (a : Addr) (g : Nat) (o : Obj) : Prop := h.get? a = some o ∧ o.cls = .type "generator" ∧ (∃ nm qn, o.data = .fields #[.int g 0, nm, qn]) ∧ ∀ n t, o.slots[0]? = some (some (Value.int n t)) → n ≤ 0
section
variable {prog : Program} {w : World} {A : Around} {s : Shared} {a : Addr} {g : Nat} {o : Obj}
theorem genNumber2 {M : Model} {E : Value → Shared → Prop} {Q : Nat → Shared → Prop} (h : GenAt2 s.heap a g o) (q : Q g s) : wpAny M A (Builtin.Generator.genNumber (.ref a)) Q E s := by
  obtain ⟨ho, _, ⟨nm, qn, hd⟩, hn⟩ := h
  unfold Builtin.Generator.genNumber
  refine wpAny_bind (wpAny_load ho ?_)
  rw [hd]
  dsimp only
  have fin : wpAny M A (pure ((g : Int).toNat)) Q E s := by
    rw [Int.toNat_natCast]
    exact wpAny_pure q
  rcases hs : o.slots[0]? with _ | _ | v
  · exact fin
  · exact fin
  · cases v with
    | int n t =>
      have := hn n t hs
      dsimp only
      rw [if_neg (by omega)]
      exact fin
    | _ => exact fin
/-- next(): what the wake asks, what follows a yield, what follows the end -/
theorem wake2 {gs : GenState} {E : Value → Shared → Prop} {Q : PySem.Fin → Shared → Prop} (hh : A.handled = none) (hl : s.heap.NoLimit) (room : A.depth < recursionLimit) (ho : GenAt2 s.heap a g o) (hg : s.gens[g]? = some gs)
    (hgo : Goes2 (M2 prog w) A (fun e s' => e.quiet = true ∧ ((∃ x, e.result = .yielded x ∧ Q (.done (.ret x)) (s'.setGen g e.genState)) ∨ (e = .ret (.ok (.ret .none)) ∧ ∀ (b : Addr) (ob : Obj) (vs : Array Value) (h' : Heap), ob.cls = .type "StopIteration" → ob.data = .fields vs → vs[5]? = some Value.none →
      h'.get? b = some ob → (∀ c o, s'.heap.get? c = some o → h'.get? c = some o) → E (.ref b) { s'.setGen g .finished with heap := h' }))) gs (s.setGen g .running)) :
    wpAny (M2 prog w) A (Builtin.Generator.genWake (.ref a) (.send .none)) Q E s := by
  have hgs : gs.status = .fresh ∨ gs.status = .suspended := by cases gs <;> first | exact .inl rfl | exact .inr rfl | exact hgo.elim
  unfold Builtin.Generator.genWake
  refine wpAny_bind (wpAny_holding (genNumber2 ho (wpAny_bind (wpAny_genState hg ?_))))
  have go : ∀ {k : GenResult → Sem PySem.Fin}, (∀ v, k (.yielded v) = ret v) → k (.returned .none) = (do raiseNew (← newExc (.type "StopIteration") []); rule "generator.return-value"; throw (← newExc (.type "StopIteration") [.none])) → wpAny (M2 prog w) A (roomToWake >>= fun _ => resume g (.send .none) >>= k) Q E s := fun {k} h1 h2 => by
    refine wpAny_bind (wpAny_roomToWake hl room ?_)
    show wpAny _ A (.resume g (.send .none) [] _) _ _ s
    refine resume2 hg (hgo.imp fun e s' ⟨hq, hr⟩ => ⟨hq, ?_⟩)
    rcases hr with ⟨x, e1, q⟩ | ⟨rfl, q⟩
    · rw [e1]
      show wpAny _ A (k (.yielded x)) _ _ _
      rw [h1]
      exact wpAny_pure q
    · show wpAny _ A (k (.returned .none)) _ _ _
      rw [h2]
      refine wpAny_bind ?_
      simp only [newExc, newTuple]
      refine wpAny_bind (wpAny_newObj_type ?_ (by size_fits))
      refine wpAny_bind (m := firstArgMember _ _) (wpAny_of_eq (a := Value.none) (by first | rfl | (simp only [firstArgMember]; rfl)) ?_)
      refine wpAny_newObj_type ?_ (by size_fits)
      simp only [raiseNew]
      refine wpAny_bind (wpAny_bind (wpAny_handled ?_))
      rw [hh]
      refine wpAny_throw ?_
      refine q _ _ _ _ rfl rfl ?_ (Heap.get?_push_size _ rfl) fun c oc hc => Heap.get?_push_of_some _ (Heap.get?_push_of_some _ hc)
      kernel_rfl
  cases gs with
  | fresh c => exact go (fun _ => rfl) rfl
  | suspended k l c p fs cl => exact go (fun _ => rfl) rfl
  | running => exact hgo.elim
  | finished => exact hgo.elim
end
section
variable {prog : Program} {w : World} {A : Around} {s : Shared} {a : Addr} {g : Nat} {o : Obj}
theorem entry2 {T : String} {name : Str} {id : String} {b : Builtin} {self : Value} {rest : List Value} {E : Value → Shared → Prop} {Q : Value → Shared → Prop} (h : Slot T name id) (hy : id ≠ "proto.yield_from") (hT : s.TypeIs self T) (hb : entryFor table id = some b)
    (hc : wpAny (M2 prog w) A.in1 (b ⟨self :: rest, []⟩) (fun fin s' => ∃ v, fin = .done (.ret v) ∧ Q v s') E s) (ha : argsOk id ⟨self :: rest, []⟩) : wpAny (M2 prog w) A (call (.builtin id) (self :: rest)) Q E s := by
  refine wpAny_call (code2_builtin (yf_ne hy) (plainId_quiet h.plain _) hb (h.check _ _ _ _ _ _ _ _ hT ha ?_))
  rw [Around.under_plainId h.plain _]
  refine wpAny_mono hc (fun fin s' q => ?_) fun _ _ q => q
  obtain ⟨v, rfl, q⟩ := q
  exact q
theorem special2 {gs : GenState} {E : Value → Shared → Prop} {Q : Option Value → Shared → Prop} (hh : A.handled = none) (hl : s.heap.NoLimit) (room : A.depth < recursionLimit) (ho : GenAt2 s.heap a g o) (hg : s.gens[g]? = some gs)
    (hgo : Goes2 (M2 prog w) A.in1 (fun e s' => e.quiet = true ∧ ((∃ x, e.result = .yielded x ∧ Q (some x) (s'.setGen g e.genState)) ∨ (e = .ret (.ok (.ret .none)) ∧ ∀ (b : Addr) (ob : Obj) (vs : Array Value) (h' : Heap), ob.cls = .type "StopIteration" → ob.data = .fields vs → vs[5]? = some Value.none →
      h'.get? b = some ob → (∀ c o, s'.heap.get? c = some o → h'.get? c = some o) → E (.ref b) { s'.setGen g .finished with heap := h' }))) gs (s.setGen g .running)) :
    wpAny (M2 prog w) A (callSpecial? (.ref a) "__next__") Q E s := by
  have hT : s.TypeIs (.ref a) "generator" := ⟨o, ho.1, ho.2.1⟩
  refine wpAny_callSpecial?_slot (name := Str.ofString "__next__") hT slot_gen_next (entry2 slot_gen_next (by decide) hT entry_gen_next ?_ (args_gen_next _))
  show wpAny _ A.in1 (Builtin.Generator.genWake (.ref a) (.send .none)) _ _ s
  refine wake2 hh hl room ho hg (hgo.imp fun e s' ⟨hq, hr⟩ => ⟨hq, ?_⟩)
  rcases hr with ⟨x, e1, q⟩ | ⟨e1, q⟩
  · exact .inl ⟨x, e1, x, rfl, q⟩
  · exact .inr ⟨e1, q⟩
theorem next2 {gs : GenState} {E : Value → Shared → Prop} {Q : Option Value → Shared → Prop} (hh : A.handled = none) (hl : s.heap.NoLimit) (room : A.depth < recursionLimit) (ho : GenAt2 s.heap a g o) (hg : s.gens[g]? = some gs)
    (hgo : Goes2 (M2 prog w) A.in1 (fun e s' => e.quiet = true ∧ ((∃ x, e.result = .yielded x ∧ Q (some x) (s'.setGen g e.genState)) ∨ (e = .ret (.ok (.ret .none)) ∧ ∀ (h' : Heap), (∀ c o, s'.heap.get? c = some o → h'.get? c = some o) → Q none { s'.setGen g .finished with heap := h' }))) gs (s.setGen g .running)) :
    wpAny (M2 prog w) A (pyNext (.ref a)) Q E s := by
  unfold pyNext
  refine wpAny_bind (wpAny_attempt (special2 hh hl room ho hg (hgo.imp fun e s' ⟨hq, hr⟩ => ⟨hq, ?_⟩)))
  rcases hr with ⟨x, e1, q⟩ | ⟨e1, q⟩
  · exact .inl ⟨x, e1, wpAny_pure q⟩
  · exact .inr ⟨e1, fun b ob vs h' c1 c2 c3 c4 c5 => wpAny_bind (wpAny_isInstance (T := "StopIteration") (b := true) ⟨_, c4, c1⟩ isSubtype_stop (wpAny_pure (q h' c5)))⟩
theorem iter2 {E : Value → Shared → Prop} {Q : Value → Shared → Prop} (ho : GenAt2 s.heap a g o) (q : Q (.ref a) s) : wpAny (M2 prog w) A (pyIter (.ref a)) Q E s := by
  have hT : s.TypeIs (.ref a) "generator" := ⟨o, ho.1, ho.2.1⟩
  refine wpAny_pyIter_slot hT slot_gen_iter (entry2 slot_gen_iter (by decide) hT entry_gen_iter ?_ (args_gen_iter _))
  show wpAny _ _ (ret (.ref a)) _ _ s
  exact wpAny_pure ⟨_, rfl, "generator", _, hT, slot_gen_next.lookup, q⟩
end
end CH
/-! text G2 -/
/-! Generators: the state at a wake, behind a stretch; a generator that is ready to hand out rows. -/
namespace CH
open PySem PySem.Spec PyProof.Rows L2 Evl
open Sem (wp)

/-! ### a heap below an address -/
def cut (h : Heap) (n : Addr) : Heap := { h with objs := h.objs.extract 0 n }
theorem cut_get {h : Heap} {n b : Addr} : (cut h n).get? b = if b < n then h.get? b else none := by
  have e : (h.objs.extract 0 n)[b]? = if b < n then h.objs[b]? else none := by
    rw [Array.getElem?_extract, Nat.zero_add]
    by_cases hb : b < n
    · rw [if_pos hb]
      by_cases h2 : b < h.objs.size
      · rw [if_pos (by rw [Nat.sub_zero]; exact Nat.lt_min.mpr ⟨hb, h2⟩)]
      · rw [if_neg (by rw [Nat.sub_zero]; exact fun z => h2 (Nat.lt_min.mp z).2), Array.getElem?_eq_none (Nat.le_of_not_lt h2)]
    · rw [if_neg hb, if_neg (by rw [Nat.sub_zero]; exact fun z => hb (Nat.lt_min.mp z).1)]
  unfold cut Heap.get?
  simp only [e]
  by_cases hb : b < n
  · simp only [if_pos hb]
  · simp only [if_neg hb]
theorem cut_some {h : Heap} {n b : Addr} {o : Obj} (e : (cut h n).get? b = some o) : b < n ∧ h.get? b = some o := by
  rw [cut_get] at e
  split at e
  · exact ⟨by assumption, e⟩
  · cases e
theorem cut_of {h : Heap} {n b : Addr} {o : Obj} (hb : b < n) (e : h.get? b = some o) : (cut h n).get? b = some o := by rw [cut_get, if_pos hb, e]
theorem cut_size {h : Heap} {n : Addr} : (cut h n).objs.size ≤ n := by
  show (h.objs.extract 0 n).size ≤ n
  rw [Array.size_extract, Nat.sub_zero]
  exact Nat.min_le_left _ _
def low (H : Hp) (n : Addr) : Hp := fun b => if b < n then H b else none
theorem low_lt {H : Hp} {n b : Addr} (h : b < n) : low H n b = H b := if_pos h
theorem low_some {H : Hp} {n b : Addr} {o : HO} (h : low H n b = some o) : b < n ∧ H b = some o := by
  unfold low at h
  split at h
  · exact ⟨by assumption, h⟩
  · cases h
/-- what may change while a generator sleeps: dicts of tuples, but the one at d -/
def Exn (d : Addr) (H H' : Hp) : Prop := ∀ a o, H a = some o → (∀ kvs, o = .dT kvs → a = d) → H' a = some o

/-- what is the same for all that runs -/
structure Gp where
  P : Program
  w : World
  K : PySem.W.Frag
  mg : Str → Option Value
  base : Heap
  os : OsState
  d : Addr
  good : Hp → Prop
/-- a generator's frame and its callers -/
structure Gf where
  env : Env
  outer : List Env
  N : List Str
  yf : Bool
abbrev Gf.n (F : Gf) : Addr := F.env.locals
structure Gf.Ok (G : Gp) (F : Gf) : Prop where
  mod : Mod G.K G.mg G.base
  kind : F.env.scope.kind = .function
  glob : F.env.globals = mainGlobals
  blt : F.env.builtins = builtinsNs
  frame : F.env.frame = some F.env.locals
  cells : F.env.cells = []
  names : ∀ x, F.env.kindOf x ≠ some .cell ∧ F.env.kindOf x ≠ some .free
  bsz : G.base.objs.size ≤ F.n
  frs : ∀ b ∈ frs F.outer, b < F.n
/-- the state at a wake: H what is tracked; lv: the generator's own objects as they lie; xp: what the waker wants kept; gl: the sleepers that the generator waits for -/
structure Wk (G : Gp) (F : Gf) (lv xp : List (Addr × Obj)) (gl : List (Nat × GenState)) (g : Nat) (H : Hp) (s : Shared) : Prop where
  os : s.os = G.os
  bare : AllBare s.gens
  ny : Ny s.gens
  hok : HOk G.P G.w H s.heap
  bs : ∀ b o, G.base.get? b = some o → s.heap.get? b = some o ∧ H b = none
  funs : s.heap.FunFrames G.base F.outer
  frf : ∀ b ∈ frs F.outer, H b = none
  pin : ∀ p ∈ lv ++ xp, s.heap.get? p.1 = some p.2 ∧ H p.1 = none ∧ p.1 ∉ frs F.outer ∧ ∀ v, p.2.data ≠ .cell v
  apart : ∀ p ∈ xp, p.1 ≠ F.n ∧ ∀ q ∈ lv, q.1 ≠ p.1
  gens : ∀ x ∈ gl, s.gens[x.1]? = some x.2
  sz : g < s.gens.size
/-- behind a stretch -/
structure Po (G : Gp) (F : Gf) (xp : List (Addr × Obj)) (H0 : Hp) (s0 : Shared) (H : Hp) (s : Shared) : Prop where
  os : s.os = s0.os
  bare : AllBare s.gens
  ny : Ny s.gens
  hok : HOk G.P G.w H s.heap
  un : Un (frs F.outer) [] (low H0 F.n) H (cut s0.heap F.n) s.heap
  ex : Exm G.d H0 H
  xp : ∀ p ∈ xp, s.heap.get? p.1 = some p.2 ∧ H p.1 = none
  sz : s0.gens.size ≤ s.gens.size
  good : G.good H
abbrev Row := List (Str × Str)
/-- a row of pairs of names, as it stands -/
def RowV (K : PySem.W.Frag) (H : Hp) (v : V) (r : Row) : Prop := ∃ t xs, v = .ref t ∧ SqT K H t xs ∧ Paired (fun (x : V) (p : Str × Str) => ∃ t', x = .ref t' ∧ SqT K H t' [.str p.1, .str p.2]) xs r
/-- how a stretch ends that has rows to hand out; Nx: what is said of the generator behind the yield -/
def Eo (G : Gp) (F : Gf) (xp : List (Addr × Obj)) (H0 : Hp) (s0 : Shared) (rows : List Row) (Nx : List Row → GenState → List (Addr × Obj) → List (Nat × GenState) → Hp → Prop) (e : End) (s : Shared) : Prop :=
  ∃ H, Po G F xp H0 s0 H s ∧ match rows with
    | [] => e = .ret (.ok (.ret .none))
    | r :: rs => ∃ v x l k c p fs lv gl, e = .susp x false l k c p fs ∧ (F.yf = false → yf? c = none) ∧ fs.any Frame.guarded = false ∧ RelV v x ∧ RowV G.K H v r ∧ (∀ p ∈ lv, s.heap.get? p.1 = some p.2 ∧ H p.1 = none) ∧ (∀ p ∈ xp, p.1 ≠ F.n ∧ ∀ q ∈ lv, q.1 ≠ p.1) ∧ (∀ x ∈ gl, s.gens[x.1]? = some x.2) ∧
        Nx rs (.suspended k l c p fs false) lv gl H
/-- ready to hand out the rows: k: the room that a stretch wants -/
def Rdy (G : Gp) (F : Gf) (k g : Nat) : List Row → GenState → List (Addr × Obj) → List (Nat × GenState) → Hp → Prop
  | [], gs, lv, gl, Hs => G.good Hs ∧ (∃ oF, (F.n, oF) ∈ lv) ∧ (∀ p ∈ lv, F.n ≤ p.1 ∧ p.1 ∉ frs F.outer ∧ ∀ v, p.2.data ≠ .cell v) ∧ (∀ x ∈ gl, g < x.1 ∧ isS x.2 = true) ∧ ∀ A s H xp, Room k A → A.frames = some F.outer → Exn G.d Hs H → Wk G F lv xp gl g H s →
      Goes2 (M2 G.P G.w) A (Eo G F xp H s [] fun _ _ _ _ _ => False) gs s
  | r :: rs, gs, lv, gl, Hs => G.good Hs ∧ (∃ oF, (F.n, oF) ∈ lv) ∧ (∀ p ∈ lv, F.n ≤ p.1 ∧ p.1 ∉ frs F.outer ∧ ∀ v, p.2.data ≠ .cell v) ∧ (∀ x ∈ gl, g < x.1 ∧ isS x.2 = true) ∧ ∀ A s H xp, Room k A → A.frames = some F.outer → Exn G.d Hs H → Wk G F lv xp gl g H s →
      Goes2 (M2 G.P G.w) A (Eo G F xp H s (r :: rs) fun rs' gs' lv' gl' H' => rs' = rs ∧ Rdy G F k g rs gs' lv' gl' H') gs s
section
variable {G : Gp} {F : Gf} {k g : Nat} {rows : List Row} {gs : GenState} {lv xp : List (Addr × Obj)} {gl : List (Nat × GenState)} {Hs : Hp}
theorem rdy_iff : Rdy G F k g rows gs lv gl Hs ↔ (G.good Hs ∧ (∃ oF, (F.n, oF) ∈ lv) ∧ (∀ p ∈ lv, F.n ≤ p.1 ∧ p.1 ∉ frs F.outer ∧ ∀ v, p.2.data ≠ .cell v) ∧ (∀ x ∈ gl, g < x.1 ∧ isS x.2 = true) ∧ ∀ A s H xp, Room k A → A.frames = some F.outer → Exn G.d Hs H → Wk G F lv xp gl g H s →
    Goes2 (M2 G.P G.w) A (Eo G F xp H s rows (Rdy G F k g)) gs s) := by
  cases rows with
  | nil =>
    unfold Rdy
    refine ⟨fun ⟨a, a', b, c, h⟩ => ⟨a, a', b, c, fun A s H xp h1 h2 h3 h4 => (h A s H xp h1 h2 h3 h4).imp fun e s' q => q⟩, fun ⟨a, a', b, c, h⟩ => ⟨a, a', b, c, fun A s H xp h1 h2 h3 h4 => (h A s H xp h1 h2 h3 h4).imp fun e s' q => q⟩⟩
  | cons r rs =>
    rw [Rdy]
    refine ⟨fun ⟨a, a', b, c, h⟩ => ⟨a, a', b, c, fun A s H xp h1 h2 h3 h4 => (h A s H xp h1 h2 h3 h4).imp fun e s' ⟨H', po, v, x, l, k', c', p, fs, lv', gl', q1, q0, q2, q3, q4, q5, q6, q7, _, q8⟩ => ⟨H', po, v, x, l, k', c', p, fs, lv', gl', q1, q0, q2, q3, q4, q5, q6, q7, q8⟩⟩,
      fun ⟨a, a', b, c, h⟩ => ⟨a, a', b, c, fun A s H xp h1 h2 h3 h4 => (h A s H xp h1 h2 h3 h4).imp fun e s' ⟨H', po, v, x, l, k', c', p, fs, lv', gl', q1, q0, q2, q3, q4, q5, q6, q7, q8⟩ => ⟨H', po, v, x, l, k', c', p, fs, lv', gl', q1, q0, q2, q3, q4, q5, q6, q7, rfl, q8⟩⟩⟩
end

/-! ### the context of a stretch -/
def gcx (G : Gp) (F : Gf) (A : Around) (H : Hp) (s : Shared) : Cx where
  prog := G.P
  w := G.w
  K := G.K
  mg := G.mg
  base := G.base
  A := A
  N := F.N
  s_0 := { s with heap := cut s.heap F.n }
  H_0 := low H F.n
  env := F.env
  outer := F.outer
  stack := F.env :: F.outer
  ex := []
  fn := fun _ => true
  calm := true
  pn := []
  xe := NoE
/-- the frame's object holds the names -/
def Fr0 (F : Gf) (σ : L2.St) (o : Obj) : Prop := ∃ (m : Str → Option Value) (es : Array DictEntry) (ep : Nat), o.data = .dict es ep ∧ StrKeys es ∧ (∀ x, nsFind es x = m x) ∧ ∀ (i : Nat) (x : Str) (v : V), F.N[i]? = some x → σ[i]? = some (some v) → Vis F.env.scope x → ∃ u, RelV v u ∧ F.env.kindOf x = some .local ∧ m x = some u
section
variable {G : Gp} {F : Gf} {A : Around} {H : Hp} {s : Shared} {lv xp pins : List (Addr × Obj)} {gl : List (Nat × GenState)} {g : Nat} {σ : L2.St} {oF : Obj}
theorem funs_cut {h base : Heap} {n : Addr} : ∀ {l : List Env}, h.FunFrames base l → (∀ b ∈ frs l, b < n) → (cut h n).FunFrames base l
  | [], _, _ => trivial
  | env :: rest, hl, hb => by
    obtain ⟨hk, ⟨L, o, hf, hn, ho, hd⟩, hr⟩ := hl
    refine ⟨hk, ⟨L, o, hf, hn, cut_of (hb L ?_) ho, hd⟩, funs_cut hr fun b hb' => hb b ?_⟩
    · unfold frs; rw [List.filterMap_cons, hf]; exact List.mem_cons_self
    · unfold frs; rw [List.filterMap_cons, hf]; exact List.mem_cons_of_mem _ hb'
theorem wake_inv (ok : F.Ok G) (W : Wk G F lv xp gl g H s) (hA : A.frames = some (F.env :: F.outer)) (hh : A.handled = none) (hF : s.heap.get? F.n = some oF) (hn : H F.n = none) (fr : Fr0 F σ oF) (hl : σ.length = F.N.length) (hp : ∀ p ∈ pins, p ∈ lv ++ xp ∧ p.1 ≠ F.n) :
    Inv (gcx G F A H s) pins σ H s where
  ok := {
    mod := ok.mod
    kind := ok.kind
    glob := ok.glob
    blt := ok.blt
    above := cut_size
    inj := fun x y c h => by rw [show (gcx G F A H s).env.cells = [] from ok.cells] at h; cases h
    has := fun x h => by rcases h with h | h; exact absurd h (ok.names x).1; exact absurd h (ok.names x).2
    cab := fun x c _ h => by rw [show (gcx G F A H s).env.cells = [] from ok.cells] at h; cases h
    hd := fun _ => hh
    frames := hA
    stk := .inr ⟨rfl, ok.frame⟩
    exf := fun b h => nomatch h
    bs := fun b o e => by
      have hb : b < F.n := Nat.lt_of_lt_of_le (Heap.lt_size e) ok.bsz
      obtain ⟨h1, h2⟩ := W.bs b o e
      exact ⟨cut_of hb h1, by show low H F.n b = none; rw [low_lt hb]; exact h2⟩
    bsz := by
      show G.base.objs.size ≤ (s.heap.objs.extract 0 F.n).size
      rw [Array.size_extract, Nat.sub_zero]
      exact Nat.le_min.mpr ⟨ok.bsz, Nat.le_trans ok.bsz (Nat.le_of_lt (Heap.lt_size hF))⟩
    noex := fun _ _ _ h => nomatch h
    exfs := fun b h => nomatch h
    funs := funs_cut W.funs ok.frs
    frf := fun b hb => by show low H F.n b = none; rw [low_lt (ok.frs b hb)]; exact W.frf b hb }
  os := rfl
  bare := W.bare
  base := ⟨fun b o e _ _ _ => (cut_some e).2, fun b o e _ _ _ => ⟨o.slots, (cut_some e).2⟩, fun b o e n _ => by rw [← low_lt (H := H) (cut_some e).1]; exact n, fun b o e _ => ⟨o, (cut_some e).2⟩, fun b xs e => (low_some e).2, fun b o u e => (low_some e).2,
    fun b ps e => ⟨#[], by rw [(low_some e).2]; simp⟩⟩
  loc := by
    obtain ⟨m, es, ep, h1, h2, h3, h4⟩ := fr
    exact ⟨m, ⟨oF, es, ep, hF, h1, h2, h3⟩, fun i x v e1 e2 e3 => by obtain ⟨u, r, k, q⟩ := h4 i x v e1 e2 e3; exact ⟨u, r, .inl ⟨k, q⟩⟩⟩
  cell := fun x c h => by rw [show (gcx G F A H s).env.cells = [] from ok.cells] at h; cases h
  free := hn
  freeC := fun x c h => by rw [show (gcx G F A H s).env.cells = [] from ok.cells] at h; cases h
  pin := fun p h => by
    obtain ⟨h1, h2⟩ := hp p h
    obtain ⟨e, n, nf, dc⟩ := W.pin p h1
    exact ⟨e, n, h2, nf, dc⟩
  hok := W.hok
  len := hl
/-- what is left behind by a stretch -/
theorem po_of {H0 : Hp} {s0 : Shared} (I : Inv (gcx G F A H0 s0) pins σ H s) (n : Ny s.gens) (he : Exm G.d H0 H) (hg : G.good H) (hz : s0.gens.size ≤ s.gens.size) (hx : ∀ p ∈ xp, p ∈ pins) : Po G F xp H0 s0 H s where
  os := I.os
  bare := I.bare
  ny := n
  hok := I.hok
  un := I.base
  ex := he
  xp := fun p h => by
    obtain ⟨e, n, _⟩ := I.pin p (List.mem_append_right _ (hx p h))
    exact ⟨e, n⟩
  sz := hz
  good := hg
end
end CH
/-! text G3 -/
/-! Generators: the one that wakes. -/
namespace CH
open PySem PySem.Spec PyProof.Rows L2 Evl
open Sem (wp)
theorem objOk_there {P : Program} {w : World} {H : Hp} {h : Heap} {a : Addr} {o : HO} (x : ObjOk P w H h a o) : ∃ ob, h.get? a = some ob := by
  cases o with
  | lst xs => obtain ⟨_, _, _, _, e⟩ := x; exact ⟨_, e⟩
  | tup xs => obtain ⟨_, _, _, ob, e, _⟩ := x; exact ⟨ob, e⟩
  | dK kvs => obtain ⟨_, _, _, _, ob, _, _, e, _⟩ := x; exact ⟨ob, e⟩
  | dT kvs => obtain ⟨_, _, _, _, ob, _, _, e, _⟩ := x; exact ⟨ob, e⟩
  | set S n => obtain ⟨ob, _, _, _, e, _⟩ := x; exact ⟨ob, e⟩
  | ins C dx fs => obtain ⟨_, _, _, e, _⟩ := x; exact ⟨_, e⟩
  | own y => exact x
  | xd fs => obtain ⟨_, ⟨ob, _, _, e, _⟩, _⟩ := x; exact ⟨ob, e⟩
  | rng lo hi => obtain ⟨_, _, _, e⟩ := x; exact ⟨_, e⟩
  | frz ob u => exact ⟨ob, x.1⟩
  | tbl ps => exact ⟨_, x⟩
  | met f y => exact ⟨_, x⟩
  | ext φ => exact x.2.1
/-- the memo stands below the frame, or is known to be there -/
def Dok (G : Gp) (F : Gf) : Prop := G.d < F.n ∨ ∀ H, G.good H → ∃ o, H G.d = some o
section
variable {G : Gp} {F : Gf} {X : Cx} {pins xp lv : List (Addr × Obj)} {gl : List (Nat × GenState)} {g : Nat} {σ : L2.St} {H0 H : Hp} {s0 s1 s : Shared}
theorem gen_after (ok : F.Ok G) (I : Inv X pins σ H0 s0) (e3 : X.stack = F.outer) (e1 : X.prog = G.P) (e2 : X.w = G.w) (hd : Dok G F) (hxp : ∀ p ∈ xp, s0.heap.get? p.1 = some p.2) (hL : X.env.locals < F.n ∨ ∃ p ∈ xp, p.1 = X.env.locals)
    (hC : ∀ x c, X.env.cells.lookup x = some c → c < F.n ∨ ∃ p ∈ xp, p.1 = c) (hP : ∀ p ∈ X.pn ++ pins, p.1 < F.n ∨ ∃ q ∈ xp, q.1 = p.1)
    (hE : ∀ b, F.n ≤ b → b < s0.heap.objs.size → H0 b = none → (∀ p ∈ xp, p.1 ≠ b) → b ∈ X.ex ∨ X.s_0.heap.objs.size ≤ b) (h1 : s1.heap = s0.heap) (h2 : s1.os = s0.os) (po : Po G F xp H0 s1 H s) : Inv X pins σ H s := by
  have un := po.un
  rw [h1] at un
  have nin : ∀ b o, s0.heap.get? b = some o → H0 b = none → b ∉ (List.range s0.heap.objs.size).filter (fun b => decide (F.n ≤ b) && (H0 b).isNone && xp.all fun p => decide (p.1 ≠ b)) → b < F.n ∨ ∃ p ∈ xp, p.1 = b := fun b o e n hx => by
    by_cases hb : b < F.n
    · exact .inl hb
    · by_cases hp : ∃ p ∈ xp, p.1 = b
      · exact .inr hp
      · refine absurd (List.mem_filter.mpr ⟨List.mem_range.mpr (Heap.lt_size e), ?_⟩) hx
        simp only [Bool.and_eq_true, decide_eq_true_eq, Option.isNone_iff_eq_none, List.all_eq_true]
        exact ⟨⟨Nat.le_of_not_lt hb, n⟩, fun p hpp => fun e => hp ⟨p, hpp, e⟩⟩
  refine I.call' (ch := (List.range s0.heap.objs.size).filter fun b => decide (F.n ≤ b) && (H0 b).isNone && xp.all fun p => decide (p.1 ≠ b)) (po.os.trans h2) ⟨fun b o e n hb hx => ?_, fun b o e n hb hx => ?_, fun b o e n hx => ?_, fun b o e hx => ?_, fun b xs e => ?_, fun b o u e => ?_, fun b ps e => ⟨#[], ?_⟩⟩
    (by rw [e1, e2]; exact po.hok) po.bare fun b hb => ?_
  · rcases nin b o e n hx with hlt | ⟨p, hp, rfl⟩
    · exact un.keep b o (cut_of hlt e) (by rw [low_lt hlt]; exact n) (by rw [← e3]; exact hb) List.not_mem_nil
    · have := hxp p hp
      rw [e] at this
      rw [Option.some.inj this]
      exact (po.xp p hp).1
  · rw [e3] at hb
    have hlt := ok.frs b hb
    exact un.slot b o (cut_of hlt e) (by rw [low_lt hlt]; exact n) hb List.not_mem_nil
  · rcases nin b o e n hx with hlt | ⟨p, hp, rfl⟩
    · exact un.free b o (cut_of hlt e) (by rw [low_lt hlt]; exact n) List.not_mem_nil
    · exact (po.xp p hp).2
  · by_cases hlt : b < F.n
    · exact un.there b o (cut_of hlt e) List.not_mem_nil
    · cases hb : H0 b with
      | none =>
        rcases nin b o e hb hx with h | ⟨p, hp, rfl⟩
        · exact absurd h hlt
        · exact ⟨_, (po.xp p hp).1⟩
      | some u =>
        by_cases z : b = G.d
        · rcases hd with hd | hd
          · exact absurd (by rw [z]; exact hd) hlt
          · obtain ⟨o, ho⟩ := hd H po.good
            rw [← z] at ho
            exact objOk_there (po.hok b o ho)
        · exact objOk_there (po.hok b u (po.ex b u hb fun y => absurd y z))
  · exact po.ex b _ e fun _ kvs z => by cases z
  · exact po.ex b _ e fun _ kvs z => by cases z
  · rw [po.ex b _ e fun _ kvs z => by cases z]
    simp
  · obtain ⟨h3, h4⟩ := List.mem_filter.mp hb
    simp only [Bool.and_eq_true, decide_eq_true_eq, Option.isNone_iff_eq_none, List.all_eq_true] at h4
    obtain ⟨⟨h5, h6⟩, h7⟩ := h4
    have out : ∀ c, (c < F.n ∨ ∃ p ∈ xp, p.1 = c) → c ≠ b := fun c hc z => by
      subst z
      rcases hc with hc | ⟨p, hp, e⟩
      · exact absurd (Nat.lt_of_lt_of_le hc h5) (Nat.lt_irrefl _)
      · exact h7 p hp e
    exact ⟨hE b h5 (List.mem_range.mp h3) h6 h7, fun z => out _ hL z.symm, fun x c e => out c (hC x c e), fun p hp => out _ (hP p hp)⟩
theorem set_other {s : Shared} {g i : Nat} {x y : GenState} (h : i ≠ g) (e : s.gens[i]? = some y) : (s.setGen g x).gens[i]? = some y := by
  show (s.gens.setIfInBounds g x)[i]? = some y
  rw [Array.getElem?_setIfInBounds_ne (Ne.symm h)]
  exact e
theorem set_self {s : Shared} {g : Nat} {x : GenState} (h : g < s.gens.size) : (s.setGen g x).gens[g]? = some x := by
  show (s.gens.setIfInBounds g x)[g]? = some x
  simp [h]
/-- unmarked but for g -/
def Nyx (g : Nat) (G : Array GenState) : Prop := ∀ (i : Nat) k l c p fs cl, i ≠ g → G[i]? = some (.suspended k l c p fs cl) → (yf? c).isSome = true → l = []
theorem Ny.x {G : Array GenState} (n : Ny G) (g : Nat) : Nyx g G := fun i k l c p fs cl _ e h => n i k l c p fs cl e h
theorem nyx_set {s : Shared} {g : Nat} {x : GenState} (n : Nyx g s.gens) (hx : ∀ k l c p fs cl, x = .suspended k l c p fs cl → (yf? c).isSome = true → l = []) : Ny (s.setGen g x).gens := fun i k l c p fs cl e h => by
  by_cases hi : i = g
  · subst hi
    have e : (s.gens.setIfInBounds i x)[i]? = some (.suspended k l c p fs cl) := e
    rw [Array.getElem?_setIfInBounds] at e
    simp only [if_true] at e
    split at e
    · exact hx _ _ _ _ _ _ (Option.some.inj e) h
    · cases e
  · have e : (s.gens.setIfInBounds g x)[i]? = some (.suspended k l c p fs cl) := e
    rw [Array.getElem?_setIfInBounds_ne (Ne.symm hi)] at e
    exact n i k l c p fs cl hi e h
theorem bare_set {s : Shared} {g : Nat} {x : GenState} (h : AllBare s.gens) (hx : x.bare = true) : AllBare (s.setGen g x).gens := fun y hy => by
  obtain ⟨i, hi, rfl⟩ := Array.mem_iff_getElem.mp hy
  have e : (s.gens.setIfInBounds g x)[i]? = some ((s.setGen g x).gens[i]) := Array.getElem?_eq_getElem hi
  by_cases hg : i = g
  · subst hg
    rw [Array.getElem?_setIfInBounds] at e
    simp only [if_true] at e
    split at e
    · rw [← Option.some.inj e]; exact hx
    · cases e
  · rw [Array.getElem?_setIfInBounds_ne (Ne.symm hg)] at e
    exact h _ (mem_of_at e)
theorem wk_of (ok : F.Ok G) (I : Inv X pins σ H s) (e3 : X.stack = F.outer) (e1 : X.prog = G.P) (e2 : X.w = G.w) (e4 : X.base = G.base) (e5 : X.s_0.os = G.os) (n : Nyx g s.gens)
    (hp : ∀ p ∈ lv ++ xp, s.heap.get? p.1 = some p.2 ∧ H p.1 = none ∧ p.1 ∉ frs F.outer ∧ ∀ v, p.2.data ≠ .cell v) (ha : ∀ p ∈ xp, p.1 ≠ F.n ∧ ∀ q ∈ lv, q.1 ≠ p.1) (hg : ∀ x ∈ gl, x.1 ≠ g ∧ s.gens[x.1]? = some x.2) (hz : g < s.gens.size) :
    Wk G F lv xp gl g H (s.setGen g .running) where
  os := I.os.trans e5
  bare := bare_set I.bare rfl
  ny := nyx_set n fun _ _ _ _ _ _ z => by cases z
  hok := by rw [← e1, ← e2]; exact I.hok
  bs := fun b o e => I.bs b o (by rw [e4]; exact e)
  funs := by rw [← e3, ← e4]; exact I.stack
  frf := fun b hb => I.stkFree b (by rw [e3]; exact hb)
  pin := hp
  apart := ha
  gens := fun x hx => set_other (hg x hx).1 (hg x hx).2
  sz := by rw [GenW.setGen_size]; exact hz
end
end CH
/-! text G4 -/
namespace CH
open PySem PySem.Spec PyProof.Rows L2 Evl
open Sem (wp)
/-- where a generator's waker stands to it -/
structure Wr (G : Gp) (F : Gf) (X : Cx) (pins xp : List (Addr × Obj)) (s : Shared) (H : Hp) : Prop where
  ok : F.Ok G
  stk : X.stack = F.outer
  prog : X.prog = G.P
  w : X.w = G.w
  base : X.base = G.base
  os : X.s_0.os = G.os
  d : Dok G F
  loc : X.env.locals < F.n ∨ ∃ p ∈ xp, p.1 = X.env.locals
  cells : ∀ x c, X.env.cells.lookup x = some c → c < F.n ∨ ∃ p ∈ xp, p.1 = c
  pins : ∀ p ∈ X.pn ++ pins, p.1 < F.n ∨ ∃ q ∈ xp, q.1 = p.1
  ex : ∀ b, F.n ≤ b → b < s.heap.objs.size → H b = none → (∀ p ∈ xp, p.1 ≠ b) → b ∈ X.ex ∨ X.s_0.heap.objs.size ≤ b
/-- a generator that sleeps (or has not begun), as its waker has it -/
structure Wt (G : Gp) (F : Gf) (k g : Nat) (rows : List Row) (gs : GenState) (lv xp : List (Addr × Obj)) (gl : List (Nat × GenState)) (H : Hp) (s : Shared) : Prop where
  rdy : ∃ Hs, Rdy G F k g rows gs lv gl Hs ∧ Exn G.d Hs H
  ent : s.gens[g]? = some gs
  nyx : Nyx g s.gens
  pin : ∀ p ∈ lv ++ xp, s.heap.get? p.1 = some p.2 ∧ H p.1 = none ∧ p.1 ∉ frs F.outer ∧ ∀ v, p.2.data ≠ .cell v
  apart : ∀ p ∈ xp, p.1 ≠ F.n ∧ ∀ q ∈ lv, q.1 ≠ p.1
  gens : ∀ x ∈ gl, s.gens[x.1]? = some x.2
section
variable {G : Gp} {F : Gf} {X : Cx} {pins xp lv : List (Addr × Obj)} {gl : List (Nat × GenState)} {k g : Nat} {σ : L2.St} {H : Hp} {s : Shared} {rows : List Row} {gs : GenState} {A : Around}
theorem size_of {G : Array GenState} {i : Nat} {x : GenState} (h : G[i]? = some x) : i < G.size := (Array.getElem?_eq_some_iff.mp h).1
theorem inv_gens {g : Nat} {x : GenState} (I : Inv X pins σ H s) (hx : x.bare = true) : Inv X pins σ H (s.setGen g x) := inv_state I rfl rfl (bare_set I.bare hx)
theorem ny_of_set {s : Shared} {g : Nat} {x : GenState} (n : Ny s.gens) : Nyx g (s.setGen g x).gens := fun i k l c p fs cl hi e h => by
  have e : (s.gens.setIfInBounds g x)[i]? = some (.suspended k l c p fs cl) := e
  rw [Array.getElem?_setIfInBounds_ne (Ne.symm hi)] at e
  exact n i k l c p fs cl e h
/-- the waker behind a yield, behind the end -/
def NxY (G : Gp) (F : Gf) (X : Cx) (pins xp : List (Addr × Obj)) (σ : L2.St) (k g : Nat) (rows : List Row) (H : Hp) (s : Shared) (x : Value) (s' : Shared) : Prop :=
  ∃ r rs v gs' lv' gl' H', rows = r :: rs ∧ Inv X pins σ H' s' ∧ Exm G.d H H' ∧ RelV v x ∧ RowV G.K H' v r ∧ G.good H' ∧ s.gens.size ≤ s'.gens.size ∧ Wt G F k g rs gs' lv' xp gl' H' s' ∧ isS gs' = true ∧ (F.yf = false → Ny s'.gens)
def NxD (G : Gp) (F : Gf) (X : Cx) (pins xp : List (Addr × Obj)) (σ : L2.St) (g : Nat) (rows : List Row) (H : Hp) (s s' : Shared) : Prop :=
  ∃ H', rows = [] ∧ Inv X pins σ H' s' ∧ Exm G.d H H' ∧ G.good H' ∧ (∀ p ∈ xp, s'.heap.get? p.1 = some p.2 ∧ H' p.1 = none) ∧ Ny s'.gens ∧ s.gens.size ≤ s'.gens.size ∧ g < s'.gens.size
/-- THE WAKE: the waker's own things behind a stretch -/
theorem nxt (R : Wr G F X pins xp s H) (W : Wt G F k g rows gs lv xp gl H s) (I : Inv X pins σ H s) (hr : Room k A) (hA : A.frames = some F.outer) :
    Goes2 (M2 G.P G.w) A (fun e s' => e.quiet = true ∧ ((∃ x, e.result = .yielded x ∧ NxY G F X pins xp σ k g rows H s x (s'.setGen g e.genState)) ∨ (e = .ret (.ok (.ret .none)) ∧ NxD G F X pins xp σ g rows H s s'))) gs (s.setGen g .running) := by
  obtain ⟨Hs, rdy, hex⟩ := W.rdy
  obtain ⟨_, _, hlv, hgl, go⟩ := rdy_iff.mp rdy
  have wk : Wk G F lv xp gl g H (s.setGen g .running) := wk_of R.ok I R.stk R.prog R.w R.base R.os W.nyx W.pin W.apart (fun x hx => ⟨Nat.ne_of_gt (hgl x hx).1, W.gens x hx⟩) (size_of W.ent)
  refine (go A (s.setGen g .running) H xp hr hA hex wk).imp fun e s1 ⟨H1, po, q⟩ => ?_
  have I1 : Inv X pins σ H1 s1 := gen_after (s1 := s.setGen g .running) R.ok I R.stk R.prog R.w R.d (fun p hp => (W.pin p (List.mem_append_right _ hp)).1) R.loc R.cells R.pins R.ex rfl rfl po
  have hsz : s.gens.size ≤ s1.gens.size := by have := po.sz; rw [GenW.setGen_size] at this; exact this
  have hg1 : g < s1.gens.size := Nat.lt_of_lt_of_le (size_of W.ent) hsz
  cases rows with
  | nil => exact ⟨by rw [q]; rfl, .inr ⟨q, H1, rfl, I1, po.ex, po.good, po.xp, po.ny, hsz, hg1⟩⟩
  | cons r rs =>
    obtain ⟨v, x, l, k', c, p, fs, lv', gl', rfl, hyf, hfs, rx, rv, hp, ha, hgg, rd⟩ := q
    have hq : (End.susp x false l k' c p fs).quiet = true := by
      show (!(false || fs.any Frame.guarded)) = true
      rw [hfs]; rfl
    have hgst : (End.susp x false l k' c p fs).genState = .suspended k' l c p fs false := by
      show GenState.suspended k' l c p fs (false || fs.any Frame.guarded) = _
      rw [hfs]; rfl
    obtain ⟨gd, _, hlv', hgl', _⟩ := rdy_iff.mp rd
    refine ⟨hq, .inl ⟨x, rfl, ?_⟩⟩
    rw [hgst]
    refine ⟨r, rs, v, .suspended k' l c p fs false, lv', gl', H1, rfl, inv_gens I1 rfl, po.ex, rx, rv, po.good, by rw [GenW.setGen_size]; exact hsz, ?_, rfl, fun hf => nyx_set (po.ny.x g) fun _ _ _ _ _ _ z hc => by
      cases z
      rw [hyf hf] at hc
      cases hc⟩
    refine ⟨⟨H1, rd, fun a o e _ => e⟩, set_self hg1, ny_of_set po.ny, fun p' hp' => ?_, ha, fun y hy => set_other (Nat.ne_of_gt (hgl' y hy).1) (hgg y hy)⟩
    rcases List.mem_append.mp hp' with h | h
    · exact ⟨(hp p' h).1, (hp p' h).2, (hlv' p' h).2⟩
    · exact ⟨(po.xp p' h).1, (po.xp p' h).2, (W.pin p' (List.mem_append_right _ h)).2.2⟩
/-- while the waker runs its own code -/
theorem Wt.stay {s' : Shared} {H' : Hp} {pins' : List (Addr × Obj)} {σ' : L2.St} {X' : Cx} {z : Shared} (W : Wt G F k g rows gs lv xp gl H s) (hs : isS gs = true) (a : Aft s z s') (hz : AllBare z.gens) (he : Exn G.d H H') (hxp : ∀ p ∈ xp, s'.heap.get? p.1 = some p.2 ∧ H' p.1 = none) (hlv : ∀ p ∈ lv, s'.heap.get? p.1 = some p.2 ∧ H' p.1 = none) :
    Wt G F k g rows gs lv xp gl H' s' := by
  obtain ⟨Hs, rdy, hex⟩ := W.rdy
  have hgl := (rdy_iff.mp rdy).2.2.2.1
  refine ⟨⟨Hs, rdy, fun b o e h => he b o (hex b o e h) h⟩, a.old g gs W.ent hs, fun i k l c p fs cl hi e hc => (a.mark hz i k l c p fs cl e hc).elim id fun h => W.nyx i k l c p fs cl hi h hc, fun p hp => ?_, W.apart, fun x hx => a.old x.1 x.2 (W.gens x hx) (hgl x hx).2⟩
  have h2 := (W.pin p hp).2.2
  rcases List.mem_append.mp hp with h | h
  · exact ⟨(hlv p h).1, (hlv p h).2, h2⟩
  · exact ⟨(hxp p h).1, (hxp p h).2, h2⟩
end
end CH
/-! text G5 -/
/-! «yield from» over a generator. -/
namespace CH
open PySem PySem.Spec PyProof.Rows L2 Evl
open Sem (wp)

theorem runs_soft {M : Model} {α : Type} {Γ : PySem.Ctx} {fs : List Frame} {F : End → Shared → Prop} (it : Value) (K : α → Sem PySem.Fin) (m : Sem α) :
    ∀ {Q : α → Pos → Shared → Prop} {E : Value → Pos → Shared → Prop} {p : Pos} {s : Shared}, wp M (Γ.over fs) m Q E p s → (∀ a p' s', Q a p' s' → ∃ e s'', Runs M Γ p' (soft it (K a)) fs s' e s'' ∧ F e s'') →
      (∀ x p' s', E x p' s' → ∃ e s'', Runs M Γ p' (.raise x) fs s' e s'' ∧ F e s'') → ∃ e s'', Runs M Γ p (soft it (m.bind K)) fs s e s'' ∧ F e s'' := by
  induction m with
  | pure a => intro Q E p s h hQ _; exact hQ a p s h
  | raise x => intro Q E p s h _ hE; exact hE x p s h
  | unsupported | finish | register | yield | fork | await => intro Q E p s h; exact h.elim
  | rule _ k ih => intro Q E p s h hQ hE; obtain ⟨e, z, r, q⟩ := ih () h hQ hE; exact ⟨e, z, Runs.head' (fun _ _ x => .rule x) r, q⟩
  | «at» _ k ih => intro Q E p s h hQ hE; obtain ⟨e, z, r, q⟩ := ih () h hQ hE; exact ⟨e, z, Runs.head' (fun _ _ x => .at x) r, q⟩
  | load a _ k ih => intro Q E p s h hQ hE; obtain ⟨o, ho, h⟩ := h; obtain ⟨e, z, r, q⟩ := ih o h hQ hE; exact ⟨e, z, Runs.head' (fun _ _ x => .load ho x) r, q⟩
  | update a _ f k ih => intro Q E p s h hQ hE; obtain ⟨ho, h⟩ := h; obtain ⟨e, z, r, q⟩ := ih () h hQ hE; exact ⟨e, z, Runs.head' (fun _ _ x => .update ho x) r, q⟩
  | alloc o k ih => intro Q E p s h hQ hE; obtain ⟨e, z, r, q⟩ := ih _ h hQ hE; exact ⟨e, z, Runs.head' (fun _ _ x => .alloc x) r, q⟩
  | loadIfAlive a k ih => intro Q E p s h hQ hE; obtain ⟨e, z, r, q⟩ := ih _ h hQ hE; exact ⟨e, z, Runs.head' (fun _ _ x => .loadIfAlive x) r, q⟩
  | point _ k ih => intro Q E p s h hQ hE; obtain ⟨e, z, r, q⟩ := ih () h hQ hE; exact ⟨e, z, Runs.head' (fun _ _ x => .point x) r, q⟩
  | fresh k ih => intro Q E p s h hQ hE; obtain ⟨e, z, r, q⟩ := ih _ h hQ hE; exact ⟨e, z, Runs.head' (fun _ _ x => .fresh x) r, q⟩
  | ask k ih => intro Q E p s h hQ hE; obtain ⟨e, z, r, q⟩ := ih _ h hQ hE; exact ⟨e, z, Runs.head' (fun _ _ x => .ask x) r, q⟩
  | choose src n k ih => intro Q E p s h hQ hE; obtain ⟨hn, h⟩ := h; obtain ⟨e, z, r, q⟩ := ih _ h hQ hE; exact ⟨e, z, Runs.head' (fun _ _ x => .choose hn x) r, q⟩
  | os o _ k ih => intro Q E p s h hQ hE; obtain ⟨e, z, r, q⟩ := ih _ h hQ hE; exact ⟨e, z, Runs.head' (fun _ _ x => .os x) r, q⟩
  | call c hd _ _ k ih => intro Q E p s h hQ hE; obtain ⟨y, s1, hr, h⟩ := h; obtain ⟨e, z, r, q⟩ := ih y h hQ hE; exact ⟨e, z, Runs.head' (fun _ _ x => .call hr x) r, q⟩
  | handled own k ih => intro Q E p s h hQ hE; obtain ⟨e, z, r, q⟩ := ih _ h hQ hE; exact ⟨e, z, Runs.head' (fun _ _ x => .handled x) r, q⟩
  | newGen c k ih => intro Q E p s h hQ hE; obtain ⟨e, z, r, q⟩ := ih _ h hQ hE; exact ⟨e, z, Runs.head' (fun _ _ x => .newGen x) r, q⟩
  | genState g k ih => intro Q E p s h hQ hE; obtain ⟨st, hs, h⟩ := h; obtain ⟨e, z, r, q⟩ := ih _ h hQ hE; exact ⟨e, z, Runs.head' (fun _ _ x => .genState hs x) r, q⟩
  | resume g r _ k ih => intro Q E p s h hQ hE; obtain ⟨res, s1, hw, h⟩ := h; obtain ⟨e, z, y, q⟩ := ih res h hQ hE; exact ⟨e, z, Runs.head' (fun _ _ x => (Sem.runs_resume_iff M _).mpr ⟨res, s1, hw, x⟩) y, q⟩
  | stack k ih => intro Q E p s h hQ hE; obtain ⟨e, z, r, q⟩ := ih _ h hQ hE; exact ⟨e, z, Runs.head' (fun _ _ x => .stack x) r, q⟩
  | thread k ih => intro Q E p s h hQ hE; obtain ⟨e, z, r, q⟩ := ih _ h hQ hE; exact ⟨e, z, Runs.head' (fun _ _ x => .thread x) r, q⟩
section
variable {M : Model} {A : Around} {F : End → Shared → Prop} {c : Code} {fs : List Frame} {s : Shared}
theorem st_soft {α : Type} {it : Value} {m : Sem α} {K : α → Sem PySem.Fin} (h : wpAny M (A.over c fs) m (fun a s' => Stretch M A F c (soft it (K a)) fs s') NoE s) : Stretch M A F c (soft it (m >>= K)) fs s := by
  rintro Γ p rfl hΓ
  exact runs_soft it K m (h (Γ.over fs) p (hΓ.over fs)) (fun a p' s' k => k Γ p' rfl hΓ) fun x p' s' k => k.elim
theorem over_under {c c' : Code} {fs : List Frame} {k : Result → Sem PySem.Fin} {g : Bool} {l kp : List Value} {p : Pos} : A.over c' (.ret k none g l c p kp :: fs) = (A.over c fs).under c' := by
  have e1 : (Frame.ret k none g l c p kp :: fs).map Frame.where_ = (c, p) :: fs.map Frame.where_ := rfl
  unfold Around.over Around.under
  simp only [e1, frameCount_cons, envsOf_cons, guardsOf_cons, unitsOf_cons]
  have e2 : (marksOver (Frame.ret k none g l c p kp :: fs) (A.handled, A.handled)).1 = (marksOver fs (A.handled, A.handled)).1 := rfl
  rw [e2]
  congr 1
  · omega
  · simp only [pushEnvs_eq]; cases A.frames <;> simp [List.append_assoc]
  · simp only [pushGuards_eq]; cases A.guards <;> simp [List.append_assoc]
  · omega
end
section
variable {G : Gp} {F : Gf} {A : Around} {H0 H : Hp} {s0 s : Shared} {pins : List (Addr × Obj)} {σ : L2.St}
theorem frame_of (ok : F.Ok G) (I : Inv (gcx G F A H0 s0) pins σ H s) : ∃ oF, s.heap.get? F.n = some oF ∧ Fr0 F σ oF ∧ ∀ v, oF.data ≠ .cell v := by
  obtain ⟨m, ⟨o, es, ep, ho, hd, hk, hm⟩, hl⟩ := I.loc
  refine ⟨o, ho, ⟨m, es, ep, hd, hk, hm, fun i x v e1 e2 e3 => ?_⟩, fun v e => by rw [hd] at e; cases e⟩
  obtain ⟨u, r, l⟩ := hl i x v e1 e2 e3
  refine ⟨u, r, ?_⟩
  rcases l with l | ⟨k | k, _⟩
  · exact l
  · exact absurd k (ok.names x).1
  · exact absurd k (ok.names x).2
end
def yfc (a : Addr) : Code := .builtin "proto.yield_from" ⟨[.ref a, .bool false, .none], []⟩
theorem yf_yfc (a : Addr) : yf? (yfc a) = some (.ref a) := by
  show (if "proto.yield_from" = "proto.yield_from" then _ else none) = _
  rw [if_pos rfl]
  rfl
theorem M2_def {prog : Program} {w : World} {c : Code} : (M2 prog w).den c = sf c ((model prog w).den c) := rfl
theorem den_bi {prog : Program} {w : World} {id : String} {args : Args} {b : Builtin} (hb : entryFor table id = some b) : (model prog w).den (.builtin id args) = b args := by
  show (match entryFor table id with | some b => b args | none => unsupported ((withoutEnding? id "#data").getD id)) = _
  rw [hb]
theorem sf_some {c : Code} {it : Value} {t : Sem PySem.Fin} (h : yf? c = some it) : sf c t = soft it t := by unfold sf; rw [h]
theorem den_yfc {prog : Program} {w : World} {a : Addr} : (M2 prog w).den (yfc a) = soft (.ref a) (Builtin.«proto.yield_from» ⟨[.ref a, .bool false, .none], []⟩) := by
  rw [M2_def, sf_some (yf_yfc a)]
  unfold yfc
  rw [den_bi entry_yf]
theorem plain_yfc : plainId "proto.yield_from" = true := plain_yf
def slotOf (o : Obj) : Int := match (o.slots[0]? : Option (Option Value)) with
  | some (some (Value.int n _)) => n
  | _ => 0
def slotPut (n : Int) (o : Obj) : Obj := { o with slots := (o.slots ++ Array.replicate (0 + 1 - o.slots.size) none).setIfInBounds 0 (some (rawInt n)) }
theorem slotPut_live {o : Obj} {n : Int} (h : o.isFreed = false) : (slotPut n o).isFreed = false := by
  obtain ⟨a, b, c, d⟩ := o
  cases c <;> first | rfl | exact h
theorem slept2 {M : Model} {A : Around} {E : Value → Shared → Prop} {s : Shared} {a : Addr} {o : Obj} {b : Bool} {Q : Unit → Shared → Prop} (ho : s.heap.get? a = some o) (hc : o.cls = .type "generator")
    (q : Q () { s with heap := s.heap.update a (slotPut (if b = true then slotOf o + 1 else slotOf o - 1)) }) : wpAny M A (Builtin.Generator.sleptOver (.ref a) b) Q E s := by
  unfold Builtin.Generator.sleptOver
  refine wpAny_bind (wpAny_load ho ?_)
  rw [hc, if_neg (by decide)]
  show wpAny M A (setSlotAt a 0 _) Q E s
  unfold setSlotAt
  rw [if_neg (by decide)]
  exact wpAny_updatePart ho q
theorem lk_close : typeLookup (.type "generator") "close" = pure (some (.builtin "generator.close")) := by rw [typeLookup_type, builtinLookup_eq_fast]; kernel_rfl
/-- one turn of «yield from»: what the delegate hands out goes on -/
theorem yf_turn {prog : Program} {w : World} {A : Around} {Φ : End → Shared → Prop} {fs : List Frame} {s : Shared} {a : Addr} (hsp : splitAtGen fs = none)
    (h : wpAny (M2 prog w) (A.over (yfc a) fs) (callSpecial? (.ref a) "__next__") (fun r s1 => ∃ x o, r = some x ∧ s1.heap.get? a = some o ∧ o.cls = .type "generator" ∧ (slotPut (slotOf o + 1) o).genNumber?.isSome = true ∧
        ∀ p (kk : Resume → Sem PySem.Fin), (∀ (A' : Around) (Φ' : End → Shared → Prop) (s' : Shared) (o' : Obj), s'.heap.get? a = some o' → o'.cls = .type "generator" → Stretch (M2 prog w) A' Φ' (yfc a) ((M2 prog w).den (yfc a)) fs { s' with heap := s'.heap.update a (slotPut (slotOf o' - 1)) } → Stretch (M2 prog w) A' Φ' (yfc a) (kk (.send .none)) fs s') →
          Φ (.susp x false [mk] kk (yfc a) p fs) { s1 with heap := s1.heap.update a (slotPut (slotOf o + 1)) })
      (fun e s1 => ∃ b ob vs, e = .ref b ∧ s1.heap.get? b = some ob ∧ ob.cls = .type "StopIteration" ∧ ob.data = .fields vs ∧ vs[5]? = some Value.none ∧ Stretch (M2 prog w) A Φ (yfc a) (.pure (.done (.ret .none))) fs s1) s) :
    Stretch (M2 prog w) A Φ (yfc a) ((M2 prog w).den (yfc a)) fs s := by
  rw [den_yfc]
  unfold Builtin.«proto.yield_from»
  try dsimp only
  refine st_soft (wpAny_pure ?_)
  try dsimp only
  refine st_soft (wpAny_attempt (wpAny_holding ?_))
  rw [if_neg Bool.false_ne_true, if_pos (show (Value.none == Value.none) = true from rfl)]
  refine wpAny_bind (wpAny_rule (wpAny_bind (wpAny_mono h (fun r s1 q => ?_) fun e s1 q => ?_)))
  · obtain ⟨x, o, rfl, ho, hc, hn, q⟩ := q
    refine wpAny_pure ?_
    try dsimp only
    refine st_soft (wpAny_typeOf (T := "generator") ⟨o, ho, hc⟩ ?_)
    try dsimp only
    refine st_soft (wpAny_of_eq lk_close ?_)
    try dsimp only
    refine st_soft (wpAny_pure ?_)
    refine st_soft (slept2 ho hc ?_)
    rw [if_pos rfl]
    refine st_load (o := slotPut (slotOf o + 1) o) (Heap.get?_update_self _ ho ?_) ?_
    · exact slotPut_live (Heap.get?_some_iff.mp ho).2
    rw [if_pos hn]
    refine st_yield hsp fun p => q p _ fun A' Φ' s' o' ho' hc' k => ?_
    show Stretch _ _ _ _ (soft (.ref a) (Builtin.Generator.sleptOver (.ref a) false >>= fun _ => _)) _ _
    refine st_soft (slept2 ho' hc' ?_)
    rw [if_neg Bool.false_ne_true]
    refine st_soft (wpAny_pure ?_)
    refine st_again (plainId_quiet plain_yf _) ?_
    exact k
  · obtain ⟨b, ob, vs, rfl, h1, h2, h3, h4, q⟩ := q
    try dsimp only
    refine st_soft (wpAny_endsTurn h1 h2 ?_)
    try dsimp only
    rw [if_pos rfl, if_neg Bool.false_ne_true]
    refine st_soft (wpAny_rule ?_)
    refine st_soft (wpAny_field h1 h3 h4 ?_)
    exact q
end CH
/-! text G6 -/
namespace CH
open PySem PySem.Spec PyProof.Rows L2 Evl
open Sem (wp)
theorem exm_id {d : Addr} {H : Hp} : Exm d H H := (kpM d).refl H
/-- a generator object as its data tell, whatever its slots -/
def IsG (o : Obj) (g : Nat) : Prop := o.cls = .type "generator" ∧ ∃ nm qn, o.data = .fields #[.int g 0, nm, qn]
theorem isG_put {o : Obj} {g : Nat} {n : Int} (h : IsG o g) : IsG (slotPut n o) g := h
theorem isG_num {o : Obj} {g : Nat} (h : IsG o g) : o.genNumber?.isSome = true := by
  obtain ⟨hc, nm, qn, hd⟩ := h
  unfold Obj.genNumber?
  rw [hc, hd]
  rfl
theorem slot_put {o : Obj} {n : Int} : (slotPut n o).slots[0]? = some (some (rawInt n)) := by
  unfold slotPut
  simp only [Array.getElem?_setIfInBounds, if_true]
  rw [if_pos]
  simp
  omega
theorem slotOf_put {o : Obj} {n : Int} : slotOf (slotPut n o) = n := by
  unfold slotOf
  rw [slot_put]
  rfl
theorem slot_le {o : Obj} (h : slotOf o ≤ 0) : ∀ n t, o.slots[0]? = some (some (Value.int n t)) → n ≤ 0 := fun n t e => by
  unfold slotOf at h
  rw [e] at h
  exact h
theorem genAt_of {h : Heap} {a : Addr} {g : Nat} {o : Obj} (e : h.get? a = some o) (i : IsG o g) (l : slotOf o ≤ 0) : GenAt2 h a g o := ⟨e, i.1, i.2, slot_le l⟩
section
variable {G : Gp} {F0 F1 : Gf} {k0 k1 g0 g1 : Nat} {a1 : Addr} {fs : List Frame}
/-- «yield from» hands out what its delegate hands out -/
theorem yf_run (ok0 : F0.Ok G) (ok1 : F1.Ok G) (hy1 : F1.yf = false) (hy0 : F0.yf = true) (ho1 : F1.outer = F0.env :: F0.outer) (hn : F0.n < F1.n) (hd : G.d < F1.n) (hga : g0 < g1) (hna : F0.n < a1) (hna1 : F1.n < a1)
    (hsp : splitAtGen fs = none) (hfg : fs.any Frame.guarded = false) (hov : ∀ A : Around, A.over (yfc a1) fs = (A.deeper F0.env).in1) (hend : ∀ (A : Around) (Φ : End → Shared → Prop) (s : Shared), Φ (.ret (.ok (.ret .none))) s → Stretch (M2 G.P G.w) A Φ (yfc a1) (.pure (.done (.ret .none))) fs s)
    (hroom : ∀ A, Room k0 A → Room k1 (A.deeper F0.env).in1.in1) (hdep : ∀ A, Room k0 A → (A.deeper F0.env).depth < recursionLimit) :
    ∀ (rows : List Row) (A : Around) (H0 : Hp) (s0 : Shared) (xp0 : List (Addr × Obj)) (σ : L2.St) (H : Hp) (s : Shared) (gs : GenState) (lv1 : List (Addr × Obj)) (gl1 : List (Nat × GenState)) (o1 : Obj), Room k0 A → A.frames = some F0.outer → s0.os = G.os → g0 < s0.gens.size → s0.gens.size ≤ s.gens.size →
      Inv (gcx G F0 (A.deeper F0.env) H0 s0) xp0 σ H s → Ny s.gens → Exm G.d H0 H → (∀ p ∈ xp0, p.1 ≠ F0.n ∧ p.1 ≠ a1) → IsG o1 g1 → slotOf o1 ≤ 0 → Wt G F1 k1 g1 rows gs lv1 ((a1, o1) :: xp0) gl1 H s →
      Stretch (M2 G.P G.w) A (Eo G F0 xp0 H0 s0 rows (Rdy G F0 k0 g0)) (yfc a1) ((M2 G.P G.w).den (yfc a1)) fs s := by
  have mkR : ∀ {A : Around} {H0 H : Hp} {s0 s : Shared} {xp0 : List (Addr × Obj)} {o1 : Obj}, s0.os = G.os → Wr G F1 (gcx G F0 (A.deeper F0.env) H0 s0) xp0 ((a1, o1) :: xp0) s H := fun {A H0 H s0 s xp0 o1} hos => {
      ok := ok1
      stk := ho1.symm
      prog := rfl
      w := rfl
      base := rfl
      os := hos
      d := .inl hd
      loc := .inl hn
      cells := fun x c h => by rw [show (gcx G F0 (A.deeper F0.env) H0 s0).env.cells = [] from ok0.cells] at h; cases h
      pins := fun p hp => .inr ⟨p, List.mem_cons_of_mem _ hp, rfl⟩
      ex := fun b h1 h2 h3 h4 => .inr (Nat.le_trans cut_size (Nat.le_trans (Nat.le_of_lt hn) h1)) }
  have hAf : ∀ {A : Around}, A.frames = some F0.outer → (A.deeper F0.env).in1.in1.frames = some F1.outer := fun {A} hA => by
    rw [ho1]
    unfold Around.deeper
    show A.frames.map _ = _
    rw [hA]
    rfl
  have hAd : ∀ {A : Around}, A.frames = some F0.outer → (A.deeper F0.env).frames = some (F0.env :: F0.outer) := fun {A} hA => by
    unfold Around.deeper
    show A.frames.map _ = _
    rw [hA]
    rfl
  intro rows
  induction rows with
  | nil =>
    intro A H0 s0 xp0 σ H s gs lv1 gl1 o1 hr hA hos hg0 hsz I ny he hx io hs W
    have ha1 := W.pin (a1, o1) (List.mem_append_right _ List.mem_cons_self)
    refine yf_turn hsp ?_
    rw [hov]
    refine special2 hr.hd I.nolimit (hdep A hr) (genAt_of ha1.1 io hs) W.ent ((nxt (mkR hos) W I (hroom A hr) (hAf hA)).imp fun e s1 ⟨hq, hh⟩ => ⟨hq, ?_⟩)
    rcases hh with ⟨x, ex, r, rs, v, gs', lv', gl', H', e1, _⟩ | ⟨ex, H', _, I', he', gd, xk, ny', hsz', hg'⟩
    · cases e1
    · refine .inr ⟨ex, fun b ob vs h' c1 c2 c3 c4 c5 => ⟨b, ob, vs, rfl, c4, c1, c2, c3, hend A _ _ ⟨H', ?_, rfl⟩⟩⟩
      have I2 : Inv (gcx G F0 (A.deeper F0.env) H0 s0) xp0 σ H' { s1.setGen g1 .finished with heap := h' } := (inv_gens (x := .finished) (g := g1) I' rfl).kept (t' := s1.toks) c5
      exact po_of I2 (nyx_set (ny'.x g1) fun _ _ _ _ _ _ z => by cases z) ((kpM G.d).trans he he') gd (by rw [show ({ s1.setGen g1 .finished with heap := h' } : Shared).gens.size = s1.gens.size from GenW.setGen_size s1 g1 .finished]; omega) fun p hp => hp
  | cons r rs ih =>
    intro A H0 s0 xp0 σ H s gs lv1 gl1 o1 hr hA hos hg0 hsz I ny he hx io hs W
    have ha1 := W.pin (a1, o1) (List.mem_append_right _ List.mem_cons_self)
    refine yf_turn hsp ?_
    rw [hov]
    refine special2 hr.hd I.nolimit (hdep A hr) (genAt_of ha1.1 io hs) W.ent ((nxt (mkR hos) W I (hroom A hr) (hAf hA)).imp fun e s1 ⟨hq, hh⟩ => ⟨hq, ?_⟩)
    rcases hh with ⟨x, ex, r', rs', v, gs', lv', gl', H', e1, I', he', rx, rv, gd, sz, W', hS, hny⟩ | ⟨ex, H', e1, _⟩
    · cases e1
      refine .inl ⟨x, ex, x, o1, rfl, ?_⟩
      generalize s1.setGen g1 e.genState = s2 at I' W' sz hny
      have ha' := W'.pin (a1, o1) (List.mem_append_right _ List.mem_cons_self)
      refine ⟨ha'.1, io.1, isG_num (isG_put io), fun p kk hkk => ?_⟩
      have e3 : (s2.heap.update a1 (slotPut (slotOf o1 + 1))).get? a1 = some (slotPut (slotOf o1 + 1) o1) := Heap.get?_update_self _ ha'.1 (slotPut_live (Heap.get?_some_iff.mp ha'.1).2)
      have other : ∀ {h : Heap} {n : Int} (b : Addr) (ob : Obj), b ≠ a1 → h.get? b = some ob → (h.update a1 (slotPut n)).get? b = some ob := fun {h n} b ob hb e => (Heap.get?_update_other _ _ (Ne.symm hb)).trans e
      have I3 : Inv (gcx G F0 (A.deeper F0.env) H0 s0) xp0 σ H' { s2 with heap := s2.heap.update a1 (slotPut (slotOf o1 + 1)) } :=
        I'.turned (it := a1) (t' := s2.toks) (fun b o hb e => other b o hb e) ha'.2.1 (Nat.ne_of_gt hna) (.inr (Nat.le_trans cut_size (Nat.le_of_lt hna))) (fun x c h => by rw [show (gcx G F0 (A.deeper F0.env) H0 s0).env.cells = [] from ok0.cells] at h; cases h) fun p hp => (hx p hp).2
      have ny3 : Ny s2.gens := hny hy1
      obtain ⟨oF, f1, f2, f3⟩ := frame_of ok0 I3
      obtain ⟨Hs, rdy1, hex1⟩ := W'.rdy
      obtain ⟨gd1, ⟨oF1, hF1⟩, hlv1, hgl1, _⟩ := rdy_iff.mp rdy1
      have lvpin : ∀ p ∈ (F0.n, oF) :: (a1, slotPut (slotOf o1 + 1) o1) :: lv', (s2.heap.update a1 (slotPut (slotOf o1 + 1))).get? p.1 = some p.2 ∧ H' p.1 = none := fun p hp => by
        rcases List.mem_cons.mp hp with rfl | hp
        · exact ⟨f1, I3.free⟩
        · rcases List.mem_cons.mp hp with rfl | hp
          · exact ⟨e3, ha'.2.1⟩
          · have := W'.pin p (List.mem_append_left _ hp)
            exact ⟨other p.1 p.2 (fun z => (W'.apart (a1, o1) List.mem_cons_self).2 p hp z) this.1, this.2.1⟩
      have xap : ∀ p ∈ xp0, p.1 ≠ F0.n ∧ ∀ q ∈ (F0.n, oF) :: (a1, slotPut (slotOf o1 + 1) o1) :: lv', q.1 ≠ p.1 := fun p hp => by
        refine ⟨(hx p hp).1, fun q hq => ?_⟩
        rcases List.mem_cons.mp hq with rfl | hq
        · exact (hx p hp).1.symm
        · rcases List.mem_cons.mp hq with rfl | hq
          · exact (hx p hp).2.symm
          · exact (W'.apart p (List.mem_cons_of_mem _ hp)).2 q hq
      refine ⟨H', po_of I3 ny3 ((kpM G.d).trans he he') gd (Nat.le_trans hsz sz) fun p hp => hp, v, x, [mk], kk, yfc a1, p, fs, (F0.n, oF) :: (a1, slotPut (slotOf o1 + 1) o1) :: lv', (g1, gs') :: gl', rfl, (fun h => by rw [hy0] at h; cases h), hfg, rx, rv, lvpin, xap, ?_, ?_⟩
      · intro y hy
        rcases List.mem_cons.mp hy with rfl | hy
        · exact W'.ent
        · exact W'.gens y hy
      · refine rdy_iff.mpr ⟨gd, ⟨oF, List.mem_cons_self⟩, ?_, ?_, fun A' s' H'' xp' hr' hA' hex' wk' => ?_⟩
        · intro q hq
          rcases List.mem_cons.mp hq with rfl | hq
          · exact ⟨Nat.le_refl _, fun z => absurd (ok0.frs _ z) (Nat.lt_irrefl _), f3⟩
          · rcases List.mem_cons.mp hq with rfl | hq
            · exact ⟨Nat.le_of_lt hna, fun z => absurd (Nat.lt_trans (ok0.frs _ z) hna) (Nat.lt_irrefl _), ha'.2.2.2⟩
            · obtain ⟨h1, h2, h3⟩ := hlv1 q hq
              have h4 : F0.n ≤ q.1 := Nat.le_trans (Nat.le_of_lt hn) h1
              exact ⟨h4, fun z => absurd (Nat.lt_of_lt_of_le (ok0.frs _ z) h4) (Nat.lt_irrefl _), h3⟩
        · intro y hy
          rcases List.mem_cons.mp hy with rfl | hy
          · exact ⟨hga, hS⟩
          · exact ⟨Nat.lt_trans hga (hgl1 y hy).1, (hgl1 y hy).2⟩
        · -- woken again
          show Stretch _ _ _ _ (kk (.send .none)) fs s'
          have p0 := wk'.pin (F0.n, oF) (List.mem_append_left _ List.mem_cons_self)
          have p1 := wk'.pin (a1, slotPut (slotOf o1 + 1) o1) (List.mem_append_left _ (List.mem_cons_of_mem _ List.mem_cons_self))
          refine hkk A' _ s' _ p1.1 io.1 ?_
          rw [slotOf_put]
          have hb : slotOf o1 + 1 - 1 = slotOf o1 := by omega
          rw [hb]
          have e5 : (s'.heap.update a1 (slotPut (slotOf o1))).get? a1 = some (slotPut (slotOf o1) (slotPut (slotOf o1 + 1) o1)) := Heap.get?_update_self _ p1.1 (slotPut_live (Heap.get?_some_iff.mp p1.1).2)
          have I5 : Inv (gcx G F0 (A'.deeper F0.env) H'' s') xp' σ H'' s' := wake_inv ok0 wk' (hAd hA') hr'.hd p0.1 p0.2.1 f2 I3.len fun q hq => ⟨List.mem_append_right _ hq, (wk'.apart q hq).1⟩
          have I6 : Inv (gcx G F0 (A'.deeper F0.env) H'' s') xp' σ H'' { s' with heap := s'.heap.update a1 (slotPut (slotOf o1)) } :=
            I5.turned (it := a1) (t' := s'.toks) (fun b o hb e => other b o hb e) p1.2.1 (Nat.ne_of_gt hna) (.inr (Nat.le_trans cut_size (Nat.le_of_lt hna))) (fun x c h => by rw [show (gcx G F0 (A'.deeper F0.env) H'' s').env.cells = [] from ok0.cells] at h; cases h)
              fun q hq => ((wk'.apart q hq).2 (a1, slotPut (slotOf o1 + 1) o1) (List.mem_cons_of_mem _ List.mem_cons_self)).symm
          refine ih A' H'' s' xp' σ H'' _ gs' lv' gl' (slotPut (slotOf o1) (slotPut (slotOf o1 + 1) o1)) hr' hA' wk'.os wk'.sz (Nat.le_refl _) I6 wk'.ny exm_id (fun q hq => ⟨(wk'.apart q hq).1, ((wk'.apart q hq).2 (a1, slotPut (slotOf o1 + 1) o1) (List.mem_cons_of_mem _ List.mem_cons_self)).symm⟩) (isG_put (isG_put io))
            (by rw [slotOf_put]; exact hs) ⟨⟨Hs, rdy1, fun b ob e h => hex' b ob (hex1 b ob e h) h⟩, wk'.gens (g1, gs') List.mem_cons_self, wk'.ny.x g1, fun q hq => ?_, fun q hq => ?_, fun y hy => wk'.gens y (List.mem_cons_of_mem _ hy)⟩
          · rcases List.mem_append.mp hq with h | h
            · have z := wk'.pin q (List.mem_append_left _ (List.mem_cons_of_mem _ (List.mem_cons_of_mem _ h)))
              obtain ⟨h1, h2, h3⟩ := hlv1 q h
              exact ⟨other q.1 q.2 (fun y => (W'.apart (a1, o1) List.mem_cons_self).2 q h y) z.1, z.2.1, h2, h3⟩
            · rcases List.mem_cons.mp h with rfl | h
              · exact ⟨e5, p1.2.1, ha'.2.2.1, p1.2.2.2⟩
              · have z := wk'.pin q (List.mem_append_right _ h)
                have nea : q.1 ≠ a1 := ((wk'.apart q h).2 (a1, slotPut (slotOf o1 + 1) o1) (List.mem_cons_of_mem _ List.mem_cons_self)).symm
                refine ⟨other q.1 q.2 nea z.1, z.2.1, ?_, z.2.2.2⟩
                rw [ho1]
                intro hm
                have hm : q.1 ∈ frs (F0.env :: F0.outer) := hm
                unfold frs at hm
                rw [List.filterMap_cons, ok0.frame] at hm
                rcases List.mem_cons.mp hm with y | y
                · exact (wk'.apart q h).1 y
                · exact z.2.2.1 y
          · rcases List.mem_cons.mp hq with rfl | hq
            · exact W'.apart (a1, o1) List.mem_cons_self
            · have z := (wk'.apart q hq).2
              exact ⟨(z (F1.n, oF1) (List.mem_cons_of_mem _ (List.mem_cons_of_mem _ hF1))).symm, fun y hy => z y (List.mem_cons_of_mem _ (List.mem_cons_of_mem _ hy))⟩
    · cases e1
end
end CH
/-! text G7 -/
/-! A generator's statements. -/
namespace CH
open PySem PySem.Spec PyProof.Rows L2 Evl
open Sem (wp)
section
variable {M : Model} {A : Around} {Φ : End → Shared → Prop} {c : Code} {fs : List Frame} {s : Shared} {env : Env} {K : Flow → Sem PySem.Fin} {J : Value → Sem PySem.Fin} {gd : Bool → Bool} {lv : List Value → List Value}
theorem stw_bind {α β : Type} {m : Sem α} {f : α → Sem β} {K : β → Sem PySem.Fin} (h : wpAny M (A.over c fs) m (fun a s' => Stretch M A Φ c ((f a).wrap K J gd lv) fs s') NoE s) : Stretch M A Φ c ((m >>= f).wrap K J gd lv) fs s := by
  rw [Sem.bind_eq_wrap', Sem.wrap_wrap]
  exact st_wrap (wpAny_mono h (fun _ _ q => q) fun _ _ q => q.elim)
theorem stw_cons {st : Stmt} {rest : List Stmt} (h : Stretch M A Φ c ((exec st env).wrap (fun f => match f with | .next => (execs rest env).wrap K J gd lv | f => K f) J gd lv) fs s) : Stretch M A Φ c ((execs (st :: rest) env).wrap K J gd lv) fs s := by
  rw [execs_cons_wrap]
  exact h
theorem stw_nil (h : Stretch M A Φ c (K .next) fs s) : Stretch M A Φ c ((execs [] env).wrap K J gd lv) fs s := h
theorem stw_calm {α : Type} {m : Sem α} {K : α → Sem PySem.Fin} (h : wpAny M (A.over c fs) m (fun a s' => Stretch M A Φ c (K a) fs s') NoE s) : Stretch M A Φ c (m.wrap K J gd lv) fs s :=
  st_wrap (wpAny_mono h (fun _ _ q => q) fun _ _ q => q.elim)
theorem stw_if {test : Expr} {a b : List Stmt} {pos : Pos} (h : wpAny M (A.over c fs) (isTrue test env (eval test env)) (fun b' s' => if b' = true then Stretch M A Φ c ((execs a env).wrap K J gd lv) fs s' else Stretch M A Φ c ((execs b env).wrap K J gd lv) fs s') NoE s) :
    Stretch M A Φ c ((exec (.If test a b pos) env).wrap K J gd lv) fs s := by
  rw [exec_If]
  refine stw_bind (wpAny_standAt (stw_bind (wpAny_mono h (fun b' s' k => ?_) fun _ _ q => q)))
  cases b' with
  | true => exact k
  | false => exact k
/-- a yield as a statement -/
theorem stw_yield {e : Expr} {yp pos : Pos} (hsp : splitAtGen fs = none) (hgd : gd false = false) (hco : env.scope.isCoroutine = false) (hi : interactive env = false)
    (h : wpAny M (A.over c fs) (eval e env) (fun v s' => ∀ p kk l, (∀ (A' : Around) (Φ' : End → Shared → Prop) (s'' : Shared), Stretch M A' Φ' c (K .next) fs s'' → Stretch M A' Φ' c (kk (.send .none)) fs s'') → Φ (.susp v false l kk c p fs) s') NoE s) :
    Stretch M A Φ c ((exec (.Expr (.Yield (some e) yp) pos) env).wrap K J gd lv) fs s := by
  rw [exec_Expr env _ pos hi rfl]
  show Stretch M A Φ c (.at pos fun _ => ((eval e env >>= fun v => (standAt yp >>= fun _ => yieldOut env v)) >>= fun x => dropValue (.Yield (some e) yp) pos x).wrap K J gd lv) fs s
  have hy : ∀ v, yieldOut env v = yieldValue v := fun v => by simp only [yieldOut, hco, Bool.false_eq_true, if_false]
  simp only [hy]
  refine st_at ?_
  rw [Sem.bind_eq_wrap', Sem.bind_eq_wrap', Sem.wrap_wrap, Sem.wrap_wrap]
  refine st_wrap (wpAny_mono h (fun v s' q => st_at (st_yield hsp fun p => ?_)) fun _ _ q => q.elim)
  show Φ (.susp v (gd false) _ _ c p fs) s'
  rw [hgd]
  exact q p _ _ fun A' Φ' s'' z => z
/-- for: the head -/
theorem stw_for {tg iter : Expr} {body : List Stmt} {pos : Pos} (hs : ∀ x, foldedSetIterable iter env x = pure x) (h : wpAny M (A.over c fs) (eval iter env) (fun x s1 => wpAny M (A.over c fs) (pyIter x) (fun it s2 =>
      ∀ p l kk, (∀ (A' : Around) (Φ' : End → Shared → Prop) (s' : Shared) (f : Flow), Stretch M A' Φ' c (K f) fs s' → Stretch M A' Φ' c (kk (.ok f)) fs s') →
        Stretch M A Φ (.forLoop tg it body [] env) (M.den (.forLoop tg it body [] env)) (.ret kk none (gd false) l c p [] :: fs) s2) NoE s1) NoE s) :
    Stretch M A Φ c ((exec (.For tg iter body [] pos) env).wrap K J gd lv) fs s := by
  rw [exec_For]
  refine stw_bind (wpAny_standAt ?_)
  refine stw_bind (wpAny_mono h (fun x s1 k => ?_) fun _ _ q => q)
  rw [hs]
  refine stw_bind (wpAny_pure (stw_bind (wpAny_standAt (stw_bind (wpAny_holding (wpAny_mono k (fun it s2 k => ?_) fun _ _ q => q))))))
  refine st_call fun p => ?_
  exact k p _ _ fun A' Φ' s' f z => z
end
section
variable {prog : Program} {w : World} {A : Around} {Φ : End → Shared → Prop} {fs : List Frame} {s : Shared} {env : Env}
/-- for: a turn -/
theorem st_for {tg : Expr} {it : Value} {body : List Stmt}
    (h : wpAny (M2 prog w) (A.over (.forLoop tg it body [] env) fs) (pyNext it) (fun r s1 => match r with
      | none => Stretch (M2 prog w) A Φ (.block [] env) (.pure (.done .next)) fs s1
      | some v => wpAny (M2 prog w) (A.over (.forLoop tg it body [] env) fs) (letOwnedTupleGo tg it v) (fun _ s2 => wpAny (M2 prog w) (A.over (.forLoop tg it body [] env) fs) (assign tg env v) (fun _ s3 =>
          ∀ (K : Flow → Sem PySem.Fin) (J : Value → Sem PySem.Fin), K .next = .pure (.again (.forLoop tg it body [] env)) → Stretch (M2 prog w) A Φ (.forLoop tg it body [] env) ((execs body env).wrap K J id id) fs s3) NoE s2) NoE s1) NoE s) :
    Stretch (M2 prog w) A Φ (.forLoop tg it body [] env) ((M2 prog w).den (.forLoop tg it body [] env)) fs s := by
  rw [den_for]
  show Stretch _ _ _ _ ((forTurn tg it body [] env).onRaise _) _ _
  rw [Sem.onRaise_eq_wrap]
  unfold forTurn
  refine stw_bind (wpAny_standAt (stw_bind (noted2 (wpAny_mono h (fun r s1 k => ?_) fun _ _ q => q))))
  cases r with
  | none =>
    refine st_again rfl ?_
    rw [den_block]
    exact k
  | some v =>
    refine stw_bind (wpAny_mono k (fun _ s2 k => stw_bind (wpAny_mono k (fun _ s3 k => ?_) fun _ _ q => q)) fun _ _ q => q)
    rw [Sem.bind_eq_wrap', Sem.wrap_wrap]
    exact k _ _ rfl
theorem st_func {body : List Stmt} (h : ∀ J, Stretch (M2 prog w) A Φ (.func body env) ((execs body env).wrap (fun f => .pure (.done (.ret (match f with | .ret v => v | _ => .none)))) J id id) fs s) : Stretch (M2 prog w) A Φ (.func body env) ((M2 prog w).den (.func body env)) fs s := by
  rw [den_func]
  show Stretch _ _ _ _ (.point [] fun _ => ((execs body env).onRaise (leaving env)) >>= _) fs s
  refine st_point ?_
  rw [Sem.onRaise_eq_wrap, Sem.bind_eq_wrap', Sem.wrap_wrap]
  rw [Sem.wrap_congr (execs body env) _ _ (K' := fun f => .pure (.done (.ret (match f with | .ret v => v | _ => .none)))) (fun f => by cases f <;> rfl) (fun _ => rfl)]
  exact h _
end
end CH
/-! text G8 -/
/-! A generator that walks a list, and for each of its pairs a generator made for it. -/
namespace CH
open PySem PySem.Spec PyProof.Rows L2 Evl
open Sem (wp)
def PairV (K : PySem.W.Frag) (H : Hp) (x : V) (p : Str × Str) : Prop := ∃ t, x = .ref t ∧ SqT K H t [.str p.1, .str p.2]
theorem cut_size_eq {h : Heap} {n : Addr} (hn : n ≤ h.objs.size) : (cut h n).objs.size = n := by
  show (h.objs.extract 0 n).size = n
  rw [Array.size_extract, Nat.sub_zero]
  exact Nat.min_eq_left hn
/-- what the given model shows, in the milder one, and what of the generators is kept -/
structure Af (s s' : Shared) : Prop where
  ex : ∃ z, Aft s z s' ∧ AllBare z.gens
theorem Af.refl (s : Shared) (h : AllBare s.gens) : Af s s := ⟨⟨numb s, (Rx.here s).aft, numb_bare h⟩⟩
section
variable {X : Cx} {pins : List (Addr × Obj)} {σ : L2.St} {H : Hp} {s : Shared} {e : Expr} {te : TE} {tt : TT}
theorem pe_af {Q : VK} (h : PE X.nox e te) (I : Inv X pins σ H s) (hw : te σ H Q) : wpAny (M2 X.prog X.w) X.A (eval e X.env) (fun u s' => ∃ v H', Inv X pins σ H' s' ∧ Af s s' ∧ RelV v u ∧ Q v H') NoE s :=
  tr_more (Rx.here s) (h.run pins (numb s) σ H Q (inv_numb (I.wish _)) hw) (fun _ z s' k ⟨v, H', I', r, q⟩ => ⟨v, H', (inv_aft k.aft I.bare I').unwish, ⟨z, k.aft, I'.bare⟩, r, q⟩) fun _ _ _ _ q => q
theorem pt_af {Q : Bool → Hp → Prop} (h : PT X.nox e tt) (I : Inv X pins σ H s) (hw : tt σ H Q) : wpAny (M2 X.prog X.w) X.A (isTrue e X.env (eval e X.env)) (fun b s' => ∃ H', Inv X pins σ H' s' ∧ Af s s' ∧ Q b H') NoE s :=
  tr_more (Rx.here s) (h.run pins (numb s) σ H Q (inv_numb (I.wish _)) hw) (fun _ z s' k ⟨H', I', q⟩ => ⟨H', (inv_aft k.aft I.bare I').unwish, ⟨z, k.aft, I'.bare⟩, q⟩) fun _ _ _ _ q => q
theorem pg_af {tg : Expr} {g : TG} {v : V} {u : Value} {Q : L2.St → Hp → Prop} (h : PG X.nox tg g) (I : Inv X pins σ H s) (r : RelV v u) (hw : g v σ H Q) : wpAny (M2 X.prog X.w) X.A (assign tg X.env u) (fun _ s' => ∃ σ' H', Inv X pins σ' H' s' ∧ Af s s' ∧ Q σ' H') NoE s :=
  tr_more (Rx.here s) (h.run pins (numb s) σ H v u Q (inv_numb (I.wish _)) r hw) (fun _ z s' k ⟨σ', H', I', q⟩ => ⟨σ', H', (inv_aft k.aft I.bare I').unwish, ⟨z, k.aft, I'.bare⟩, q⟩) fun _ _ _ _ q => q
theorem Af.ny {s s' : Shared} (a : Af s s') (n : Ny s.gens) : Ny s'.gens := let ⟨z, h, b⟩ := a.ex; h.ny b n
theorem Af.sz {s s' : Shared} (a : Af s s') : s.gens.size ≤ s'.gens.size := let ⟨z, h, _⟩ := a.ex; h.size
theorem Wt.af {G : Gp} {F : Gf} {k g : Nat} {rows : List Row} {gs : GenState} {lv xp : List (Addr × Obj)} {gl : List (Nat × GenState)} {s s' : Shared} {H' : Hp} (W : Wt G F k g rows gs lv xp gl H s) (hs : isS gs = true) (a : Af s s') (he : Exn G.d H H') (hp : ∀ p ∈ lv ++ xp, s'.heap.get? p.1 = some p.2 ∧ H' p.1 = none) : Wt G F k g rows gs lv xp gl H' s' := by
  obtain ⟨z, h, b⟩ := a.ex
  obtain ⟨Hs, rdy, hex⟩ := W.rdy
  have hgl := (rdy_iff.mp rdy).2.2.2.1
  exact ⟨⟨Hs, rdy, fun b o e h => he b o (hex b o e h) h⟩, h.old g gs W.ent hs, fun i k l c p fs cl hi e hc => (h.mark b i k l c p fs cl e hc).elim id fun h => W.nyx i k l c p fs cl hi h hc, fun p hq => ⟨(hp p hq).1, (hp p hq).2, (W.pin p hq).2.2⟩, W.apart, fun x hx => h.old x.1 x.2 (W.gens x hx) (hgl x hx).2⟩
end
end CH
/-! text G9 -/
namespace CH
open PySem PySem.Spec PyProof.Rows L2 Evl
open Sem (wp)
/-- a def of that form -/
def evBody (test y0 e1 e2 y2 tg1 tg2 : Expr) (q : Nat → Pos) : List Stmt :=
  [.If test [.Expr (.Yield (some y0) (q 1)) (q 2)] [] (q 3), .For tg1 e1 [.For tg2 e2 [.Expr (.Yield (some y2) (q 4)) (q 5)] [] (q 6)] [] (q 7)]
/-- what its parts do; St: what holds of its arguments; prs: the pairs; sub: the rows of the inner one -/
structure Ev (G : Gp) (F : Gf) (kb k2 g : Nat) (test y0 e1 e2 y2 tg1 tg2 : Expr) (many : Nat) (prs : List (Str × Str)) (sub : Str × Str → List Row) (St : L2.St → Hp → Prop) : Prop where
  in_ : ∀ σ σ' H H', St σ H → σ'.take 3 = σ.take 3 → Exm G.d H H' → G.good H' → St σ' H'
  out : ∀ σ H H', St σ H → Exn G.d H H' → St σ H'
  goodn : ∀ H H', G.good H → Exn G.d H H' → G.good H'
  goodx : ∀ H H', G.good H → Ex H H' → G.good H'
  none0 : many = 0 → prs = []
  short : ∀ p ∈ prs, ∀ r ∈ sub p, r.length ≤ 1000
  test : ∀ A H0 s0, Room kb A → ∃ tt, PT (gcx G F A H0 s0) test tt ∧ ∀ σ H Q, St σ H → (∀ H', Ex H H' → Q (decide (many = 0)) H') → tt σ H Q
  y0 : ∀ A H0 s0, Room kb A → ∃ t, PE (gcx G F A H0 s0) y0 t ∧ ∀ σ H (Q : VK), (∀ v H', Ex H H' → RowV G.K H' v [] → Q v H') → t σ H Q
  e1 : ∀ A H0 s0, Room kb A → ∃ w, PI (gcx G F A H0 s0) tg1 e1 w ∧ ∀ σ H R, St σ H → G.good H → (∀ a xs H', Exm G.d H H' → G.good H' → SqL G.K H' a xs → Paired (PairV G.K H') xs prs → R (Itl G.K a) H') → w σ H R
  g1 : ∀ A H0 s0, Room kb A → ∃ t, PG (gcx G F A H0 s0) tg1 t ∧ ∀ v p σ H (Q : L2.St → Hp → Prop), PairV G.K H v p → (∀ H', Ex H H' → Q ((σ.set 3 (some (.str p.1))).set 4 (some (.str p.2))) H') → t v σ H Q
  g2 : ∀ A H0 s0, Room kb A → PG (gcx G F A H0 s0) tg2 (gName 5)
  e2 : ∀ A H0 s0 pins σ H s p, Room kb A → Inv (gcx G F A H0 s0) pins σ H s → Ny s.gens → St σ H → G.good H → p ∈ prs → σ[3]? = some (some (.str p.1)) → σ[4]? = some (some (.str p.2)) → g < s.gens.size →
    wpAny (M2 G.P G.w) A (eval e2 F.env) (fun u s1 => ∃ a2 F2 g2 lv2 H' o2 gs2, u = .ref a2 ∧ Inv (gcx G F A H0 s0) pins σ H' s1 ∧ Exm G.d H H' ∧ G.good H' ∧ Ny s1.gens ∧ s.gens.size ≤ s1.gens.size ∧ F2.Ok G ∧ F2.yf = false ∧ F2.outer = F.env :: F.outer ∧ F.n < F2.n ∧ (∀ p ∈ pins, p.1 < F2.n) ∧ F2.n < a2 ∧ g < g2 ∧ IsG o2 g2 ∧ slotOf o2 ≤ 0 ∧
      ∀ xp, (∀ q ∈ xp, s1.heap.get? q.1 = some q.2 ∧ H' q.1 = none ∧ q.1 ∉ frs F2.outer ∧ (∀ v, q.2.data ≠ .cell v) ∧ q.1 < F2.n) → Wt G F2 k2 g2 (sub p) gs2 lv2 ((a2, o2) :: xp) [] H' s1) NoE s
  y2 : ∀ A H0 s0, Room kb A → ∃ t, PE (gcx G F A H0 s0) y2 t ∧ ∀ σ H v p r (Q : VK), σ[3]? = some (some (.str p.1)) → σ[4]? = some (some (.str p.2)) → σ[5]? = some (some v) → RowV G.K H v r → r.length ≤ 1000 → (∀ v' H', Ex H H' → RowV G.K H' v' (p :: r) → Q v' H') → t σ H Q
theorem RowV.mono {K : PySem.W.Frag} {H H' : Hp} {v : V} {r : Row} {R : Hp → Hp → Prop} (kp : Kp R) (h : R H H') (x : RowV K H v r) : RowV K H' v r := by
  obtain ⟨t, xs, e, ht, hp⟩ := x
  exact ⟨t, xs, e, kp.tup h ht, L2.Paired.mapP hp fun a b ⟨t', e', h'⟩ => ⟨t', e', kp.tup h h'⟩⟩
theorem kpN_tup {K : PySem.W.Frag} {d : Addr} {H H' : Hp} {a : Addr} {xs : List V} (h : Exn d H H') (e : SqT K H a xs) : SqT K H' a xs := by
  rcases e with (e | ⟨o, e⟩) | e
  · exact .inl (.inl (h a _ e fun _ z => by cases z))
  · exact .inl (.inr ⟨o, h a _ e fun _ z => by cases z⟩)
  · exact .inr e
theorem kpN_lst {K : PySem.W.Frag} {d : Addr} {H H' : Hp} {a : Addr} {xs : List V} (h : Exn d H H') (e : SqL K H a xs) : SqL K H' a xs := by
  rcases e with (e | ⟨o, e⟩) | e
  · exact .inl (.inl (h a _ e fun _ z => by cases z))
  · exact .inl (.inr ⟨o, h a _ e fun _ z => by cases z⟩)
  · exact .inr e
theorem exn_trans {d : Addr} {H H1 H2 : Hp} (a : Exn d H H1) (b : Exn d H1 H2) : Exn d H H2 := fun x o e k => b x o (a x o e k) k
/-- the rows that follow the i-th pair -/
def later (prs : List (Str × Str)) (sub : Str × Str → List Row) (i : Nat) : List Row := (prs.drop i).flatMap fun p => (sub p).map (p :: ·)
theorem later_end {prs : List (Str × Str)} {sub : Str × Str → List Row} {i : Nat} (h : prs.length ≤ i) : later prs sub i = [] := by
  unfold later
  rw [List.drop_eq_nil_of_le h]
  rfl
theorem later_at {prs : List (Str × Str)} {sub : Str × Str → List Row} {i : Nat} {p : Str × Str} (h : prs[i]? = some p) : later prs sub i = (sub p).map (p :: ·) ++ later prs sub (i + 1) := by
  obtain ⟨h1, h2⟩ := List.getElem?_eq_some_iff.mp h
  unfold later
  rw [List.drop_eq_getElem_cons h1, List.flatMap_cons, h2]
section
variable {G : Gp} {F : Gf} {k kb k2 g : Nat} {test y0 e1 e2 y2 tg1 tg2 : Expr} {many : Nat} {prs : List (Str × Str)} {sub : Str × Str → List Row} {St : L2.St → Hp → Prop} {q : Nat → Pos}
/-- where the outer loop stands: the items of its list, its iterator -/
structure Ou (G : Gp) (F : Gf) (tg1 : Expr) (prs : List (Str × Str)) (St : L2.St → Hp → Prop) (fp : List Addr) (it a : Addr) (tn : Nat → Heap → Prop) : Prop where
  T : Turn G.P G.w G.K tg1 (Itl G.K a) fp it tn
  lo : ∀ b ∈ fp, F.n < b
/-- a stretch, up to now -/
structure Nw (G : Gp) (F : Gf) (A : Around) (g : Nat) (St : L2.St → Hp → Prop) (xp : List (Addr × Obj)) (H0 : Hp) (s0 : Shared) (σ : L2.St) (H : Hp) (s : Shared) : Prop where
  inv : Inv (gcx G F A H0 s0) xp σ H s
  ny : Ny s.gens
  os : s0.os = G.os
  ex : Exm G.d H0 H
  good : G.good H
  st : St σ H
  sz : s0.gens.size ≤ s.gens.size
  g : g < s0.gens.size
  n : F.n ≤ s0.heap.objs.size
theorem Nw.po {A : Around} {xp : List (Addr × Obj)} {H0 H : Hp} {s0 s : Shared} {σ : L2.St} (N : Nw G F A g St xp H0 s0 σ H s) : Po G F xp H0 s0 H s := po_of N.inv N.ny N.ex N.good N.sz fun p hp => hp
end
end CH
/-! text G10 -/
namespace CH
open PySem PySem.Spec PyProof.Rows L2 Evl
open Sem (wp)
section
variable {G : Gp} {F : Gf} {k kb k2 g : Nat} {test y0 e1 e2 y2 tg1 : Expr} {xr : Str} {pr : Pos} {many : Nat} {prs : List (Str × Str)} {sub : Str × Str → List Row} {St : L2.St → Hp → Prop} {q : Nat → Pos}
theorem pairs_mono {K : PySem.W.Frag} {H H' : Hp} {R : Hp → Hp → Prop} {xs : List V} {prs : List (Str × Str)} (kp : Kp R) (h : R H H') (p : Paired (PairV K H) xs prs) : Paired (PairV K H') xs prs := L2.Paired.mapP p fun a b ⟨t, e, z⟩ => ⟨t, e, kp.tup h z⟩
theorem pairsN {K : PySem.W.Frag} {d : Addr} {H H' : Hp} {xs : List V} {prs : List (Str × Str)} (h : Exn d H H') (p : Paired (PairV K H) xs prs) : Paired (PairV K H') xs prs := L2.Paired.mapP p fun a b ⟨t, e, z⟩ => ⟨t, e, kpN_tup h z⟩
theorem ex_exm {d : Addr} {H H' : Hp} (h : Ex H H') : Exm d H H' := (kpM d).ex h
theorem ex_exn {d : Addr} {H H' : Hp} (h : Ex H H') : Exn d H H' := fun a o e _ => h a o e
theorem over_O {A : Around} {env : Env} {tg : Expr} {it : Value} {body b2 : List Stmt} {kk : Result → Sem PySem.Fin} {l kp : List Value} {p : Pos} : A.over (.forLoop tg it body [] env) [.ret kk none false l (.func b2 env) p kp] = A.deeper env :=
  (GenW.over_loop rfl rfl).trans GenW.over_func
theorem over_I {A : Around} {env : Env} {tg tg' : Expr} {it it' : Value} {body body' b2 : List Stmt} {kk kk' : Result → Sem PySem.Fin} {l kp l' kp' : List Value} {p p' : Pos} :
    A.over (.forLoop tg' it' body' [] env) (.ret kk' none false l' (.forLoop tg it body [] env) p' kp' :: [.ret kk none false l (.func b2 env) p kp]) = A.deeper env :=
  (GenW.over_loop rfl rfl).trans over_O
theorem pin_at {fp : List Addr} {h : Heap} {p : Addr × Obj} (hp : p ∈ pinsAt fp h) : p.1 ∈ fp ∧ h.get? p.1 = some p.2 := of_pinsAt hp
/-- the inner loop -/
theorem ev_inner (E : Ev G F kb k2 g test y0 e1 e2 y2 tg1 (.Name xr pr) many prs sub St) (ok : F.Ok G) (hy : F.yf = false) (hd : G.d < F.n) (hroom : ∀ A, Room k A → Room kb (A.deeper F.env) ∧ Room k2 (A.deeper F.env).in1) (hco : F.env.scope.isCoroutine = false) (hin : interactive F.env = false) (hN5 : 5 < F.N.length)
    (fp : List Addr) (it a : Addr) (tn : Nat → Heap → Prop) (O : Ou G F tg1 prs St fp it a tn) (bodyF bodyO : List Stmt) (kkO kkI : Result → Sem PySem.Fin) (lO lI : List Value) (pO pI : Pos)
    (hkI : ∀ (A : Around) (Φ : End → Shared → Prop) (s : Shared), Stretch (M2 G.P G.w) A Φ (.forLoop tg1 (.ref it) bodyO [] F.env) (.pure (.again (.forLoop tg1 (.ref it) bodyO [] F.env))) [.ret kkO none false lO (.func bodyF F.env) pO []] s →
      Stretch (M2 G.P G.w) A Φ (.forLoop tg1 (.ref it) bodyO [] F.env) (kkI (.ok .next)) [.ret kkO none false lO (.func bodyF F.env) pO []] s)
    (i : Nat) (p : Str × Str) (hi : prs[i]? = some p)
    (OUT : ∀ (A : Around) (H0 : Hp) (s0 : Shared) (xp : List (Addr × Obj)) (σ : L2.St) (H : Hp) (s : Shared) (xs : List V), Room k A → A.frames = some F.outer → Nw G F (A.deeper F.env) g St xp H0 s0 σ H s → SqL G.K H a xs → Paired (PairV G.K H) xs prs → tn (i + 1) s.heap → (∀ b ∈ fp, H b = none ∧ ∀ p ∈ xp, p.1 ≠ b) → (∀ p ∈ xp, p.1 ≠ F.n) →
      Stretch (M2 G.P G.w) A (Eo G F xp H0 s0 (later prs sub (i + 1)) (Rdy G F k g)) (.forLoop tg1 (.ref it) bodyO [] F.env) ((M2 G.P G.w).den (.forLoop tg1 (.ref it) bodyO [] F.env)) [.ret kkO none false lO (.func bodyF F.env) pO []] s)
    (F2 : Gf) (a2 g2 : Nat) (ok2 : F2.Ok G) (hy2 : F2.yf = false) (ho2 : F2.outer = F.env :: F.outer) (hn : F.n < F2.n) (hfp : ∀ b ∈ fp, b < F2.n) (hna : F2.n < a2) (hg : g < g2) :
    ∀ (rs : List Row), (∀ r ∈ rs, r.length ≤ 1000) → ∀ (A : Around) (H0 : Hp) (s0 : Shared) (xp : List (Addr × Obj)) (σ : L2.St) (H : Hp) (s : Shared) (xs : List V) (gs : GenState) (lv2 : List (Addr × Obj)) (gl2 : List (Nat × GenState)) (o2 : Obj), Room k A → A.frames = some F.outer → Nw G F (A.deeper F.env) g St xp H0 s0 σ H s →
      SqL G.K H a xs → Paired (PairV G.K H) xs prs → tn (i + 1) s.heap → (∀ b ∈ fp, H b = none ∧ ∀ p ∈ xp, p.1 ≠ b) → (∀ p ∈ xp, p.1 ≠ F.n ∧ p.1 ≠ a2) → σ[3]? = some (some (.str p.1)) → σ[4]? = some (some (.str p.2)) → IsG o2 g2 → slotOf o2 ≤ 0 → Wt G F2 k2 g2 rs gs lv2 ((a2, o2) :: xp) gl2 H s →
      Stretch (M2 G.P G.w) A (Eo G F xp H0 s0 (rs.map (p :: ·) ++ later prs sub (i + 1)) (Rdy G F k g)) (.forLoop (.Name xr pr) (.ref a2) [.Expr (.Yield (some y2) (q 4)) (q 5)] [] F.env) ((M2 G.P G.w).den (.forLoop (.Name xr pr) (.ref a2) [.Expr (.Yield (some y2) (q 4)) (q 5)] [] F.env))
        (.ret kkI none false lI (.forLoop tg1 (.ref it) bodyO [] F.env) pI [] :: [.ret kkO none false lO (.func bodyF F.env) pO []]) s := by
  have hAf : ∀ {A : Around}, A.frames = some F.outer → (A.deeper F.env).in1.frames = some F2.outer := fun {A} hA => by
    rw [ho2]
    unfold Around.deeper
    show A.frames.map _ = _
    rw [hA]
    rfl
  have pO1 : ∀ {A : Around} {H0 : Hp} {s0 : Shared} {xp : List (Addr × Obj)} {σ : L2.St} {H : Hp} {s : Shared}, Nw G F (A.deeper F.env) g St xp H0 s0 σ H s → tn (i + 1) s.heap → (∀ b ∈ fp, H b = none ∧ ∀ p ∈ xp, p.1 ≠ b) → Inv (gcx G F (A.deeper F.env) H0 s0) (xp ++ pinsAt fp s.heap) σ H s := fun {A H0 s0 xp σ H s} N htn hfr => N.inv.pins_of fun p' hp' => by
    rcases List.mem_append.mp hp' with h | h
    · exact N.inv.pin p' (List.mem_append_right _ h)
    · obtain ⟨h1, h2⟩ := of_pinsAt h
      obtain ⟨o, e, dc⟩ := O.T.obj _ _ htn p'.1 h1
      rw [h2] at e
      cases e
      exact ⟨h2, (hfr p'.1 h1).1, Nat.ne_of_gt (O.lo p'.1 h1), fun z => absurd (Nat.lt_trans (ok.frs _ z) (O.lo p'.1 h1)) (Nat.lt_irrefl _), dc⟩
  have mkR : ∀ {A : Around} {H0 : Hp} {s0 : Shared} {xp : List (Addr × Obj)} {σ : L2.St} {H : Hp} {s : Shared} {o2 : Obj}, Nw G F (A.deeper F.env) g St xp H0 s0 σ H s → Wr G F2 (gcx G F (A.deeper F.env) H0 s0) (xp ++ pinsAt fp s.heap) ((a2, o2) :: xp) s H := fun {A H0 s0 xp σ H s o2} N => {
    ok := ok2
    stk := ho2.symm
    prog := rfl
    w := rfl
    base := rfl
    os := N.os
    d := .inl (Nat.lt_trans hd hn)
    loc := .inl hn
    cells := fun x c h => by rw [show (gcx G F (A.deeper F.env) H0 s0).env.cells = [] from ok.cells] at h; cases h
    pins := fun p' hp' => by
      rcases List.mem_append.mp (show p' ∈ xp ++ pinsAt fp s.heap from hp') with h | h
      · exact .inr ⟨p', List.mem_cons_of_mem _ h, rfl⟩
      · exact .inl (hfp _ (of_pinsAt h).1)
    ex := fun b h1 h2 h3 h4 => .inr (Nat.le_trans cut_size (Nat.le_trans (Nat.le_of_lt hn) h1)) }
  intro rs
  induction rs with
  | nil =>
    intro _ A H0 s0 xp σ H s xs gs lv2 gl2 o2 hr hA N hxs hps htn hfr hx h3 h4 io hs W
    have I := N.inv
    have I' := pO1 N htn hfr
    have ha2 := W.pin (a2, o2) (List.mem_append_right _ List.mem_cons_self)
    have R := mkR N (A := A) (o2 := o2)
    refine st_for ?_
    rw [over_I]
    refine next2 hr.hd I.nolimit (by have := (hroom A hr).1; exact this.depth) (genAt_of ha2.1 io hs) W.ent ((nxt R W I' (hroom A hr).2 (hAf hA)).imp fun e s1 ⟨hq, hh⟩ => ⟨hq, ?_⟩)
    rcases hh with ⟨x, ex, r', rs', v, gs', lv', gl', H', e1, _⟩ | ⟨ex, H', _, I2, he', gd, xk, ny', sz, hg'⟩
    · cases e1
    refine .inr ⟨ex, fun h' hk => ?_⟩
    have I3 : Inv (gcx G F (A.deeper F.env) H0 s0) (xp ++ pinsAt fp s.heap) σ H' { s1.setGen g2 .finished with heap := h' } := (inv_gens (x := .finished) (g := g2) I2 rfl).kept (t' := s1.toks) hk
    have at' : ∀ b ∈ fp, ∀ o, s.heap.get? b = some o → h'.get? b = some o ∧ H' b = none := fun b hb o e => by
      have := I3.pin (b, o) (List.mem_append_right _ (List.mem_append_right _ (mem_pinsAt hb e)))
      exact ⟨this.1, this.2.1⟩
    refine st_leaf (.ok .next) ?_
    refine hkI A _ _ (st_again rfl ?_)
    rw [List.map_nil, List.nil_append]
    refine OUT A H0 s0 xp σ H' _ xs hr hA ⟨I3.unpinned, nyx_set (ny'.x g2) (fun _ _ _ _ _ _ z => by cases z), N.os, (kpM G.d).trans N.ex he', gd, E.in_ σ σ H H' N.st rfl he' gd, ?_, N.g, N.n⟩ ((kpM G.d).lst he' hxs) (pairs_mono (kpM G.d) he' hps) (O.T.keep _ _ _ htn fun b hb o e => (at' b hb o e).1) (fun b hb => ⟨?_, (hfr b hb).2⟩) fun p hp => (hx p hp).1
    · show s0.gens.size ≤ (s1.setGen g2 .finished).gens.size
      rw [GenW.setGen_size]
      exact Nat.le_trans N.sz sz
    · obtain ⟨o, e, _⟩ := O.T.obj _ _ htn b hb
      exact (at' b hb o e).2
  | cons r rs ih =>
    intro hsh A H0 s0 xp σ H s xs gs lv2 gl2 o2 hr hA N hxs hps htn hfr hx h3 h4 io hs W
    have I := N.inv
    have I' := pO1 N htn hfr
    have ha2 := W.pin (a2, o2) (List.mem_append_right _ List.mem_cons_self)
    have R := mkR N (A := A) (o2 := o2)
    refine st_for ?_
    rw [over_I]
    refine next2 hr.hd I.nolimit (by have := (hroom A hr).1; exact this.depth) (genAt_of ha2.1 io hs) W.ent ((nxt R W I' (hroom A hr).2 (hAf hA)).imp fun e s1 ⟨hq, hh⟩ => ⟨hq, ?_⟩)
    rcases hh with ⟨x, ex, r', rs', v, gs', lv', gl', H', e1, I2, he', rx, rv, gd, sz, W', hS, hny⟩ | ⟨ex, H', e1, _⟩
    · cases e1
      refine .inl ⟨x, ex, ?_⟩
      generalize s1.setGen g2 e.genState = s2 at I2 W' sz hny
      obtain ⟨Hs, rdy1, hex1⟩ := W'.rdy
      obtain ⟨gd1, ⟨oF1, hF1⟩, hlv1, hgl1, _⟩ := rdy_iff.mp rdy1
      have nyA : Ny s2.gens := hny hy2
      have Ip : Inv (gcx G F (A.deeper F.env) H0 s0) ((xp ++ pinsAt fp s.heap) ++ ((a2, o2) :: lv')) σ H' s2 := I2.pins_of fun p' hp' => by
        rcases List.mem_append.mp hp' with h | h
        · exact I2.pin p' (List.mem_append_right _ h)
        · have fo : ∀ {b : Addr}, F.n < b → b ∉ frs F.outer := fun {b} hb z => absurd (Nat.lt_trans (ok.frs _ z) hb) (Nat.lt_irrefl _)
          rcases List.mem_cons.mp h with rfl | h
          · have z := W'.pin (a2, o2) (List.mem_append_right _ List.mem_cons_self)
            exact ⟨z.1, z.2.1, Nat.ne_of_gt (Nat.lt_trans hn hna), fo (Nat.lt_trans hn hna), z.2.2.2⟩
          · have z := W'.pin p' (List.mem_append_left _ h)
            have l := Nat.lt_of_lt_of_le hn (hlv1 p' h).1
            exact ⟨z.1, z.2.1, Nat.ne_of_gt l, fo l, z.2.2.2⟩
      refine wpAny_pure ?_
      refine (pg_af (E.g2 (A.deeper F.env) H0 s0 (hroom A hr).1) Ip rx (show gName 5 v σ H' (fun σ' H'' => σ' = σ.set 5 (some v) ∧ H'' = H') from ⟨rfl, rfl⟩)) |> fun hh => thn hh fun _ s3 ⟨σ3, H3, I3, af3, e3, e3'⟩ => ?_
      subst e3
      subst e3'
      intro K J hK
      refine stw_cons (stw_yield (by rfl) rfl hco hin ?_)
      rw [over_I]
      obtain ⟨ty, py, wy⟩ := E.y2 (A.deeper F.env) H0 s0 (hroom A hr).1
      have t3 : (σ.set 5 (some v))[3]? = some (some (.str p.1)) := by rw [List.getElem?_set_ne (by decide)]; exact h3
      have t4 : (σ.set 5 (some v))[4]? = some (some (.str p.2)) := by rw [List.getElem?_set_ne (by decide)]; exact h4
      have t5 : (σ.set 5 (some v))[5]? = some (some v) := List.getElem?_set_self (by rw [I2.len]; exact hN5)
      refine thn (pe_af py I3 (wy _ H3 v p r _ t3 t4 t5 rv (hsh r List.mem_cons_self) fun v' H4 x4 rv4 => (show (fun v' H4 => Ex H3 H4 ∧ RowV G.K H4 v' (p :: r)) v' H4 from ⟨x4, rv4⟩))) fun u s4 ⟨v', H4, I4, af4, ru, x4, rv4⟩ => ?_
      intro pp kk l hkk
      have gd4 : G.good H4 := E.goodx _ _ gd x4
      have ex4 : Exm G.d H0 H4 := (kpM G.d).trans ((kpM G.d).trans N.ex he') (ex_exm x4)
      have st4 : St (σ.set 5 (some v)) H4 := E.in_ σ _ H H4 N.st (by rw [List.take_set_of_le (by decide)]) ((kpM G.d).trans he' (ex_exm x4)) gd4
      obtain ⟨oF, f1, f2, f3⟩ := frame_of ok I4
      have pins4 : ∀ q' ∈ (xp ++ pinsAt fp s.heap) ++ ((a2, o2) :: lv'), s4.heap.get? q'.1 = some q'.2 ∧ H4 q'.1 = none := fun q' hq' => by
        have z := I4.pin q' (List.mem_append_right _ hq')
        exact ⟨z.1, z.2.1⟩
      have W4 : Wt G F2 k2 g2 rs gs' lv' ((a2, o2) :: xp) gl' H4 s4 := (W'.af hS af3 (fun b o e _ => e) fun q' hq' => by
        have z := I3.pin q' (List.mem_append_right _ (by
          rcases List.mem_append.mp hq' with h | h
          · exact List.mem_append_right _ (List.mem_cons_of_mem _ h)
          · rcases List.mem_cons.mp h with rfl | h
            · exact List.mem_append_right _ List.mem_cons_self
            · exact List.mem_append_left _ (List.mem_append_left _ h)))
        exact ⟨z.1, z.2.1⟩).af hS af4 (ex_exn x4) fun q' hq' => pins4 q' (by
          rcases List.mem_append.mp hq' with h | h
          · exact List.mem_append_right _ (List.mem_cons_of_mem _ h)
          · rcases List.mem_cons.mp h with rfl | h
            · exact List.mem_append_right _ List.mem_cons_self
            · exact List.mem_append_left _ (List.mem_append_left _ h))
      have I4x : Inv (gcx G F (A.deeper F.env) H0 s0) xp (σ.set 5 (some v)) H4 s4 := I4.pins_of fun q' hq' => I4.pin q' (List.mem_append_right _ (List.mem_append_left _ (List.mem_append_left _ hq')))
      have lo2 : ∀ q' ∈ (F.n, oF) :: (pinsAt fp s.heap ++ ((a2, o2) :: lv')), F.n ≤ q'.1 ∧ ∀ v, q'.2.data ≠ .cell v := fun q' hq' => by
        rcases List.mem_cons.mp hq' with rfl | hq'
        · exact ⟨Nat.le_refl _, f3⟩
        · refine ⟨?_, (I4.pin q' (List.mem_append_right _ (by rw [List.append_assoc]; exact List.mem_append_right _ hq'))).2.2.2.2⟩
          rcases List.mem_append.mp hq' with h | h
          · exact Nat.le_of_lt (O.lo _ (of_pinsAt h).1)
          · rcases List.mem_cons.mp h with rfl | h
            · exact Nat.le_of_lt (Nat.lt_trans hn hna)
            · exact Nat.le_trans (Nat.le_of_lt hn) (hlv1 q' h).1
      refine ⟨H4, po_of I4x (af4.ny (af3.ny nyA)) ex4 gd4 (Nat.le_trans N.sz (Nat.le_trans sz (Nat.le_trans af3.sz af4.sz))) (fun q' hq' => hq'), v', u, l, kk, _, pp, _, (F.n, oF) :: (pinsAt fp s.heap ++ ((a2, o2) :: lv')), (g2, gs') :: gl', rfl, fun _ => rfl, rfl, ru, rv4, ?_, ?_, ?_, ?_⟩
      · intro q' hq'
        rcases List.mem_cons.mp hq' with rfl | hq'
        · exact ⟨f1, I4.free⟩
        · exact pins4 q' (by rw [List.append_assoc]; exact List.mem_append_right _ hq')
      · intro p' hp'
        refine ⟨(hx p' hp').1, fun q' hq' => ?_⟩
        rcases List.mem_cons.mp hq' with rfl | hq'
        · exact (hx p' hp').1.symm
        · rcases List.mem_append.mp hq' with h | h
          · exact fun z => (hfr _ (of_pinsAt h).1).2 p' hp' z.symm
          · rcases List.mem_cons.mp h with rfl | h
            · exact (hx p' hp').2.symm
            · exact (W'.apart p' (List.mem_cons_of_mem _ hp')).2 q' h
      · intro y hy
        rcases List.mem_cons.mp hy with rfl | hy
        · exact W4.ent
        · exact W4.gens y hy
      · refine rdy_iff.mpr ⟨gd4, ⟨oF, List.mem_cons_self⟩, ?_, ?_, fun A' s' H'' xp' hr' hA' hex' wk' => ?_⟩
        · intro q' hq'
          obtain ⟨h1, h2⟩ := lo2 q' hq'
          exact ⟨h1, fun z => absurd (Nat.lt_of_lt_of_le (ok.frs _ z) h1) (Nat.lt_irrefl _), h2⟩
        · intro y hy
          rcases List.mem_cons.mp hy with rfl | hy
          · exact ⟨hg, hS⟩
          · exact ⟨Nat.lt_trans hg (hgl1 y hy).1, (hgl1 y hy).2⟩
        · show Stretch _ _ _ _ (kk (.send .none)) _ s'
          have wpin : ∀ q' ∈ pinsAt fp s.heap ++ ((a2, o2) :: lv'), s'.heap.get? q'.1 = some q'.2 ∧ H'' q'.1 = none ∧ q'.1 ∉ frs F.outer ∧ ∀ v, q'.2.data ≠ .cell v := fun q' hq' => wk'.pin q' (List.mem_append_left _ (List.mem_cons_of_mem _ hq'))
          have p0 := wk'.pin (F.n, oF) (List.mem_append_left _ List.mem_cons_self)
          have hAd : (A'.deeper F.env).frames = some (F.env :: F.outer) := by
            unfold Around.deeper
            show A'.frames.map _ = _
            rw [hA']
            rfl
          have I5 : Inv (gcx G F (A'.deeper F.env) H'' s') xp' (σ.set 5 (some v)) H'' s' := wake_inv ok wk' hAd hr'.hd p0.1 p0.2.1 f2 I4.len fun q hq => ⟨List.mem_append_right _ hq, (wk'.apart q hq).1⟩
          have gd5 : G.good H'' := E.goodn _ _ gd4 hex'
          have ap2 : ∀ p' ∈ xp', p'.1 ≠ F.n ∧ (∀ b ∈ fp, p'.1 ≠ b) ∧ p'.1 ≠ a2 := fun p' hp' => by
            obtain ⟨h1, h2⟩ := wk'.apart p' hp'
            refine ⟨h1, fun b hb => ?_, (h2 (a2, o2) (List.mem_cons_of_mem _ (List.mem_append_right _ List.mem_cons_self))).symm⟩
            obtain ⟨o, e, _⟩ := O.T.obj _ _ htn b hb
            exact (h2 (b, o) (List.mem_cons_of_mem _ (List.mem_append_left _ (mem_pinsAt hb e)))).symm
          refine hkk A' _ s' (stw_nil ?_)
          rw [hK]
          refine st_again rfl ?_
          refine ih (fun r hr => hsh r (List.mem_cons_of_mem _ hr)) A' H'' s' xp' (σ.set 5 (some v)) H'' s' xs gs' lv' gl' o2 hr' hA' ⟨I5, wk'.ny, wk'.os, exm_id, gd5, E.out _ _ _ st4 hex', Nat.le_refl _, wk'.sz, Nat.le_of_lt (Heap.lt_size p0.1)⟩
            (kpN_lst hex' ((kpM G.d).lst ((kpM G.d).trans he' (ex_exm x4)) hxs)) (pairsN hex' (pairs_mono (kpM G.d) ((kpM G.d).trans he' (ex_exm x4)) hps)) (O.T.keep _ _ _ htn fun b hb o e => (wpin (b, o) (List.mem_append_left _ (mem_pinsAt hb e))).1) (fun b hb => ?_) (fun p' hp' => ⟨(ap2 p' hp').1, (ap2 p' hp').2.2⟩) t3 t4 io hs
            ⟨⟨Hs, rdy1, ?_⟩, wk'.gens (g2, gs') List.mem_cons_self, wk'.ny.x g2, fun q' hq' => ?_, fun q' hq' => ?_, fun y hy => wk'.gens y (List.mem_cons_of_mem _ hy)⟩
          · obtain ⟨o, e, _⟩ := O.T.obj _ _ htn b hb
            exact ⟨(wpin (b, o) (List.mem_append_left _ (mem_pinsAt hb e))).2.1, fun p' hp' => (ap2 p' hp').2.1 b hb⟩
          · exact exn_trans (exn_trans hex1 (ex_exn x4)) hex'
          · rw [ho2]
            have frn : ∀ {b : Addr}, b ≠ F.n → b ∉ frs F.outer → b ∉ frs (F.env :: F.outer) := fun {b} h1 h2 hm => by
              unfold frs at hm
              rw [List.filterMap_cons, ok.frame] at hm
              rcases List.mem_cons.mp hm with y | y
              · exact h1 y
              · exact h2 y
            rcases List.mem_append.mp hq' with h | h
            · have z := wpin q' (List.mem_append_right _ (List.mem_cons_of_mem _ h))
              exact ⟨z.1, z.2.1, frn (Nat.ne_of_gt (Nat.lt_of_lt_of_le hn (hlv1 q' h).1)) z.2.2.1, z.2.2.2⟩
            · rcases List.mem_cons.mp h with rfl | h
              · have z := wpin (a2, o2) (List.mem_append_right _ List.mem_cons_self)
                exact ⟨z.1, z.2.1, frn (Nat.ne_of_gt (Nat.lt_trans hn hna)) z.2.2.1, z.2.2.2⟩
              · have z := wk'.pin q' (List.mem_append_right _ h)
                exact ⟨z.1, z.2.1, frn (ap2 q' h).1 z.2.2.1, z.2.2.2⟩
          · rcases List.mem_cons.mp hq' with rfl | hq'
            · exact W'.apart (a2, o2) List.mem_cons_self
            · have z := (wk'.apart q' hq').2
              exact ⟨(z (F2.n, oF1) (List.mem_cons_of_mem _ (List.mem_append_right _ (List.mem_cons_of_mem _ hF1)))).symm, fun y hy => z y (List.mem_cons_of_mem _ (List.mem_append_right _ (List.mem_cons_of_mem _ hy)))⟩
    · cases e1
end
end CH
/-! text G11 -/
namespace CH
open PySem PySem.Spec PyProof.Rows L2 Evl
open Sem (wp)
section
variable {G : Gp} {F : Gf} {k kb k2 g : Nat} {test y0 e1 e2 y2 tg1 : Expr} {xr : Str} {pr : Pos} {many : Nat} {prs : List (Str × Str)} {sub : Str × Str → List Row} {St : L2.St → Hp → Prop} {q : Nat → Pos}
theorem frs_self {G : Gp} {F : Gf} (ok : F.Ok G) {b : Addr} (h1 : b ≠ F.n) (h2 : b ∉ frs F.outer) : b ∉ frs (F.env :: F.outer) := fun hm => by
  unfold frs at hm
  rw [List.filterMap_cons, ok.frame] at hm
  rcases List.mem_cons.mp hm with y | y
  · exact h1 y
  · exact h2 y
theorem paired_at {α β : Type} {R : α → β → Prop} : ∀ {xs : List α} {ys : List β}, Paired R xs ys → ∀ {i : Nat} {y : β}, ys[i]? = some y → ∃ x, xs[i]? = some x ∧ R x y := by
  intro xs ys h
  induction h with
  | nil => intro i y e; simp at e
  | cons r h ih =>
    intro i y e
    cases i with
    | zero => exact ⟨_, rfl, by simp at e; subst e; exact r⟩
    | succ i => simpa using ih (by simpa using e)
theorem paired_len {α β : Type} {R : α → β → Prop} : ∀ {xs : List α} {ys : List β}, Paired R xs ys → xs.length = ys.length := by
  intro xs ys h
  induction h with
  | nil => rfl
  | cons r h ih => simp [ih]
/-- the outer loop -/
theorem ev_outer (E : Ev G F kb k2 g test y0 e1 e2 y2 tg1 (.Name xr pr) many prs sub St) (ok : F.Ok G) (hy : F.yf = false) (hd : G.d < F.n) (hroom : ∀ A, Room k A → Room kb (A.deeper F.env) ∧ Room k2 (A.deeper F.env).in1) (hco : F.env.scope.isCoroutine = false) (hin : interactive F.env = false) (hN5 : 5 < F.N.length)
    (hs2 : ∀ x, foldedSetIterable e2 F.env x = pure x) (fp : List Addr) (it a : Addr) (tn : Nat → Heap → Prop) (O : Ou G F tg1 prs St fp it a tn) (bodyF : List Stmt) (kkO : Result → Sem PySem.Fin) (lO : List Value) (pO : Pos)
    (hkO : ∀ (A : Around) (Φ : End → Shared → Prop) (s : Shared), Φ (.ret (.ok (.ret .none))) s → Stretch (M2 G.P G.w) A Φ (.func bodyF F.env) (kkO (.ok .next)) [] s) :
    ∀ (n i : Nat), prs.length - i = n → ∀ (A : Around) (H0 : Hp) (s0 : Shared) (xp : List (Addr × Obj)) (σ : L2.St) (H : Hp) (s : Shared) (xs : List V), Room k A → A.frames = some F.outer → Nw G F (A.deeper F.env) g St xp H0 s0 σ H s → SqL G.K H a xs → Paired (PairV G.K H) xs prs → tn i s.heap → (∀ b ∈ fp, H b = none ∧ ∀ p ∈ xp, p.1 ≠ b) → (∀ p ∈ xp, p.1 ≠ F.n) →
      Stretch (M2 G.P G.w) A (Eo G F xp H0 s0 (later prs sub i) (Rdy G F k g)) (.forLoop tg1 (.ref it) [.For (.Name xr pr) e2 [.Expr (.Yield (some y2) (q 4)) (q 5)] [] (q 6)] [] F.env) ((M2 G.P G.w).den (.forLoop tg1 (.ref it) [.For (.Name xr pr) e2 [.Expr (.Yield (some y2) (q 4)) (q 5)] [] (q 6)] [] F.env)) [.ret kkO none false lO (.func bodyF F.env) pO []] s := by
  intro n
  induction n with
  | zero =>
    intro i hi A H0 s0 xp σ H s xs hr hA N hxs hps htn hfr hx
    have hl : prs.length ≤ i := Nat.le_of_sub_eq_zero hi
    rw [later_end hl]
    have I := N.inv
    have fok : ∀ b ∈ fp, FpOk (gcx G F (A.deeper F.env) H0 s0) xp H b := fun b hb => ⟨(hfr b hb).1, Nat.ne_of_gt (O.lo b hb), fun z => absurd (Nat.lt_trans (ok.frs _ z) (O.lo b hb)) (Nat.lt_irrefl _), .inr (Nat.le_trans cut_size (Nat.le_of_lt (O.lo b hb))), fun x c h => (by rw [show (gcx G F (A.deeper F.env) H0 s0).env.cells = [] from ok.cells] at h; cases h), fun p hp => (hfr b hb).2 p hp⟩
    refine st_for ?_
    rw [over_O]
    refine tr_more (Rx.here s) (O.T.done (gcx G F (A.deeper F.env) H0 s0) rfl rfl rfl rfl i xp (numb s) σ H NoE (inv_numb I) fok htn ⟨xs, hxs, by rw [paired_len hps]; exact hl⟩) (fun r z s4 kx q => ?_) fun _ _ _ _ q => q
    obtain ⟨rfl, I4'⟩ := q
    have I4 := inv_aft kx.aft I.bare I4'
    have n4 := kx.aft.ny I4'.bare N.ny
    refine st_leaf (.ok .next) (hkO _ _ _ ⟨H, po_of I4 n4 N.ex N.good (Nat.le_trans N.sz kx.aft.size) fun p hp => hp, rfl⟩)
  | succ n ih =>
    intro i hi A H0 s0 xp σ H s xs hr hA N hxs hps htn hfr hx
    have hl : i < prs.length := by omega
    have hp : prs[i]? = some prs[i] := List.getElem?_eq_getElem hl
    generalize prs[i] = p at hp
    rw [later_at hp]
    have I := N.inv
    have fok : ∀ b ∈ fp, FpOk (gcx G F (A.deeper F.env) H0 s0) xp H b := fun b hb => ⟨(hfr b hb).1, Nat.ne_of_gt (O.lo b hb), fun z => absurd (Nat.lt_trans (ok.frs _ z) (O.lo b hb)) (Nat.lt_irrefl _), .inr (Nat.le_trans cut_size (Nat.le_of_lt (O.lo b hb))), fun x c h => (by rw [show (gcx G F (A.deeper F.env) H0 s0).env.cells = [] from ok.cells] at h; cases h), fun p hp => (hfr b hb).2 p hp⟩
    obtain ⟨x, hxi, pv⟩ := paired_at hps hp
    refine st_for ?_
    rw [over_O]
    refine tr_more (Rx.here s) (O.T.item (gcx G F (A.deeper F.env) H0 s0) rfl rfl rfl rfl i xp (numb s) σ H NoE (inv_numb I) fok htn ⟨xs, x, hxs, hxi⟩) (fun r z s4 kx q => ?_) fun _ _ _ _ q => q
    obtain ⟨u, rfl, h4⟩ := q
    refine tr_more kx h4 (fun _ z5 s5 k5 q => ?_) fun _ _ _ _ q => q
    obtain ⟨x', H5, I5', rx, ⟨rfl, hx5⟩, st5, fr5⟩ := q
    have I5 : Inv (gcx G F (A.deeper F.env) H0 s0) xp σ H5 s5 := inv_aft k5.aft I.bare I5'
    have n5 := k5.aft.ny I5'.bare N.ny
    have e5 := hx5 xs hxs
    rw [hxi] at e5
    cases e5
    rw [k5.rl.heap] at st5
    have I5p := I5.pinned fok (O.T.obj _ _ st5)
    obtain ⟨tg, pg, wg⟩ := E.g1 (A.deeper F.env) H0 s0 (hroom A hr).1
    refine thn (pg_af pg I5p rx (wg x p σ H5 (fun σ6 H6 => σ6 = (σ.set 3 (some (.str p.1))).set 4 (some (.str p.2)) ∧ Ex H5 H6) pv fun H' x' => ⟨rfl, x'⟩)) fun _ s6 ⟨σ6, H6, I6, af6, e6, x6⟩ => ?_
    subst e6
    intro K J hK
    refine stw_cons (stw_for hs2 ?_)
    rw [over_O]
    have gd6 : G.good H6 := E.goodx _ _ N.good x6
    have st6 : St ((σ.set 3 (some (.str p.1))).set 4 (some (.str p.2))) H6 := E.in_ σ _ H5 H6 N.st (by rw [List.take_set_of_le (by decide), List.take_set_of_le (by decide)]) (ex_exm x6) gd6
    have len : σ.length = F.N.length := I.len
    have t3 : ((σ.set 3 (some (.str p.1))).set 4 (some (.str p.2)))[3]? = some (some (.str p.1)) := by rw [List.getElem?_set_ne (by decide)]; exact List.getElem?_set_self (by omega)
    have t4 : ((σ.set 3 (some (.str p.1))).set 4 (some (.str p.2)))[4]? = some (some (.str p.2)) := List.getElem?_set_self (by rw [List.length_set]; omega)
    refine thn (E.e2 (A.deeper F.env) H0 s0 _ _ H6 s6 p (hroom A hr).1 I6 (af6.ny n5) st6 gd6 (List.mem_of_getElem? hp) t3 t4 (Nat.lt_of_lt_of_le N.g (Nat.le_trans N.sz (Nat.le_trans k5.aft.size af6.sz)))) fun u7 s7 ⟨a2, F2, g2, lv2, H7, o2, gs2, hu, I7, x7, gd7, n7, sz7, ok2, hy2, ho2, hn, hlo, hna, hg2, io, hs, wt⟩ => ?_
    subst hu
    have pin6 := fun p' hp' => I6.pin p' (List.mem_append_right _ hp')
    have pin7 := fun p' hp' => I7.pin p' (List.mem_append_right _ hp')
    have at7 : ∀ b ∈ fp, ∃ o, s5.heap.get? b = some o ∧ s7.heap.get? b = some o ∧ H7 b = none ∧ b < F2.n := fun b hb => by
      obtain ⟨o, e, _⟩ := O.T.obj _ _ st5 b hb
      have m := List.mem_append_right xp (mem_pinsAt hb e)
      exact ⟨o, e, (pin7 _ m).1, (pin7 _ m).2.1, hlo _ m⟩
    have hfp : ∀ b ∈ fp, b < F2.n := fun b hb => (at7 b hb).choose_spec.2.2.2
    have xlt : ∀ p' ∈ xp, p'.1 < F2.n := fun p' hp' => hlo p' (List.mem_append_left _ hp')
    have W7 : Wt G F2 k2 g2 (sub p) gs2 lv2 ((a2, o2) :: xp) [] H7 s7 := wt xp fun q' hq' => by
      have z := pin7 q' (List.mem_append_left _ hq')
      refine ⟨z.1, z.2.1, ?_, z.2.2.2.2, xlt q' hq'⟩
      rw [ho2]
      exact frs_self ok (hx q' hq') z.2.2.2.1
    have ha2 := W7.pin (a2, o2) (List.mem_append_right _ List.mem_cons_self)
    refine iter2 (genAt_of ha2.1 io hs) ?_
    intro pp l kk hkk
    have ex67 : Exm G.d H5 H7 := (kpM G.d).trans (ex_exm x6) x7
    refine ev_inner E ok hy hd hroom hco hin hN5 fp it a tn O bodyF _ kkO kk lO l pO pp (fun A Φ s z => hkk A Φ s .next (stw_nil (by rw [hK]; exact z))) i p hp (fun A H0 s0 xp σ H s xs h1 h2 h3 h4 h5 h6 h7 h8 => ih (i + 1) (by omega) A H0 s0 xp σ H s xs h1 h2 h3 h4 h5 h6 h7 h8)
      F2 a2 g2 ok2 hy2 ho2 hn hfp hna hg2 (sub p) (E.short p (List.mem_of_getElem? hp)) A H0 s0 xp _ H7 s7 xs gs2 lv2 [] o2 hr hA ⟨I7.unpinned, n7, N.os, (kpM G.d).trans N.ex ex67, gd7, E.in_ _ _ _ _ st6 rfl x7 gd7, Nat.le_trans N.sz (Nat.le_trans k5.aft.size (Nat.le_trans af6.sz sz7)), N.g, N.n⟩
      ((kpM G.d).lst ex67 hxs) (pairs_mono (kpM G.d) ex67 hps) (O.T.keep _ _ _ st5 fun b hb o e => ?_) (fun b hb => ⟨(at7 b hb).choose_spec.2.2.1, (hfr b hb).2⟩) (fun p' hp' => ⟨hx p' hp', Nat.ne_of_lt (Nat.lt_trans (xlt p' hp') hna)⟩) t3 t4 io hs W7
    obtain ⟨o', e', e7, _⟩ := at7 b hb
    rw [e] at e'
    cases e'
    exact e7
end
end CH
/-! text G12 -/
namespace CH
open PySem PySem.Spec PyProof.Rows L2 Evl
open Sem (wp)
section
variable {G : Gp} {F : Gf} {k kb k2 g : Nat} {test y0 e1 e2 y2 tg1 : Expr} {xr : Str} {pr : Pos} {many : Nat} {prs : List (Str × Str)} {sub : Str × Str → List Row} {St : L2.St → Hp → Prop} {q : Nat → Pos}
/-- the loops -/
theorem ev_loops (E : Ev G F kb k2 g test y0 e1 e2 y2 tg1 (.Name xr pr) many prs sub St) (ok : F.Ok G) (hy : F.yf = false) (hd : G.d < F.n) (hroom : ∀ A, Room k A → Room kb (A.deeper F.env) ∧ Room k2 (A.deeper F.env).in1) (hco : F.env.scope.isCoroutine = false) (hin : interactive F.env = false) (hN5 : 5 < F.N.length)
    (hs1 : ∀ x, foldedSetIterable e1 F.env x = pure x) (hs2 : ∀ x, foldedSetIterable e2 F.env x = pure x) (bodyF : List Stmt) (J : Value → Sem PySem.Fin) (K0 : Flow → Sem PySem.Fin)
    (hK : K0 .next = .pure (.done (.ret .none)))
    (A : Around) (H0 : Hp) (s0 : Shared) (xp : List (Addr × Obj)) (σ : L2.St) (H : Hp) (s : Shared) (hr : Room k A) (hA : A.frames = some F.outer) (N : Nw G F (A.deeper F.env) g St xp H0 s0 σ H s) (hx : ∀ p ∈ xp, p.1 ≠ F.n) :
    Stretch (M2 G.P G.w) A (Eo G F xp H0 s0 (later prs sub 0) (Rdy G F k g)) (.func bodyF F.env) ((execs [.For tg1 e1 [.For (.Name xr pr) e2 [.Expr (.Yield (some y2) (q 4)) (q 5)] [] (q 6)] [] (q 7)] F.env).wrap K0 J id id) [] s := by
  have I := N.inv
  obtain ⟨w, pi, hw⟩ := E.e1 (A.deeper F.env) H0 s0 (hroom A hr).1
  refine stw_cons (stw_for hs1 ?_)
  rw [GenW.over_func]
  refine tr_more (Rx.here s) (pi.run xp (numb s) σ H (fun J H' => ∃ a xs, J = Itl G.K a ∧ Exm G.d H H' ∧ G.good H' ∧ SqL G.K H' a xs ∧ Paired (PairV G.K H') xs prs) (inv_numb I) (hw σ H _ N.st N.good fun a xs H' h1 h2 h3 h4 => ⟨a, xs, rfl, h1, h2, h3, h4⟩)) (fun v z1 s1 k1 h1 => tr_more k1 h1 (fun itv z2 s2 k2 h2 => ?_) fun _ _ _ _ q => q) fun _ _ _ _ q => q
  obtain ⟨it, fp, tn, J', H2, rfl, I2', T, st2, f2, a, xs, rfl, x2, gd2, hxs, hps⟩ := h2
  have I2 : Inv (gcx G F (A.deeper F.env) H0 s0) xp σ H2 s2 := inv_aft k2.aft I.bare I2'
  have n2 : Ny s2.gens := k2.aft.ny I2'.bare N.ny
  rw [k2.rl.heap] at st2
  intro pp l kk hkk
  have lo : ∀ b ∈ fp, F.n < b := fun b hb => by
    obtain ⟨_, h2, _, h3, _⟩ := f2 b hb
    rcases h3 with h3 | h3
    · cases h3
    · have h3 : (cut s0.heap F.n).objs.size ≤ b := h3
      rw [cut_size_eq N.n] at h3
      exact Nat.lt_of_le_of_ne h3 (Ne.symm h2)
  refine ev_outer E ok hy hd hroom hco hin hN5 hs2 fp it a tn ⟨T, lo⟩ bodyF kk l pp (fun A Φ s z => hkk A Φ s .next (stw_nil (by rw [hK]; exact st_end (.ok (.ret .none)) z))) _ 0 rfl A H0 s0 xp σ H2 s2 xs hr hA
    ⟨I2, n2, N.os, (kpM G.d).trans N.ex x2, gd2, E.in_ _ _ _ _ N.st rfl x2 gd2, Nat.le_trans N.sz k2.aft.size, N.g, N.n⟩ hxs hps st2 (fun b hb => ⟨(f2 b hb).1, fun p hp => (f2 b hb).2.2.2.2.2 p hp⟩) hx
/-- all rows -/
def rowsOf (many : Nat) (prs : List (Str × Str)) (sub : Str × Str → List Row) : List Row := (if many = 0 then [[]] else []) ++ later prs sub 0
/-- a fresh one is ready -/
theorem ev_rdy (E : Ev G F kb k2 g test y0 e1 e2 y2 tg1 (.Name xr pr) many prs sub St) (ok : F.Ok G) (hy : F.yf = false) (hd : G.d < F.n) (hroom : ∀ A, Room k A → Room kb (A.deeper F.env) ∧ Room k2 (A.deeper F.env).in1) (hco : F.env.scope.isCoroutine = false) (hin : interactive F.env = false) (hN5 : 5 < F.N.length)
    (hs1 : ∀ x, foldedSetIterable e1 F.env x = pure x) (hs2 : ∀ x, foldedSetIterable e2 F.env x = pure x) {oF : Obj} {σ : L2.St} {Hs : Hp} (gd : G.good Hs) (hF : Fr0 F σ oF) (hc : ∀ v, oF.data ≠ .cell v) (hl : σ.length = F.N.length) (st : St σ Hs) :
    Rdy G F k g (rowsOf many prs sub) (.fresh (.func (evBody test y0 e1 e2 y2 tg1 (.Name xr pr) q) F.env)) [(F.n, oF)] [] Hs := by
  have hAd : ∀ {A : Around}, A.frames = some F.outer → (A.deeper F.env).frames = some (F.env :: F.outer) := fun {A} hA => by
    unfold Around.deeper
    show A.frames.map _ = _
    rw [hA]
    rfl
  refine rdy_iff.mpr ⟨gd, ⟨oF, List.mem_cons_self⟩, fun p hp => ?_, (fun x h => nomatch h), fun A s H xp hr hA hex wk => ?_⟩
  · rw [List.mem_singleton] at hp
    subst hp
    exact ⟨Nat.le_refl _, fun z => absurd (ok.frs _ z) (Nat.lt_irrefl _), hc⟩
  · show Stretch _ _ _ _ _ [] s
    have p0 := wk.pin (F.n, oF) (List.mem_append_left _ List.mem_cons_self)
    have I : Inv (gcx G F (A.deeper F.env) H s) xp σ H s := wake_inv ok wk (hAd hA) hr.hd p0.1 p0.2.1 hF hl fun q hq => ⟨List.mem_append_right _ hq, (wk.apart q hq).1⟩
    have hx : ∀ p ∈ xp, p.1 ≠ F.n := fun p hp => (wk.apart p hp).1
    have gd1 : G.good H := E.goodn _ _ gd hex
    have st1 : St σ H := E.out _ _ _ st hex
    have hn : F.n ≤ s.heap.objs.size := Nat.le_of_lt (Heap.lt_size p0.1)
    refine st_func fun J => ?_
    unfold evBody
    obtain ⟨tt, pt, ht⟩ := E.test (A.deeper F.env) H s (hroom A hr).1
    refine stw_cons (stw_if ?_)
    rw [GenW.over_func]
    refine thn (pt_af pt I (ht σ H (fun b H' => b = decide (many = 0) ∧ Ex H H') st1 fun H' x => ⟨rfl, x⟩)) fun b s1 ⟨H1, I1, af1, hb, x1⟩ => ?_
    subst hb
    have gd2 : G.good H1 := E.goodx _ _ gd1 x1
    have st2 : St σ H1 := E.in_ _ _ _ _ st1 rfl (ex_exm x1) gd2
    have N1 : Nw G F (A.deeper F.env) g St xp H s σ H1 s1 := ⟨I1, af1.ny wk.ny, wk.os, ex_exm x1, gd2, st2, af1.sz, wk.sz, hn⟩
    by_cases hm : many = 0
    · rw [if_pos (by simpa using hm)]
      unfold rowsOf
      rw [if_pos hm, E.none0 hm, later_end (Nat.zero_le _), List.append_nil]
      obtain ⟨ty, py, wy⟩ := E.y0 (A.deeper F.env) H s (hroom A hr).1
      refine stw_cons (stw_yield (by rfl) rfl hco hin ?_)
      rw [GenW.over_func]
      refine thn (pe_af py I1 (wy σ H1 (fun v H' => Ex H1 H' ∧ RowV G.K H' v []) fun v H' x r => ⟨x, r⟩)) fun u s2 ⟨v, H2, I2, af2, ru, x2, rv⟩ => ?_
      intro pp kk l hkk
      have gd3 : G.good H2 := E.goodx _ _ gd2 x2
      have st3 : St σ H2 := E.in_ _ _ _ _ st2 rfl (ex_exm x2) gd3
      obtain ⟨oF2, f1, f2, f3⟩ := frame_of ok I2
      refine ⟨H2, po_of I2 (af2.ny N1.ny) ((kpM G.d).trans (ex_exm x1) (ex_exm x2)) gd3 (Nat.le_trans af1.sz af2.sz) fun p hp => hp, v, u, l, kk, _, pp, [], [(F.n, oF2)], [], rfl, fun _ => rfl, rfl, ru, rv, ?_, ?_, (fun x h => nomatch h), ?_⟩
      · intro p hp
        rw [List.mem_singleton] at hp
        subst hp
        exact ⟨f1, I2.free⟩
      · intro p hp
        refine ⟨hx p hp, fun q' hq' => ?_⟩
        rw [List.mem_singleton] at hq'
        subst hq'
        exact (hx p hp).symm
      · refine rdy_iff.mpr ⟨gd3, ⟨oF2, List.mem_cons_self⟩, fun p hp => ?_, (fun x h => nomatch h), fun A' s' H'' xp' hr' hA' hex' wk' => ?_⟩
        · rw [List.mem_singleton] at hp
          subst hp
          exact ⟨Nat.le_refl _, fun z => absurd (ok.frs _ z) (Nat.lt_irrefl _), f3⟩
        · show Stretch _ _ _ _ (kk (.send .none)) _ s'
          have p0 := wk'.pin (F.n, oF2) (List.mem_append_left _ List.mem_cons_self)
          have I5 : Inv (gcx G F (A'.deeper F.env) H'' s') xp' σ H'' s' := wake_inv ok wk' (hAd hA') hr'.hd p0.1 p0.2.1 f2 I2.len fun q hq => ⟨List.mem_append_right _ hq, (wk'.apart q hq).1⟩
          refine hkk A' _ s' (stw_nil ?_)
          have := ev_loops (q := q) E ok hy hd hroom hco hin hN5 hs1 hs2 (evBody test y0 e1 e2 y2 tg1 (.Name xr pr) q) J (fun f => .pure (.done (.ret (match f with | .ret v => v | _ => .none)))) rfl A' H'' s' xp' σ H'' s' hr' hA'
            ⟨I5, wk'.ny, wk'.os, exm_id, E.goodn _ _ gd3 hex', E.out _ _ _ st3 hex', Nat.le_refl _, wk'.sz, Nat.le_of_lt (Heap.lt_size p0.1)⟩ fun p hp => (wk'.apart p hp).1
          rw [E.none0 hm, later_end (Nat.zero_le _)] at this
          exact this
    · rw [if_neg (by simpa using hm)]
      unfold rowsOf
      rw [if_neg hm, List.nil_append]
      refine stw_nil ?_
      exact ev_loops (q := q) E ok hy hd hroom hco hin hN5 hs1 hs2 (evBody test y0 e1 e2 y2 tg1 (.Name xr pr) q) J (fun f => .pure (.done (.ret (match f with | .ret v => v | _ => .none)))) rfl A H s xp σ H1 s1 hr hA N1 hx
end
end CH
/-! text G13 -/
/-! Making a generator. -/
namespace CH
open PySem PySem.Spec PyProof.Rows L2 Evl
open Sem (wp)
section
variable {prog : Program} {w : World} {A : Around} {s : Shared} {R : Result → Shared → Prop}
theorem code2_gen {a : Addr} {args : Args} {o : Obj} {fd : FuncData} {body : List Stmt} (room : A.depth < recursionLimit) (ho : s.heap.get? a = some o) (hd : o.data = .func fd) (h1 : fd.scope.isCoroutine = false) (h2 : fd.scope.isGenerator = true)
    (hb : fd.body = .stmts body) (hc : s.heap.CodeRec fd.code fd.qualname)
    (h : wpAny (M2 prog w) A.in1 (bindArgs fd args) (fun bs s₁ => wpAny (M2 prog w) A.in1 (newFunctionEnv fd.scope fd.globals fd.closure bs (fd.qualname ++ ".<locals>.") (some a) fd.code none fd.builtins)
      (fun env s₂ => s₂.heap.NoLimit ∧ ∀ nm qn, R (.ok (.ret (.ref s₂.heap.objs.size)))
          { s₂ with gens := s₂.gens.push (.fresh (.func body env)), toks := s₂.toks + 1 + 1, heap := s₂.heap.push { cls := .type "generator", data := .fields #[.int s₂.gens.size 0, nm, qn] } }) (fun e s' => R (.error e) s') s₁) (fun e s' => R (.error e) s') s) : codeAny (M2 prog w) A (.call (.ref a) args) R s := by
  refine codeAny_of_tree ?_
  rw [den_call]
  show wpAny _ A.in1 (callAny (.ref a) args) _ _ s
  obtain ⟨c, oc, vs, tq, e, ho2, hd2, hq⟩ := hc
  rw [e] at h
  simp only [callAny]
  refine wpAny_bind (wpAny_load ho ?_)
  simp only [hd, callFunction, h1, h2, hb, e]
  refine wpAny_bind (m := field (.ref c) 1) (wpAny_field ho2 hd2 hq (wpAny_bind (wpAny_pure ?_)))
  refine wpAny_bind (wpAny_mono h (fun bs s₁ k => wpAny_bind (wpAny_mono k (fun env s₂ k2 => wpAny_bind (wpAny_enterFrame k2.1 room ?_)) fun _ _ q => q)) fun _ _ q => q)
  simp only [newGenerator, newFields]
  exact wpAny_bind (wpAny_bind (wpAny_newGen (wpAny_bind (wpAny_mkText (wpAny_bind (wpAny_mkText (wpAny_newObj_type (wpAny_pure (k2.2 _ _)) (by size_fits))))))))
end
abbrev noG (sc : Scope) : Scope := { sc with isGenerator := false }
/-- the context's program is the group's -/
structure Of (G : Gp) (X : Cx) : Prop where
  prog : X.prog = G.P
  w : X.w = G.w
  K : X.K = G.K
  mg : X.mg = G.mg
  base : X.base = G.base
theorem Of.of_gcx {G : Gp} {F : Gf} {A : Around} {H : Hp} {s : Shared} : Of G (gcx G F A H s) := ⟨rfl, rfl, rfl, rfl, rfl⟩
/-- a new generator in its maker's hands -/
structure Gn (G : Gp) (X : Cx) (pins : List (Addr × Obj)) (σ : L2.St) (H : Hp) (s : Shared) (body : List Stmt) (env : Env) (N : List Str) (σ0 : L2.St) (a2 : Addr) (oF o2 : Obj) (s' : Shared) : Prop where
  inv : Inv X pins σ H s'
  ny : Ny s'.gens
  gens : s'.gens = s.gens.push (.fresh (.func body env))
  at_ : env.locals = s.heap.objs.size
  na : env.locals < a2
  isG : IsG o2 s.gens.size
  slot : slotOf o2 ≤ 0
  ho : s'.heap.get? a2 = some o2
  hF : s'.heap.get? env.locals = some oF
  fr : ∀ yf, Fr0 ⟨env, X.stack, N, yf⟩ σ0 oF
  nc : ∀ v, oF.data ≠ .cell v
  fn : H env.locals = none
  fa : H a2 = none
  keep : ∀ b o, s.heap.get? b = some o → s'.heap.get? b = some o
  ok : ∀ yf, Gf.Ok G ⟨env, X.stack, N, yf⟩
theorem cells_none : ∀ (names : List (Str × NameKind)) (n : Nat) (acc : List (Str × Addr)), (∀ y ∈ names, y.2 ≠ .cell) → cellsFrom n names acc = acc
  | [], _, _, _ => rfl
  | (name, kind) :: r, n, acc, h => by
    unfold cellsFrom
    have hk : kind ≠ .cell := h (name, kind) List.mem_cons_self
    rw [if_neg (by cases kind <;> first | exact absurd rfl hk | decide)]
    exact cells_none r _ _ fun y hy => h y (List.mem_cons_of_mem _ hy)
section
variable {G : Gp} {X : Cx} {pins : List (Addr × Obj)} {σ : L2.St} {H : Hp} {s : Shared} {x qual : Str} {N ps : List Str} {dvs : List V} {kws : List (Str × V)} {fd : FuncData} {f : Addr} {args0 : Arguments} {body : List Stmt} {sc : Scope}
theorem gen_call (L : Of G X) (F : FunD X.K x qual args0 body sc dvs kws f fd) (S : FnScope N ps (noG sc)) (hg : sc.isGenerator = true) (hce : ∀ y ∈ sc.names, y.2 ≠ .cell) (I : Inv X pins σ H s) (n : Ny s.gens) (hr : Room 1 X.A) {args : Args} {us : List Value} {vs : List V} (hb : BindsTo s fd args (ps.zip us)) (r : Vals vs us) (hl : vs.length = ps.length) :
    codeAny (M2 X.prog X.w) X.A (.call (.ref f) args) (fun rr s' => ∃ a2 oF o2 cdv, rr = .ok (.ret (.ref a2)) ∧ Gn G X pins σ H s body (envOfC qual sc s.heap.objs.size f cdv) N (start N vs) a2 oF o2 s') s := by
  obtain ⟨oc, od, dV, kV, doc, pm, an, cdv, ct, osl, rfl, lk, hcd, _, _⟩ := F.ex
  have e0 := I.env0
  have KX : X.K.In s.heap := I.kIn
  have lim : s.heap.NoLimit := I.nolimit
  have hk : ∀ y ∈ ps.zip us, sc.names.lookup y.1 = some .local ∨ (sc.names.lookup y.1 = some .cell ∧ ((cellsFrom (s.heap.objs.size + 1) sc.names []).lookup y.1).isSome = true) := fun y hy => by
    rcases S.par y.1 (List.of_mem_zip (show (y.1, y.2) ∈ _ from hy)).1 with q | q
    · exact .inl q
    · exact .inr ⟨q, PySem.W.cellsFrom_some _ _ _ (.inl q)⟩
  refine code2_gen hr.depth (KX _ _ lk) rfl S.co hg rfl (PySem.W.codeRec_of KX hcd) (hb _ _ _ _ (wpAny_newFunctionEnv_cells S.kind hk fun env he s1 ic => ?_))
  subst he
  have I0 : Inv (cxOf CX0 X.prog X.w X.K X.mg X.base N qual (noG sc) f cdv X.A X.stack s H E0) [] (start N vs) H s1 := inv_start S hr.hd e0 hl r ic
  obtain ⟨h1, tk, hs1, hkeep⟩ := id ic.done
  refine ⟨lim.keeps ic.toInCall.keep, fun nm qn => ⟨s1.heap.objs.size, ?_⟩⟩
  have hcl : cellsFrom (s.heap.objs.size + 1) sc.names [] = [] := cells_none _ _ _ hce
  obtain ⟨m, ⟨oF, es, ep, ho, hd, hk1, hm⟩, hl1⟩ := I0.loc
  have keep2 : ∀ b o, s.heap.get? b = some o → (s1.heap.push { cls := .type "generator", data := .fields #[.int s1.gens.size 0, nm, qn] }).get? b = some o := fun b o e => Heap.get?_push_of_some _ (ic.toInCall.keep b o e)
  have hF : s1.heap.get? s.heap.objs.size = some oF := ho
  refine ⟨oF, { cls := .type "generator", data := .fields #[.int s1.gens.size 0, nm, qn] }, cdv, rfl, ?_⟩
  have eg : s1.gens = s.gens := by rw [hs1]
  have lt1 : s.heap.objs.size < s1.heap.objs.size := Heap.lt_size hF
  have I1 : Inv X pins σ H s1 := by rw [hs1]; exact I.kept (t' := tk) hkeep
  have I2 : Inv X pins σ H { s1 with toks := s1.toks + 1 + 1, heap := s1.heap.push { cls := .type "generator", data := .fields #[.int s1.gens.size 0, nm, qn] } } := I1.kept fun b o e => Heap.get?_push_of_some _ e
  have fsz : ∀ b ∈ frs X.stack, b < s.heap.objs.size := fun b hb => by
    rcases List.mem_cons.mp (I.stkSub b hb) with h | h
    · rw [h]; exact I.lt
    · exact Nat.lt_of_not_le fun z => I.nofs z h
  refine {
    inv := inv_state I2 rfl rfl fun y hy => ?_
    ny := fun i k l c p fs cl e h => ?_
    gens := ?_
    at_ := rfl
    na := lt1
    isG := ⟨rfl, nm, qn, by rw [← eg]⟩
    slot := Int.le_refl 0
    ho := Heap.get?_push_size _ rfl
    hF := Heap.get?_push_of_some _ hF
    fr := fun yf => ⟨m, es, ep, hd, hk1, hm, fun i x v e1 e2 e3 => ?_⟩
    nc := fun v e => by rw [hd] at e; cases e
    fn := I.hok.fresh (Nat.le_refl _)
    fa := I.hok.fresh (Nat.le_of_lt lt1)
    keep := keep2
    ok := fun yf => ?_ }
  · rcases Array.mem_push.mp (show y ∈ s1.gens.push _ from hy) with h | rfl
    · rw [eg] at h; exact I.bare y h
    · rfl
  · have e : (s1.gens.push (.fresh (.func body _)))[i]? = some (.suspended k l c p fs cl) := e
    rw [eg, Array.getElem?_push] at e
    split at e
    · cases e
    · exact n i k l c p fs cl e h
  · exact congrArg (fun z => Array.push z _) eg
  · obtain ⟨u, ru, l⟩ := hl1 i x v e1 e2 e3
    refine ⟨u, ru, ?_⟩
    rcases l with l | ⟨k, c, hc, _⟩
    · exact l
    · rw [show (cxOf CX0 X.prog X.w X.K X.mg X.base N qual (noG sc) f cdv X.A X.stack s H E0).env.cells = [] from hcl] at hc
      cases hc
  · exact {
      mod := by rw [← L.K, ← L.mg, ← L.base]; exact I.ok.mod
      kind := S.kind
      glob := rfl
      blt := rfl
      frame := rfl
      cells := hcl
      names := fun y => ⟨fun z => hce _ (PySem.mem_of_lookup (show sc.names.lookup y = some .cell from z)) rfl, fun z => S.nofree _ (PySem.mem_of_lookup (show sc.names.lookup y = some .free from z)) rfl⟩
      bsz := by rw [← L.base]; exact e0.bsz
      frs := fsz }
theorem Gn.wt {env : Env} {σ0 : L2.St} {a2 : Addr} {oF o2 : Obj} {s' : Shared} {yf : Bool} {k : Nat} {rows : List Row} (g : Gn G X pins σ H s body env N σ0 a2 oF o2 s') (I : Inv X pins σ H s) (rdy : Rdy G ⟨env, X.stack, N, yf⟩ k s.gens.size rows (.fresh (.func body env)) [(env.locals, oF)] [] H)
    (xp : List (Addr × Obj)) (hxp : ∀ q ∈ xp, s'.heap.get? q.1 = some q.2 ∧ H q.1 = none ∧ q.1 ∉ frs X.stack ∧ (∀ v, q.2.data ≠ .cell v) ∧ q.1 < env.locals) : Wt G ⟨env, X.stack, N, yf⟩ k s.gens.size rows (.fresh (.func body env)) [(env.locals, oF)] ((a2, o2) :: xp) [] H s' := by
  have fsz : ∀ {b : Addr}, s.heap.objs.size ≤ b → b ∉ frs X.stack := fun {b} hb z => by
    rcases List.mem_cons.mp (I.stkSub b z) with h | h
    · rw [h] at hb; exact absurd (Nat.lt_of_lt_of_le I.lt hb) (Nat.lt_irrefl _)
    · exact I.nofs hb h
  have l1 : s.heap.objs.size ≤ env.locals := Nat.le_of_eq g.at_.symm
  refine ⟨⟨H, rdy, fun a o e _ => e⟩, ?_, g.ny.x _, fun p hp => ?_, fun p hp => ?_, fun x h => nomatch h⟩
  · rw [g.gens]
    exact Array.getElem?_push_size
  · rcases List.mem_append.mp hp with h | h
    · rw [List.mem_singleton] at h
      subst h
      exact ⟨g.hF, g.fn, fsz l1, g.nc⟩
    · rcases List.mem_cons.mp h with rfl | h
      · refine ⟨g.ho, g.fa, fsz (Nat.le_trans l1 (Nat.le_of_lt g.na)), fun v e => ?_⟩
        obtain ⟨_, nm, qn, hd⟩ := g.isG
        rw [hd] at e
        cases e
      · obtain ⟨h1, h2, h3, h4, _⟩ := hxp p h
        exact ⟨h1, h2, h3, h4⟩
  · rcases List.mem_cons.mp hp with rfl | h
    · refine ⟨Nat.ne_of_gt g.na, fun q hq => ?_⟩
      rw [List.mem_singleton] at hq
      subst hq
      exact Nat.ne_of_lt g.na
    · have := (hxp p h).2.2.2.2
      refine ⟨Nat.ne_of_lt this, fun q hq => ?_⟩
      rw [List.mem_singleton] at hq
      subst hq
      exact Nat.ne_of_gt this
end
end CH
/-! text E1 -/
/-! Making a generator by a method. -/
namespace CH
open PySem PySem.Spec PyProof.Rows L2 Evl RZ
open Sem (wp)
section
variable {X : Cx} {pins : List (Addr × Obj)} {σ : L2.St} {H : Hp} {s : Shared} {a C dx g : Addr} {vs : List (Option V)} {m : Str}
theorem gm2 {pl : Sem Bool} {Q : Value × List Value → Shared → Prop} (I : Inv X pins σ H s) (e : SlX.Slt H a C dx vs) (c : SlX.SCls X.K C) (k : Meth X.K C m g) (h : Q (.ref g, [.ref a]) s) : wpAny (M2 X.prog X.w) X.A (getMethod (.ref a) m pl) Q NoE s := by
  refine tr_more (Rx.here s) (Q := fun r z => r = (.ref g, [.ref a]) ∧ z = numb s) (E := NoE) (SlX.getmethsl_ok (X := X.nox) (inv_numb (I.wish _)) e c k ⟨rfl, rfl⟩) (fun r z s' kx q => ?_) fun _ _ _ _ q => q
  obtain ⟨rfl, rfl⟩ := q
  rw [kx.same]
  exact h
end
section
variable {X : Cx} {pins : List (Addr × Obj)} {σ : L2.St} {H : Hp} {s : Shared} {es : List Expr} {ta : TA}
theorem pa_af {Q : List V → Hp → Prop} (h : PA X.nox es ta) (pos : Pos) (I : Inv X pins σ H s) (hw : ta σ H Q) : wpAny (M2 X.prog X.w) X.A (spliced (backTo pos (starEach es X.env))) (fun us s' => ∃ vs H', Inv X pins σ H' s' ∧ Af s s' ∧ Vals vs us ∧ Q vs H') NoE s :=
  tr_more (Rx.here s) (h.run pos pins (numb s) σ H Q (inv_numb (I.wish _)) hw) (fun _ z s' k ⟨v, H', I', r, q⟩ => ⟨v, H', (inv_aft k.aft I.bare I').unwish, ⟨z, k.aft, I'.bare⟩, r, q⟩) fun _ _ _ _ q => q
end
section
variable {G : Gp} {X : Cx} {pins : List (Addr × Obj)} {σ : L2.St} {H : Hp} {s : Shared} {C f : Addr} {m x qual : Str} {N ps : List Str} {dvs : List V} {kws : List (Str × V)} {fd : FuncData} {args0 : Arguments} {body : List Stmt} {sc : Scope} {o e : Expr} {es : List Expr} {te : TE} {t : TA} {pos apos : Pos}
theorem meth_gen {pl : Sem Bool} (L : Of G X) (F : FunD X.K x qual args0 body sc dvs kws f fd) (S : FnScope N ps (noG sc)) (hg : sc.isGenerator = true) (hce : ∀ y ∈ sc.names, y.2 ≠ .cell) (hb : ∀ (s : Shared) (us : List Value), us.length = ps.length → BindsTo s fd ⟨us, []⟩ (ps.zip us))
    (c : SlX.SCls X.K C) (mt : Meth X.K C m f) (he : PE X.nox o te) (ha : PA X.nox (e :: es) t) (I : Inv X pins σ H s) (n : Ny s.gens) (hr : Room 1 X.A) (Post : List V → Hp → Prop)
    (h : te σ H fun y H1 => ∃ a dx vs, y = .ref a ∧ SlX.Slt H1 a C dx vs ∧ t σ H1 fun ws H2 => (V.ref a :: ws).length = ps.length ∧ Post (.ref a :: ws) H2)
    (hst : starEach (e :: es) X.env = (false, eval e X.env) :: starEach es X.env := by rfl) (hpl : (backTo pos (starEach es X.env)).any (·.1) = false := by rfl)
    (ht : eval (.Call (.Attribute o m apos) (e :: es) [] pos) X.env = (do
      let ov ← eval o X.env
      standAt apos.atName
      let (f, first) ← holding [ov] (getMethod ov m pl)
      callWith pos f first (backTo pos (starEach (e :: es) X.env)) (backToKw pos (keywordEach [] X.env))) := by rfl) :
    wpAny (M2 X.prog X.w) X.A (eval (.Call (.Attribute o m apos) (e :: es) [] pos) X.env) (fun u s' => ∃ vs H1 s1 a2 oF o2 cdv, u = .ref a2 ∧ Inv X pins σ H1 s1 ∧ s.gens.size ≤ s1.gens.size ∧ Ny s1.gens ∧ Post vs H1 ∧ Gn G X pins σ H1 s1 body (envOfC qual sc s1.heap.objs.size f cdv) N (start N vs) a2 oF o2 s') NoE s := by
  rw [ht]
  refine wpAny_bind (thn (pe_af he I h) fun u s1 ⟨y, H1, I1, af1, ry, a, dx, vs, ey, hsl, q⟩ => ?_)
  subst ey
  cases ry
  refine wpAny_bind (wpAny_standAt (wpAny_bind (wpAny_holding (gm2 I1 hsl c mt ?_))))
  refine PySem.W.callWith_K (first := [.ref a]) (h₀ := X.base) I.ok.mod.kin mt.kp (thn (pa_af ha pos I1 q) fun us s2 ⟨ws, H2, I2, af2, r, hl, post⟩ => ⟨I2.kIn, ?_⟩) hst hpl
  have n2 := af2.ny (af1.ny n)
  have rv : Vals (V.ref a :: ws) (Value.ref a :: us) := .cons rfl r
  refine wpAny_call (codeAny_mono (gen_call L F S hg hce I2 n2 hr (hb s2 (Value.ref a :: us) (by rw [← rv.length]; exact hl)) rv hl) fun rr s3 hq => ?_)
  obtain ⟨a2, oF, o2, cdv, rfl, gn⟩ := hq
  exact ⟨_, H2, s2, a2, oF, o2, cdv, rfl, I2, Nat.le_trans af1.sz af2.sz, n2, post, gn⟩
end
end CH
/-! text E2 -/
/-! The generator `every`. -/
namespace CH
open PySem PySem.Spec PyProof.Rows L2 Evl RZ
open Sem (wp)
abbrev sEvery : Stmt := inn 17 9
abbrev nEvery : List Str := ["self", "left", "many", "one", "other", "row"]
theorem scEvery : FnScope nEvery ["self", "left", "many"] (noG (defScope sEvery)) := ⟨rfl, rfl, rfl, by decide +kernel, rfl, by decide +kernel, by decide +kernel⟩
def evParts : Expr × Expr × Expr × Expr × Expr × Expr × Str × Pos × (Nat → Pos) := match defBody sEvery with
  | [.If test [.Expr (.Yield (some y0) p1) p2] [] p3, .For tg1 e1 [.For (.Name x pr) e2 [.Expr (.Yield (some y2) p4) p5] [] p6] [] p7] => (test, y0, e1, e2, y2, tg1, x, pr, fun i => match i with | 1 => p1 | 2 => p2 | 3 => p3 | 4 => p4 | 5 => p5 | 6 => p6 | _ => p7)
  | _ => (.Name Str.empty ⟨0, 0, 0, 0⟩, .Name Str.empty ⟨0, 0, 0, 0⟩, .Name Str.empty ⟨0, 0, 0, 0⟩, .Name Str.empty ⟨0, 0, 0, 0⟩, .Name Str.empty ⟨0, 0, 0, 0⟩, .Name Str.empty ⟨0, 0, 0, 0⟩, Str.empty, ⟨0, 0, 0, 0⟩, fun _ => ⟨0, 0, 0, 0⟩)
abbrev evTest : Expr := evParts.1
abbrev evY0 : Expr := evParts.2.1
abbrev evE1 : Expr := evParts.2.2.1
abbrev evE2 : Expr := evParts.2.2.2.1
abbrev evY2 : Expr := evParts.2.2.2.2.1
abbrev evTg : Expr := evParts.2.2.2.2.2.1
abbrev evX : Str := evParts.2.2.2.2.2.2.1
abbrev evP : Pos := evParts.2.2.2.2.2.2.2.1
abbrev evQ : Nat → Pos := evParts.2.2.2.2.2.2.2.2
theorem every_body : defBody sEvery = evBody evTest evY0 evE1 evE2 evY2 evTg (.Name evX evP) evQ := by rfl
theorem kpN (d : Addr) : Kp (Exn d) where
  refl := fun _ _ _ e _ => e
  trans := fun a b => exn_trans a b
  ex := fun h x o e _ => h x o e
  keep := fun h e k => h _ _ e fun kvs z => absurd z (k kvs)
  mtn := fun h n x o e k => by rw [upd_ne (ne_of_none e n)]; exact h x o e k
section
variable {G : Gp} {F : Gf} {kb g : Nat} {C f : Addr} {near : Rows} {left : List Str} {many : Nat} {v u : V}
/-- what holds of every's arguments -/
def EvSt (C d : Addr) (near : Rows) (left : List Str) (many : Nat) (v u : V) (σ : L2.St) (H : Hp) : Prop := σ.take 3 = [some v, some u, some (.int many)] ∧ SwI C H v d near ∧ NS H u left
theorem EvSt.at0 {C d : Addr} {σ : L2.St} {H : Hp} (h : EvSt C d near left many v u σ H) : σ[0]? = some (some v) ∧ σ[1]? = some (some u) ∧ σ[2]? = some (some (.int many)) := by
  have h := h.1
  match σ, h with
  | a :: b :: c :: r, h =>
    simp at h
    obtain ⟨rfl, rfl, rfl⟩ := h
    exact ⟨rfl, rfl, rfl⟩
abbrev evPrs (near : Rows) (left : List Str) (many : Nat) : List (Str × Str) := if many = 0 then [] else firstsN near left many
abbrev evRows (near : Rows) (n : Nat) (left : List Str) : List Row := GE.every (nearF near) ltS (nms near) n left
abbrev evEnv (L f : Addr) (cdv : Value) : Env := envOfC "Swapping.every" (defScope sEvery) L f cdv
theorem goodM_exn {d : Addr} {H H' : Hp} (g : GoodM d near H) (h : Exn d H H') : GoodM d near H' := let ⟨kvs, e, m⟩ := g; ⟨kvs, h _ _ e fun _ _ => rfl, m⟩
theorem goodM_ex {d : Addr} {H H' : Hp} (g : GoodM d near H) (h : Ex H H') : GoodM d near H' := let ⟨kvs, e, m⟩ := g; ⟨kvs, h _ _ e, m⟩
theorem evRows_len {near : Rows} : ∀ {n : Nat} {left : List Str} {r : Row}, r ∈ evRows near n left → r.length = n
  | 0, left, r, h => by rw [List.mem_singleton.mp h]; rfl
  | n + 1, left, r, h => by
    obtain ⟨p, hp, hr⟩ := List.mem_flatMap.mp h
    obtain ⟨r', h1, rfl⟩ := List.mem_map.mp hr
    rw [List.length_cons, evRows_len h1]
theorem every_ev {L : Addr} {cdv : Value} {outer : List Env} {fd : FuncData} {k2 : Nat} (hF : F = ⟨evEnv L f cdv, outer, nEvery, false⟩) (hgood : G.good = GoodM G.d near) (T : Blt G.mg) (S : SwC G.K G.mg C) (MF : MtP G.P G.w G.K G.mg G.base C "firsts" 11 (spFirsts C)) (MB : MtP G.P G.w G.K G.mg G.base C "behind" 1 (spBehind G.K))
    (FE : FunD G.K "every" "Swapping.every" (defArgs sEvery) (defBody sEvery) (defScope sEvery) [] [] f fd) (ME : Meth G.K C "every" f) (nok : NearOk near) (hsub : left.Sublist (nms near)) (hmany : many ≤ 8) (hd : G.d < L)
    (IH : ∀ (left' : List Str) (L' : Addr) (cdv' : Value) (g' : Nat) (oF : Obj) (σ' : L2.St) (H' : Hp) (u' : V), 0 < many → left'.Sublist (nms near) → Gf.Ok G ⟨evEnv L' f cdv', F.env :: F.outer, nEvery, false⟩ → G.d < L' → GoodM G.d near H' → Fr0 ⟨evEnv L' f cdv', F.env :: F.outer, nEvery, false⟩ σ' oF → (∀ v, oF.data ≠ .cell v) → σ'.length = 6 → EvSt C G.d near left' (many - 1) v u' σ' H' →
      Rdy G ⟨evEnv L' f cdv', F.env :: F.outer, nEvery, false⟩ k2 g' (evRows near (many - 1) left') (.fresh (.func (defBody sEvery) (evEnv L' f cdv'))) [(L', oF)] [] H') :
    Ev G F 12 k2 g evTest evY0 evE1 evE2 evY2 evTg (.Name evX evP) many (evPrs near left many) (fun p => evRows near (many - 1) (behL left p.1 p.2)) (EvSt C G.d near left many v u) := by
  subst hF
  have nd := scEvery.nd
  refine {
    in_ := fun σ σ' H H' h e1 e2 _ => ⟨e1.trans h.1, h.2.1.mono (kpM G.d) e2, h.2.2.mono (kpM G.d) e2⟩
    out := fun σ H H' h e => ⟨h.1, h.2.1.mono (kpN G.d) e, h.2.2.mono (kpN G.d) e⟩
    goodn := fun H H' g e => by rw [hgood] at g ⊢; exact goodM_exn g e
    goodx := fun H H' g e => by rw [hgood] at g ⊢; exact goodM_ex g e
    none0 := fun h => if_pos h
    short := fun p hp r hr => ?_
    test := fun A H0 s0 hr => ⟨_, pt_cmpR op_eq (pv 2) pe_int (nomark _), fun σ H Q st q => ?_⟩
    y0 := fun A H0 s0 hr => ⟨_, pe_tup pa_nil, fun σ H Q q => ?_⟩
    e1 := fun A H0 s0 hr => ⟨_, pi_list (pe_ifExp (pt_cmpR op_gt (pv 2) pe_int (nomark _)) (pe_mt MF S.cls (pv 0) (hr.mono (by decide)) (pa_cons (pv 1) (pa_cons (pv 2) pa_nil))) (pe_lst pa_nil)), fun σ H R st g q => ?_⟩
    g1 := fun A H0 s0 hr => ⟨_, pg_tup rfl (pgs_cons (pg_name (i := 3) nd rfl (Or.inl rfl) (Or.inl rfl)) (pgs_cons (pg_name (i := 4) nd rfl (Or.inl rfl) (Or.inl rfl)) pgs_nil)), fun x p σ H Q hx q => ?_⟩
    g2 := fun A H0 s0 hr => pg_name (i := 5) nd rfl (Or.inl rfl) (Or.inl rfl)
    e2 := ?_
    y2 := fun A H0 s0 hr => ⟨_, pe_tup (pa_cons (pe_tup (pa_cons (pv 3) (pa_cons (pv 4) pa_nil))) (StX.pa_star (pv 5) pa_nil)), fun σ H x p r Q s3 s4 s5 hr hz q => ?_⟩ }
  · have := evRows_len (near := near) hr
    omega
  · obtain ⟨s0, s1, s2⟩ := st.at0
    refine ⟨_, s2, rfl, _, rfl, ?_⟩
    have e : decide (V.int (many : Int) = V.int 0) = decide (many = 0) := by
      by_cases h : many = 0
      · subst h; rfl
      · rw [decide_eq_false h, decide_eq_false]
        intro z
        have := V.int.inj z
        omega
    rw [e]
    exact q H (Ex.refl _)
  · exact ⟨by show (0 : Nat) ≤ sizeLine; decide, fun p hp => q _ _ (Ex.new hp) ⟨p, [], rfl, SqT.of upd_same, .nil⟩⟩
  · obtain ⟨s0, s1, s2⟩ := st.at0
    obtain ⟨st1, sw, hu⟩ := st
    have gm : GoodM G.d near H := by rw [hgood] at g; exact g
    refine ⟨_, s2, (many : Int), 0, rfl, rfl, _, rfl, ?_⟩
    by_cases hm : many = 0
    · subst hm
      refine iteN (by rfl) ?_
      refine ⟨by show (0 : Nat) ≤ sizeLine; decide, fun p hp => ⟨p, rfl, ⟨[], SqL.of upd_same⟩, ?_⟩⟩
      exact q p [] _ (ex_exm (Ex.new hp)) (by rw [hgood]; exact goodM_ex gm (Ex.new hp)) (SqL.of upd_same) .nil
    · refine iteY (decide_eq_true (show (0 : Int) < (many : Int) by omega)) ?_
      obtain ⟨a, dx, nn, e, pp, ps, vs, rfl, sl, _⟩ := id sw.ex
      refine ⟨_, s0, a, dx, vs, rfl, sl, _, s1, _, s2, .ref a, u, many, G.d, near, left, rfl, sw, nok, gm, hu, hsub, fun r H' rg hp => ?_⟩
      obtain ⟨b, ps2, rfl, hb, hpr⟩ := hp
      refine ⟨b, rfl, ⟨_, SqL.of hb⟩, q b ps2 H' rg.1 (by rw [hgood]; exact rg.2 gm) (SqL.of hb) ?_⟩
      unfold evPrs
      rw [if_neg hm]
      exact L2.Paired.mapP hpr fun x p ⟨t, e, z⟩ => ⟨t, e, SqT.of z⟩
  · obtain ⟨t, rfl, ht⟩ := hx
    exact ⟨t, _, rfl, ht, rfl, .str p.1, _, rfl, .str p.2, [], rfl, rfl, q H (Ex.refl _)⟩
  · intro A H0 s0 pins σ H s p hr I ny st gd hp h3 h4 hg
    obtain ⟨s0', s1', s2'⟩ := st.at0
    obtain ⟨st1, sw, hu⟩ := st
    obtain ⟨a, dx, nn, e, pp, ps, vs0, rfl, sl, _⟩ := id sw.ex
    have hm : 0 < many := by
      rcases Nat.eq_zero_or_pos many with z | z
      · rw [evPrs, if_pos z] at hp; cases hp
      · exact z
    have hz : left.length ≤ 1000 := Nat.le_trans hsub.length_le (Nat.le_trans (nms_len nok) (by decide))
    have E1x : ∀ {H H' : Hp}, G.good H → Ex H H' → G.good H' := fun g e => by rw [hgood] at g ⊢; exact goodM_ex g e
    refine wpAny_mono (meth_gen (G := G) (X := gcx G ⟨evEnv L f cdv, outer, nEvery, false⟩ A H0 s0) Of.of_gcx FE scEvery rfl (by decide +kernel) (fun s us hl => ?_) S.cls ME (pv 0)
      (pa_cons (pe_mt MB S.cls (pv 0) (hr.mono (by decide)) (pa_cons (pv 1) (pa_cons (pv 3) (pa_cons (pv 4) pa_nil)))) (pa_cons (pe_op op_sub (pv 2) pe_int) pa_nil)) I ny (hr.mono (by decide))
      (fun vs H' => ∃ u', vs = [.ref a, u', .int ((many - 1 : Nat) : Int)] ∧ Exm G.d H H' ∧ G.good H' ∧ SwI C H' (.ref a) G.d near ∧ NS H' u' (behL left p.1 p.2))
      ?_) (fun u s1 hh => ?_) fun _ _ q => q
    · refine FE.bindsA (fun kV doc pm an cdv ct us hl => ?_) s us hl
      match us, hl with | [_, _, _], _ => rfl
    · refine ⟨.ref a, s0', a, dx, vs0, rfl, sl, .ref a, s0', a, dx, vs0, rfl, sl, u, s1', .str p.1, h3, .str p.2, h4, .ref a, u, left, p.1, p.2, rfl, hu.nt, hz, fun r H1 e1 hr1 => ?_⟩
      refine ⟨.int many, s2', (many : Int), 1, rfl, rfl, ?_⟩
      refine ⟨rfl, r, ?_, ex_exm e1, E1x gd e1, sw.mono (kpM G.d) (ex_exm e1), hr1⟩
      rw [show ((many - 1 : Nat) : Int) = (many : Int) - 1 by omega]
    · obtain ⟨vs', H1, s1', a2, oF, o2, cdv', rfl, I1, sz1, ny1, ⟨u', rfl, x1, gd1, sw1, hu1⟩, gn⟩ := hh
      have gd1' : GoodM G.d near H1 := by rw [hgood] at gd1; exact gd1
      have lt1 : L < s1'.heap.objs.size := I1.lt
      have hsub' : (behL left p.1 p.2).Sublist (nms near) := List.Sublist.trans List.filter_sublist hsub
      refine ⟨a2, ⟨evEnv s1'.heap.objs.size f cdv', evEnv L f cdv :: outer, nEvery, false⟩, s1'.gens.size, [(s1'.heap.objs.size, oF)], H1, o2, .fresh (.func (defBody sEvery) (evEnv s1'.heap.objs.size f cdv')), rfl, gn.inv, x1, gd1, gn.ny, ?_, gn.ok false, rfl, rfl, lt1, fun p hp => ?_, gn.na, Nat.lt_of_lt_of_le hg sz1, gn.isG, gn.slot, fun xp hxp => ?_⟩
      · rw [congrArg Array.size gn.gens, Array.size_push]
        exact Nat.le_trans sz1 (Nat.le_succ _)
      · exact Heap.lt_size (I1.pin p (List.mem_append_right _ hp)).1
      · exact gn.wt I1 (IH _ _ _ _ _ _ _ _ hm hsub' (gn.ok false) (Nat.lt_trans hd lt1) gd1' (gn.fr false) gn.nc rfl ⟨rfl, sw1, hu1⟩) xp hxp
  · obtain ⟨b, xs, rfl, hb, hpr⟩ := hr
    have lx := paired_len hpr
    refine ⟨_, s3, _, s4, by show (2 : Nat) ≤ sizeLine; decide, fun t ht => ⟨_, s5, b, xs, rfl, .inl (kpE.tup (Ex.new ht) hb), ?_, fun t2 ht2 => ?_⟩⟩
    · rw [List.append_nil, List.length_cons, lx]
      show r.length + 1 ≤ sizeLine
      have : 1001 ≤ sizeLine := by decide
      omega
    · have e2 := Ex.new (o := .tup (.ref t :: (xs ++ []))) ht2
      refine q _ _ ((Ex.new ht).trans e2) ⟨t2, _, rfl, SqT.of upd_same, ?_⟩
      rw [List.append_nil]
      refine .cons ⟨t, rfl, ?_⟩ ?_
      · exact kpE.tup (R := Ex) (by simpa using e2) (SqT.of upd_same)
      · exact L2.Paired.mapP hpr fun x p ⟨t', e, z⟩ => ⟨t', e, kpE.tup ((Ex.new ht).trans (by simpa using e2)) z⟩
end
end CH
/-! text E3 -/
/-! The generator `every` is ready; «yield from» as a statement. -/
namespace CH
open PySem PySem.Spec PyProof.Rows L2 Evl RZ
open Sem (wp)
section
variable {G : Gp} {C f : Addr} {near : Rows} {v : V}
theorem evRows_eq {near : Rows} {left : List Str} : ∀ many : Nat, rowsOf many (evPrs near left many) (fun p => evRows near (many - 1) (behL left p.1 p.2)) = evRows near many left
  | 0 => rfl
  | m + 1 => by
    unfold rowsOf later evPrs
    rw [if_neg (Nat.succ_ne_zero m), if_neg (Nat.succ_ne_zero m), List.nil_append, List.drop_zero]
    rfl
theorem every_rdy {fd : FuncData} (hgood : G.good = GoodM G.d near) (T : Blt G.mg) (S : SwC G.K G.mg C) (MF : MtP G.P G.w G.K G.mg G.base C "firsts" 11 (spFirsts C)) (MB : MtP G.P G.w G.K G.mg G.base C "behind" 1 (spBehind G.K))
    (FE : FunD G.K "every" "Swapping.every" (defArgs sEvery) (defBody sEvery) (defScope sEvery) [] [] f fd) (ME : Meth G.K C "every" f) (nok : NearOk near) :
    ∀ (many : Nat) (left : List Str) (L : Addr) (cdv : Value) (outer : List Env) (g : Nat) (oF : Obj) (σ : L2.St) (H : Hp) (u : V), many ≤ 8 → left.Sublist (nms near) → Gf.Ok G ⟨evEnv L f cdv, outer, nEvery, false⟩ → G.d < L → GoodM G.d near H → Fr0 ⟨evEnv L f cdv, outer, nEvery, false⟩ σ oF → (∀ v, oF.data ≠ .cell v) → σ.length = 6 →
      EvSt C G.d near left many v u σ H → Rdy G ⟨evEnv L f cdv, outer, nEvery, false⟩ (2 * many + 14) g (evRows near many left) (.fresh (.func (defBody sEvery) (evEnv L f cdv))) [(L, oF)] [] H := by
  intro many
  induction many using Nat.strongRecOn with
  | ind many ih =>
    intro left L cdv outer g oF σ H u hm hs ok hd gd fr nc hl st
    have E := every_ev (F := ⟨evEnv L f cdv, outer, nEvery, false⟩) (v := v) (u := u) (g := g) (k2 := 2 * many + 12) rfl hgood T S MF MB FE ME nok hs hm hd fun left' L' cdv' g' oF' σ' H' u' h0 hs' ok' hd' gd' fr' nc' hl' st' => by
      have := ih (many - 1) (by omega) left' L' cdv' _ g' oF' σ' H' u' (by omega) hs' ok' hd' gd' fr' nc' hl' st'
      rw [show 2 * (many - 1) + 14 = 2 * many + 12 by omega] at this
      exact this
    have := ev_rdy (q := evQ) (k := 2 * many + 14) (g := g) E ok rfl hd (fun A hr => ⟨(hr.deeper _).mono (by omega), (hr.deeper _).in1⟩) rfl rfl (by show 5 < 6; decide) (fun _ => rfl) (fun _ => rfl) (by rw [hgood]; exact gd) fr nc hl st
    rw [evRows_eq] at this
    rw [every_body]
    exact this
end
section
variable {P : Program} {w : World} {A : Around} {Φ : End → Shared → Prop} {c : Code} {fs : List Frame} {s : Shared} {env : Env} {K : Flow → Sem PySem.Fin} {J : Value → Sem PySem.Fin}
/-- «yield from» a generator, as a statement -/
theorem stw_yf {e : Expr} {yp pos : Pos} (hi : interactive env = false)
    (h : wpAny (M2 P w) (A.over c fs) (eval e env) (fun v s' => ∃ a o g, v = .ref a ∧ GenAt2 s'.heap a g o ∧ ∀ p l kk, (∀ (A' : Around) (Φ' : End → Shared → Prop) (s'' : Shared), Stretch (M2 P w) A' Φ' c (K .next) fs s'' → Stretch (M2 P w) A' Φ' c (kk (.ok (.ret .none))) fs s'') →
      Stretch (M2 P w) A Φ (yfc a) ((M2 P w).den (yfc a)) (.ret kk none false l c p [] :: fs) s') NoE s) :
    Stretch (M2 P w) A Φ c ((exec (.Expr (.YieldFrom e yp) pos) env).wrap K J id id) fs s := by
  rw [exec_Expr env _ pos hi rfl]
  show Stretch (M2 P w) A Φ c (.at pos fun _ => ((eval e env >>= fun v => (standAt yp >>= fun _ => yieldFrom env v)) >>= fun x => dropValue (.YieldFrom e yp) pos x).wrap K J id id) fs s
  refine st_at ?_
  rw [Sem.bind_eq_wrap', Sem.bind_eq_wrap', Sem.wrap_wrap, Sem.wrap_wrap]
  refine st_wrap (wpAny_mono h (fun v s' q => st_at ?_) fun _ _ q => q.elim)
  obtain ⟨a, o, g, rfl, ga, q⟩ := q
  obtain ⟨h1, h2, h3, h4⟩ := id ga
  unfold yieldFrom
  refine stw_bind (wpAny_pure (stw_bind (wpAny_typeOf_ref h1 ?_)))
  rw [h2, if_neg (by decide)]
  refine stw_bind (wpAny_holding (iter2 ga ?_))
  unfold runValue run
  refine st_call fun p => ?_
  exact q p _ _ fun A' Φ' s'' z => z
end
end CH
/-! text E4 -/
/-! The generator `every_swaps`. -/
namespace CH
open PySem PySem.Spec PyProof.Rows L2 Evl RZ
open Sem (wp)
section
variable {X : Cx} {pins : List (Addr × Obj)} {σ : L2.St} {H : Hp} {s : Shared} {st : Stmt} {t : TS}
theorem ps_af {Nx : L2.St → Hp → Prop} (h : PS X.nox st t) (I : Inv X pins σ H s) (hw : t { nx := Nx, rt := fun _ _ => False } σ H) : wpAny (M2 X.prog X.w) X.A (exec st X.env) (fun f s' => f = .next ∧ ∃ σ' H', Inv X pins σ' H' s' ∧ Af s s' ∧ Nx σ' H') NoE s :=
  tr_more (Rx.here s) (h.run pins (numb s) σ H _ (inv_numb (I.wish _)) hw) (fun f z s' k q => by
    cases f with
    | next => obtain ⟨σ', H', J, q⟩ := q; exact ⟨rfl, σ', H', (inv_aft k.aft I.bare J).unwish, ⟨z, k.aft, J.bare⟩, q⟩
    | cont => obtain ⟨_, _, _, q⟩ := q; exact q.elim
    | brk => obtain ⟨_, _, _, q⟩ := q; exact q.elim
    | ret v => obtain ⟨_, _, _, _, _, q⟩ := q; exact q.elim) fun _ _ _ _ q => q
end
abbrev sEsw : Stmt := top 20
abbrev nEsw : List Str := ["sheet", "without", "own"]
theorem scEsw : FnScope nEsw ["sheet", "without"] (noG (defScope sEsw)) := ⟨rfl, rfl, rfl, by decide +kernel, rfl, by decide +kernel, by decide +kernel⟩
def eswParts : Stmt × Expr × Pos × Pos := match defBody sEsw with
  | [a, .Expr (.YieldFrom e yp) p] => (a, e, yp, p)
  | _ => (.Pass ⟨0, 0, 0, 0⟩, .Name Str.empty ⟨0, 0, 0, 0⟩, ⟨0, 0, 0, 0⟩, ⟨0, 0, 0, 0⟩)
theorem esw_body : defBody sEsw = [eswParts.1, .Expr (.YieldFrom eswParts.2.1 eswParts.2.2.1) eswParts.2.2.2] := by rfl
abbrev eswEnv (L f : Addr) (cdv : Value) : Env := envOfC "every_swaps" (defScope sEsw) L f cdv
abbrev Gd (G : Gp) (near : Rows) (d : Addr) : Gp := { G with d := d, good := GoodM d near }
/-- the best rows -/
abbrev bestRows (near : Rows) : List Row := evRows near (mostN near (nms near)) (nms near)
section
variable {G : Gp} {C f fe L : Addr} {cdv : Value} {outer : List Env} {rows : Rows} {emp : List Str} {v t : V}
theorem over_yf {A : Around} {a : Addr} {env : Env} {b2 : List Stmt} {kk : Result → Sem PySem.Fin} {l kp : List Value} {p : Pos} : A.over (yfc a) [.ret kk none false l (.func b2 env) p kp] = (A.deeper env).in1 := by
  rw [over_under, GenW.over_func]
  exact Around.under_plainId plain_yfc _
theorem esw_first {fd : FuncData} {g0 : Nat} {oF : Obj} {A : Around} {H : Hp} {s : Shared} {xp : List (Addr × Obj)} (T : Blt G.mg) (S : SwC G.K G.mg C) (M : MkR G.P G.w G.K G.mg G.base C 8 (spSwInit G.K C)) (MN : MtP G.P G.w G.K G.mg G.base C "names" 1 (spSwNames C)) (MA : MtP G.P G.w G.K G.mg G.base C "most_of_all" 11 (spMostAll C))
    (MF : MtP G.P G.w G.K G.mg G.base C "firsts" 11 (spFirsts C)) (MB : MtP G.P G.w G.K G.mg G.base C "behind" 1 (spBehind G.K)) (FE : FunD G.K "every" "Swapping.every" (defArgs sEvery) (defBody sEvery) (defScope sEvery) [] [] fe fd) (ME : Meth G.K C "every" fe)
    (ok : Gf.Ok G ⟨eswEnv L f cdv, outer, nEsw, true⟩) (fr : Fr0 ⟨eswEnv L f cdv, outer, nEsw, true⟩ (start nEsw [v, t]) oF) (ht : Emp G.K t) (hv : Dp G.K H v (tomeD rows emp)) (tok : TomeOk rows emp) (hr : Room 40 A) (hA : A.frames = some outer) (wk : Wk G ⟨eswEnv L f cdv, outer, nEsw, true⟩ [(L, oF)] xp [] g0 H s) :
    Goes2 (M2 G.P G.w) A (fun e s' => ∃ d, H d = none ∧ Eo (Gd G (near0 rows) d) ⟨eswEnv L f cdv, outer, nEsw, true⟩ xp H s (bestRows (near0 rows)) (Rdy (Gd G (near0 rows) d) ⟨eswEnv L f cdv, outer, nEsw, true⟩ 40 g0) e s') (.fresh (.func (defBody sEsw) (eswEnv L f cdv))) s := by
  show Stretch _ _ _ _ _ [] s
  have nd := scEsw.nd
  have hAd : ∀ {A : Around}, A.frames = some outer → (A.deeper (eswEnv L f cdv)).frames = some (eswEnv L f cdv :: outer) := fun {A} hA => by
    unfold Around.deeper
    show A.frames.map _ = _
    rw [hA]
    rfl
  have p0 := wk.pin (L, oF) (List.mem_append_left _ List.mem_cons_self)
  have I : Inv (gcx G ⟨eswEnv L f cdv, outer, nEsw, true⟩ (A.deeper (eswEnv L f cdv)) H s) xp (start nEsw [v, t]) H s := wake_inv ok wk (hAd hA) hr.hd p0.1 p0.2.1 fr rfl fun q hq => ⟨List.mem_append_right _ hq, (wk.apart q hq).1⟩
  have hx : ∀ p ∈ xp, p.1 ≠ L := fun p hp => (wk.apart p hp).1
  have hr' : Room 39 (A.deeper (eswEnv L f cdv)) := hr.deeper _
  refine st_func fun J => ?_
  rw [esw_body]
  refine stw_cons (stw_calm ?_)
  rw [GenW.over_func]
  refine thn (ps_af (X := gcx G ⟨eswEnv L f cdv, outer, nEsw, true⟩ (A.deeper (eswEnv L f cdv)) H s) (Nx := fun σ' H' => ∃ r d, σ' = [some v, some t, some (.ref r)] ∧ H d = none ∧ Ex H H' ∧ SwI C H' (.ref r) d (near0 rows) ∧ GoodM d (near0 rows) H')
    (ps_set (i := 2) nd rfl (Or.inl rfl) (pe_mkr M (hr'.mono (by decide)) (by rfl) S.mg (pa_cons (pv 0) (pa_cons (pv 1) pa_nil)))) I ?_) fun fl s1 hq => ?_
  · exact ⟨v, rfl, t, rfl, rd_sw hv tok (ht H) (by decide) (fun n h => nomatch h) fun r d H1 hd e1 sw gm => ⟨r, d, rfl, hd, e1, sw, gm⟩⟩
  obtain ⟨rfl, σ1, H1, I1, af1, r, d, rfl, hd, e1, sw, gm⟩ := hq
  have nok := near_ok tok []
  have ny1 := af1.ny wk.ny
  obtain ⟨r', dx, nn, e, pp, ps, vs, er, sl, _⟩ := id sw.ex
  cases er
  refine stw_cons (stw_yf rfl ?_)
  rw [GenW.over_func]
  refine wpAny_mono (meth_gen (G := Gd G (near0 rows) d) (X := gcx G ⟨eswEnv L f cdv, outer, nEsw, true⟩ (A.deeper (eswEnv L f cdv)) H s) ⟨rfl, rfl, rfl, rfl, rfl⟩ FE scEvery rfl (by decide +kernel) (fun s us hl => ?_) S.cls ME (pv 2)
    (pa_cons (pe_mt0 MN S.cls (pv 2) (hr'.mono (by decide))) (pa_cons (pe_mt0 MA S.cls (pv 2) (hr'.mono (by decide))) pa_nil)) I1 ny1 (hr'.mono (by decide))
    (fun vs H' => ∃ u', vs = [.ref r, u', .int ((mostN (near0 rows) (nms (near0 rows)) : Nat) : Int)] ∧ Rg d (near0 rows) H1 H' ∧ NS H' u' (nms (near0 rows))) ?_) (fun u s2 hh => ?_) fun _ _ q => q
  · refine FE.bindsA (fun kV doc pm an cdv ct us hl => ?_) s us hl
    match us, hl with | [_, _, _], _ => rfl
  · have kp := kpG d (near0 rows)
    refine ⟨.ref r, rfl, r, dx, vs, rfl, sl, .ref r, rfl, r, dx, vs, rfl, sl, .ref r, d, near0 rows, rfl, sw, fun nm H2 e2 hnm => ?_⟩
    refine ⟨.ref r, rfl, r, dx, vs, rfl, slt_kp kpE e2 sl, .ref r, d, near0 rows, rfl, sw.mono kpE e2, nok, (kp.ex e2).2 gm, fun H3 r3 => ⟨rfl, nm, rfl, kp.trans (kp.ex e2) r3, hnm.mono kp r3⟩⟩
  obtain ⟨vs', H2, s1', a1, oF1, o1, cdv', rfl, I2, sz1, ny2, ⟨u', rfl, rg2, hu2⟩, gn⟩ := hh
  have gm2 : GoodM d (near0 rows) H2 := rg2.2 gm
  have sw2 : SwI C H2 (.ref r) d (near0 rows) := sw.mono (kpG d (near0 rows)) rg2
  have lt1 : L < s1'.heap.objs.size := I2.lt
  have hdl : d < s1'.heap.objs.size := by
    obtain ⟨kvs, ek, _⟩ := gm2
    obtain ⟨ob, hob⟩ := objOk_there (I2.hok d _ ek)
    exact Heap.lt_size hob
  have ny3 : mostN (near0 rows) (nms (near0 rows)) ≤ 8 := Nat.le_trans (mostN_le nok.sym nok.nd) (nms_len nok)
  refine ⟨a1, o1, s1'.gens.size, rfl, genAt_of gn.ho gn.isG gn.slot, fun p l kk hkk => ?_⟩
  have xlt : ∀ q ∈ xp, q.1 < s1'.heap.objs.size := fun q hq => Heap.lt_size (I2.pin q (List.mem_append_right _ hq)).1
  have rdy := every_rdy (G := Gd G (near0 rows) d) (C := C) (f := fe) (v := .ref r) rfl T S MF MB FE ME nok (mostN (near0 rows) (nms (near0 rows))) (nms (near0 rows)) s1'.heap.objs.size cdv' (eswEnv L f cdv :: outer) s1'.gens.size oF1 _ H2 u' ny3 (List.Sublist.refl _) (gn.ok false) hdl gm2 (gn.fr false) gn.nc rfl ⟨rfl, sw2, hu2⟩
  have W := gn.wt I2 rdy xp fun q hq => by
    have := gn.inv.pin q (List.mem_append_right _ hq)
    exact ⟨this.1, this.2.1, frs_self (F := ⟨eswEnv L f cdv, outer, nEsw, true⟩) ok this.2.2.1 this.2.2.2.1, this.2.2.2.2, xlt q hq⟩
  have gsz : s1'.gens.size < s2.gens.size := by rw [gn.gens, Array.size_push]; exact Nat.lt_succ_self _
  have gsz0 : s.gens.size ≤ s1'.gens.size := Nat.le_trans af1.sz sz1
  have ok' : Gf.Ok (Gd G (near0 rows) d) ⟨eswEnv L f cdv, outer, nEsw, true⟩ := ⟨ok.mod, ok.kind, ok.glob, ok.blt, ok.frame, ok.cells, ok.names, ok.bsz, ok.frs⟩
  have run := yf_run (G := Gd G (near0 rows) d) (F0 := ⟨eswEnv L f cdv, outer, nEsw, true⟩) (F1 := ⟨evEnv s1'.heap.objs.size fe cdv', eswEnv L f cdv :: outer, nEvery, false⟩) (k0 := 40) (k1 := 2 * mostN (near0 rows) (nms (near0 rows)) + 14) (g0 := g0) (g1 := s1'.gens.size) (a1 := a1) (fs := [.ret kk none false l (.func (defBody sEsw) (eswEnv L f cdv)) p []]) ok' (gn.ok false) rfl rfl rfl lt1 hdl (Nat.lt_of_lt_of_le wk.sz gsz0) (Nat.lt_trans lt1 gn.na) gn.na
    rfl rfl (fun A => over_yf) (fun A Φ s z => st_leaf (.ok (.ret .none)) (hkk A Φ s (stw_nil (st_end (.ok (.ret .none)) z)))) (fun A hr => ((hr.deeper _).in1.in1).mono (by omega)) (fun A hr => (hr.deeper _).depth)
    (bestRows (near0 rows)) A H s xp _ H2 s2 _ _ _ o1 hr hA wk.os wk.sz (Nat.le_trans gsz0 (Nat.le_of_lt gsz)) gn.inv gn.ny (fun b o hb _ => rg2.1 b o (e1 b o hb) fun z => by rw [z, hd] at hb; cases hb) (fun q hq => ⟨hx q hq, Nat.ne_of_lt (Nat.lt_trans (xlt q hq) gn.na)⟩) gn.isG gn.slot W
  exact run.imp fun e s' q => ⟨d, hd, q⟩
end
end CH
/-! text C1 -/
/-! A dict comprehension over the generator `every_swaps`: its parts. -/
namespace CH
open PySem PySem.Spec PyProof.Rows L2 Evl RZ
open Sem (wp)
section
variable {X : Cx} {pins : List (Addr × Obj)} {σ : L2.St} {H : Hp} {s : Shared} {E : Value → Shared → Prop} {D b : Addr} {kvs : List (List Key × V)} {k : List Key} {v : V} {r : Value} {Q : Unit → Shared → Prop}
theorem d_dictSetT (hu : X.A.units < cLine) (I : Inv X pins σ H s) (hD : H D = some (.dT kvs)) (eb : H b = some (.tup (k.map kV))) (hz : kvs.length < sizeLine) (rv : RelV v r) (h : ∀ s', Inv X pins σ (upd H D (.dT (putK kvs k v))) s' → Q () s') :
    wpAny (model X.prog X.w) X.A (dictSet D (.ref b) r) Q E s := by
  obtain ⟨z, hd, xs, rel, dd⟩ := dt_of I.hok hD
  have hzx : xs.length ≤ sizeLine := by rw [← Paired.length rel]; exact z
  have hl : (putK kvs k v).length ≤ sizeLine := by have := length_putK kvs k v; omega
  refine wpAny_dictSet_heap (knd := tupleKind (mixKind X.prog X.w)) (hsz := hzx) hu (key_of I.hok eb) dd fun h' dd' hs => h _ ?_
  obtain ⟨q, es, ep, hq, h2, h3, h4, _, h5⟩ := dd'
  refine d_write I (by rw [hD]; exact True.intro) hs ⟨q, hq⟩ ⟨hl, hd, _, (rel.put k eb rv).keeps fun c ys ec => ?_, q, es, ep, hq, h2, h3, h4, h5⟩
  rw [upd_ne (ne_of ec hD (fun z => nomatch z))]
  exact ec
end
section
variable {prog : Program} {w : World} {A : Around} {s : Shared} {R : Result → Shared → Prop}
theorem code2_dc {kx vx tg iter : Expr} {scope : Scope} {pos : Pos} {it : Value} {D : Addr} {env : Env} (J : Nat → Shared → Prop)
    (turn : ∀ m s, J m s → wpAny (M2 prog w) A (pyNext it) (fun r s1 => match r with
      | none => R (.ok .next) s1
      | some v => wpAny (M2 prog w) A (letOwnedTupleGo tg it v) (fun _ s2 => wpAny (M2 prog w) A (assign tg env v) (fun _ s3 => wpAny (M2 prog w) A (eval kx env) (fun kv s4 => wpAny (M2 prog w) A (eval vx env) (fun vv s5 =>
        wpAny (M2 prog w) A (dictSet D kv vv) (fun _ s6 => ∃ m', m' < m ∧ J m' s6) NoE s5) NoE s4) NoE s3) NoE s2) NoE s1) NoE s) (m : Nat) (h : J m s) :
    codeAny (M2 prog w) A (.compLoop (.DictComp kx vx [⟨tg, iter, [], 0⟩] scope pos) 0 it (.ref D) env) R s := by
  refine codeAny_loop rfl J (fun m s hJ => ?_) m h
  rw [den_comp]
  show wpAny _ A ((compTurn (.DictComp kx vx [⟨tg, iter, [], 0⟩] scope pos) 0 it (.ref D) env).onRaise _) _ _ s
  refine noted2 ?_
  rw [compTurn_dict]
  refine wpAny_bind (wpAny_standAt (wpAny_bind (thn (turn m s hJ) fun r s1 k => ?_)))
  cases r with
  | none => exact wpAny_pure k
  | some v =>
    refine wpAny_bind (thn k fun _ s2 k => wpAny_bind (thn k fun _ s3 k => wpAny_bind (wpAny_pure ?_)))
    exact wpAny_bind (wpAny_bind (thn k fun kv s4 k => wpAny_bind (wpAny_holding (thn k fun vv s5 k => wpAny_bind (wpAny_standAt (wpAny_holding (thn k fun _ s6 k => wpAny_pure ⟨rfl, k⟩)))))))
theorem start2_dc {kx vx tg iter : Expr} {scope : Scope} {pos : Pos} {it acc : Value} {env : Env} (h0 : codeAny (M2 prog w) A (.compLoop (.DictComp kx vx [⟨tg, iter, [], 0⟩] scope pos) 0 it acc env) R s)
    (h : wpAny (M2 prog w) A (pyIter it) (fun it' s' => codeAny (M2 prog w) A (.compLoop (.DictComp kx vx [⟨tg, iter, [], 0⟩] scope pos) 0 it' acc env) R s') NoE s) : codeAny (M2 prog w) A (.compStart (.DictComp kx vx [⟨tg, iter, [], 0⟩] scope pos) 0 it acc env) R s := by
  refine codeAny_of_tree ?_
  rw [den_compS]
  show wpAny _ _ ((compStart (.DictComp kx vx [⟨tg, iter, [], 0⟩] scope pos) 0 it acc env).onRaise _) _ _ s
  refine noted2 ?_
  unfold compStart
  show wpAny _ _ (ask >>= _) _ _ s
  refine wpAny_bind (wpAny_askSetting (wpAny_ite ?_))
  split
  · first
      | exact wpAny_bind (wpAny_pure (wpAny_pure ⟨rfl, h0⟩))
      | exact wpAny_pure ⟨rfl, h0⟩
  · first
      | exact wpAny_bind (wpAny_rule (wpAny_bind (wpAny_standAt (wpAny_bind (thn h fun it' s' k => wpAny_pure ⟨rfl, k⟩)))))
      | (refine wpAny_bind (wpAny_rule ?_); show wpAny _ _ (standAt iter.pos >>= _) _ _ s; exact wpAny_bind (wpAny_standAt (wpAny_bind (thn h fun it' s' k => wpAny_pure ⟨rfl, k⟩))))
end
section
variable {G : Gp} {F : Gf} {X : Cx} {pins xp lv : List (Addr × Obj)} {gl : List (Nat × GenState)} {k g : Nat} {σ : L2.St} {H : Hp} {s s1 : Shared} {rows : List Row} {gs : GenState} {e : End}
/-- the waker behind a stretch -/
theorem nxt_eo (R : Wr G F X pins xp s H) (I : Inv X pins σ H s) (hg : g < s.gens.size) (hxp : ∀ p ∈ xp, s.heap.get? p.1 = some p.2 ∧ p.1 ∉ frs F.outer ∧ ∀ v, p.2.data ≠ .cell v) (h : Eo G F xp H (s.setGen g .running) rows (Rdy G F k g) e s1) :
    e.quiet = true ∧ ((∃ x, e.result = .yielded x ∧ NxY G F X pins xp σ k g rows H s x (s1.setGen g e.genState)) ∨ (e = .ret (.ok (.ret .none)) ∧ NxD G F X pins xp σ g rows H s s1)) := by
  obtain ⟨H1, po, q⟩ := h
  have I1 : Inv X pins σ H1 s1 := gen_after (s1 := s.setGen g .running) R.ok I R.stk R.prog R.w R.d (fun p hp => (hxp p hp).1) R.loc R.cells R.pins R.ex rfl rfl po
  have hsz : s.gens.size ≤ s1.gens.size := by have := po.sz; rw [GenW.setGen_size] at this; exact this
  have hg1 : g < s1.gens.size := Nat.lt_of_lt_of_le hg hsz
  cases rows with
  | nil => exact ⟨by rw [q]; rfl, .inr ⟨q, H1, rfl, I1, po.ex, po.good, po.xp, po.ny, hsz, hg1⟩⟩
  | cons r rs =>
    obtain ⟨v, x, l, k', c, p, fs, lv', gl', rfl, hyf, hfs, rx, rv, hp, ha, hgg, rd⟩ := q
    have hq : (End.susp x false l k' c p fs).quiet = true := by
      show (!(false || fs.any Frame.guarded)) = true
      rw [hfs]; rfl
    have hgst : (End.susp x false l k' c p fs).genState = .suspended k' l c p fs false := by
      show GenState.suspended k' l c p fs (false || fs.any Frame.guarded) = _
      rw [hfs]; rfl
    obtain ⟨gd, _, hlv', hgl', _⟩ := rdy_iff.mp rd
    refine ⟨hq, .inl ⟨x, rfl, ?_⟩⟩
    rw [hgst]
    refine ⟨r, rs, v, .suspended k' l c p fs false, lv', gl', H1, rfl, inv_gens I1 rfl, po.ex, rx, rv, po.good, by rw [GenW.setGen_size]; exact hsz, ?_, rfl, fun hf => nyx_set (po.ny.x g) fun _ _ _ _ _ _ z hc => by
      cases z
      rw [hyf hf] at hc
      cases hc⟩
    refine ⟨⟨H1, rd, fun a o e _ => e⟩, set_self hg1, ny_of_set po.ny, fun p' hp' => ?_, ha, fun y hy => set_other (Nat.ne_of_gt (hgl' y hy).1) (hgg y hy)⟩
    rcases List.mem_append.mp hp' with h | h
    · exact ⟨(hp p' h).1, (hp p' h).2, (hlv' p' h).2⟩
    · exact ⟨(po.xp p' h).1, (po.xp p' h).2, (hxp p' h).2⟩
theorem Wt.rexp (W : Wt G F k g rows gs lv xp gl H s) {xp' : List (Addr × Obj)} (h : ∀ p ∈ xp', s.heap.get? p.1 = some p.2 ∧ H p.1 = none ∧ p.1 ∉ frs F.outer ∧ (∀ v, p.2.data ≠ .cell v) ∧ p.1 ≠ F.n ∧ ∀ q ∈ lv, q.1 ≠ p.1) : Wt G F k g rows gs lv xp' gl H s := by
  refine ⟨W.rdy, W.ent, W.nyx, fun p hp => ?_, fun p hp => ⟨(h p hp).2.2.2.2.1, (h p hp).2.2.2.2.2⟩, W.gens⟩
  rcases List.mem_append.mp hp with z | z
  · exact W.pin p (List.mem_append_left _ z)
  · exact ⟨(h p z).1, (h p z).2.1, (h p z).2.2.1, (h p z).2.2.2.1⟩
end
/-! the dict -/
def keyR (near : Rows) (r : Row) : List Str := (nms near).filter fun x => decide (x ∈ GE.flat r)
structure Kvs (near : Rows) (done : List Row) (kvs : List (List Key × V)) : Prop where
  of : ∀ k ∈ kvs.map (·.1), ∃ r ∈ done, k = (keyR near r).map Sum.inr
  all : ∀ r ∈ done, (keyR near r).map Sum.inr ∈ kvs.map (·.1)
  nd : (kvs.map (·.1)).Nodup
theorem kvs_nil {near : Rows} : Kvs near [] [] := ⟨fun k h => by simp at h, (fun r h => nomatch h), List.nodup_nil⟩
theorem putK_keys {kvs : List (List Key × V)} {k : List Key} {v : V} : (∀ x, x ∈ (putK kvs k v).map (·.1) ↔ x ∈ kvs.map (·.1) ∨ x = k) ∧ ((kvs.map (·.1)).Nodup → ((putK kvs k v).map (·.1)).Nodup) := by
  unfold putK
  split
  · rename_i h
    have e : (kvs.map fun kv => if kv.1 = k then (kv.1, v) else kv).map (·.1) = kvs.map (·.1) := by
      rw [List.map_map]
      exact List.map_congr_left fun kv _ => by show (if _ then _ else _ : List Key × V).1 = _; split <;> rfl
    rw [e]
    refine ⟨fun x => ⟨.inl, fun z => z.elim id fun z => ?_⟩, id⟩
    obtain ⟨kv, h1, h2⟩ := List.any_eq_true.mp h
    rw [z, ← of_decide_eq_true h2]
    exact List.mem_map_of_mem h1
  · rename_i h
    rw [List.map_append]
    refine ⟨fun x => by simp, fun nd => List.nodup_append.mpr ⟨nd, List.nodup_cons.mpr ⟨by simp, List.nodup_nil⟩, fun a ha b hb z => ?_⟩⟩
    obtain ⟨kv, h1, h2⟩ := List.mem_map.mp ha
    refine h (List.any_eq_true.mpr ⟨kv, h1, decide_eq_true ?_⟩)
    rw [h2, z]
    exact List.mem_singleton.mp hb
theorem Kvs.put {near : Rows} {done : List Row} {kvs : List (List Key × V)} (K : Kvs near done kvs) (r : Row) (v : V) : Kvs near (done ++ [r]) (putK kvs ((keyR near r).map Sum.inr) v) := by
  obtain ⟨h1, h2⟩ := putK_keys (kvs := kvs) (k := (keyR near r).map Sum.inr) (v := v)
  refine ⟨fun k hk => ?_, fun r' hr => ?_, h2 K.nd⟩
  · rcases (h1 k).mp hk with h | h
    · obtain ⟨r', a, b⟩ := K.of k h
      exact ⟨r', List.mem_append_left _ a, b⟩
    · exact ⟨r, List.mem_append_right _ (List.mem_singleton.mpr rfl), h⟩
  · rcases List.mem_append.mp hr with h | h
    · exact (h1 _).mpr (.inl (K.all r' h))
    · rw [List.mem_singleton.mp h]
      exact (h1 _).mpr (.inr rfl)
theorem kvs_len {near : Rows} (N : NearOk near) {done : List Row} {kvs : List (List Key × V)} (K : Kvs near done kvs) : kvs.length ≤ 256 := by
  have h : (kvs.map (·.1)).length ≤ ((subs (nms near)).map fun l => l.map (Sum.inr : Str → Key)).length := by
    refine nodup_len K.nd fun k hk => ?_
    obtain ⟨r, _, e⟩ := K.of k hk
    exact List.mem_map.mpr ⟨keyR near r, mem_subs List.filter_sublist, e.symm⟩
  rw [List.length_map, List.length_map, subs_len, List.length_map] at h
  refine Nat.le_trans h ?_
  exact Nat.pow_le_pow_right (by decide) N.len
end CH
/-! text C2 -/
/-! A dict comprehension over the generator `every_swaps`. -/
namespace CH
open PySem PySem.Spec PyProof.Rows L2 Evl RZ
open Sem (wp)
abbrev GX (X : Cx) : Gp := ⟨X.prog, X.w, X.K, X.mg, X.base, X.s_0.os, 0, fun _ => True⟩
/-- what making the best rows takes -/
structure EswP (P : Program) (w : World) (K : PySem.W.Frag) (mg : Str → Option Value) (base : Heap) (C f fe : Addr) (t : V) : Prop where
  T : Blt mg
  S : SwC K mg C
  M : MkR P w K mg base C 8 (spSwInit K C)
  MN : MtP P w K mg base C "names" 1 (spSwNames C)
  MA : MtP P w K mg base C "most_of_all" 11 (spMostAll C)
  MF : MtP P w K mg base C "firsts" 11 (spFirsts C)
  MB : MtP P w K mg base C "behind" 1 (spBehind K)
  FE : ∃ fd, FunD K "every" "Swapping.every" (defArgs sEvery) (defBody sEvery) (defScope sEvery) [] [] fe fd
  ME : Meth K C "every" fe
  ht : Emp K t
  FS : ∃ fd, FunD K "every_swaps" "every_swaps" (defArgs sEsw) (defBody sEsw) (defScope sEsw) [] [("without", t)] f fd
  mg : mg "every_swaps" = some (.ref f)
section
variable {X : Cx} {pins : List (Addr × Obj)} {σ : L2.St} {H : Hp} {s : Shared} {C f fe : Addr} {t : V} {e : Expr} {te : TE} {p pos : Pos}
theorem esw_call (B : EswP X.prog X.w X.K X.mg X.base C f fe t) (I : Inv X pins σ H s) (n : Ny s.gens) (hr : Room 1 X.A) (hg : Gl X "every_swaps") (he : PE X.nox e te) {Post : V → Hp → Prop} (h : te σ H Post) (hst : starEach [e] X.env = [(false, eval e X.env)] := by rfl) :
    wpAny (M2 X.prog X.w) X.A (eval (.Call (.Name "every_swaps" p) [e] [] pos) X.env) (fun u s' => ∃ y H1 s1 a0 oF o0 cdv, u = .ref a0 ∧ Post y H1 ∧ Inv X pins σ H1 s1 ∧ Ny s1.gens ∧
      Gn (GX X) X pins σ H1 s1 (defBody sEsw) (eswEnv s1.heap.objs.size f cdv) nEsw (start nEsw [y, t]) a0 oF o0 s') NoE s := by
  obtain ⟨fd, F⟩ := B.FS
  obtain ⟨ds, h1, h2⟩ := F.binds0 (ps := ["sheet", "without"]) 1 (by simp) (by rfl) fun D doc pm an cdv ct us ks hu hk => by
    match us, hu, ks, hk with | [a], _, [d], _ => exact ⟨_, _, _, _, _, _, rfl, rfl, rfl⟩
  refine wpAny_Call_Name_kw (ld2 I hg B.mg (PySem.W.callWith_K (h₀ := X.base) I.ok.mod.kin F.kp (thn (pa_af (pa_cons he pa_nil hst) pos I (Q := fun vs H' => match vs with | [y] => Post y H' | _ => False) h) fun us s1 ⟨vs, H1, I1, af1, r, q⟩ => ⟨I1.kIn, ?_⟩) hst rfl) (by decide))
  match vs, q with
  | [y], q => ?_
  have n1 := af1.ny n
  have rv : Vals ([y] ++ [t]) (us ++ ds) := r.append h1
  have hl : (us ++ ds).length = 2 := by rw [← rv.length]; rfl
  refine wpAny_call (codeAny_mono (gen_call (G := GX X) ⟨rfl, rfl, rfl, rfl, rfl⟩ F scEsw rfl (by decide +kernel) I1 n1 hr (args := ⟨us, []⟩) (h2 s1 us I1.kIn hl) rv rfl) fun rr s3 hq => ?_)
  obtain ⟨a0, oF, o0, cdv, rfl, gn⟩ := hq
  exact ⟨y, H1, s1, a0, oF, o0, cdv, rfl, q, I1, n1, gn⟩
end
end CH
/-! text C3 -/
/-! A dict comprehension over the generator `every_swaps`: the loop. -/
namespace CH
open PySem PySem.Spec PyProof.Rows L2 Evl RZ
open Sem (wp)
theorem clo_nil {cells : List (Str × Addr)} {names : List (Str × NameKind)} (h : ∀ y ∈ names, y.2 ≠ .free) : cloFrom cells names [] = [] := by
  refine List.eq_nil_iff_forall_not_mem.mpr fun y hy => ?_
  rcases cloFrom_mem (show (y.1, y.2) ∈ _ from hy) with h1 | ⟨h1, _⟩
  · cases h1
  · exact h _ h1 rfl
theorem key_kv (l : List Str) : (l.map (Sum.inr : Str → Key)).map kV = sL l := by rw [List.map_map]; rfl
section
variable {X : Cx} {pins : List (Addr × Obj)} {σ : L2.St} {H : Hp} {s : Shared} {C f fe : Addr} {t : V} {e kx vx : Expr} {te tk tv : TE} {p pos cp tp pos' : Pos} {scope : Scope} {x : Str} {j : Nat} {rows : Rows} {emp : List Str} {use : Option (Value → Sem Unit)} {Qf : Value → Shared → Prop}
theorem dg_core (hN : X.N.Nodup) (B : EswP X.prog X.w X.K X.mg X.base C f fe t) (hr : Room 41 X.A) (ok : BlkOk X.N X.env.scope scope [(x, j)]) (hce : ∀ y ∈ scope.names, y.2 ≠ .cell ∧ y.2 ≠ .free) (hx : scope.names.lookup x = some .local) (tok : TomeOk rows emp)
    (I : Inv X pins σ H s) (n : Ny s.gens) (hg : Gl X "every_swaps") (he : PE X.nox e te) (h : te σ H (fun y H' => Ex H H' ∧ Dp X.K H' y (tomeD rows emp)))
    (hgN : ∀ (s : Shared) (H : Hp) (C : Addr) (cl : List (Str × Addr)) (fp : List Addr), PG (X.blk s H scope (compEnvC scope cl C X.env) fp) (.Name x tp) (gName j))
    (hk : ∀ (s : Shared) (H : Hp) (C : Addr) (cl : List (Str × Addr)) (fp : List Addr), PE (X.blk s H scope (compEnvC scope cl C X.env) fp) kx tk)
    (hks : ∀ (σ' : L2.St) (H' : Hp) (v : V) (r : Row) (Q : VK), σ'[j]? = some (some v) → σ'.length = σ.length → RowV X.K H' v r → r ∈ bestRows (near0 rows) → (∀ b H'', Ex H' H'' → H'' b = some (.tup (sL (keyR (near0 rows) r))) → Q (.ref b) H'') → tk σ' H' Q)
    (hv : ∀ (s : Shared) (H : Hp) (C : Addr) (cl : List (Str × Addr)) (fp : List Addr), PE (X.blk s H scope (compEnvC scope cl C X.env) fp) vx tv) (hvs : ∀ (σ' : L2.St) (H' : Hp) (Q : VK), Q (.bl true) H' → tv σ' H' Q)
    (hRR : ∀ (D Cc : Addr) (s' : Shared) (m : Str → Option Value) (H' : Hp) (kvs : List (List Key × V)), Inv X pins σ H' s' → Ny s'.gens → Ex H H' → H' D = some (.dT kvs) → Kvs (near0 rows) (bestRows (near0 rows)) kvs → s'.heap.Ns Cc m → FpOk X pins H' Cc → compPost (M2 X.prog X.w) X.A NoE use Qf (.ref D) Cc (.ok .next) s')
    (hst : starEach [e] X.env = [(false, eval e X.env)] := by rfl) :
    wpAny (M2 X.prog X.w) X.A (comprehension (.DictComp kx vx [⟨.Name x tp, .Call (.Name "every_swaps" p) [e] [] cp, [], 0⟩] scope pos) scope X.env pos' newDict false (eval (.Call (.Name "every_swaps" p) [e] [] cp) X.env) use) Qf NoE s := by
  have hfree : ∀ y ∈ scope.names, y.2 = .free → ∃ c, X.env.cells.lookup y.1 = some c := fun y hy e => absurd e (hce y hy).2
  refine wpAny_comprehension_free (use := use) rfl (fun _ => rfl) (closure_ok hfree) ok.kind (fun y hy e => by rw [ok.uniq y hy, e]) (thn (esw_call B I n (hr.mono (by decide)) hg he h hst) fun u s2 hh => ?_)
  obtain ⟨y, H1, s1, a0, oF, o0, cdv, rfl, ⟨ex1, hv1⟩, I1, n1, gn⟩ := hh
  refine iter2 (genAt_of gn.ho gn.isG gn.slot) ?_
  have I2 : Inv X pins σ H1 s2 := gn.inv
  have n2 : Ny s2.gens := gn.ny
  have nok := near_ok tok []
  have hFx := gn.hF
  refine wpAny_newObj_type (newEnv_comp ?_)
  have hna : s1.heap.objs.size < a0 := gn.na
  generalize hD : s2.heap.objs.size = D
  have haD : a0 < D := by rw [← hD]; exact Heap.lt_size gn.ho
  have hDn : H1 D = none := I2.hok.fresh (Nat.le_of_eq hD)
  generalize hs3 : ({ s2 with heap := s2.heap.push { cls := .type "dict", data := .dict #[] } } : Shared) = s3
  have e3 : s3.heap = s2.heap.push { cls := .type "dict", data := .dict #[] } := by rw [← hs3]
  have g3 : s3.gens = s2.gens := by rw [← hs3]
  have o3 : s3.os = s2.os := by rw [← hs3]
  have n3 : Ny s3.gens := by rw [g3]; exact n2
  have I3 : Inv X pins σ (upd H1 D (.dT [])) s3 := by
    rw [← hs3]
    refine I2.laid (t' := s2.toks) (fun b o e => Heap.get?_push_of_some _ e) (Nat.le_of_eq hD) ?_
    rw [← hD]
    exact dt_empty s2.heap I2.big
  have z3 : s3.heap.objs.size = D + 1 := by rw [e3, Heap.size_push, hD]
  generalize hfpd : ((List.range (D + 1)).filter fun b => decide (s1.heap.objs.size ≤ b) && ((upd H1 D (.dT [])) b).isNone) = fp
  have mfp : ∀ b, b ∈ fp ↔ b < D + 1 ∧ s1.heap.objs.size ≤ b ∧ (upd H1 D (.dT [])) b = none := fun b => by
    rw [← hfpd, List.mem_filter, List.mem_range, Bool.and_eq_true, decide_eq_true_eq, Option.isNone_iff_eq_none]
  have f3 : ∀ b ∈ fp, FpOk X pins (upd H1 D (.dT [])) b ∧ b < s3.heap.objs.size := fun b hb => by
    obtain ⟨h1, h2, h3⟩ := (mfp b).mp hb
    exact ⟨I1.fpOk h2 h3, by rw [z3]; exact h1⟩
  have I4 := block_start I3 ok hN f3
  have pk := hk s3 (upd H1 D (.dT [])) s3.heap.objs.size (cellsFrom (s3.heap.objs.size + 1) scope.names (cloFrom X.env.cells scope.names [])) fp
  have pgn := hgN s3 (upd H1 D (.dT [])) s3.heap.objs.size (cellsFrom (s3.heap.objs.size + 1) scope.names (cloFrom X.env.cells scope.names [])) fp
  have pv' := hv s3 (upd H1 D (.dT [])) s3.heap.objs.size (cellsFrom (s3.heap.objs.size + 1) scope.names (cloFrom X.env.cells scope.names [])) fp
  show codeAny _ _ (.compStart (.DictComp kx vx [⟨.Name x tp, .Call (.Name "every_swaps" p) [e] [] cp, [], 0⟩] scope pos) 0 (.ref a0) (.ref D) (compEnvC scope (cellsFrom (s3.heap.objs.size + 1) scope.names (cloFrom X.env.cells scope.names [])) s3.heap.objs.size X.env)) _ { s3 with heap := pushCells (s3.heap.push { cls := .type "dict", data := .dict #[] }) scope.names }
  have cel : cellsFrom (s3.heap.objs.size + 1) scope.names (cloFrom X.env.cells scope.names []) = [] := by
    rw [clo_nil fun y hy => (hce y hy).2]
    exact cells_none _ _ _ fun y hy => (hce y hy).1
  generalize hce' : compEnvC scope (cellsFrom (s3.heap.objs.size + 1) scope.names (cloFrom X.env.cells scope.names [])) s3.heap.objs.size X.env = ce at I4 pk pgn pv' ⊢
  have cL : ce.locals = s3.heap.objs.size := by subst hce'; rfl
  have cC : ce.cells = [] := by subst hce'; exact cel
  generalize hH3 : upd H1 D (.dT []) = H3 at I3 I4 pk pgn pv' f3 mfp
  have ex3 : Ex H1 H3 := by rw [← hH3]; exact Ex.new hDn
  have h3D : H3 D = some (.dT []) := by rw [← hH3]; exact upd_same
  have h3u : ∀ b, b ≠ D → H3 b = H1 b := fun b hb => by rw [← hH3]; exact upd_ne hb
  generalize hs4 : ({ s3 with heap := pushCells (s3.heap.push { cls := .type "dict", data := .dict #[] }) scope.names } : Shared) = s4 at I4 ⊢
  have n4 : Ny s4.gens := by rw [← hs4]; exact n3
  have g4 : s4.gens = s2.gens := by rw [← hs4]; exact g3
  have k4 : ∀ b o, s2.heap.get? b = some o → s4.heap.get? b = some o := fun b o z => by
    rw [← hs4]
    refine pushCells_keeps _ _ _ _ (Heap.get?_push_of_some _ ?_)
    rw [e3]
    exact Heap.get?_push_of_some _ z
  -- the generator's side
  have ok0 : Gf.Ok (GX X) ⟨eswEnv s1.heap.objs.size f cdv, X.stack, nEsw, true⟩ := gn.ok true
  have okd : ∀ d, Gf.Ok (Gd (GX X) (near0 rows) d) ⟨eswEnv s1.heap.objs.size f cdv, X.stack, nEsw, true⟩ := fun d => ⟨ok0.mod, ok0.kind, ok0.glob, ok0.blt, ok0.frame, ok0.cells, ok0.names, ok0.bsz, ok0.frs⟩
  have l1D : s1.heap.objs.size < D := Nat.lt_trans hna haD
  have lt13 : s1.heap.objs.size < s3.heap.objs.size := by rw [z3]; exact Nat.lt_succ_of_lt l1D
  have fsz : ∀ {b : Addr}, s1.heap.objs.size ≤ b → b ∉ frs X.stack := fun {b} hb z => by
    rcases List.mem_cons.mp (I1.stkSub b z) with h | h
    · rw [h] at hb; exact absurd (Nat.lt_of_lt_of_le I1.lt hb) (Nat.lt_irrefl _)
    · exact I1.nofs hb h
  have hj : j < σ.length := by
    have := ok.ix (x, j) List.mem_cons_self
    rw [I.len]
    exact (List.getElem?_eq_some_iff.mp this).1
  have hcn : ce.locals = D + 1 := by rw [cL, z3]
  have osx : s3.os = X.s_0.os := by rw [o3]; exact I2.os
  have mkR : ∀ (d : Addr) (oC : Obj) (s' : Shared) (H' : Hp), Ex H1 H' → (∃ kvs, H' D = some (.dT kvs)) → Wr (Gd (GX X) (near0 rows) d) ⟨eswEnv s1.heap.objs.size f cdv, X.stack, nEsw, true⟩ (X.blk s3 H3 scope ce fp) [] [(a0, o0), (D + 1, oC)] s' H' := fun d oC s' H' xe ⟨kvs, hk⟩ => {
    ok := okd d
    stk := rfl
    prog := rfl
    w := rfl
    base := rfl
    os := osx
    d := .inr fun H g => let ⟨kvs, e, _⟩ := g; ⟨_, e⟩
    loc := .inr ⟨(D + 1, oC), List.mem_cons_of_mem _ List.mem_cons_self, hcn.symm⟩
    cells := fun y c hc => by rw [show (X.blk s3 H3 scope ce fp).env.cells = [] from cC] at hc; cases hc
    pins := fun q hq => nomatch (show q ∈ ([] : List (Addr × Obj)) from hq)
    ex := fun b h1 h2 h3 h4 => by
      by_cases hb : b < D + 1
      · refine .inl ((mfp b).mpr ⟨hb, h1, ?_⟩)
        cases h5 : H3 b with
        | none => rfl
        | some o =>
          by_cases hbD : b = D
          · rw [hbD, hk] at h3; cases h3
          · rw [h3u b hbD] at h5
            rw [xe b o h5] at h3; cases h3
      · exact .inr (by show s3.heap.objs.size ≤ b; rw [z3]; exact Nat.le_of_not_lt hb) }
  have loc : ∀ {σ' : L2.St} {pn : List (Addr × Obj)} {H' : Hp} {s' : Shared}, Inv (X.blk s3 H3 scope ce fp) pn σ' H' s' → ∃ oC, s'.heap.get? (D + 1) = some oC ∧ H' (D + 1) = none ∧ ∀ v, oC.data ≠ .cell v := fun {σ' pn H' s'} J => by
    obtain ⟨m, ⟨o, es, ep, ho, hd, _⟩, _⟩ := J.loc
    have ho : s'.heap.get? ce.locals = some o := ho
    rw [hcn] at ho
    have := J.free
    have this : H' ce.locals = none := this
    rw [hcn] at this
    exact ⟨o, ho, this, fun v z => by rw [hd] at z; cases z⟩
  have nCs : D + 1 ∉ frs X.stack := fsz (Nat.le_of_lt (Nat.lt_succ_of_lt l1D))
  generalize hL0 : s1.heap.objs.size = L0 at *
  generalize hF0 : (⟨eswEnv L0 f cdv, X.stack, nEsw, true⟩ : Gf) = F0 at *
  have F0n : F0.n = L0 := by rw [← hF0]; rfl
  have F0o : F0.outer = X.stack := by rw [← hF0]
  have F0y : F0.yf = true := by rw [← hF0]
  generalize hrs : bestRows (near0 rows) = rs at *
  -- the state between two turns
  let J : Nat → Shared → Prop := fun m s' =>
    (m = rs.length + 1 ∧ Inv (X.blk s3 H3 scope ce fp) [] (wipe σ [j]) H3 s' ∧ Ny s'.gens ∧ s'.gens[s1.gens.size]? = some (.fresh (.func (defBody sEsw) (eswEnv L0 f cdv))) ∧ s'.heap.get? L0 = some oF ∧ s'.heap.get? a0 = some o0) ∨
    (∃ done rest d gs lv gl H' oC kvs, rs = done ++ rest ∧ m = rest.length ∧ Inv (X.blk s3 H3 scope ce fp) [] (wipe σ [j]) H' s' ∧ Wt (Gd (GX X) (near0 rows) d) F0 40 s1.gens.size rest gs lv [(a0, o0), (D + 1, oC)] gl H' s' ∧ isS gs = true ∧ H1 d = none ∧ d ≠ D ∧ Ex H1 H' ∧ H' D = some (.dT kvs) ∧ Kvs (near0 rows) done kvs)
  have after : ∀ (M : Nat) (d : Addr) (done rest : List Row) (H' : Hp) (s' : Shared) (oC : Obj) (kvs : List (List Key × V)), rest.length ≤ M → rs = done ++ rest → H1 d = none → d ≠ D → Ex H1 H' → H' D = some (.dT kvs) → Kvs (near0 rows) done kvs → ∀ (e : End) (sx : Shared),
      (e.quiet = true ∧ ((∃ u, e.result = .yielded u ∧ NxY (Gd (GX X) (near0 rows) d) F0 (X.blk s3 H3 scope ce fp) [] [(a0, o0), (D + 1, oC)] (wipe σ [j]) 40 s1.gens.size rest H' s' u (sx.setGen s1.gens.size e.genState)) ∨ (e = .ret (.ok (.ret .none)) ∧ NxD (Gd (GX X) (near0 rows) d) F0 (X.blk s3 H3 scope ce fp) [] [(a0, o0), (D + 1, oC)] (wipe σ [j]) s1.gens.size rest H' s' sx))) →
      (e.quiet = true ∧ ((∃ u, e.result = .yielded u ∧ (fun r s1' => match r with
        | none => compPost (M2 X.prog X.w) X.A NoE use Qf (.ref D) (D + 1) (.ok .next) s1'
        | some v => wpAny (M2 X.prog X.w) X.A (letOwnedTupleGo (.Name x tp) (.ref a0) v) (fun _ s2 => wpAny (M2 X.prog X.w) X.A (assign (.Name x tp) ce v) (fun _ s3 => wpAny (M2 X.prog X.w) X.A (eval kx ce) (fun kv s4 => wpAny (M2 X.prog X.w) X.A (eval vx ce) (fun vv s5 =>
          wpAny (M2 X.prog X.w) X.A (dictSet D kv vv) (fun _ s6 => ∃ m', m' < M ∧ J m' s6) NoE s5) NoE s4) NoE s3) NoE s2) NoE s1' : Option Value → Shared → Prop) (some u) (sx.setGen s1.gens.size e.genState)) ∨
        (e = .ret (.ok (.ret .none)) ∧ ∀ (h' : Heap), (∀ c o, sx.heap.get? c = some o → h'.get? c = some o) → compPost (M2 X.prog X.w) X.A NoE use Qf (.ref D) (D + 1) (.ok .next) { sx.setGen s1.gens.size .finished with heap := h' }))) := by
    intro M d done rest H' s' oC kvs hM hrd hd hdD hex hkD hkv e sx hh
    refine ⟨hh.1, ?_⟩
    rcases hh.2 with ⟨u, eu, r, rs', v, gs', lv', gl', H'', e1, I2, he', rx, rv, gd, sz, W', hS, _⟩ | ⟨ee, H'', e1, I2, he', gd, xk, ny', sz, hg'⟩
    · refine .inl ⟨u, eu, ?_⟩
      generalize sx.setGen s1.gens.size e.genState = s5 at I2 W' sz ⊢
      refine wpAny_pure ?_
      obtain ⟨Hs, rdy1, hex1⟩ := W'.rdy
      obtain ⟨gd1, ⟨oF1, hF1⟩, hlv1, hgl1, _⟩ := rdy_iff.mp rdy1
      have wa := W'.pin (a0, o0) (List.mem_append_right _ List.mem_cons_self)
      have wap : ∀ q ∈ lv', q.1 ≠ D + 1 := (W'.apart (D + 1, oC) (List.mem_cons_of_mem _ List.mem_cons_self)).2
      have wan := W'.apart (a0, o0) List.mem_cons_self
      have W0 : Wt (Gd (GX X) (near0 rows) d) F0 40 s1.gens.size rs' gs' lv' [(a0, o0)] gl' H'' s5 := W'.rexp fun q hq => by
        rw [List.mem_singleton] at hq
        subst hq
        exact ⟨wa.1, wa.2.1, wa.2.2.1, wa.2.2.2, wan.1, wan.2⟩
      have Ip : Inv (X.blk s3 H3 scope ce fp) ((a0, o0) :: lv') (wipe σ [j]) H'' s5 := I2.pins_of fun q hq => by
        rcases List.mem_cons.mp hq with rfl | hq
        · refine ⟨wa.1, wa.2.1, ?_, ?_, wa.2.2.2⟩
          · show a0 ≠ ce.locals
            rw [hcn]
            exact Nat.ne_of_lt (Nat.lt_succ_of_lt haD)
          · show a0 ∉ frs X.stack
            rw [← F0o]
            exact wa.2.2.1
        · have z := W'.pin q (List.mem_append_left _ hq)
          refine ⟨z.1, z.2.1, ?_, ?_, z.2.2.2⟩
          · show q.1 ≠ ce.locals
            rw [hcn]
            exact wap q hq
          · show q.1 ∉ frs X.stack
            rw [← F0o]
            exact z.2.2.1
      refine (pg_af (X := X.blk s3 H3 scope ce fp) pgn Ip rx (show gName j v (wipe σ [j]) H'' (fun σ' Hx => σ' = (wipe σ [j]).set j (some v) ∧ Hx = H'') from ⟨rfl, rfl⟩)) |> fun hh => thn hh fun _ s6 ⟨σ6, H6, I6, af6, e6, e6'⟩ => ?_
      subst e6
      subst e6'
      have hsj : ((wipe σ [j]).set j (some v))[j]? = some (some v) := List.getElem?_set_self (by rw [wipe_length]; exact hj)
      refine thn (pe_af (X := X.blk s3 H3 scope ce fp) pk I6 (hks _ _ v r (fun u H7 => ∃ b, u = .ref b ∧ Ex H6 H7 ∧ H7 b = some (.tup (sL (keyR (near0 rows) r)))) hsj (by rw [List.length_set, wipe_length]) rv (by rw [hrd, e1]; simp) fun b H7 e7 hb => ⟨b, rfl, e7, hb⟩)) fun kv s7 ⟨v7, H7, I7, af7, r7, b, ev7, x7, hb7⟩ => ?_
      subst ev7
      cases r7
      refine thn (pe_af (X := X.blk s3 H3 scope ce fp) pv' I7 (hvs _ _ (fun u H8 => u = .bl true ∧ H8 = H7) ⟨rfl, rfl⟩)) fun vv s8 ⟨v8, H8, I8, af8, r8, e8, e8'⟩ => ?_
      subst e8
      subst e8'
      have hkD6 : H6 D = some (.dT kvs) := he' D _ hkD fun z => absurd z.symm hdD
      have hkD8 : H8 D = some (.dT kvs) := x7 D _ hkD6
      refine tr_more (Rx.here s8) (d_dictSetT (X := X.blk s3 H3 scope ce fp) (s := numb s8) (k := (keyR (near0 rows) r).map Sum.inr) (v := .bl true) (E := NoE) (Q := fun _ z => Inv (X.blk s3 H3 scope ce fp) ((a0, o0) :: lv') ((wipe σ [j]).set j (some v)) (upd H8 D (.dT (putK kvs ((keyR (near0 rows) r).map Sum.inr) (.bl true)))) z) hr.units0 (inv_numb I8) hkD8 (by rw [key_kv]; exact hb7) (Nat.lt_of_le_of_lt (kvs_len nok hkv) (by decide)) r8 fun s' I' => I') (fun _ z s9 k9 I9' => ?_) fun _ _ _ _ q => q
      have I9 := inv_aft k9.aft I8.bare I9'
      have af9 : Af s8 s9 := ⟨z, k9.aft, I9'.bare⟩
      have pm : ∀ q ∈ lv' ++ [(a0, o0)], q ∈ (X.blk s3 H3 scope ce fp).pn ++ ((a0, o0) :: lv') := fun q hq => by
        refine List.mem_append_right _ ?_
        rcases List.mem_append.mp hq with h | h
        · exact List.mem_cons_of_mem _ h
        · rw [List.mem_singleton.mp h]; exact List.mem_cons_self
      have W6 := W0.af hS af6 (fun b o e _ => e) fun q hq => ⟨(I6.pin q (pm q hq)).1, (I6.pin q (pm q hq)).2.1⟩
      have W7 := W6.af hS af7 (ex_exn x7) fun q hq => ⟨(I7.pin q (pm q hq)).1, (I7.pin q (pm q hq)).2.1⟩
      have W8 := W7.af hS af8 (fun b o e _ => e) fun q hq => ⟨(I8.pin q (pm q hq)).1, (I8.pin q (pm q hq)).2.1⟩
      have W9 := W8.af hS af9 (H' := upd H8 D (.dT (putK kvs ((keyR (near0 rows) r).map Sum.inr) (.bl true)))) (fun b o eb hb => by
        by_cases hbD : b = D
        · rw [hbD, hkD8] at eb
          cases eb
          exact absurd ((hb _ rfl).symm.trans hbD) hdD
        · rw [upd_ne hbD]; exact eb) fun q hq => ⟨(I9.pin q (pm q hq)).1, (I9.pin q (pm q hq)).2.1⟩
      have I9u : Inv (X.blk s3 H3 scope ce fp) [] (wipe σ [j]) (upd H8 D (.dT (putK kvs ((keyR (near0 rows) r).map Sum.inr) (.bl true)))) s9 := (I9.pins_of (pins' := []) fun _ h => nomatch h).weak (by rw [List.length_set]) fun i v' hi => by
        have hij : i ≠ j := fun z => (wipe_some hi).2 (by rw [z]; exact List.mem_singleton.mpr rfl)
        rw [List.getElem?_set_ne (Ne.symm hij)]
        exact hi
      obtain ⟨oC', c1, c2, c3⟩ := loc I9u
      have p9 := W9.pin (a0, o0) (List.mem_append_right _ List.mem_cons_self)
      have a9 := W9.apart (a0, o0) List.mem_cons_self
      have W10 := W9.rexp (xp' := [(a0, o0), (D + 1, oC')]) fun q hq => by
        rcases List.mem_cons.mp hq with rfl | hq
        · exact ⟨p9.1, p9.2.1, p9.2.2.1, p9.2.2.2, a9.1, a9.2⟩
        · rw [List.mem_singleton] at hq
          subst hq
          exact ⟨c1, c2, by rw [F0o]; exact nCs, c3, by rw [F0n]; exact Nat.ne_of_gt (Nat.lt_succ_of_lt l1D), wap⟩
      have exE : Ex H1 H8 := fun b o hb => x7 b o (he' b o (hex b o hb) fun z => by rw [z, hd] at hb; cases hb)
      exact ⟨rs'.length, by rw [e1, List.length_cons] at hM; omega, .inr ⟨done ++ [r], rs', d, gs', lv', gl', _, oC', _, by rw [hrd, e1, List.append_assoc]; rfl, rfl, I9u, W10, hS, hd, hdD, kpE.mtn exE hDn, upd_same, hkv.put r _⟩⟩
    · refine .inr ⟨ee, fun h' hk => ?_⟩
      have I3x : Inv (X.blk s3 H3 scope ce fp) [] (wipe σ [j]) H'' { sx.setGen s1.gens.size .finished with heap := h' } := (inv_gens (x := .finished) (g := s1.gens.size) I2 rfl).kept (t' := sx.toks) hk
      have n6 : Ny ({ sx.setGen s1.gens.size .finished with heap := h' } : Shared).gens := nyx_set (ny'.x s1.gens.size) fun _ _ _ _ _ _ z => by cases z
      generalize ({ sx.setGen s1.gens.size .finished with heap := h' } : Shared) = s6 at I3x n6 ⊢
      have I7 : Inv X.nox pins σ H'' s6 := (I3.wish NoE).call' (ch := fp) I3x.os I3x.base I3x.hok I3x.bare fun b hb => ⟨(f3 b hb).1.2.2.2.1, (f3 b hb).1.2.1, (f3 b hb).1.2.2.2.2.1, (f3 b hb).1.2.2.2.2.2⟩
      obtain ⟨mm, hn, _⟩ := I3x.loc
      have hn : s6.heap.Ns ce.locals mm := hn
      rw [hcn] at hn
      have nC : H'' (D + 1) = none := by rw [← hcn]; exact I3x.free
      have ex'' : Ex H1 H'' := fun b o hb => he' b o (hex b o hb) fun z => by rw [z, hd] at hb; cases hb
      have hkD' : H'' D = some (.dT kvs) := he' D _ hkD fun z => absurd z.symm hdD
      rw [e1, List.append_nil] at hrd
      exact hRR D (D + 1) s6 mm H'' kvs I7.unwish n6 (ex1.trans ex'') hkD' (by rw [hrd]; exact hkv) hn (I3.fpOk (by rw [z3]; exact Nat.le_refl _) nC)
  have loop : codeAny (M2 X.prog X.w) X.A (.compLoop (.DictComp kx vx [⟨.Name x tp, .Call (.Name "every_swaps" p) [e] [] cp, [], 0⟩] scope pos) 0 (.ref a0) (.ref D) ce) (compPost (M2 X.prog X.w) X.A NoE use Qf (.ref D) (D + 1)) s4 := by
    refine code2_dc J (fun m s5 hJ => ?_) (rs.length + 1) (.inl ⟨rfl, I4, n4, ?_, k4 _ _ gn.hF, k4 _ _ gn.ho⟩)
    · have hpin : ∀ {s5 : Shared} {H5 : Hp} {oC : Obj}, s5.heap.get? a0 = some o0 → H5 a0 = none → s5.heap.get? (D + 1) = some oC → H5 (D + 1) = none → (∀ v, oC.data ≠ .cell v) → ∀ q ∈ [(a0, o0), (D + 1, oC)], s5.heap.get? q.1 = some q.2 ∧ H5 q.1 = none ∧ q.1 ∉ frs F0.outer ∧ ∀ v, q.2.data ≠ .cell v := fun {s5 H5 oC} h1 h2 h3 h4 h5 q hq => by
        rcases List.mem_cons.mp hq with rfl | hq
        · refine ⟨h1, h2, by rw [F0o]; exact fsz (Nat.le_of_lt hna), fun v z => ?_⟩
          obtain ⟨_, nm, qn, hd⟩ := gn.isG
          rw [hd] at z
          cases z
        · rw [List.mem_singleton] at hq
          subst hq
          exact ⟨h3, h4, by rw [F0o]; exact nCs, h5⟩
      rcases hJ with ⟨rfl, I5, n5, hg5, hl5, ha5⟩ | ⟨done, rest, d, gs, lv, gl, H', oC, kvs, hrd, rfl, I5, W5, hS, hd, hdD, hex, hkD, hkv⟩
      · obtain ⟨oC, c1, c2, c3⟩ := loc I5
        have ha3 : H3 a0 = none := by rw [h3u a0 (Nat.ne_of_lt haD)]; exact gn.fa
        have hl3 : H3 L0 = none := by rw [h3u L0 (Nat.ne_of_lt l1D)]; exact gn.fn
        have hp := hpin ha5 ha3 c1 c2 c3
        have wk : Wk (GX X) F0 [(L0, oF)] [(a0, o0), (D + 1, oC)] [] s1.gens.size H3 (s5.setGen s1.gens.size .running) := wk_of (G := GX X) (X := X.blk s3 H3 scope ce fp) ok0 I5 F0o.symm rfl rfl rfl osx (n5.x _) (fun q hq => by
          rcases List.mem_append.mp hq with h | h
          · rw [List.mem_singleton] at h
            subst h
            exact ⟨hl5, hl3, by rw [F0o]; exact fsz (Nat.le_refl _), gn.nc⟩
          · exact hp q h) (fun q hq => by
          rw [F0n]
          rcases List.mem_cons.mp hq with rfl | hq
          · exact ⟨Nat.ne_of_gt hna, fun z hz => by rw [List.mem_singleton.mp hz]; exact Nat.ne_of_lt hna⟩
          · rw [List.mem_singleton] at hq
            subst hq
            exact ⟨Nat.ne_of_gt (Nat.lt_succ_of_lt l1D), fun z hz => by rw [List.mem_singleton.mp hz]; exact Nat.ne_of_lt (Nat.lt_succ_of_lt l1D)⟩) (fun x h => nomatch h) (size_of hg5)
        refine next2 hr.hd I5.nolimit hr.depth (genAt_of ha5 gn.isG gn.slot) hg5 ?_
        obtain ⟨fde, FE⟩ := B.FE
        have ef := esw_first (G := GX X) (C := C) (f := f) (fe := fe) (L := L0) (cdv := cdv) (outer := X.stack) (v := y) (t := t) (A := X.A.in1) (g0 := s1.gens.size) (oF := oF) (H := H3) (s := s5.setGen s1.gens.size .running) (xp := [(a0, o0), (D + 1, oC)]) B.T B.S B.M B.MN B.MA B.MF B.MB FE B.ME (by rw [hF0]; exact ok0) (gn.fr true) B.ht (Dp.mono kpE ex3 hv1) tok hr.in1 I.ok.frames (by rw [hF0]; exact wk)
        rw [hF0, hrs] at ef
        refine ef.imp fun e sx ⟨d, hd, q⟩ => after (rs.length + 1) d [] rs H3 s5 oC [] (Nat.le_succ _) rfl ?_ ?_ ex3 h3D kvs_nil e sx (nxt_eo (mkR d oC s5 H3 ex3 ⟨_, h3D⟩) I5 (size_of hg5) (fun q hq => ⟨(hp q hq).1, (hp q hq).2.2⟩) q)
        · cases h1d : H1 d with
          | none => rfl
          | some o => rw [ex3 d o h1d] at hd; cases hd
        · intro z
          rw [z, h3D] at hd
          cases hd
      · refine next2 hr.hd I5.nolimit hr.depth (genAt_of (W5.pin (a0, o0) (List.mem_append_right _ List.mem_cons_self)).1 gn.isG gn.slot) W5.ent ?_
        exact (nxt (mkR d oC s5 H' hex ⟨_, hkD⟩) W5 I5 (hr.in1.mono (by decide)) (by rw [F0o]; exact I.ok.frames)).imp fun e sx hh => after rest.length d done rest H' s5 oC kvs (Nat.le_refl _) hrd hd hdD hex hkD hkv e sx hh
    · rw [g4, gn.gens]
      exact Array.getElem?_push_size
  show codeAny _ _ _ (compPost (M2 X.prog X.w) X.A NoE use Qf (.ref D) s3.heap.objs.size) s4
  rw [z3]
  refine start2_dc loop (iter2 (genAt_of (k4 _ _ gn.ho) gn.isG gn.slot) loop)
end
end CH
/-! text C4 -/
/-! Together.__init__. -/
namespace CH
open PySem PySem.Spec PyProof.Rows L2 Evl RZ
open Sem (wp)
section
variable {X : Cx} {C f fe : Addr} {t : V} {e kx vx : Expr} {te tk tv : TE} {p pos cp tp pos' spos py : Pos} {scope : Scope} {x yn : Str} {j i : Nat}
/-- known = {key: True for x in every_swaps(e)} -/
def tDg (K : PySem.W.Frag) (te : TE) (i : Nat) : TS := fun D σ H => ∃ rows emp, TomeOk rows emp ∧ te σ H (fun y H' => Ex H H' ∧ Dp K H' y (tomeD rows emp)) ∧
  ∀ Da H' kvs, Ex H H' → H' Da = some (.dT kvs) → Kvs (near0 rows) (bestRows (near0 rows)) kvs → D.nx (σ.set i (some (.ref Da))) H'
theorem ps2_setDg (hN : X.N.Nodup) (B : EswP X.prog X.w X.K X.mg X.base C f fe t) (hr : Room 41 X.A) (hy : X.N[i]? = some yn) (hyl : X.env.scope.names.lookup yn = some .local)
    (hsw : swapsWith (.DictComp kx vx [⟨.Name x tp, .Call (.Name "every_swaps" p) [e] [] cp, [], 0⟩] scope pos) (some (.Name yn py)) spos.line X.env = pure true)
    (ok : BlkOk X.N X.env.scope scope [(x, j)]) (hce : ∀ y ∈ scope.names, y.2 ≠ .cell ∧ y.2 ≠ .free) (hx : scope.names.lookup x = some .local) (hg : Gl X "every_swaps") (he : PE X.nox e te)
    (hgN : ∀ (s : Shared) (H : Hp) (C : Addr) (cl : List (Str × Addr)) (fp : List Addr), PG (X.blk s H scope (compEnvC scope cl C X.env) fp) (.Name x tp) (gName j))
    (hk : ∀ (s : Shared) (H : Hp) (C : Addr) (cl : List (Str × Addr)) (fp : List Addr), PE (X.blk s H scope (compEnvC scope cl C X.env) fp) kx tk)
    (hks : ∀ (rows : Rows) (emp : List Str) (σ' : L2.St) (H' : Hp) (v : V) (r : Row) (Q : VK), TomeOk rows emp → σ'[j]? = some (some v) → σ'.length = X.N.length → RowV X.K H' v r → r ∈ bestRows (near0 rows) → (∀ b H'', Ex H' H'' → H'' b = some (.tup (sL (keyR (near0 rows) r))) → Q (.ref b) H'') → tk σ' H' Q)
    (hv : ∀ (s : Shared) (H : Hp) (C : Addr) (cl : List (Str × Addr)) (fp : List Addr), PE (X.blk s H scope (compEnvC scope cl C X.env) fp) vx tv) (hvs : ∀ (σ' : L2.St) (H' : Hp) (Q : VK), Q (.bl true) H' → tv σ' H' Q)
    (hst : starEach [e] X.env = [(false, eval e X.env)] := by rfl) :
    PS2 X (.Assign [.Name yn py] (.DictComp kx vx [⟨.Name x tp, .Call (.Name "every_swaps" p) [e] [] cp, [], 0⟩] scope pos) spos) (tDg X.K te i) := by
  refine ⟨fun pins s σ H D I n ⟨rows, emp, tok, h, k⟩ => ?_⟩
  rw [exec_Assign_Name_used _ _ _ _ hsw]
  refine wpAny_bind (wpAny_standAt (wpAny_bind ?_))
  show wpAny _ X.A (do let _ ← comprehension (.DictComp kx vx [⟨.Name x tp, .Call (.Name "every_swaps" p) [e] [] cp, [], 0⟩] scope pos) scope X.env (firstIterPos [⟨.Name x tp, .Call (.Name "every_swaps" p) [e] [] cp, [], 0⟩] pos) newDict false (eval (.Call (.Name "every_swaps" p) [e] [] cp) X.env) (some (assign (.Name yn py) X.env))) _ _ s
  refine wpAny_bind (thn (dg_core (Qf := fun _ s' => SP2 X pins D .next s') hN B hr ok hce hx tok I n hg he h hgN hk (fun σ' H' v r Q h1 h2 h3 h4 h5 => hks rows emp σ' H' v r Q tok h1 (h2.trans I.len) h3 h4 h5) hv hvs (fun L Cc s' m H' kvs I' n' ex hD hkv hn f => ?_) hst) fun _ s' hq => wpAny_pure (wpAny_pure hq))
  show wpAny (M2 X.prog X.w) _ (assign (.Name yn py) X.env (.ref L)) _ _ _
  refine tr_more (Rx.here s') (Q := fun _ z => Inv X.nox pins (σ.set i (some (.ref L))) H' z ∧ ∃ a, Heap.SameBut a s'.heap z.heap ∧ (a = X.env.locals ∨ X.env.cells.lookup yn = some a)) (E := NoE)
    (wpAny_assign_Name (store_ok2 (v := V.ref L) (X := X.nox) (s := numb s') (inv_numb (I'.wish _)) hN hy (.inl hyl) rfl (fun s2 I2 ha => ⟨I2, ha⟩) (.inr hyl))) (fun _ z s2 k2 q => ?_) fun _ _ _ _ q => q
  obtain ⟨I2', a, sb, ha⟩ := q
  have I2 : Inv X pins (σ.set i (some (.ref L))) H' s2 := (inv_aft k2.aft I'.bare I2').unwish
  have n2 : Ny s2.gens := k2.aft.ny I2'.bare n'
  obtain ⟨f0, f1, f2, f3, f4, f5⟩ := f
  have haC : Cc ≠ a := by
    rcases ha with z | z
    · rw [z]; exact f1
    · exact fun e => f4 yn a z e.symm
  rw [k2.aft.heap] at sb
  refine ⟨m, hn.sameBut sb haC, fun h3 sb3 => ?_⟩
  exact ⟨⟨_, H', I2.turned (t' := s2.toks) (fun b o hb e => (sb3.2 b hb).trans e) f0 f1 f3 f4 f5, k L H' kvs ex hD hkv⟩, n2⟩
end
theorem sw_trueD {kx vx : Expr} {gs : List Comprehension} {scope : Scope} {pos py : Pos} {y : Str} {l : Nat} {env : Env} (hk : env.scope.kind = .function) (hy : env.scope.names.lookup y = some .local) (hl : (py.line == pos.line) = true)
    (ha : (scope.names.any fun (n, k) => n == y && (k == .local || k == .cell)) = false) : swapsWith (.DictComp kx vx gs scope pos) (some (.Name y py)) l env = pure true := by
  have ky : env.kindOf y = some .local := hy
  have hb : env.blockKind = .function := by unfold Env.blockKind; rw [hk]; rfl
  unfold swapsWith
  simp only [hb, ky, ha, Expr.pos, hl]
  rfl
/-! the keys -/
theorem row_sub {rows : Rows} {emp : List Str} (T : TomeOk rows emp) {r : Row} (h : r ∈ bestRows (near0 rows)) : ∀ x ∈ GE.flat r, x ∈ nms (near0 rows) :=
  (GE.every_sound (near_ok T []).sym ordS (nms (near0 rows)) _ _ r h).1
theorem keyR_as {rows : Rows} {emp : List Str} (T : TomeOk rows emp) {r : Row} (h : r ∈ bestRows (near0 rows)) : asS (GE.flat r) = keyR (near0 rows) r := by
  refine (asS_of ((near_asc T []).sublist List.filter_sublist) fun x => ?_).symm
  rw [List.mem_filter, decide_eq_true_eq]
  exact ⟨fun z => z.2, fun z => ⟨row_sub T h x z, z⟩⟩
theorem row_len {near : Rows} (N : NearOk near) {r : Row} (h : r ∈ bestRows near) : r.length ≤ 4 := by
  have h1 := evRows_len h
  have h2 := GE.most_nu (nearF near) N.sym N.nd
  obtain ⟨S, hS, mS⟩ := h2.has
  have h3 : GE.cnt S (nms near) = 2 * r.length := by rw [h1]; exact mS.count N.nd hS
  have h4 : GE.cnt S (nms near) ≤ (nms near).length := List.countP_le_length
  have := nms_len N
  omega
def unkey (k : List Key) : List Str := k.map fun y => match y with | .inr x => x | .inl _ => Str.empty
theorem unkey_inr (l : List Str) : unkey (l.map Sum.inr) = l := by
  unfold unkey
  rw [List.map_map]
  exact List.map_id l
structure BestsOk (rows : Rows) (bests : List (List Str)) : Prop where
  best : BestOk (near0 rows) (bestRows (near0 rows)) bests
  len : bests.length ≤ 256
  each : ∀ b ∈ bests, b.length ≤ 8
theorem bests_of {rows : Rows} {emp : List Str} (T : TomeOk rows emp) {kvs : List (List Key × V)} (K : Kvs (near0 rows) (bestRows (near0 rows)) kvs) : BestsOk rows (kvs.map fun kv => unkey kv.1) := by
  have mm : ∀ {r : Row}, r ∈ bestRows (near0 rows) → ∀ x, x ∈ keyR (near0 rows) r ↔ x ∈ GE.flat r := fun {r} hr x => by
    unfold keyR
    rw [List.mem_filter, decide_eq_true_eq]
    exact ⟨fun z => z.2, fun z => ⟨row_sub T hr x z, z⟩⟩
  refine ⟨⟨fun b hb => ?_, fun r hr => ?_⟩, by rw [List.length_map]; exact kvs_len (near_ok T []) K, fun b hb => ?_⟩
  · obtain ⟨kv, h1, rfl⟩ := List.mem_map.mp hb
    obtain ⟨r, hr, e⟩ := K.of kv.1 (List.mem_map_of_mem h1)
    exact ⟨r, hr, fun x => by rw [e, unkey_inr]; exact mm hr x⟩
  · obtain ⟨kv, h1, h2⟩ := List.mem_map.mp (K.all r hr)
    exact ⟨unkey kv.1, List.mem_map.mpr ⟨kv, h1, rfl⟩, fun x => by rw [h2, unkey_inr]; exact mm hr x⟩
  · obtain ⟨kv, h1, rfl⟩ := List.mem_map.mp hb
    obtain ⟨r, hr, e⟩ := K.of kv.1 (List.mem_map_of_mem h1)
    rw [e, unkey_inr]
    exact Nat.le_trans (List.length_filter_le _ _) (nms_len (near_ok T []))
theorem six {α : Type} : ∀ {l : List α}, l.length = 6 → ∃ a b c d e f, l = [a, b, c, d, e, f]
  | [a, b, c, d, e, f], _ => ⟨a, b, c, d, e, f, rfl⟩
theorem flat_le (r : Row) : (GE.flat r).length = 2 * r.length := by
  induction r with
  | nil => rfl
  | cons p r ih => rw [GE.flat_cons, List.length_cons, List.length_cons, List.length_cons, ih]; omega
theorem flat_app (r : Row) (p : Str × Str) : GE.flat (r ++ [p]) = GE.flat r ++ [p.1, p.2] := by
  unfold GE.flat
  rw [List.flatMap_append]
  rfl
theorem flat_take (r : Row) (i : Nat) (h : r.length ≤ 4) : (GE.flat (r.take i)).length ≤ 8 := by
  rw [flat_le, List.length_take]; omega
mutual
theorem Dp.kd {K : PySem.W.Frag} {H H' : Hp} (r : Kd H H') : ∀ {v : V} {d : PyData}, Dp K H v d → Dp K H' v d
  | _, _, .non => .non
  | _, _, .bl b => .bl b
  | _, _, .int i => .int i
  | _, _, .str x => .str x
  | _, _, .tup e h => .tup (r.tup e) (DpAll.kd r h)
  | _, _, .lst e h => .lst (r.lst e) (DpAll.kd r h)
theorem DpAll.kd {K : PySem.W.Frag} {H H' : Hp} (r : Kd H H') : ∀ {v : List V} {d : List PyData}, DpAll K H v d → DpAll K H' v d
  | _, _, .nil => .nil
  | _, _, .cons a b => .cons (Dp.kd r a) (DpAll.kd r b)
end
/-! the def -/
structure TgC (K : PySem.W.Frag) (mg : Str → Option Value) (C : Addr) : Prop where
  mg : mg "Together" = some (.ref C)
  cls : SlX.SCls K C
  s0 : ∃ p, SlX.Slot1 K C "own_best" p 0
  s1 : ∃ p, SlX.Slot1 K C "own_names" p 1
  s2 : ∃ p, SlX.Slot1 K C "own_sheet" p 2
/-- an instance, as its callers have it -/
def TgJ (C : Addr) (H : Hp) (a dx : Addr) (bests : List (List Str)) : Prop := ∃ vs d ps, SlX.Slt H a C dx vs ∧ vs[0]? = some (some (.ref d)) ∧ H d = some (.lst ps) ∧ Paired (NS H) ps bests
abbrev sTgInit : Stmt := inn 28 1
abbrev nTgInit : List Str := ["self", "sheet", "known", "swaps", "pair", "name"]
theorem scTgInit : FnScope nTgInit ["self", "sheet"] (defScope sTgInit) := ⟨rfl, rfl, rfl, by decide +kernel, rfl, by decide +kernel, by decide +kernel⟩
def scTgB : Scope := { kind := .function, names := [(".0", .local), ("swaps", .local), ("as_set", .globalImplicit)], isGenerator := false, isCoroutine := false, more := [] }
def spTgInit (K : PySem.W.Frag) (C : Addr) : Sq := fun vs H Q => ∃ (x dx : Addr) (v : V) (rows : Rows) (emp : List Str), vs = [.ref x, v] ∧ New H x dx C ∧ Dp K H v (tomeD rows emp) ∧ TomeOk rows emp ∧ ∀ H' bests, Ko x dx H H' → TgJ C H' x dx bests → BestsOk rows bests → Q .non H'
section
variable {P : Program} {w : World} {K : PySem.W.Frag} {mg : Str → Option Value} {base : Heap} {f fs fe C CS CT : Addr} {t : V}
theorem ok_tgInit (F : Fn K "__init__" "Together.__init__" sTgInit [] [] f) (T : Blt mg) (S : TgC K mg CT) (SS : ShC K mg CS) (B : EswP P w K mg base C fs fe t) (G : Pr P w K mg base "tupled" 5 (spTupled K 4)) (GA : Pr P w K mg base "as_set" 1 (spAsSet K)) (MSh : MkR P w K mg base CS 6 (spShInit K CS)) (MN : MtP P w K mg base CS "names" 1 (spShNames CS)) :
    FnR2 P w K mg base 42 f (spTgInit K CT) := by
  have nd := scTgInit.nd
  refine Fn.ok2 (ps := ["self", "sheet"]) F scTgInit (fun kV doc pm an cdv ct us hl => by match us, hl with | [u, u2], _ => rfl) (fun vs H Q ⟨_, _, _, _, _, e, _⟩ => by rw [e]; rfl) (fun cdv A outer s H vs Q hr h => ?_)
  obtain ⟨x, dx, v, rows, emp, rfl, hn, hv, tok, k⟩ := h
  refine ⟨_, pss2_cons (ps2 (SlX.ps_sl (pv 0) (pe_pr G (hr.mono (by decide)) (by rfl) (pa_cons (pv 1) pa_nil))))
    (pss2_cons (ps2 (SlX.ps_sl (pv 0) (pe_mt0 MN SS.cls (pe_mkr MSh (hr.mono (by decide)) (by rfl) SS.mg (pa_cons (pv 1) pa_nil)) (hr.mono (by decide)))))
    (pss2_cons (ps2_setDg (i := 2) (j := 3) nd B hr rfl rfl (sw_trueD rfl rfl rfl (by decide +kernel)) (blkOk_by (N := nTgInit) (sc := defScope sTgInit) (by decide +kernel)) (by decide +kernel) rfl (by rfl) (pv 1)
      (fun _ _ _ _ _ => pg_name (i := 3) nd rfl (Or.inl rfl))
      (fun _ _ _ _ _ => pe_pr GA (hr.mono (by decide)) (by rfl) (pa_cons (pe_lc2 (own := [("pair", 4), ("name", 5)]) (vs1 := [5]) (g := gName 4) (g1 := gName 5) (tt := tYes) (tt1 := tYes) rfl nd (pi_tupK K (pv 3)) (blkOk_by (N := nTgInit) (sc := scTgB) (by decide +kernel)) (by decide)
        (fun _ _ _ _ _ => pg_name (i := 4) nd rfl (Or.inl rfl)) (fun _ _ _ _ _ => pts_nil) (fun _ _ _ _ _ => pi_tupK K (pv 4)) (fun _ _ _ _ _ => pg_name (i := 5) nd rfl (Or.inl rfl)) (fun _ _ _ _ _ => pts_nil) (fun _ _ _ _ _ => pv 5)) pa_nil))
      ?_ (fun _ _ _ _ _ => pe_bl) (fun _ _ _ q => q))
    (pss2_one (ps2 (SlX.ps_sl (pv 0) (pe_callTy (call_listT rfl) (by rfl) T.list (by decide +kernel) (pa_cons (pv 2) pa_nil))))))), ?_⟩
  · intro rows emp σ' H' v r Q tok h3 hl hr hmem q
    have nok := near_ok tok []
    have rl := row_len nok hmem
    obtain ⟨a, xs, rfl, ha, hp⟩ := hr
    have lx := paired_len hp
    obtain ⟨s0, s1, s2, s3, s4, s5, rfl⟩ := six (hl.trans rfl)
    refine ⟨_, h3, a, rfl, ⟨_, ha⟩, lc2E (goes_tup kpE ha) (fun i acc _ => acc = sL (GE.flat (r.take i))) (fun _ _ => rfl) (fun D i y H2 hi hy o => ?_) (fun D H5 acc hD e5 hacc pr => ?_)⟩
    · obtain ⟨p, hpi, t', rfl, ht'⟩ := paired_nth hp hy
      have tk : r.take (i + 1) = r.take i ++ [p] := take_succ_some hpi
      have ht2 := kpE.tup o.step ht'
      have ht3 : SqT K (del H2 D) t' [.str p.1, .str p.2] := by
        rcases ht2 with (e | ⟨ob, e⟩) | e
        · refine .inl (.inl ?_)
          rw [del_ne]
          · exact e
          · intro z
            subst z
            obtain ⟨_, acc, _, _, hac, _⟩ := o
            rw [hac] at e; cases e
        · refine .inl (.inr ⟨ob, ?_⟩)
          rw [del_ne]
          · exact e
          · intro z
            subst z
            obtain ⟨_, acc, _, _, hac, _⟩ := o
            rw [hac] at e; cases e
        · exact .inr e
      refine ⟨rfl, _, rfl, t', rfl, ⟨_, ht2⟩, ?_⟩
      refine lc2I (fun j acc _ => acc = sL (GE.flat (r.take i) ++ [p.1, p.2].take j)) (goes_tup kpE ht3) (o.to (Ex.refl _) fun acc p' => by rw [p']; simp) (fun H2 o2 => o2.to (Ex.refl _) fun acc p' => ?_) (fun j y H3 hj hy e2 o2 => ?_)
      · rw [p', tk, flat_app]
        rfl
      · refine ⟨rfl, ?_⟩
        have hj2 : j < 2 := hj
        have hy : y = .str ([p.1, p.2][j]'hj2) := by
          match j, hj2, hy with
          | 0, _, hy => exact (Option.some.inj hy).symm
          | 1, _, hy => exact (Option.some.inj hy).symm
        subst hy
        refine ⟨_, rfl, ?_⟩
        refine o2.yes2 e2 (Ex.refl _) (fun acc H hp => ?_) (fun acc hacc hp => ?_)
        · rw [hp, List.length_map, List.length_append]
          have h1 := flat_take r i rl
          have h2 : ([p.1, p.2].take (j + 1)).length ≤ 2 := by rw [List.length_take]; exact Nat.min_le_right _ _
          omega
        · have tk2 : [p.1, p.2].take (j + 1) = [p.1, p.2].take j ++ [[p.1, p.2][j]'hj2] := take_succ_some (List.getElem?_eq_getElem hj2)
          rw [hp, tk2, ← List.append_assoc]
          show _ = sL _
          unfold sL
          rw [List.map_append (l₂ := [_])]
          rfl
    rw [lx, List.take_length] at pr
    subst pr
    have fl := flat_take r r.length rl
    rw [List.take_length] at fl
    refine ⟨D, GE.flat r, rfl, SqL.of hacc, by omega, fun u H6 e6 hr6 => ?_⟩
    rw [keyR_as tok hmem] at hr6
    obtain ⟨b, rfl, hb⟩ := hr6
    exact q b H6 (e5.trans e6) hb
  · obtain ⟨p0, q0⟩ := S.s0
    obtain ⟨p1, q1⟩ := S.s1
    obtain ⟨p2, q2⟩ := S.s2
    refine ⟨v, rfl, v, tomeD rows emp, rfl, hv, okd_tome tok, fun r1 H1 e1 _ => ?_⟩
    have h1 : Half H H1 x dx CT [] := (Half.new hn).ex e1
    refine ⟨.ref x, rfl, x, CT, dx, p2, [], 2, rfl, h1.slt, S.cls, q2, ?_⟩
    have hv2 := Dp.kd (h1.kd (SlX.putS 2 r1 [])) (Dp.mono kpE e1 hv)
    have h2 := h1.put (SlX.putS 2 r1 [])
    generalize SlX.slH H1 x CT dx (SlX.putS 2 r1 []) = H2 at h2 hv2
    refine ⟨v, rfl, rd_sheet hv2 tok fun sh sdx H3 fs fd e3 sj => ?_⟩
    obtain ⟨sd, svs, ssl, _⟩ := id sj
    refine ⟨sh, sdx, svs, rfl, ssl, .ref sh, rows, rfl, sj.i, fun nm H4 e4 hnm => ?_⟩
    have h4 := (h2.ex e3).ex e4
    have hv4 := Dp.mono kpE (e3.trans e4) hv2
    refine ⟨.ref x, rfl, x, CT, dx, p1, _, 1, rfl, h4.slt, S.cls, q1, ?_⟩
    have hv5 := Dp.kd (h4.kd (SlX.putS 1 nm (SlX.putS 2 r1 []))) hv4
    have h5 := h4.put (SlX.putS 1 nm (SlX.putS 2 r1 []))
    generalize SlX.slH H4 x CT dx (SlX.putS 1 nm (SlX.putS 2 r1 [])) = H5 at h5 hv5
    refine ⟨rows, emp, tok, ⟨v, rfl, Ex.refl _, hv5⟩, fun D H6 kvs e6 hD hkv => ?_⟩
    refine ⟨_, rfl, D, kvs, rfl, hD, fun pb qs hpb hq => ?_⟩
    have e7 : Ex H6 (upd H6 pb (.lst qs)) := Ex.new hpb
    have h7 := (h5.ex e6).ex e7
    have hb7 : (upd H6 pb (.lst qs)) pb = some (.lst qs) := upd_same
    have bo := bests_of tok hkv
    have hq7 : Paired (NS (upd H6 pb (.lst qs))) qs (kvs.map fun kv => unkey kv.1) := by
      have hmap : ∀ k ∈ kvs.map (·.1), ∃ l : List Str, k = l.map Sum.inr := fun k hk => let ⟨r, _, e⟩ := hkv.of k hk; ⟨_, e⟩
      have : ∀ {qs : List V} {ks : List (List Key)}, Paired (fun (x : V) (k : List Key) => ∃ q, x = .ref q ∧ H6 q = some (.tup (k.map kV))) qs ks → (∀ k ∈ ks, ∃ l : List Str, k = l.map Sum.inr) → Paired (NS (upd H6 pb (.lst qs))) qs (ks.map unkey) → True := fun _ _ _ => trivial
      have go : ∀ {qs' : List V} {ks : List (List Key)}, Paired (fun (x : V) (k : List Key) => ∃ q, x = .ref q ∧ H6 q = some (.tup (k.map kV))) qs' ks → (∀ k ∈ ks, ∃ l : List Str, k = l.map Sum.inr) → Paired (NS (upd H6 pb (.lst qs))) qs' (ks.map unkey) := fun {qs' ks} h => by
        induction h with
        | nil => intro _; exact .nil
        | cons r t ih =>
          intro hm
          refine .cons ?_ (ih fun k hk => hm k (List.mem_cons_of_mem _ hk))
          obtain ⟨l, rfl⟩ := hm _ List.mem_cons_self
          obtain ⟨q, e, hqq⟩ := r
          rw [unkey_inr]
          rw [key_kv] at hqq
          exact ⟨q, e, e7 _ _ hqq⟩
      have := go hq hmap
      rw [List.map_map] at this
      exact this
    generalize upd H6 pb (.lst qs) = H7 at h7 hb7 hq7
    refine ⟨.ref x, rfl, x, CT, dx, p0, _, 0, rfl, h7.slt, S.cls, q0, ?_⟩
    have kd := h7.kd (SlX.putS 0 (.ref pb) (SlX.putS 1 nm (SlX.putS 2 r1 [])))
    refine k _ _ (h7.put _).ko ⟨_, pb, qs, (h7.put _).slt, rfl, kd _ (.lst _) trivial hb7, L2.Paired.mapP hq7 fun a b z => kd.ns z⟩ bo
end
end CH
/-! text C5 -/
/-! Together.can, Together.kept. -/
namespace CH
open PySem PySem.Spec PyProof.Rows L2 Evl RZ
open Sem (wp)
theorem pi_listK (K : PySem.W.Frag) {X : Cx} {tg e : Expr} {te : TE} (he : PE X e te) (h : X.K = K := by rfl) : PI X tg e (iList K te) := by subst h; exact pi_list he
/-- an instance -/
def TgI (C : Addr) (H : Hp) (v : V) (bests : List (List Str)) : Prop := ∃ a dx, v = .ref a ∧ TgJ C H a dx bests
theorem TgI.mono {R : Hp → Hp → Prop} (kp : Kp R) {C : Addr} {H H' : Hp} {v : V} {bests : List (List Str)} (r : R H H') (h : TgI C H v bests) : TgI C H' v bests := by
  obtain ⟨a, dx, rfl, vs, d, ps, sl, v0, hd, pr⟩ := h
  exact ⟨a, dx, rfl, vs, d, ps, slt_kp kp r sl, v0, kp.keep r hd (fun _ z => by cases z), L2.Paired.mapP pr fun _ _ q => q.mono kp r⟩
abbrev sTgCan : Stmt := inn 28 3
abbrev nTgCan : List Str := ["self", "some", "best", "name"]
theorem scTgCan : FnScope nTgCan ["self", "some"] (defScope sTgCan) := ⟨rfl, rfl, rfl, by decide +kernel, rfl, by decide +kernel, by decide +kernel⟩
def scTgCanB : Scope := { kind := .function, names := [(".0", .local), ("best", .cell), ("all", .globalImplicit), ("some", .cell)], isGenerator := false, isCoroutine := false, more := [] }
def spTgCan (K : PySem.W.Frag) (C : Addr) : Sp := fun vs H Q _ => ∃ (v : V) (u : Addr) (bests : List (List Str)) (l : List Str), vs = [v, .ref u] ∧ TgI C H v bests ∧ SqL K H u (sL l) ∧ bests.length ≤ 256 ∧ l.length ≤ 1000 ∧ ∀ H', Ex H H' → Q (.bl (GE.canM bests l)) H'
section
variable {P : Program} {w : World} {K : PySem.W.Frag} {mg : Str → Option Value} {base : Heap} {f fs fe C CS CT : Addr} {t : V}
theorem ok_tgCan (F : Fn K "can" "Together.can" sTgCan [] [] f) (T : Blt mg) (S : TgC K mg CT) : FnR P w K mg base CX0 1 f (spTgCan K CT) := by
  have nd := scTgCan.nd
  refine Fn.ok0 (ps := ["self", "some"]) F scTgCan (fun kV doc pm an cdv ct us hl => by match us, hl with | [u, u2], _ => rfl) (fun vs H Q E ⟨_, _, _, _, e, _⟩ => by rw [e]; rfl) (fun cdv A outer s H vs Q E hr h => ?_)
  obtain ⟨v, u, bests, l, rfl, ⟨a, dx, rfl, vs, d, ps, sl, v0, hd, pr⟩, hu, hb, hl, k⟩ := h
  obtain ⟨p0, q0⟩ := S.s0
  refine ⟨_, pss_one (ps_ret (pe_callB (crAnyK K rfl) (by rfl) T.any (by decide +kernel) (pa_cons (pe_lc (own := [("best", 2)]) (g := gName 2) (tt := tYes) rfl nd (pi_list (pe_slK K (pv 0))) (blkOk_by (N := nTgCan) (sc := defScope sTgCan) (by decide +kernel))
    (fun _ _ _ _ _ => pg_name (i := 2) nd rfl (Or.inr rfl)) (fun _ _ _ _ _ => pts_nil) (fun _ _ _ _ _ => pe_callB (crAllK K rfl) (by rfl) T.all (by decide +kernel) (pa_cons (pe_lc (own := [("name", 3)]) (g := gName 3) (tt := tYes) rfl nd (pi_listK K (pv 1)) (blkOk_by (own := [("name", 3)]) (N := nTgCan) (sc := scTgCanB) (by decide +kernel))
      (fun _ _ _ _ _ => pg_name (i := 3) nd rfl (Or.inl rfl)) (fun _ _ _ _ _ => pts_nil) (fun _ _ _ _ _ => pe_cmpR (opInS K) (pv 3) (pv 2) (by with_unfolding_all rfl))) pa_nil))) pa_nil))), ?_⟩
  obtain ⟨zs, z1, z2, z3⟩ := pairs_zip pr
  have zl : zs.length ≤ 256 := by
    have h1 : zs.length = bests.length := by rw [← z2, List.length_map]
    omega
  have hq1 : SqL K H d (zs.map (·.1)) := by rw [z1]; exact SqL.of hd
  refine ⟨.ref a, rfl, a, CT, dx, p0, vs, 0, .ref d, rfl, sl, S.cls, q0, v0, d, rfl, ⟨_, hq1⟩, fmJ kpE (fun z : V × List Str => z.1) (fun _ => true) (fun z => .bl (l.all fun x => decide (x ∈ z.2))) zs (goes_lstM kpE hq1) rfl (by omega) (by show 2 < 4; decide) (fun _ => rfl) (fun _ _ _ _ => evT_yes kpE) (fun z H' hz _ e2 Q' q => ?_) (fun D2 H2 hD2 e2 hl2 => ?_)⟩
  · obtain ⟨b, eb, hbt⟩ := (z3 z hz).mono kpE e2
    have hu2 := kpE.lst e2 hu
    refine ⟨.ref u, rfl, u, rfl, ⟨_, hu2⟩, fmJ kpE V.str (fun _ => true) (fun x => .bl (decide (x ∈ z.2))) l (goes_lstM kpE hu2) rfl (by omega) (by show 3 < 4; decide) (fun _ => rfl) (fun _ _ _ _ => evT_yes kpE) (fun x H3 hx _ e3 Q3 q3 => ?_) (fun D3 H3 hD3 e3 hl3 => ?_)⟩
    · exact ⟨.str x, rfl, z.1, rfl, x, b, z.2, rfl, eb, .inl (kpE.tup e3 (SqT.of hbt)), q3 _ _ (Ex.refl _) rfl⟩
    · rw [all_filter_true] at hl3
      refine ⟨D3, l.map fun x => decide (x ∈ z.2), rfl, SqL.of (by rw [List.map_map]; exact hl3), q _ _ e3 ?_⟩
      rw [List.all_map]
      rfl
  · rw [all_filter_true] at hl2
    refine ⟨D2, zs.map fun z => l.all fun x => decide (x ∈ z.2), rfl, SqL.of (by rw [List.map_map]; exact hl2), ?_⟩
    have e : (zs.map fun z => l.all fun x => decide (x ∈ z.2)).any id = GE.canM bests l := by
      unfold GE.canM
      rw [← z2, List.any_map, List.any_map]
      rfl
    rw [e]
    exact k H2 e2
abbrev sTgKept : Stmt := inn 28 4
abbrev nTgKept : List Str := ["self", "line", "found", "name"]
theorem scTgKept : FnScope nTgKept ["self", "line"] (defScope sTgKept) := ⟨rfl, rfl, rfl, by decide +kernel, rfl, by decide +kernel, by decide +kernel⟩
def spTgKept (K : PySem.W.Frag) (C : Addr) : Sp := fun vs H Q _ => ∃ (v u : V) (bests : List (List Str)) (l : List Str), vs = [v, u] ∧ TgI C H v bests ∧ NT K H u l ∧ bests.length ≤ 256 ∧ l.length ≤ 50 ∧ RT H Q (asS (GE.keptM bests [] l))
theorem keptM_len (bests : List (List Str)) : ∀ (l found : List Str), (GE.keptM bests found l).length ≤ found.length + l.length
  | [], found => Nat.le_refl _
  | x :: l, found => by
    unfold GE.keptM
    refine Nat.le_trans (keptM_len bests l _) ?_
    split
    · rw [List.length_append, List.length_cons, List.length_cons, List.length_nil]; omega
    · rw [List.length_cons]; omega
theorem ok_tgKept (F : Fn K "kept" "Together.kept" sTgKept [] [] f) (T : Blt mg) (S : TgC K mg CT) (MC : MtP P w K mg base CT "can" 1 (spTgCan K CT)) (GA : Pr P w K mg base "as_set" 1 (spAsSet K)) : FnR P w K mg base CX0 2 f (spTgKept K CT) := by
  have nd := scTgKept.nd
  refine Fn.ok0 (ps := ["self", "line"]) F scTgKept (fun kV doc pm an cdv ct us hl => by match us, hl with | [u, u2], _ => rfl) (fun vs H Q E ⟨_, _, _, _, e, _⟩ => by rw [e]; rfl) (fun cdv A outer s H vs Q E hr h => ?_)
  obtain ⟨v, u, bests, l, rfl, tg, hu, hb, hl, k⟩ := h
  refine ⟨_, pss_cons (ps_set (i := 2) nd rfl (Or.inl rfl) (pe_lst pa_nil))
    (pss_cons (ps_for PassesOwn.never rfl (pi_tup (pv 1)) (pg_name (i := 3) nd rfl (Or.inl rfl) (Or.inl rfl))
      (pss_one (ps_if (pt_val (pe_mt MC S.cls (pv 0) hr (pa_cons (pe_lst (StX.pa_star (pv 2) (pa_cons (pv 3) pa_nil))) pa_nil)))
        (pss_one (ps_expr (pe_bm PySem.F.plainAttrs_list PySem.F.slot_list_append PySem.F.type_list_append mt_append (pv 2) (pa_cons (pv 3) pa_nil)))) pss_nil)))
    (pss_one (ps_ret (pe_pr GA hr (by rfl) (pa_cons (pv 2) pa_nil))))), ?_⟩
  obtain ⟨ub, rfl, hub⟩ := hu
  obtain ⟨a, dx, rfl, vs, d, ps, sl, v0, hd, pr⟩ := id tg
  refine ⟨by show (0 : Nat) ≤ sizeLine; decide, fun D hD => ?_⟩
  have e0 : Ex H (upd H D (.lst [])) := Ex.new hD
  refine ⟨.ref ub, rfl, ub, rfl, ⟨_, kpE.tup e0 hub⟩, for_tup (xs := sL l) (fun i σ H' => ∃ o3, σ = [some (.ref a), some (.ref ub), some (.ref D), o3] ∧ Ex H H' ∧ H' D = some (.lst (sL (GE.keptM bests [] (l.take i))))) ⟨none, rfl, e0, upd_same⟩ (fun i σ H' _ h => by obtain ⟨_, _, e, _⟩ := h; exact kpE.tup e hub) (fun i x σ H' hx h => ?_) (fun σ H' h => ?_)⟩
  · obtain ⟨o3, rfl, e1, hacc⟩ := h
    obtain ⟨n, hni, rfl⟩ := nth_map hx
    have tk : l.take (i + 1) = l.take i ++ [n] := take_succ_some hni
    have kl : (GE.keptM bests [] (l.take i)).length ≤ 50 := by
      have h1 := keptM_len bests (l.take i) []
      rw [List.length_take] at h1
      have h2 : ([] : List Str).length = 0 := rfl
      omega
    have kst : GE.keptM bests [] (l.take (i + 1)) = if GE.canM bests (GE.keptM bests [] (l.take i) ++ [n]) = true then GE.keptM bests [] (l.take i) ++ [n] else GE.keptM bests [] (l.take i) := by
      rw [tk, GE.keptM_app]
      rfl
    refine ⟨.ref a, rfl, a, dx, vs, rfl, slt_kp kpE e1 sl, .ref D, rfl, D, sL (GE.keptM bests [] (l.take i)), rfl, .inr (SqL.of hacc), .str n, rfl, ?_, fun q hq => ?_⟩
    · rw [List.length_append, List.length_map, sizeLine_eq]
      show _ + 1 ≤ _
      omega
    have e2 : Ex H' (upd H' q (.lst (sL (GE.keptM bests [] (l.take i)) ++ [.str n]))) := Ex.new hq
    have hq2 : (upd H' q (.lst (sL (GE.keptM bests [] (l.take i)) ++ [.str n]))) q = some (.lst (sL (GE.keptM bests [] (l.take i) ++ [n]))) := by rw [upd_same]; unfold sL; rw [List.map_append]; rfl
    generalize upd H' q (.lst (sL (GE.keptM bests [] (l.take i)) ++ [.str n])) = H2 at e2 hq2
    refine ⟨.ref a, q, bests, GE.keptM bests [] (l.take i) ++ [n], rfl, tg.mono kpE (e1.trans e2), SqL.of hq2, hb, ?_, fun H3 e3 => ⟨_, rfl, ?_⟩⟩
    · rw [List.length_append]; show _ + 1 ≤ _; omega
    have e13 := (e1.trans e2).trans e3
    have hacc3 := (e2.trans e3) _ _ hacc
    cases hc : GE.canM bests (GE.keptM bests [] (l.take i) ++ [n]) with
    | true =>
      rw [hc, if_pos rfl] at kst
      refine ⟨.ref D, rfl, .inl ⟨rfl, _, SqL.of hacc3⟩, .str n, rfl, D, _, _, rfl, rfl, hacc3, sz_lt (by rw [List.length_map]; omega), ?_⟩
      refine ⟨_, rfl, kpE.mtn e13 hD, ?_⟩
      rw [upd_same, kst]
      unfold sL
      rw [List.map_append]
      rfl
    | false =>
      rw [hc, if_neg (by decide)] at kst
      exact ⟨_, rfl, e13, by rw [kst]; exact hacc3⟩
  · obtain ⟨o3, rfl, e1, hacc⟩ := h
    rw [List.length_map, List.take_length] at hacc
    have kl : (GE.keptM bests [] l).length < 64 := by
      have h1 := keptM_len bests l []
      have h2 : ([] : List Str).length = 0 := rfl
      omega
    exact ⟨.ref D, rfl, D, GE.keptM bests [] l, rfl, SqL.of hacc, kl, fun r H5 e5 hr5 => k _ _ (e1.trans e5) hr5⟩
end
end CH
/-! text C6 -/
/-! The def kept. -/
namespace CH
open PySem PySem.Spec PyProof.Rows L2 Evl RZ
open Sem (wp)
def Pr2 (P : Program) (w : World) (K : PySem.W.Frag) (mg : Str → Option Value) (base : Heap) (x : Str) (k : Nat) (sp : Sq) : Prop := ∃ f, mg x = some (.ref f) ∧ PySem.W.keepIn K (.ref f) = true ∧ FnR2 P w K mg base k f sp
section
variable {X : Cx} {x : Str} {k : Nat} {sp : Sq} {p pos : Pos} {e : Expr} {es : List Expr} {t : TA}
theorem pe2_pr (G : Pr2 X.prog X.w X.K X.mg X.base x k sp) (hr : Room k X.A) (hg : Gl X x) (ha : PA2 X (e :: es) t)
    (hd : (x == ("__debug__" : Str)) = false := by decide) (hs : starEach (e :: es) X.env = (false, eval e X.env) :: starEach es X.env := by rfl) (hp : (backTo pos (starEach es X.env)).any (·.1) = false := by rfl) : PE2 X (.Call (.Name x p) (e :: es) [] pos) (tCall2 sp t) := by
  obtain ⟨f, hm, hk, F⟩ := G
  exact pe2_call F hr hk hg hm ha hd hs hp
theorem pe2_pr0 (G : Pr2 X.prog X.w X.K X.mg X.base x k sp) (hr : Room k X.A) (hg : Gl X x) (hd : (x == ("__debug__" : Str)) = false := by decide) : PE2 X (.Call (.Name x p) [] [] pos) (tCall2 sp tNil) := by
  obtain ⟨f, hm, hk, F⟩ := G
  exact pe2_call0 F hr hk hg hm hd
end
def Mk2 (P : Program) (w : World) (K : PySem.W.Frag) (mg : Str → Option Value) (base : Heap) (C : Addr) (k : Nat) (sp : Sq) : Prop := ∃ f, Mk K C f ∧ FnR2 P w K mg base k f sp
abbrev sKept : Stmt := top 30
theorem scKept : FnScope ["sheet", "order", "first"] ["sheet", "order", "first"] (defScope sKept) := ⟨rfl, rfl, rfl, by decide +kernel, rfl, by decide +kernel, by decide +kernel⟩
def spKept (K : PySem.W.Frag) : Sq := fun vs H Q => ∃ (v u : V) (a : Addr) (rows : Rows) (emp l : List Str), vs = [v, .ref a, u] ∧ Dp K H v (tomeD rows emp) ∧ TomeOk rows emp ∧ SqL K H a (sL l) ∧ l.length ≤ 50 ∧ (∀ n ∈ l, n ∈ rows.map (·.1)) ∧ NT K H u [] ∧
  ∀ r H' bests, Ex H H' → BestsOk rows bests → NS H' r (asS (GE.keptM bests [] l)) → Q r H'
section
variable {P : Program} {w : World} {K : PySem.W.Frag} {mg : Str → Option Value} {base : Heap} {f CT : Addr} {t : V}
theorem ok_kept {kws : List (Str × V)} {fd : FuncData} (F : FunD K "kept" "kept" (defArgs sKept) (defBody sKept) (defScope sKept) [] kws f fd) (S : TgC K mg CT) (M : Mk2 P w K mg base CT 42 (spTgInit K CT)) (MK : MtP P w K mg base CT "kept" 2 (spTgKept K CT)) (GL : Pr P w K mg base "line_of" 8 (spLineOf K)) :
    FnO2 P w K mg base 44 f fd ["sheet", "order", "first"] (spKept K) := by
  refine fn2 F scKept fun cdv A outer s H vs Q hr h => ?_
  obtain ⟨v, u, a, rows, emp, l, rfl, hv, tok, ha, hl, hin, hu, k⟩ := h
  obtain ⟨fm, mk, FM⟩ := M
  obtain ⟨gk, mt, FK⟩ := MK
  refine ⟨_, pss2_one (ps2_ret (pe2_methSl (pe2_make mk (by rfl) FM hr (by rfl) S.mg (pa2 (pa_cons (pv 0) pa_nil))) S.cls mt FK (hr.mono (by decide)) (pa_cons (pe_pr GL (hr.mono (by decide)) (by rfl) (pa_cons (pv 0) (pa_cons (pv 1) (pa_cons (pv 2) pa_nil)))) pa_nil))), ?_⟩
  refine ⟨v, rfl, fun x dx hx hdx ne => ?_⟩
  have e0 : Ex H (upd (upd H dx (.own x)) x (.ins CT dx [])) := (kpE.new hdx).trans (kpE.new (by rw [upd_ne (Ne.symm ne)]; exact hx))
  refine ⟨x, dx, v, rows, emp, rfl, New.of ne, Dp.mono kpE e0 hv, tok, fun H1 bests ko tg bo => ⟨rfl, ?_⟩⟩
  have e1 : Ex H H1 := new_ko hx hdx ko
  obtain ⟨vs, d, ps, sl, _⟩ := id tg
  refine ⟨x, dx, vs, rfl, sl, v, rfl, .ref a, rfl, u, rfl, v, u, a, rows, emp, l, rfl, Dp.mono kpE e1 hv, tok, kpE.lst e1 ha, by omega, hin, hu.mono kpE e1, fun r H2 e2 hr2 => ?_⟩
  exact ⟨.ref x, r, bests, l, rfl, TgI.mono kpE e2 ⟨x, dx, rfl, tg⟩, hr2.nt, bo.len, hl, fun r3 H3 e3 h3 => k _ _ bests ((e1.trans e2).trans e3) bo h3⟩
/-- kept(sheet, order) -/
theorem kept_pos {fd : FuncData} (F : FunD K "kept" "kept" (defArgs sKept) (defBody sKept) (defScope sKept) [] [("first", t)] f fd) {k : Nat} (G : FnO2 P w K mg base k f fd ["sheet", "order", "first"] (spKept K)) (hm : mg "kept" = some (.ref f)) : Pr2 P w K mg base "kept" k (fun vs H Q => spKept K (vs ++ [t]) H Q) := by
  obtain ⟨ds, h1, h2⟩ := F.binds0 (ps := ["sheet", "order", "first"]) 2 (by simp) (by rfl) fun D doc pm an cdv ct us ks hu hk => by
    match us, hu, ks, hk with | [a, b], _, [d], _ => exact ⟨_, _, _, _, _, _, rfl, rfl, rfl⟩
  exact ⟨f, hm, F.kp, FnO2.raw G h2 h1 fun vs H Q ⟨_, _, _, _, _, _, e, _⟩ => by rw [e]; rfl⟩
end
end CH
/-! text L1 -/
/-! Rules for the law's own defs. -/
namespace CH
open PySem PySem.Spec PyProof.Rows L2 Evl RZ
section
variable {P : Program} {w : World} {A : Around} {E : Value → Shared → Prop} {s : Shared} {a : Addr}
theorem sorted_tupS {its : Array Value} {xs : List Str} {Q : Value → Shared → Prop} (R : IsTup s.heap a its) (hS : StrsAre its.toList xs) (h64 : xs.length < 64)
    (hQ : ∀ (h1 h2 : Heap) (out : Array Value) (c : Nat) (ns : List Str), (∀ b o, s.heap.get? b = some o → h1.get? b = some o) → (∀ b o, h1.get? b = some o → h2.get? b = some o) →
      h2.get? h1.objs.size = some (seqObj "list" out c) → StrsAre out.toList ns → ns.Perm xs → sortedS ns = true → Q (.ref h1.objs.size) { s with heap := h2 }) :
    wpAny (model P w) A (call (.builtin "sorted") [.ref a]) Q E s := by
  obtain ⟨o, ho, hc, n, hd⟩ := R
  have hl := hS.length
  have hv64 : its.toList.length < 64 := by omega
  refine Calls.call_function_entry kind_sorted plain_sorted entry_sorted (args_sorted1 _) ?_
  unfold Builtin.«sorted»
  refine wpAny_bind (m := checkCount "sorted" 1 1 _) (wpAny_pure ?_)
  refine wpAny_bind (wpAny_collect_seq (A := A.in1) a (T := "tuple") (.inr rfl) ho hc hd (fun h1 k1 => ?_) (by rw [sizeLine_eq]; simp at hv64; omega))
  refine wpAny_bind (wpAny_newList ?_ (by rw [sizeLine_eq]; omega))
  have hoL : (h1.push (seqObj "list" its.toList.toArray 0)).get? h1.objs.size = some (seqObj "list" its.toList.toArray 0) := Heap.get?_push_size _ rfl
  refine wpAny_bind (wpAny_holding (wpAny_call_entry slot_list_sort ⟨_, hoL, rfl⟩ entry_list_sort
    (list_sort_treeK (s := { s with heap := h1.push (seqObj "list" its.toList.toArray 0) }) strKind_oneLt hoL hS.keysOf (fun v₁ v₂ rest e => keyKind_strs (by rw [← e]; exact hS)) hv64 fun st' hp hs => ⟨_, rfl, ?_⟩) (args_list_sort _)))
  obtain ⟨ys, y1, y2, y3⟩ := sorted_out_str hS hp hs
  obtain ⟨c, hcc⟩ := sortedHeap_at (vs := its.toList) (out := (arrOf st').map (·.2)) hoL
  refine wpAny_pure ⟨_, rfl, hQ h1 _ _ c ys k1 (fun b u e => ?_) hcc y1 y2 y3⟩
  have hlt := Heap.lt_size e
  refine (sortedHeap_old (Nat.ne_of_lt hlt) (by rw [size_push']; exact Nat.lt_succ_of_lt hlt)).trans ?_
  exact Heap.get?_push_of_some _ e
end
section
variable {X : Cx}
def rSortTup (K : PySem.W.Frag) : List V → Hp → VK → Prop := fun vs H Q => ∃ (a : Addr) (l : List Str), vs = [.ref a] ∧ SqT K H a (sL l) ∧ l.length < 64 ∧
  ∀ (ys : List Str) (p : Addr), ys.Perm l → sortedS ys = true → H p = none → Q (.ref p) (upd H p (.lst (sL ys)))
theorem cr_sortTup : CallR X (.builtin "sorted") (rSortTup X.K) := by
  intro pins s σ H vs us Q I r h
  obtain ⟨a, l, rfl, ha, h64, q⟩ := h
  obtain ⟨its, rv, ht, _⟩ := I.tuple ha
  rw [Vals.ref1 r]
  refine sorted_tupS (its := its.toArray) ht rv.strs h64 fun h1 h2 out c ns k1 k2 hg hi hp hs => ?_
  have hlen : (sL ns).length ≤ sizeLine := by rw [List.length_map, hp.length_eq, sizeLine_eq]; omega
  have I1 : Inv X pins σ H { s with heap := h1 } := I.kept (t' := s.toks) k1
  have hn : H h1.objs.size = none := I1.hok.fresh (Nat.le_refl _)
  exact ⟨.ref h1.objs.size, upd H h1.objs.size (.lst (sL ns)), I1.laid (a := h1.objs.size) (o := .lst (sL ns)) (h' := h2) (t' := s.toks) k2 (Nat.le_refl _) ⟨hlen, out.toList, c, vals_of_strs hi, hg⟩, rfl, q ns _ hp hs hn⟩
end
/-! data compared -/
theorem eqv_strs : ∀ l m : List Str, PyData.eqvAll (l.map .str) (m.map .str) = decide (l = m)
  | [], [] => rfl
  | [], _ :: _ => rfl
  | _ :: _, [] => rfl
  | x :: l, y :: m => by
    rw [List.map_cons, List.map_cons, PyData.eqvAll, PyData.eqv, eqv_strs l m]
    by_cases h1 : x = y
    · subst h1
      by_cases h2 : l = m
      · subst h2; simp
      · rw [decide_eq_false h2, decide_eq_false (fun z => h2 (List.cons.inj z).2)]; simp
    · rw [decide_eq_false (fun z => h1 (List.cons.inj z).1)]
      have : (x == y) = false := beq_false_of_ne h1
      rw [this]
      rfl
theorem eqv_bools : ∀ l m : List Bool, PyData.eqvAll (l.map .bool) (m.map .bool) = decide (l = m)
  | [], [] => rfl
  | [], _ :: _ => rfl
  | _ :: _, [] => rfl
  | x :: l, y :: m => by
    rw [List.map_cons, List.map_cons, PyData.eqvAll, PyData.eqv, eqv_bools l m]
    by_cases h1 : x = y
    · subst h1
      by_cases h2 : l = m
      · subst h2; simp
      · rw [decide_eq_false h2, decide_eq_false (fun z => h2 (List.cons.inj z).2)]; simp
    · rw [decide_eq_false (fun z => h1 (List.cons.inj z).1)]
      have : (x == y) = false := beq_false_of_ne h1
      rw [this]
      rfl
theorem eqv_lists : ∀ l : List (List Str), PyData.eqvAll (l.map strsD) (l.map strsD) = true
  | [] => rfl
  | x :: l => by
    have h : PyData.eqv (strsD x) (strsD x) = true := by
      unfold strsD
      rw [PyData.eqv, eqv_strs]; simp
    rw [List.map_cons, PyData.eqvAll, h, eqv_lists l]
    rfl
theorem letters_low : ∀ c ∈ letters.cps.toList, c < 0x110000 := by decide +kernel
theorem name_strOk {x : Str} (h : NameOk x) : PyData.strOk x = true := by
  unfold PyData.strOk
  rw [Array.all_eq_true']
  intro c hc
  exact decide_eq_true (letters_low c (h.2.2 c (Array.mem_toList_iff.mpr hc)))
theorem lay_strs : ∀ {l : List Str}, (∀ x ∈ l, NameOk x) → PyData.canLayAll0 (l.map .str) = true
  | [], _ => rfl
  | x :: l, h => by
    rw [List.map_cons, PyData.canLayAll0, PyData.canLay0, name_strOk (h x List.mem_cons_self), lay_strs fun y hy => h y (List.mem_cons_of_mem _ hy)]
    rfl
theorem lay_bools : ∀ l : List Bool, PyData.canLayAll0 (l.map .bool) = true
  | [] => rfl
  | x :: l => by
    rw [List.map_cons, PyData.canLayAll0, PyData.canLay0, lay_bools l]
    rfl
theorem dep_strs (l : List Str) : PyData.depthAll (l.map .str) = 0 := by
  induction l with
  | nil => rfl
  | cons x l ih => rw [List.map_cons, PyData.depthAll, ih]; rfl
theorem dep_bools (l : List Bool) : PyData.depthAll (l.map .bool) = 0 := by
  induction l with
  | nil => rfl
  | cons x l ih => rw [List.map_cons, PyData.depthAll, ih]; rfl
theorem shaped_strsL {l : List Str} (h : ∀ x ∈ l, NameOk x) : SeqAt.shaped (.list (l.map .str)) = true := by
  unfold SeqAt.shaped
  rw [PyData.canLay0, lay_strs h, PyData.depth, dep_strs]
  rfl
theorem shaped_strsT {l : List Str} (h : ∀ x ∈ l, NameOk x) : SeqAt.shaped (.tuple (l.map .str)) = true := by
  unfold SeqAt.shaped
  rw [PyData.canLay0, lay_strs h, PyData.depth, dep_strs]
  rfl
theorem shaped_bools (l : List Bool) : SeqAt.shaped (.list (l.map .bool)) = true := by
  unfold SeqAt.shaped
  rw [PyData.canLay0, lay_bools, PyData.depth, dep_bools]
  rfl
theorem shaped_lists {L : List (List Str)} (h : ∀ l ∈ L, ∀ x ∈ l, NameOk x) : SeqAt.shaped (.list (L.map strsD)) = true := by
  have h1 : ∀ {L : List (List Str)}, (∀ l ∈ L, ∀ x ∈ l, NameOk x) → PyData.canLayAll0 (L.map strsD) = true := fun {L} => by
    induction L with
    | nil => intro _; rfl
    | cons l L ih =>
      intro h
      rw [List.map_cons, PyData.canLayAll0, ih fun m hm => h m (List.mem_cons_of_mem _ hm)]
      unfold strsD
      rw [PyData.canLay0, lay_strs (h l List.mem_cons_self)]
      rfl
  have h2 : PyData.depthAll (L.map strsD) ≤ 2 := by
    induction L with
    | nil => exact Nat.zero_le _
    | cons l L ih =>
      rw [List.map_cons, PyData.depthAll]
      exact Nat.max_le.mpr ⟨depth_strs l, ih fun m hm => h m (List.mem_cons_of_mem _ hm)⟩
  unfold SeqAt.shaped
  rw [PyData.canLay0, h1 h, PyData.depth, Bool.true_and, decide_eq_true_eq]
  omega
theorem dpL_strs {K : PySem.W.Frag} {H : Hp} {a : Addr} {l : List Str} (h : SqL K H a (sL l)) : Dp K H (.ref a) (.list (l.map .str)) := by
  refine .lst h ?_
  have : ∀ l : List Str, DpAll K H (sL l) (l.map .str) := fun l => by
    induction l with
    | nil => exact .nil
    | cons x l ih => exact .cons (.str x) ih
  exact this l
theorem dpL_bools {K : PySem.W.Frag} {H : Hp} {a : Addr} {l : List Bool} (h : SqL K H a (l.map V.bl)) : Dp K H (.ref a) (.list (l.map .bool)) := by
  refine .lst h ?_
  have : ∀ l : List Bool, DpAll K H (l.map V.bl) (l.map .bool) := fun l => by
    induction l with
    | nil => exact .nil
    | cons x l ih => exact .cons (.bl x) ih
  exact this l
theorem dpL_lists {K : PySem.W.Frag} {H : Hp} {v : V} {L : List (List Str)} (h : PartsL H v L) : Dp K H v (.list (L.map strsD)) := by
  obtain ⟨a, ps, rfl, ha, hp⟩ := h
  refine .lst (SqL.of ha) ?_
  have : ∀ {ps : List V} {L : List (List Str)}, Paired (NS H) ps L → DpAll K H ps (L.map strsD) := fun {ps L} h => by
    induction h with
    | nil => exact .nil
    | cons r t ih => exact .cons (nt_dp r.nt) ih
  exact this hp
/-! _law_all -/
abbrev sAll : Stmt := top 44
theorem scAll : FnScope ["_law_tome", "_law_own"] ["_law_tome"] (defScope sAll) := ⟨rfl, rfl, rfl, by decide +kernel, rfl, by decide +kernel, by decide +kernel⟩
def spAll (K : PySem.W.Frag) : Sp := fun vs H Q _ => ∃ (v : V) (rows : Rows) (emp : List Str), vs = [v] ∧ Dp K H v (tomeD rows emp) ∧ TomeOk rows emp ∧ ∀ p H', Ex H H' → H' p = some (.lst (sL (rows.map (·.1)))) → Q (.ref p) H'
section
variable {P : Program} {w : World} {K : PySem.W.Frag} {mg : Str → Option Value} {base : Heap} {f : Addr}
def RowK (K : PySem.W.Frag) (H : Hp) (x : V) (r : Str × List Str) : Prop := ∃ t w, x = .ref t ∧ SqT K H t [.str r.1, w]
theorem dp_row {H : Hp} {v : V} {r : Str × List Str} (h : Dp K H v (rowD r)) : RowK K H v r := by
  cases h with
  | tup e t =>
    cases t with
    | cons a t =>
      cases a
      cases t with
      | cons b t =>
        cases t
        exact ⟨_, _, rfl, e⟩
theorem dp_rows {H : Hp} : ∀ {rows : Rows} {xs : List V}, DpAll K H xs (rows.map rowD) → Paired (RowK K H) xs rows
  | [], _, .nil => .nil
  | r :: rows, _, .cons a t => .cons (dp_row a) (dp_rows t)
theorem dp_tome {H : Hp} {v : V} {rows : Rows} {emp : List Str} (h : Dp K H v (tomeD rows emp)) : ∃ a b v2 xs, v = .ref a ∧ SqT K H a [.ref b, v2] ∧ SqT K H b xs ∧ Paired (RowK K H) xs rows := by
  cases h with
  | tup e t =>
    cases t with
    | cons a t =>
      cases t with
      | cons b t =>
        cases t
        cases a with
        | tup e2 t2 => exact ⟨_, _, _, _, rfl, e, e2, dp_rows t2⟩
theorem ok_all (F : Fn K "_law_all" "_law_all" sAll [] [] f) : FnR P w K mg base CX0 1 f (spAll K) := by
  have nd := scAll.nd
  refine Fn.ok0 (ps := ["_law_tome"]) F scAll (fun kV doc pm an cdv ct us hl => by match us, hl with | [u], _ => rfl) (fun vs H Q E ⟨_, _, _, e, _⟩ => by rw [e]; rfl) (fun cdv A outer s H vs Q E hr h => ?_)
  obtain ⟨v, rows, emp, rfl, hv, tok, k⟩ := h
  refine ⟨_, pss_one (ps_ret (pe_lc (own := [("_law_own", 1)]) (g := gName 1) (tt := tYes) rfl nd (pi_tup (pe_ix ix_tup (pv 0) pe_int (fun _ _ => rfl))) (blkOk_by (N := ["_law_tome", "_law_own"]) (sc := defScope sAll) (by decide +kernel))
    (fun _ _ _ _ _ => pg_name (i := 1) nd rfl (Or.inl rfl)) (fun _ _ _ _ _ => pts_nil) (fun _ _ _ _ _ => pe_ix (ixTupK K) (pv 1) pe_int (fun _ _ => rfl)))), ?_⟩
  obtain ⟨a, b, v2, xs, rfl, ha, hb, hp⟩ := dp_tome hv
  have lx : xs.length = rows.length := paired_lenW hp
  have r8 := tok.len
  obtain ⟨zs, z1, z2, z3⟩ := pairs_zip hp
  have hb1 : SqT K H b (zs.map (·.1)) := by rw [z1]; exact hb
  have zl : zs.length ≤ 8 := by
    have h1 : zs.length = rows.length := by rw [← z2, List.length_map]
    omega
  refine ⟨.ref a, rfl, a, [.ref b, v2], 0, .ref b, rfl, rfl, ha, atI_nat (j := 0) rfl, b, rfl, ⟨_, hb1⟩, fmJ kpE (fun z : V × (Str × List Str) => z.1) (fun _ => true) (fun z => .str z.2.1) zs (goes_tupM kpE hb1) rfl (by omega) (by show 1 < 2; decide) (fun _ => rfl) (fun _ _ _ _ => evT_yes kpE) (fun z H' hz _ e2 Q' q => ?_) (fun D H' hD e2 hl => ?_)⟩
  · obtain ⟨t, w', ez, ht⟩ := z3 z hz
    exact ⟨z.1, rfl, t, [.str z.2.1, w'], 0, .str z.2.1, ez, rfl, kpE.tup e2 ht, atI_nat (j := 0) rfl, q _ _ (Ex.refl _) rfl⟩
  · refine k D H' e2 ?_
    rw [hl, all_filter_true, ← z2, List.map_map, ]
    unfold sL
    rw [List.map_map]
    rfl
end
end CH
/-! text L2a -/
/-! parts_in as it is called. -/
namespace CH
open PySem PySem.Spec PyProof.Rows L2 Evl RZ
section
variable {P : Program} {w : World} {K : PySem.W.Frag} {mg : Str → Option Value} {base : Heap} {f : Addr} {t : V}
theorem pi_pos {fd : FuncData} (F : FunD K "parts_in" "parts_in" (defArgs sPartsIn) (defBody sPartsIn) (defScope sPartsIn) [] [("odd", t)] f fd) {k : Nat} (G : FnOk P w K mg base CX0 k f fd ["sheet", "some", "odd"] (spPartsIn K)) (hm : mg "parts_in" = some (.ref f)) : Pr P w K mg base "parts_in" k (fun vs => spPartsIn K (vs ++ [t])) := by
  obtain ⟨ds, h1, h2⟩ := F.binds0 (ps := ["sheet", "some", "odd"]) 2 (by simp) (by rfl) fun D doc pm an cdv ct us ks hu hk => by
    match us, hu, ks, hk with | [a, b], _, [d], _ => exact ⟨_, _, _, _, _, _, rfl, rfl, rfl⟩
  exact ⟨f, hm, F.kp, G.raw h2 h1⟩
theorem pi_kw {fd : FuncData} {kws : List (Str × V)} (F : FunD K "parts_in" "parts_in" (defArgs sPartsIn) (defBody sPartsIn) (defScope sPartsIn) [] kws f fd) {k : Nat} (G : FnOk P w K mg base CX0 k f fd ["sheet", "some", "odd"] (spPartsIn K)) (hm : mg "parts_in" = some (.ref f)) : KwP P w K mg base "parts_in" k (spPartsIn K) 2 ["odd"] := by
  refine ⟨f, fd, _, hm, F.kp, G, ?_⟩
  obtain ⟨oc, od, dV, kV, doc, pm, an, cdv, ct, osl, rfl, lk, hcd, hD, hK⟩ := F.ex
  rcases hD with ⟨_, rfl⟩ | ⟨e, _⟩
  · refine ⟨fun s us ws X h1 h2 => ?_, fun r1 r2 => r1.append r2⟩
    match us, ws, h1, h2 with
    | [a, c], [b], _, _ => exact .of_eq (by rfl)
  · exact absurd rfl e
theorem lumps_odd {rows : Rows} {emp : List Str} (T : TomeOk rows emp) : (lumpsN (near0 rows) (freeN rows)).filter (oddT (.bl true)) = lumpsN (near0 rows) (freeN rows) :=
  List.filter_eq_self.mpr fun l hl => by
    show decide (GE.isOdd l = true) = true
    exact decide_eq_true ((groups_ok T).1 l hl)
theorem lumps_all {rows : Rows} : (lumpsN (near0 rows) (freeN rows)).filter (oddT .non) = lumpsN (near0 rows) (freeN rows) := List.filter_eq_self.mpr fun l hl => rfl
theorem tome_names {rows : Rows} {emp : List Str} (T : TomeOk rows emp) : ∀ x ∈ vsN rows, NameOk x := fun x hx => by
  have hx : x ∈ nms (near0 rows) := hx
  rw [near0_names] at hx
  obtain ⟨r, hr, e⟩ := List.mem_map.mp hx
  rw [← e]; exact T.nm r hr
theorem lumps_names {rows : Rows} {emp : List Str} (T : TomeOk rows emp) : ∀ l ∈ lumpsN (near0 rows) (freeN rows), ∀ x ∈ l, NameOk x := fun l hl x hx => by
  have L := lumps_ok (near_ok T []) (free_nd T)
  exact tome_names T x (free_sub.subset ((L.cov x).mp (List.mem_flatten.mpr ⟨l, hl, hx⟩)))
end
end CH
/-! text L3 -/
/-! _law_case_right: its tree. -/
namespace CH
open PySem PySem.Spec PyProof.Rows L2 Evl RZ
open Sem (wp)
section
variable {X : Cx} {e : Expr} {es : List Expr} {te : TE} {ta : TA}
theorem pa2_cons' (ha : PE2 X e te) (hr : PA2 X es ta) (hs : starEach (e :: es) X.env = (false, eval e X.env) :: starEach es X.env := by rfl) : PA2 X (e :: es) (tCons te ta) := ⟨fun pos pins s σ H Q I n h => by
  rw [hs]
  show wpAny _ _ (spliced ((false, eval e X.env) :: backTo pos (starEach es X.env))) _ _ s
  exact Calls.spliced_cons (thn (ha.run pins s σ H _ I n h) fun u s1 ⟨v, H1, I1, n1, r1, q1⟩ => thn (hr.run pos pins s1 σ H1 _ I1 n1 q1) fun us s2 ⟨vs, H2, I2, n2, r2, q2⟩ => ⟨v :: vs, H2, I2, n2, .cons r1 r2, q2⟩)⟩
end
structure CaseP (P : Program) (w : World) (K : PySem.W.Frag) (mg : Str → Option Value) (base : Heap) (t : V) : Prop where
  T : Blt mg
  ht : Emp K t
  all : Pr P w K mg base "_law_all" 1 (spAll K)
  ms : Pr P w K mg base "most_swaps" 12 (fun vs => spMostSwaps K (vs ++ [t]))
  msk : KwP P w K mg base "most_swaps" 12 (spMostSwaps K) 1 ["without"]
  kinds : Pr P w K mg base "kinds" 13 (spKinds K)
  leaves : Pr P w K mg base "leaves" 13 (spLeaves K)
  loss : Pr P w K mg base "loss_by_household" 13 (spLoss K)
  gain : Pr P w K mg base "gain_by_household" 14 (spGain K)
  can : Pr P w K mg base "can_leave" 13 (spCanLeave K)
  kept : Pr2 P w K mg base "kept" 44 (fun vs H Q => spKept K (vs ++ [t]) H Q)
  suit : Pr P w K mg base "suited_to" 8 (spSuitedTo K)
  parts : Pr P w K mg base "parts_in" 10 (fun vs => spPartsIn K (vs ++ [.non]))
  partsk : KwP P w K mg base "parts_in" 10 (spPartsIn K) 2 ["odd"]
  barrier : Pr P w K mg base "is_barrier" 12 (spBarrier K)
abbrev sCase : Stmt := top 45
abbrev nCase : List Str := ["_law_tome", "_law_folk", "_law_top", "_law_wide", "_law_hold", "_law_fixed", "_law_whom", "_law_is_in", "_law_line", "_law_told", "_law_near", "_law_some_so", "_law_groups", "_law_own"]
theorem scCase : FnScope nCase ["_law_tome"] (defScope sCase) := ⟨rfl, rfl, rfl, by decide +kernel, rfl, by decide +kernel, by decide +kernel⟩
def spCase (K : PySem.W.Frag) : Sq := fun vs H Q => ∃ (v : V) (rows : Rows) (emp : List Str), vs = [v] ∧ Dp K H v (tomeD rows emp) ∧ TomeOk rows emp ∧ ∀ H', Ex H H' → Q (.bl true) H'
/-- t + u, texts -/
theorem cat_strs {K : PySem.W.Frag} {H : Hp} {Q : VK} {a b : Addr} {l m : List Str} (ha : SqT K H a (sL l)) (hb : SqT K H b (sL m)) (hz : l.length + m.length ≤ 1000) (k : ∀ p H', Ex H H' → SqT K H' p (sL (l ++ m)) → Q (.ref p) H') : rCatA K (.ref a) (.ref b) H Q := by
  refine ⟨a, b, sL l, sL m, rfl, rfl, ha, hb, by rw [List.length_map, List.length_map, sizeLine_eq]; omega, fun h => ?_, fun _ h => ?_, fun _ _ p hp => ?_⟩
  · have : l = [] := List.map_eq_nil_iff.mp h
    subst this
    exact k b H (Ex.refl _) hb
  · have : m = [] := List.map_eq_nil_iff.mp h
    subst this
    refine k a H (Ex.refl _) ?_
    rw [List.append_nil]; exact ha
  · refine k p _ (Ex.new hp) (SqT.of ?_)
    rw [upd_same]
    unfold sL
    rw [List.map_append]
theorem or_empty {σ : L2.St} {H : Hp} {Q : VK} {a : Addr} {ps : List V} (ha : H a = some (.tup ps)) (k : ∀ a2 H', Ex H H' → H' a2 = some (.tup ps) → Q (.ref a2) H') : if (!ps.isEmpty) = true then Q (.ref a) H else tTup tNil σ H Q := by
  cases ps with
  | nil =>
    refine iteN rfl ⟨by show (0 : Nat) ≤ sizeLine; decide, fun p hp => k p _ (Ex.new hp) upd_same⟩
  | cons x l => exact iteY rfl (k a H (Ex.refl _) ha)
theorem perm_names {rows : Rows} {emp : List Str} (T : TomeOk rows emp) {ys : List Str} (h : ys.Perm (freeN rows ++ holdN rows ++ fixN rows)) (hs : sortedS ys = true) : ys = rows.map (·.1) := by
  obtain ⟨nd, mm⟩ := kinds_all T
  refine asc_uniq (asc_of hs (h.nodup_iff.mpr nd)) T.asc fun x => ?_
  rw [h.mem_iff, mm x]
  show x ∈ nms (near0 rows) ↔ _
  rw [near0_names]
structure CaseH (K : PySem.W.Frag) (rows : Rows) (emp : List Str) (v : V) (p1 xb yb zb : Addr) (H : Hp) : Prop where
  hv : Dp K H v (tomeD rows emp)
  folk : H p1 = some (.lst (sL (rows.map (·.1))))
  x : H xb = some (.tup (sL (freeN rows)))
  y : H yb = some (.tup (sL (holdN rows)))
  z : H zb = some (.tup (sL (fixN rows)))
theorem CaseH.ex {K : PySem.W.Frag} {rows : Rows} {emp : List Str} {v : V} {p1 xb yb zb : Addr} {H H' : Hp} (c : CaseH K rows emp v p1 xb yb zb H) (e : Ex H H') : CaseH K rows emp v p1 xb yb zb H' :=
  ⟨Dp.mono kpE e c.hv, e _ _ c.folk, e _ _ c.x, e _ _ c.y, e _ _ c.z⟩
section
variable {P : Program} {w : World} {K : PySem.W.Frag} {mg : Str → Option Value} {base : Heap} {f : Addr} {t : V}
theorem ok_case (F : Fn K "_law_case_right" "_law_case_right" sCase [] [] f) (B : CaseP P w K mg base t) : FnR2 P w K mg base 45 f (spCase K) := by
  have nd := scCase.nd
  have T := B.T
  refine Fn.ok2 (ps := ["_law_tome"]) F scCase (fun kV doc pm an cdv ct us hl => by match us, hl with | [u], _ => rfl) (fun vs H Q ⟨_, _, _, e, _⟩ => by rw [e]; rfl) (fun cdv A outer s H vs Q hr h => ?_)
  obtain ⟨v, rows, emp, rfl, hv, tok, k⟩ := h
  refine ⟨_, pss2_cons (ps2 (ps_asg (pe_tup (pa_cons (pe_pr B.all (hr.mono (by decide)) (by rfl) (pa_cons (pv 0) pa_nil)) (pa_cons (pe_pr B.ms (hr.mono (by decide)) (by rfl) (pa_cons (pv 0) pa_nil)) pa_nil)))
      (pg_tup rfl (pgs_cons (pg_name (i := 1) nd rfl (Or.inl rfl) (Or.inl rfl)) (pgs_cons (pg_name (i := 2) nd rfl (Or.inr rfl) (Or.inl rfl)) pgs_nil)))))
    (pss2_cons (ps2 (ps_asg (pe_pr B.kinds (hr.mono (by decide)) (by rfl) (pa_cons (pv 0) pa_nil)) (pg_tup rfl (pgs_cons (pg_name (i := 3) nd rfl (Or.inr rfl) (Or.inl rfl)) (pgs_cons (pg_name (i := 4) nd rfl (Or.inl rfl) (Or.inl rfl)) (pgs_cons (pg_name (i := 5) nd rfl (Or.inl rfl) (Or.inl rfl)) pgs_nil))))))
    (pss2_cons (ps2 (ps_if (pt_cmpR (op_neD hr.units) (pe_callB cr_sortTup (by rfl) T.sorted (by decide +kernel) (pa_cons (pe_op op_catA (pe_op op_catA (pv 3) (pv 4)) (pv 5)) pa_nil)) (pv 1) (nomark _)) (pss_one (ps_ret pe_bl)) pss_nil))
    (pss2_cons (ps2_for rfl (pi_list (pv 1)) (pg_name (i := 6) nd rfl (Or.inr rfl) (Or.inl rfl))
      (pss2_cons (ps2 (ps_set (i := 7) nd rfl (Or.inl rfl) (pe_cmpR (opInS K) (pv 6) (pv 3) (by with_unfolding_all rfl))))
      (pss2_cons (ps2 (ps_set (i := 8) nd rfl (Or.inl rfl) (pe_op op_cat (pe_lc (own := [("_law_own", 13)]) (g := gName 13) rfl nd (pi_list (pv 1)) (blkOk_by (N := nCase) (sc := defScope sCase) (by decide +kernel))
          (fun _ _ _ _ _ => pg_name (i := 13) nd rfl (Or.inl rfl)) (fun _ _ _ _ _ => pts_one (pt_cmpR op_ne (pv 13) (pv 6) (nomark _))) (fun _ _ _ _ _ => pv 13)) (pe_lst (pa_cons (pv 6) pa_nil)))))
      (pss2_cons (ps2 (ps_set (i := 9) nd rfl (Or.inl rfl) (pe_lst (pa_cons (pe_cmpR op_eq (pe_kw (ks := ["without"]) B.msk (hr.mono (by decide)) (by rfl) (pa_cons (pv 0) pa_nil) (pk_cons (pe_tup (pa_cons (pv 6) pa_nil)) pk_nil)) (pv 2) (nomark _))
          (pa_cons (pe_cmpR op_notN (pe_pr B.leaves (hr.mono (by decide)) (by rfl) (pa_cons (pv 0) (pa_cons (pv 6) pa_nil))) pe_non (nomark _)) pa_nil)))))
      (pss2_cons (ps2 (ps_set (i := 9) nd rfl (Or.inl rfl) (pe_op op_cat (pv 9) (pe_lst (pa_cons (pe_cmpR op_eq (pe_pr B.loss (hr.mono (by decide)) (by rfl) (pa_cons (pv 0) (pa_cons (pv 6) pa_nil))) pe_int (nomark _))
          (pa_cons (pe_cmpR op_eq (pe_pr B.gain (hr.mono (by decide)) (by rfl) (pa_cons (pv 0) (pa_cons (pe_tup (pa_cons (pv 6) pa_nil)) pa_nil))) pe_int (nomark _)) pa_nil))))))
      (pss2_cons (ps2_set (i := 9) nd rfl (Or.inl rfl) (pe2_op op_cat (pe2 (pv 9)) (pe2_lst (pa2_cons' (pe2 (pe_pr B.can (hr.mono (by decide)) (by rfl) (pa_cons (pv 0) (pa_cons (pe_tup (pa_cons (pv 6) pa_nil)) pa_nil))))
          (pa2_cons' (pe2_cmp (opNotInS K) (pe2 (pv 6)) (pe2_pr B.kept hr (by rfl) (pa2 (pa_cons (pv 0) (pa_cons (pv 8) pa_nil)))) (by with_unfolding_all rfl)) pa2_nil)))))
      (pss2_cons (ps2 (ps_if (pt_cmpR (op_neD hr.units) (pv 9) (pe_op op_rep (pe_lst (pa_cons (pv 7) pa_nil)) pe_int) (nomark _)) (pss_one (ps_ret pe_bl)) pss_nil))
      (pss2_cons (ps2 (ps_setLc (i := 10) (own := [("_law_own", 13)]) (g := gName 13) rfl nd rfl rfl (sw_true rfl rfl rfl (by decide +kernel)) (pi_tup (pe_pr B.suit (hr.mono (by decide)) (by rfl) (pa_cons (pv 0) (pa_cons (pv 6) pa_nil)))) (blkOk_by (N := nCase) (sc := defScope sCase) (by decide +kernel))
          (fun _ _ _ _ _ => pg_name (i := 13) nd rfl (Or.inl rfl)) (fun _ _ _ _ _ => pts_one (pt_cmpR (opInS K) (pv 13) (pv 3) (by with_unfolding_all rfl))) (fun _ _ _ _ _ => pv 13)))
      (pss2_cons (ps2 (ps_if (PW.pt (pw_and (pt_not (pt_val (pv 7))) (pw_and1 (pt_cmpR op_ne (pe_cmpR (opInS K) (pv 6) (pv 4) (by with_unfolding_all rfl)) (pe_cmpR (op_neD hr.units) (pv 10) (pe_lst pa_nil) (nomark _)) (nomark _))))) (pss_one (ps_ret pe_bl)) pss_nil))
      (pss2_one (ps2 (ps_if (pt_val (pv 7))
        (pss_cons (ps_set (i := 11) nd rfl (Or.inl rfl) (pe_orT (pe_pr B.leaves (hr.mono (by decide)) (by rfl) (pa_cons (pv 0) (pa_cons (pv 6) pa_nil))) (pe_one (pe_tup pa_nil))))
        (pss_one (ps_if (PW.pt (pw_or (pt_cmpR op_ne (pe_op op_mul pe_int (pe_callB call_len_seq (by rfl) T.len (by decide +kernel) (pa_cons (pv 11) pa_nil))) (pv 2) (nomark _))
          (pw_or1 (pt_cmpR (op_neD hr.units) (pe_lc (own := [("_law_own", 13)]) (g := gName 13) rfl nd (pi_tup (pv 11)) (blkOk_by (N := nCase) (sc := defScope sCase) (by decide +kernel))
            (fun _ _ _ _ _ => pg_name (i := 13) nd rfl (Or.inl rfl)) (fun _ _ _ _ _ => pts_one (pt_cmpR (opInS K) (pv 6) (pv 13) (by with_unfolding_all rfl))) (fun _ _ _ _ _ => pv 13)) (pe_lst pa_nil) (nomark _))))) (pss_one (ps_ret pe_bl)) pss_nil)))
        pss_nil))))))))))))
    (pss2_cons (ps2 (ps_set (i := 12) nd rfl (Or.inl rfl) (pe_pr B.parts (hr.mono (by decide)) (by rfl) (pa_cons (pv 0) (pa_cons (pv 3) pa_nil)))))
    (pss2_cons (ps2 (ps_if (PW.pt (pw_or (pt_cmpR (op_neD hr.units) (pe_kw (ks := ["odd"]) B.partsk (hr.mono (by decide)) (by rfl) (pa_cons (pv 0) (pa_cons (pv 3) pa_nil)) (pk_cons pe_bl pk_nil)) (pv 12) (nomark _))
      (pw_or1 (pt_cmpR op_ne (pe_op op_sub (pe_callB call_len_seq (by rfl) T.len (by decide +kernel) (pa_cons (pv 1) pa_nil)) (pv 2)) (pe_op op_sub (pe_callB call_len_seq (by rfl) T.len (by decide +kernel) (pa_cons (pv 12) pa_nil)) (pe_callB call_len_seq (by rfl) T.len (by decide +kernel) (pa_cons (pv 4) pa_nil))) (nomark _))))) (pss_one (ps_ret pe_bl)) pss_nil))
    (pss2_cons (ps2 (ps_if (PW.pt (pw_or (pt_not (pt_val (pe_pr B.barrier (hr.mono (by decide)) (by rfl) (pa_cons (pv 0) (pa_cons (pv 4) pa_nil))))) (pw_or1 (pt_not (pt_val (pe_callB (cr_all rfl) (by rfl) T.all (by decide +kernel) (pa_cons (pe_lc (own := [("_law_own", 13)]) (g := gName 13) (tt := tYes) rfl nd (pi_tup (pv 4)) (blkOk_by (N := nCase) (sc := defScope sCase) (by decide +kernel))
      (fun _ _ _ _ _ => pg_name (i := 13) nd rfl (Or.inl rfl)) (fun _ _ _ _ _ => pts_nil) (fun _ _ _ _ _ => pe_cmpR op_eq (pe_kw (ks := ["without"]) B.msk (hr.mono (by decide)) (by rfl) (pa_cons (pv 0) pa_nil) (pk_cons (pe_tup (pa_cons (pv 13) pa_nil)) pk_nil)) (pe_op op_sub (pv 2) pe_int) (nomark _))) pa_nil))))))) (pss_one (ps_ret pe_bl)) pss_nil))
    (pss2_one (ps2 (ps_ret (pe_and (pe_cmpR op_eq (pe_pr B.gain (hr.mono (by decide)) (by rfl) (pa_cons (pv 0) (pa_cons (pe_callTy call_tuple_of (by rfl) T.tuple (by decide +kernel) (pa_cons (pe_callB cr_sortTup (by rfl) T.sorted (by decide +kernel) (pa_cons (pe_op op_catA (pv 4) (pv 5)) pa_nil)) pa_nil)) pa_nil))) pe_int (nomark _))
      (pe_one (pe_cmpR op_eq (pe_cmpR (op_eqD hr.units) (pv 3) (pe_tup pa_nil) (nomark _)) (pe_cmpR op_eq (pv 2) (pe_callB call_len_seq (by rfl) T.len (by decide +kernel) (pa_cons (pv 1) pa_nil)) (nomark _)) (nomark _))))))))))))), ?_⟩
  have ht := B.ht
  have n8 : rows.length ≤ 8 := tok.len
  have fl : (freeN rows).length ≤ 8 := Nat.le_trans free_sub.length_le (nms_len (near_ok tok []))
  have hl : (holdN rows).length ≤ 8 := Nat.le_trans hold_sub.length_le (nms_len (near_ok tok []))
  have xl : (fixN rows).length ≤ 8 := Nat.le_trans fix_sub.length_le (nms_len (near_ok tok []))
  have nmn : ∀ x ∈ rows.map (·.1), NameOk x := fun x hx => by
    obtain ⟨r, hr, e⟩ := List.mem_map.mp hx
    rw [← e]; exact tok.nm r hr
  have nmv : ∀ x ∈ vsN rows, NameOk x := tome_names tok
  have inv : ∀ x ∈ vsN rows, x ∈ rows.map (·.1) := fun x hx => by rw [← near0_names rows]; exact hx
  have vin : ∀ x ∈ rows.map (·.1), x ∈ vsN rows := fun x hx => by rw [← near0_names rows] at hx; exact hx
  refine ⟨v, rfl, v, rows, emp, rfl, hv, tok, fun p1 H1 e1 hp1 => ⟨v, rfl, v, t, rows, emp, [], rfl, Dp.mono kpE e1 hv, tok, ht H1, by show (0 : Nat) ≤ 1000; decide, (fun n h => by simp at h), fun H2 e2 => ⟨by show (2 : Nat) ≤ sizeLine; decide, fun tp htp => ?_⟩⟩⟩
  refine ⟨tp, [.ref p1, .int ((2 * nuOf rows [] : Nat) : Int)], rfl, SqT.of upd_same, rfl, .ref p1, _, rfl, .int ((2 * nuOf rows [] : Nat) : Int), [], rfl, rfl, ?_⟩
  have e3 : Ex H2 (upd H2 tp (.tup [.ref p1, .int ((2 * nuOf rows [] : Nat) : Int)])) := Ex.new htp
  generalize upd H2 tp (.tup [.ref p1, .int ((2 * nuOf rows [] : Nat) : Int)]) = H3 at e3
  have e13 := (e1.trans e2).trans e3
  refine ⟨v, rfl, v, rows, emp, rfl, Dp.mono kpE e13 hv, tok, fun r H4 e4 h4 => ?_⟩
  obtain ⟨tt, x, y, z, rfl, htt, ⟨xb, rfl, hx⟩, ⟨yb, rfl, hy⟩, ⟨zb, rfl, hz⟩⟩ := h4
  refine ⟨tt, [.ref xb, .ref yb, .ref zb], rfl, SqT.of htt, rfl, .ref xb, _, rfl, .ref yb, _, rfl, .ref zb, [], rfl, rfl, ?_⟩
  have c4 : CaseH K rows emp v p1 xb yb zb H4 := ⟨Dp.mono kpE (e13.trans e4) hv, (e2.trans e3).trans e4 _ _ hp1, hx, hy, hz⟩
  have e04 := e13.trans e4
  clear e13 e4 e3 e2 e1 hp1 htp htt hx hy hz
  refine ⟨.ref xb, rfl, .ref yb, rfl, cat_strs (SqT.of c4.x) (SqT.of c4.y) (by omega) fun q1 H5 e5 hq1 => ⟨.ref zb, rfl, cat_strs hq1 (SqT.of (e5 _ _ c4.z)) (by rw [List.length_append]; omega) fun q2 H6 e6 hq2 => ?_⟩⟩
  refine ⟨q2, _, rfl, hq2, by rw [List.length_append, List.length_append]; omega, fun ys p hperm hsort hp => ?_⟩
  have e7 : Ex H6 (upd H6 p (.lst (sL ys))) := Ex.new hp
  have hp7 : (upd H6 p (.lst (sL ys))) p = some (.lst (sL ys)) := upd_same
  generalize upd H6 p (.lst (sL ys)) = H7 at e7 hp7
  have c7 := ((c4.ex e5).ex e6).ex e7
  have e07 := ((e04.trans e5).trans e6).trans e7
  have ey := perm_names tok hperm hsort
  refine ⟨.ref p1, rfl, .list (ys.map .str), .list ((rows.map (·.1)).map .str), dpL_strs (SqL.of hp7), dpL_strs (SqL.of c7.folk), shaped_strsL (by rw [ey]; exact nmn), shaped_strsL nmn, _, rfl, iteN ?_ ?_⟩
  · rw [PyData.eqv, eqv_strs, ey]; simp
  clear hp7 e7 e6 e5 hq1 hq2
  refine ⟨.ref p1, rfl, p1, rfl, ⟨_, SqL.of c7.folk⟩, for_list (xs := sL (rows.map (·.1))) (fun i σ H' => ∃ o6 o7 o8 o9 o10 o11 o12 o13, σ = [some v, some (.ref p1), some (.int ((2 * nuOf rows [] : Nat) : Int)), some (.ref xb), some (.ref yb), some (.ref zb), o6, o7, o8, o9, o10, o11, o12, o13] ∧ Ex H7 H')
    ⟨none, none, none, none, none, none, none, none, rfl, Ex.refl _⟩ (fun i σ H' _ h => by obtain ⟨_, _, _, _, _, _, _, _, _, e⟩ := h; exact SqL.of (c7.ex e).folk) (fun i x σ H8 hx h => ?_) (fun σ H8 h => ?_)⟩
  · obtain ⟨o6, o7, o8, o9, o10, o11, o12, o13, rfl, e8⟩ := h
    obtain ⟨n, hni, rfl⟩ := nth_map hx
    have hnm : n ∈ rows.map (·.1) := List.mem_of_getElem? hni
    have hnv := vin n hnm
    have c8 := c7.ex e8
    -- is_in
    refine ⟨.str n, rfl, .ref xb, rfl, n, xb, freeN rows, rfl, rfl, .inl (SqT.of c8.x), ?_⟩
    -- line
    refine ⟨.ref p1, rfl, p1, rfl, ⟨_, SqL.of c8.folk⟩, fmJ kpE V.str (fun o => decide (o ≠ n)) V.str (rows.map (·.1)) (goes_lstM kpE (SqL.of c8.folk)) rfl (by rw [List.length_map]; omega) (by show 13 < 14; decide) (fun _ => rfl) (fun o H' ho eo Q' q => ?_) (fun o H' _ _ _ Q' q => ⟨.str o, rfl, q _ _ (Ex.refl _) rfl⟩) (fun D H9 hD e9 hl9 => ?_)⟩
    · refine ⟨.str o, rfl, .str n, rfl, rfl, _, rfl, ?_⟩
      have eb : (!decide (V.str o = V.str n)) = decide (o ≠ n) := by
        by_cases h : o = n
        · subst h; simp
        · rw [decide_eq_false (fun z => h (V.str.inj z)), decide_eq_true h]; rfl
      rw [eb]
      exact q _ (Ex.refl _)
    have ol : ((rows.map (·.1)).filter fun o => decide (o ≠ n)).length ≤ 8 := by
      have := List.length_filter_le (fun o => decide (o ≠ n)) (rows.map (·.1))
      rw [List.length_map] at this
      omega
    refine ⟨.str n, rfl, by show (1 : Nat) ≤ sizeLine; decide, fun q1 hq1 => ?_⟩
    have e10 : Ex H9 (upd H9 q1 (.lst [.str n])) := Ex.new hq1
    have hq10 : (upd H9 q1 (.lst [.str n])) q1 = some (.lst [.str n]) := upd_same
    generalize upd H9 q1 (.lst [.str n]) = H10 at e10 hq10
    refine ⟨D, q1, _, _, rfl, rfl, e10 _ _ hl9, hq10, by rw [List.length_map, sizeLine_eq]; show _ + 1 ≤ _; omega, fun pl hpl => ?_⟩
    have e11 : Ex H10 (upd H10 pl (.lst ((((rows.map (·.1)).filter fun o => decide (o ≠ n)).map V.str) ++ [.str n]))) := Ex.new hpl
    have hpl11 : (upd H10 pl (.lst ((((rows.map (·.1)).filter fun o => decide (o ≠ n)).map V.str) ++ [.str n]))) pl = some (.lst (sL (((rows.map (·.1)).filter fun o => decide (o ≠ n)) ++ [n]))) := by
      rw [upd_same]; unfold sL; rw [List.map_append]; rfl
    generalize upd H10 pl (.lst ((((rows.map (·.1)).filter fun o => decide (o ≠ n)).map V.str) ++ [.str n])) = H11 at e11 hpl11
    have c11 := ((c8.ex e9).ex e10).ex e11
    have e811 := ((e8.trans e9).trans e10).trans e11
    clear e9 hl9 hD hq1 hq10 e10 hpl e11
    -- told, the first two
    refine ⟨v, rfl, .str n, rfl, by show (1 : Nat) ≤ sizeLine; decide, fun p hp => ⟨rfl, rfl, ?_⟩⟩
    have e12 : Ex H11 (upd H11 p (.tup [.str n])) := Ex.new hp
    have hp12 : (upd H11 p (.tup [.str n])) p = some (.tup (sL [n])) := upd_same
    generalize upd H11 p (.tup [.str n]) = H12 at e12 hp12
    have inn : ∀ x ∈ [n], x ∈ rows.map (·.1) := fun x hx => by rw [List.mem_singleton.mp hx]; exact hnm
    refine ⟨v, .ref p, rows, emp, [n], rfl, (c11.ex e12).hv, tok, ⟨p, rfl, SqT.of hp12⟩, by show (1 : Nat) ≤ 1000; decide, inn, fun H13 e13 => ?_⟩
    refine ⟨_, rfl, rfl, ?_⟩
    have b1 : decide (V.int ((2 * nuOf rows [n] : Nat) : Int) = V.int ((2 * nuOf rows [] : Nat) : Int)) = decide (n ∈ freeN rows) := by
      by_cases h : n ∈ freeN rows
      · rw [decide_eq_true h, decide_eq_true]
        rw [(nu_free tok hnv).mpr h]
      · rw [decide_eq_false h, decide_eq_false]
        intro z
        have := V.int.inj z
        exact h ((nu_free tok hnv).mp (by omega))
    rw [b1]
    have c13 := (c11.ex e12).ex e13
    refine ⟨v, rfl, .str n, rfl, v, n, rows, emp, rfl, c13.hv, tok, hnm, fun r H14 e14 hr14 => ⟨rfl, ?_⟩⟩
    have b2 : (!decide (r = V.non)) = decide (n ∈ freeN rows) := by
      unfold LeavesR at hr14
      have od := open_dm tok hnv
      by_cases h : n ∈ freeN rows
      · rw [if_pos (od.mpr ((mem_free tok).mp h))] at hr14
        obtain ⟨a, ps, rfl, _⟩ := hr14
        rw [decide_eq_true h]
        rfl
      · rw [if_neg (fun z => h ((mem_free tok).mpr (od.mp z)))] at hr14
        subst hr14
        rw [decide_eq_false h]
        rfl
    rw [b2]
    refine ⟨by show (2 : Nat) ≤ sizeLine; decide, fun q2 hq2 => ?_⟩
    have e15 : Ex H14 (upd H14 q2 (.lst [.bl (decide (n ∈ freeN rows)), .bl (decide (n ∈ freeN rows))])) := Ex.new hq2
    have hq15 : (upd H14 q2 (.lst [.bl (decide (n ∈ freeN rows)), .bl (decide (n ∈ freeN rows))])) q2 = some (.lst [.bl (decide (n ∈ freeN rows)), .bl (decide (n ∈ freeN rows))]) := upd_same
    generalize upd H14 q2 (.lst [.bl (decide (n ∈ freeN rows)), .bl (decide (n ∈ freeN rows))]) = H15 at e15 hq15
    have c15 := (c13.ex e14).ex e15
    have e1115 := ((e12.trans e13).trans e14).trans e15
    clear e12 hp12 hp e13 hr14 e14 hq2 e15 c13
    -- told, two more
    have nle : nuOf rows [n] = nuOf rows [] ↔ n ∈ freeN rows := nu_free tok hnv
    refine ⟨.ref q2, rfl, v, rfl, .str n, rfl, v, n, rows, emp, rfl, c15.hv, tok, hnm, fun H16 e16 => ⟨rfl, ?_⟩⟩
    have b3 : decide (V.int (((2 * nuOf rows [] : Nat) : Int) - ((2 * nuOf rows [n] : Nat) : Int)) = V.int 0) = decide (n ∈ freeN rows) := by
      by_cases h : n ∈ freeN rows
      · rw [decide_eq_true h, decide_eq_true]
        rw [nle.mpr h, Int.sub_self]
      · rw [decide_eq_false h, decide_eq_false]
        intro z
        have := V.int.inj z
        exact h (nle.mp (by omega))
    rw [b3]
    refine ⟨v, rfl, .str n, rfl, by show (1 : Nat) ≤ sizeLine; decide, fun p hp => ?_⟩
    have e17 : Ex H16 (upd H16 p (.tup [.str n])) := Ex.new hp
    have hp17 : (upd H16 p (.tup [.str n])) p = some (.tup (sL [n])) := upd_same
    generalize upd H16 p (.tup [.str n]) = H17 at e17 hp17
    refine ⟨v, .ref p, rows, emp, [n], rfl, ((c15.ex e16).ex e17).hv, tok, ⟨p, rfl, SqT.of hp17⟩, by show (1 : Nat) ≤ 1000; decide, inn, fun H18 e18 => ⟨rfl, ?_⟩⟩
    have b4 : decide (V.int (gainN rows [n]) = V.int 2) = decide (n ∈ freeN rows) := by
      rw [gain_in tok]
      by_cases h : n ∈ freeN rows
      · rw [if_pos h, decide_eq_true h]; rfl
      · rw [if_neg h, decide_eq_false h]; rfl
    rw [b4]
    generalize hbb : decide (n ∈ freeN rows) = bb at *
    refine ⟨by show (2 : Nat) ≤ sizeLine; decide, fun q3 hq3 => ?_⟩
    have e19 : Ex H18 (upd H18 q3 (.lst [.bl bb, .bl bb])) := Ex.new hq3
    have hq19 : (upd H18 q3 (.lst [.bl bb, .bl bb])) q3 = some (.lst [.bl bb, .bl bb]) := upd_same
    generalize upd H18 q3 (.lst [.bl bb, .bl bb]) = H19 at e19 hq19
    have e1519 := ((e16.trans e17).trans e18).trans e19
    refine ⟨q2, q3, _, _, rfl, rfl, e1519 _ _ hq15, hq19, by show (2 : Nat) + 2 ≤ sizeLine; decide, fun q4 hq4 => ?_⟩
    have e20 : Ex H19 (upd H19 q4 (.lst ([.bl bb, .bl bb] ++ [.bl bb, .bl bb]))) := Ex.new hq4
    have hq20 : (upd H19 q4 (.lst ([.bl bb, .bl bb] ++ [.bl bb, .bl bb]))) q4 = some (.lst [.bl bb, .bl bb, .bl bb, .bl bb]) := upd_same
    generalize upd H19 q4 (.lst ([.bl bb, .bl bb] ++ [.bl bb, .bl bb])) = H20 at e20 hq20
    have c20 := (c15.ex e1519).ex e20
    have e1120 := (e1115.trans e1519).trans e20
    clear e16 hp hp17 e17 e18 hq3 hq19 e19 hq4 e20
    -- told, the last two
    refine ⟨.ref q4, rfl, v, rfl, .str n, rfl, by show (1 : Nat) ≤ sizeLine; decide, fun p hp => ?_⟩
    have e21 : Ex H20 (upd H20 p (.tup [.str n])) := Ex.new hp
    have hp21 : (upd H20 p (.tup [.str n])) p = some (.tup (sL [n])) := upd_same
    generalize upd H20 p (.tup [.str n]) = H21 at e21 hp21
    refine ⟨v, .ref p, rows, emp, [n], rfl, (c20.ex e21).hv, tok, ⟨p, rfl, SqT.of hp21⟩, by show (1 : Nat) ≤ 1000; decide, inn, fun H22 e22 => ?_⟩
    have b5 : decide (nuOf rows [n] = nuOf rows []) = bb := by
      rw [← hbb]
      by_cases h : n ∈ freeN rows
      · rw [decide_eq_true h, decide_eq_true (nle.mpr h)]
      · rw [decide_eq_false h, decide_eq_false fun z => h (nle.mp z)]
    rw [b5]
    have c22 := (c20.ex e21).ex e22
    have linn : ∀ x ∈ ((rows.map (·.1)).filter fun o => decide (o ≠ n)) ++ [n], x ∈ rows.map (·.1) := fun x hx => by
      rcases List.mem_append.mp hx with h | h
      · exact (List.mem_filter.mp h).1
      · exact inn x h
    refine ⟨.str n, rfl, v, rfl, .ref pl, rfl, v, t, pl, rows, emp, _, rfl, c22.hv, tok, SqL.of (((e1120.trans e21).trans e22) _ _ hpl11), by rw [List.length_append]; show _ + 1 ≤ _; omega, linn, ht H22, fun r H23 bests e23 bo hr23 => ?_⟩
    obtain ⟨rb, rfl, hrb⟩ := hr23
    refine ⟨n, rb, _, rfl, rfl, .inl (SqT.of hrb), ?_⟩
    have b6 : (!decide (n ∈ asS (GE.keptM bests [] (((rows.map (·.1)).filter fun o => decide (o ≠ n)) ++ [n])))) = bb := by
      have kd := kept_dm tok bo.best hnv
      rw [show vsN rows = rows.map (·.1) from near0_names rows] at kd
      rw [← hbb]
      by_cases h : n ∈ freeN rows
      · rw [decide_eq_true h, decide_eq_false fun z => (kd.mpr h) (mem_asS.mp z)]; rfl
      · rw [decide_eq_false h, decide_eq_true (mem_asS.mpr (Classical.byContradiction fun z => h (kd.mp z)))]; rfl
    rw [b6]
    refine ⟨by show (2 : Nat) ≤ sizeLine; decide, fun q5 hq5 => ?_⟩
    have e24 : Ex H23 (upd H23 q5 (.lst [.bl bb, .bl bb])) := Ex.new hq5
    have hq24 : (upd H23 q5 (.lst [.bl bb, .bl bb])) q5 = some (.lst [.bl bb, .bl bb]) := upd_same
    generalize upd H23 q5 (.lst [.bl bb, .bl bb]) = H24 at e24 hq24
    have e2024 := ((e21.trans e22).trans e23).trans e24
    refine ⟨q4, q5, _, _, rfl, rfl, e2024 _ _ hq20, hq24, by show (4 : Nat) + 2 ≤ sizeLine; decide, fun q6 hq6 => ?_⟩
    have e25 : Ex H24 (upd H24 q6 (.lst ([.bl bb, .bl bb, .bl bb, .bl bb] ++ [.bl bb, .bl bb]))) := Ex.new hq6
    have hq25 : (upd H24 q6 (.lst ([.bl bb, .bl bb, .bl bb, .bl bb] ++ [.bl bb, .bl bb]))) q6 = some (.lst ([bb, bb, bb, bb, bb, bb].map V.bl)) := upd_same
    generalize upd H24 q6 (.lst ([.bl bb, .bl bb, .bl bb, .bl bb] ++ [.bl bb, .bl bb])) = H25 at e25 hq25
    have c25 := (c20.ex e2024).ex e25
    have e825 := ((e811.trans e1120).trans e2024).trans e25
    clear hp hp21 e21 e22 hrb e23 hq5 hq24 e24 hq6 e25 c22 e2024 e1120 e1115 e811 c20 c15 c11 hq20 hq15 hpl11 e1519
    -- the six
    refine ⟨.ref q6, rfl, .bl bb, rfl, by show (1 : Nat) ≤ sizeLine; decide, fun p hp => ?_⟩
    have e26 : Ex H25 (upd H25 p (.lst [.bl bb])) := Ex.new hp
    have hp26 : (upd H25 p (.lst [.bl bb])) p = some (.lst [.bl bb]) := upd_same
    generalize upd H25 p (.lst [.bl bb]) = H26 at e26 hp26
    refine ⟨p, 6, [.bl bb], rfl, rfl, hp26, by decide, by decide, by show 1 * (6 : Nat) ≤ sizeLine; decide, fun p2 hp2 => ?_⟩
    have e27 : Ex H26 (upd H26 p2 (.lst (List.replicate (6 : Int).toNat [V.bl bb]).flatten)) := Ex.new hp2
    have hp27 : (upd H26 p2 (.lst (List.replicate (6 : Int).toNat [V.bl bb]).flatten)) p2 = some (.lst ([bb, bb, bb, bb, bb, bb].map V.bl)) := upd_same
    generalize upd H26 p2 (.lst (List.replicate (6 : Int).toNat [V.bl bb]).flatten) = H27 at e27 hp27
    refine ⟨.list ([bb, bb, bb, bb, bb, bb].map .bool), .list ([bb, bb, bb, bb, bb, bb].map .bool), dpL_bools (SqL.of ((e26.trans e27) _ _ hq25)), dpL_bools (SqL.of hp27), shaped_bools _, shaped_bools _, _, rfl, iteN ?_ ?_⟩
    · rw [PyData.eqv, eqv_bools]; simp
    have c27 := (c25.ex e26).ex e27
    have e827 := (e825.trans e26).trans e27
    clear hp hp26 e26 hp2 hp27 e27 hq25 e825 c25
    -- near
    refine ⟨v, rfl, .str n, rfl, v, n, rows, emp, rfl, c27.hv, tok, hnm, fun r H28 e28 hr28 => ?_⟩
    obtain ⟨rb, rfl, hrb⟩ := hr28
    have sl : (suited rows n).length ≤ 40 := suited_len tok n
    have c28 := c27.ex e28
    refine ⟨rb, rfl, ⟨_, SqT.of hrb⟩, fmJ kpE V.str (fun o => decide (o ∈ freeN rows)) V.str (suited rows n) (goes_tupM kpE (SqT.of hrb)) rfl (by omega) (by show 13 < 14; decide) (fun _ => rfl) (fun o H' ho eo Q' q => ?_) (fun o H' _ _ _ Q' q => ⟨.str o, rfl, q _ _ (Ex.refl _) rfl⟩) (fun D2 H29 hD2 e29 hl29 => ?_)⟩
    · exact ⟨.str o, rfl, .ref xb, rfl, o, xb, freeN rows, rfl, rfl, .inl (SqT.of (c28.ex eo).x), _, rfl, q _ (Ex.refl _)⟩
    have c29 := c28.ex e29
    have e829 := (e827.trans e28).trans e29
    have fnm : ∀ x ∈ (suited rows n).filter (fun o => decide (o ∈ freeN rows)), NameOk x := fun x hx => nmv x (free_sub.subset (of_decide_eq_true (List.mem_filter.mp hx).2))
    cases bb with
    | false =>
      have hnf : n ∉ freeN rows := of_decide_eq_false hbb
      refine ⟨.bl false, rfl, false, rfl, iteY rfl ?_⟩
      refine ⟨.str n, rfl, .ref yb, rfl, n, yb, holdN rows, rfl, rfl, .inl (SqT.of c29.y), ?_⟩
      refine ⟨.ref D2, rfl, by show (0 : Nat) ≤ sizeLine; decide, fun q7 hq7 => ?_⟩
      have e30 : Ex H29 (upd H29 q7 (.lst [])) := Ex.new hq7
      have hq30 : (upd H29 q7 (.lst [])) q7 = some (.lst (sL [])) := upd_same
      generalize upd H29 q7 (.lst []) = H30 at e30 hq30
      refine ⟨.list (((suited rows n).filter fun o => decide (o ∈ freeN rows)).map .str), .list (([] : List Str).map .str), dpL_strs (SqL.of (e30 _ _ hl29)), dpL_strs (SqL.of hq30), shaped_strsL fnm, shaped_strsL (fun x h => by simp at h), ?_⟩
      refine ⟨rfl, _, rfl, iteN ?_ ?_⟩
      · rw [PyData.eqv, eqv_strs]
        have hn := hold_near tok hnv hnf
        by_cases h : n ∈ holdN rows
        · rw [decide_eq_true h, decide_eq_false (hn.mp h)]; rfl
        · rw [decide_eq_false h, decide_eq_true (Classical.byContradiction fun z => h (hn.mpr z))]; rfl
      · refine ⟨.bl false, rfl, false, rfl, iteN rfl ?_⟩
        exact ⟨_, _, _, _, _, _, _, _, rfl, e829.trans e30⟩
    | true =>
      have hnf : n ∈ freeN rows := of_decide_eq_true hbb
      refine ⟨.bl true, rfl, true, rfl, iteN rfl (iteN rfl ?_)⟩
      refine ⟨.bl true, rfl, true, rfl, iteY rfl ?_⟩
      refine ⟨v, rfl, .str n, rfl, v, n, rows, emp, rfl, c29.hv, tok, hnm, fun r H30 e30 hr30 => ?_⟩
      unfold LeavesR at hr30
      rw [if_pos ((open_dm tok hnv).mpr ((mem_free tok).mp hnf))] at hr30
      obtain ⟨a, ps, rfl, ha, hps⟩ := hr30
      obtain ⟨lo1, lo2⟩ := least_open tok hnv hnf
      have lps := paired_lenW hps
      have nu8 : nuOf rows [] ≤ 8 := Nat.le_trans (mostN_le (near_ok tok []).sym (near_ok tok []).nd) (nms_len (near_ok tok []))
      refine ⟨!ps.isEmpty, .inr (.inl ⟨ps, SqT.of ha, rfl⟩), or_empty ha fun a2 H31 e31 h31 => ?_⟩
      have c31 := (c29.ex e30).ex e31
      refine ⟨.ref a2, rfl, a2, ps, rfl, .inr (SqT.of h31), 2, _, rfl, rfl, .inl (by decide), _, rfl, rfl, _, rfl, iteN ?_ ?_⟩
      · rw [lps, lo1]
        show (!decide (V.int ((2 : Int) * ((nuOf rows [] : Nat) : Int)) = V.int ((2 * nuOf rows [] : Nat) : Int))) = false
        have : (2 : Int) * ((nuOf rows [] : Nat) : Int) = ((2 * nuOf rows [] : Nat) : Int) := by omega
        rw [this, decide_eq_true rfl]
        rfl
      obtain ⟨zs, z1, z2, z3⟩ := pairs_zip hps
      have zl : zs.length ≤ 8 := by
        have h1 : zs.length = (leastN (near0 rows) (mostN (near0 rows) (butL (vsN rows) [n])) (butL (vsN rows) [n])).length := by rw [← z2, List.length_map]
        omega
      have hz1 : SqT K H31 a2 (zs.map (·.1)) := by rw [z1]; exact SqT.of h31
      refine ⟨.ref a2, rfl, a2, rfl, ⟨_, hz1⟩, fmJ kpE (fun z : V × (Str × Str) => z.1) (fun _ => false) (fun z => z.1) zs (goes_tupM kpE hz1) rfl (by omega) (by show 13 < 14; decide) (fun _ => rfl) (fun z H' hz eo Q' q => ?_) (fun z H' _ _ _ Q' q => ⟨_, rfl, q _ _ (Ex.refl _) rfl⟩) (fun D3 H32 hD3 e32 hl32 => ?_)⟩
      · obtain ⟨tz, ez, hzt⟩ := (z3 z hz).ex (Ex.kd (e31.trans eo))
        have hm : z.2 ∈ leastN (near0 rows) (mostN (near0 rows) (butL (vsN rows) [n])) (butL (vsN rows) [n]) := by rw [← z2]; exact List.mem_map.mpr ⟨z, hz, rfl⟩
        have nin : n ∉ [z.2.1, z.2.2] := fun hh => by
          rcases List.mem_cons.mp hh with h | h
          · exact (lo2 z.2 hm).1 h.symm
          · exact (lo2 z.2 hm).2 (List.mem_singleton.mp h).symm
        refine ⟨.str n, rfl, z.1, rfl, n, tz, [z.2.1, z.2.2], rfl, ez, .inl (SqT.of hzt), _, rfl, ?_⟩
        rw [decide_eq_false nin]
        exact q _ (Ex.refl _)
      have hl32' : H32 D3 = some (.lst (sL [])) := by rw [hl32, List.filter_eq_nil_iff.mpr (fun _ _ => Bool.false_ne_true)]; rfl
      refine ⟨by show (0 : Nat) ≤ sizeLine; decide, fun q8 hq8 => ?_⟩
      have e33 : Ex H32 (upd H32 q8 (.lst [])) := Ex.new hq8
      have hq33 : (upd H32 q8 (.lst [])) q8 = some (.lst (sL [])) := upd_same
      generalize upd H32 q8 (.lst []) = H33 at e33 hq33
      refine ⟨.list (([] : List Str).map .str), .list (([] : List Str).map .str), dpL_strs (SqL.of (e33 _ _ hl32')), dpL_strs (SqL.of hq33), shaped_strsL (fun x h => by simp at h), shaped_strsL (fun x h => by simp at h), _, rfl, iteN rfl ?_⟩
      exact ⟨_, _, _, _, _, _, _, _, rfl, (((e829.trans e30).trans e31).trans e32).trans e33⟩
  · obtain ⟨o6, o7, o8, o9, o10, o11, o12, o13, rfl, e8⟩ := h
    have c8 := c7.ex e8
    have Ln := lumps_names tok
    -- groups
    refine ⟨v, rfl, .ref xb, rfl, v, .ref xb, .non, rows, emp, freeN rows, rfl, .inl rfl, c8.hv, tok, ⟨xb, rfl, SqT.of c8.x⟩, free_sub, fun r H9 e9 hr9 => ?_⟩
    rw [lumps_all] at hr9
    have c9 := c8.ex e9
    refine ⟨v, rfl, .ref xb, rfl, rfl, rfl, v, .ref xb, .bl true, rows, emp, freeN rows, rfl, .inr rfl, c9.hv, tok, ⟨xb, rfl, SqT.of c9.x⟩, free_sub, fun r2 H10 e10 hr10 => ?_⟩
    rw [lumps_odd tok] at hr10
    have hr9' := hr9.kd (Ex.kd e10)
    have c10 := c9.ex e10
    refine ⟨r, rfl, .list ((lumpsN (near0 rows) (freeN rows)).map strsD), .list ((lumpsN (near0 rows) (freeN rows)).map strsD), dpL_lists hr10, dpL_lists hr9', shaped_lists Ln, shaped_lists Ln, _, rfl, iteN ?_ ?_⟩
    · rw [PyData.eqv, eqv_lists]; rfl
    obtain ⟨g, ps, rfl, hg, hps⟩ := hr9'
    have lps := paired_lenW hps
    refine ⟨.ref p1, rfl, p1, _, rfl, .inl (SqL.of c10.folk), _, rfl, _, _, rfl, rfl, .ref g, rfl, g, ps, rfl, .inl (SqL.of hg), .ref yb, rfl, yb, _, rfl, .inr (SqT.of c10.y), _, _, rfl, rfl, rfl, _, rfl, iteN ?_ ?_⟩
    · have hgr : (vsN rows).length + (holdN rows).length = 2 * nuOf rows [] + (lumpsN (near0 rows) (freeN rows)).length := (groups_ok tok).2
      have h1 : (sL (rows.map (·.1))).length = (vsN rows).length := by rw [List.length_map, ← near0_names rows]
      have h2 : (sL (holdN rows)).length = (holdN rows).length := List.length_map _
      rw [h1, h2, lps]
      rw [decide_eq_true]
      · rfl
      · have hI : ((vsN rows).length : Int) - ((2 * nuOf rows [] : Nat) : Int) = ((lumpsN (near0 rows) (freeN rows)).length : Int) - ((holdN rows).length : Int) := by
          generalize (lumpsN (near0 rows) (freeN rows)).length = g1 at hgr ⊢
          generalize (vsN rows).length = g2 at hgr ⊢
          generalize (holdN rows).length = g3 at hgr ⊢
          generalize nuOf rows [] = g4 at hgr ⊢
          omega
        exact congrArg V.int hI
    -- barrier
    refine ⟨v, rfl, .ref yb, rfl, v, .ref yb, rows, emp, holdN rows, rfl, c10.hv, tok, ⟨yb, rfl, SqT.of c10.y⟩, hold_sub, fun H11 e11 => ⟨_, rfl, ?_⟩⟩
    rw [barrier_ok tok]
    have c11 := c10.ex e11
    refine iteN rfl ?_
    refine ⟨.ref yb, rfl, yb, rfl, ⟨_, SqT.of c11.y⟩, fmJ kpE V.str (fun _ => true) (fun _ => .bl true) (holdN rows) (goes_tupM kpE (SqT.of c11.y)) rfl (by omega) (by show 13 < 14; decide) (fun _ => rfl) (fun _ _ _ _ => evT_yes kpE) (fun n H' hn _ eo Q' q => ?_) (fun D4 H12 hD4 e12 hl12 => ?_)⟩
    · have hnv : n ∈ vsN rows := hold_sub.subset hn
      have inn : ∀ x ∈ [n], x ∈ rows.map (·.1) := fun x hx => by rw [List.mem_singleton.mp hx]; exact inv n hnv
      refine ⟨v, rfl, .str n, rfl, by show (1 : Nat) ≤ sizeLine; decide, fun p hp => ⟨rfl, rfl, ?_⟩⟩
      have ep : Ex H' (upd H' p (.tup [.str n])) := Ex.new hp
      have hpp : (upd H' p (.tup [.str n])) p = some (.tup (sL [n])) := upd_same
      generalize upd H' p (.tup [.str n]) = Hp at ep hpp
      refine ⟨v, .ref p, rows, emp, [n], rfl, ((c11.ex eo).ex ep).hv, tok, ⟨p, rfl, SqT.of hpp⟩, by show (1 : Nat) ≤ 1000; decide, inn, fun Hq eq => ?_⟩
      refine ⟨_, rfl, _, _, rfl, rfl, rfl, ?_⟩
      have hless := hold_less tok hn
      have eb : decide (V.int ((2 * nuOf rows [n] : Nat) : Int) = V.int (((2 * nuOf rows [] : Nat) : Int) - 2)) = true := by
        rw [decide_eq_true]
        congr 1
        omega
      rw [eb]
      exact q _ _ (ep.trans eq) rfl
    refine ⟨D4, (holdN rows).map fun _ => true, rfl, SqL.of (by rw [hl12, all_filter_true, List.map_map]; rfl), _, rfl, ?_⟩
    rw [all_true]
    refine iteN rfl ?_
    have c12 := c11.ex e12
    -- the end
    refine ⟨v, rfl, .ref yb, rfl, .ref zb, rfl, cat_strs (SqT.of c12.y) (SqT.of c12.z) (by omega) fun q9 H13 e13 hq9 => ?_⟩
    refine ⟨q9, _, rfl, hq9, by rw [List.length_append]; omega, fun ys p hperm hsort hp => ?_⟩
    have e14 : Ex H13 (upd H13 p (.lst (sL ys))) := Ex.new hp
    have hp14 : (upd H13 p (.lst (sL ys))) p = some (.lst (sL ys)) := upd_same
    generalize upd H13 p (.lst (sL ys)) = H14 at e14 hp14
    refine ⟨p, _, rfl, .inl ⟨SqL.of hp14, fun q10 hq10 => ?_⟩⟩
    have e15 : Ex H14 (upd H14 q10 (.tup (sL ys))) := Ex.new hq10
    have hq15 : (upd H14 q10 (.tup (sL ys))) q10 = some (.tup (sL ys)) := upd_same
    generalize upd H14 q10 (.tup (sL ys)) = H15 at e15 hq15
    have c15 := ((c12.ex e13).ex e14).ex e15
    have yin : ∀ x ∈ ys, x ∈ holdN rows ∨ x ∈ fixN rows := fun x hx => List.mem_append.mp (hperm.mem_iff.mp hx)
    have yl : ys.length ≤ 16 := by rw [hperm.length_eq, List.length_append]; omega
    refine ⟨v, .ref q10, rows, emp, ys, rfl, c15.hv, tok, ⟨q10, rfl, SqT.of hq15⟩, by omega, fun x hx => inv x ((yin x hx).elim (fun h => hold_sub.subset h) fun h => fix_sub.subset h), fun H16 e16 => ?_⟩
    refine ⟨rfl, _, rfl, iteY ?_ ?_⟩
    · rw [gain_none tok yin]; rfl
    have c16 := c15.ex e16
    refine ⟨.ref xb, rfl, by show (0 : Nat) ≤ sizeLine; decide, fun q11 hq11 => ?_⟩
    have e17 : Ex H16 (upd H16 q11 (.tup [])) := Ex.new hq11
    have hq17 : (upd H16 q11 (.tup [])) q11 = some (.tup (sL [])) := upd_same
    generalize upd H16 q11 (.tup []) = H17 at e17 hq17
    have c17 := c16.ex e17
    refine ⟨.tuple ((freeN rows).map .str), .tuple (([] : List Str).map .str), nt_dp ⟨xb, rfl, SqT.of c17.x⟩, nt_dp ⟨q11, rfl, SqT.of hq17⟩, shaped_strsT (fun x hx => nmv x (free_sub.subset hx)), shaped_strsT (fun x h => by simp at h), ?_⟩
    refine ⟨_, rfl, .ref p1, rfl, p1, _, rfl, .inl (SqL.of c17.folk), rfl, rfl, ?_⟩
    have ew : decide (V.bl (PyData.eqv (.tuple ((freeN rows).map .str)) (.tuple (([] : List Str).map .str))) = V.bl (decide (V.int ((2 * nuOf rows [] : Nat) : Int) = V.int ((sL (rows.map (·.1))).length : Int)))) = true := by
      rw [PyData.eqv, eqv_strs]
      have hw := wide_iff tok
      have h1 : (sL (rows.map (·.1))).length = (vsN rows).length := by rw [List.length_map, ← near0_names rows]
      rw [h1]
      have hb : decide (V.int ((2 * nuOf rows [] : Nat) : Int) = V.int ((vsN rows).length : Int)) = decide (freeN rows = []) := by
        by_cases h : freeN rows = []
        · rw [decide_eq_true h, decide_eq_true]
          rw [hw.mp h]
        · rw [decide_eq_false h, decide_eq_false fun z => h (hw.mpr ?_)]
          have := V.int.inj z
          omega
      rw [hb]
      exact decide_eq_true rfl
    rw [ew]
    exact k _ ((((((((((e07.trans e8).trans e9).trans e10).trans e11).trans e12).trans e13).trans e14).trans e15).trans e16).trans e17)
end
end CH
/-! text L4 -/
/-! _law_take, _law_box. -/
namespace CH
open PySem PySem.Spec PyProof.Rows L2 Evl RZ
/-- all but the object at a stand as they did -/
def Xa (a : Addr) (H H' : Hp) : Prop := ∀ b o, b ≠ a → H b = some o → H' b = some o
theorem Xa.refl (a : Addr) (H : Hp) : Xa a H H := fun _ _ _ e => e
theorem Xa.trans {a : Addr} {H H1 H2 : Hp} (x : Xa a H H1) (y : Xa a H1 H2) : Xa a H H2 := fun b o n e => y b o n (x b o n e)
theorem Xa.ex {a : Addr} {H H' : Hp} (x : Ex H H') : Xa a H H' := fun b o _ e => x b o e
theorem Xa.upd {a : Addr} {H : Hp} {o : HO} : Xa a H (upd H a o) := fun b u n e => by rw [upd_ne n]; exact e
/-- a source of draws, at most m drawn -/
def Urn (H : Hp) (a : Addr) (m : Nat) : Prop := ∃ (x b : Int) (c : Nat), H a = some (.lst [.int x, .int b, .int (c : Int)]) ∧ c ≤ m
theorem Urn.ex {H H' : Hp} {a : Addr} {m : Nat} (h : Urn H a m) (e : Ex H H') : Urn H' a m := let ⟨x, b, c, h1, h2⟩ := h; ⟨x, b, c, e _ _ h1, h2⟩
theorem Urn.le {H : Hp} {a : Addr} {m k : Nat} (h : Urn H a m) (e : m ≤ k) : Urn H a k := let ⟨x, b, c, h1, h2⟩ := h; ⟨x, b, c, h1, by omega⟩
abbrev sTake : Stmt := top 38
abbrev nTake : List Str := ["_law_urn", "_law_low_so", "_law_drawn", "_law_once", "_law_far", "_law_twice"]
theorem scTake : FnScope nTake ["_law_urn", "_law_low_so"] (defScope sTake) := ⟨rfl, rfl, rfl, by decide +kernel, rfl, by decide +kernel, by decide +kernel⟩
def spTake : Sp := fun vs H Q _ => ∃ (a : Addr) (low : Int) (m : Nat), vs = [.ref a, .int low] ∧ 0 < low ∧ low < 1000 ∧ Urn H a m ∧ m ≤ 100000 ∧ ∀ (r : Nat) H', Xa a H H' → Urn H' a (m + 1) → (r : Int) < low → Q (.int (r : Int)) H'
section
variable {P : Program} {w : World} {K : PySem.W.Frag} {mg : Str → Option Value} {base : Heap} {f : Addr}
theorem ok_take (F : Fn K "_law_take" "_law_take" sTake [] [] f) (T : Blt mg) : FnR P w K mg base CX0 1 f spTake := by
  have nd := scTake.nd
  refine Fn.ok0 (ps := ["_law_urn", "_law_low_so"]) F scTake (fun kV doc pm an cdv ct us hl => by match us, hl with | [u, u2], _ => rfl) (fun vs H Q E ⟨_, _, _, e, _⟩ => by rw [e]; rfl) (fun cdv A outer s H vs Q E hr h => ?_)
  obtain ⟨a, low, m, rfl, h0, h1, ⟨x, b, c, ha, hc⟩, hm, k⟩ := h
  refine ⟨_, pss_cons (ps_if (pt_cmpR op_gt (pe_ix ix_list (pv 0) pe_int (fun _ _ => rfl)) pe_int (nomark _))
      (pss_cons (ps_set (i := 2) nd rfl (Or.inl rfl) (pe_op op_mod (pe_callTy call_int1 (by rfl) T.int (by decide +kernel) (pa_cons (pe_ix ix_list (pv 0) pe_int (fun _ _ => rfl)) pa_nil)) (pv 1)))
      (pss_cons (ps_asg (pe_op op_fdiv (pe_ix ix_list (pv 0) pe_int (fun _ _ => rfl)) (pv 1)) (pg_sub (pv 0) pe_int set_list))
      (pss_one (ps_ret (pv 2))))) pss_nil)
    (pss_cons (ps_asg (pe_op op_add (pe_ix ix_list (pv 0) pe_int (fun _ _ => rfl)) pe_int) (pg_sub (pv 0) pe_int set_list))
    (pss_cons (ps_set (i := 3) nd rfl (Or.inl rfl) (pe_op op_mod (pe_callTy call_int1 (by rfl) T.int (by decide +kernel) (pa_cons (pe_op op_mul (pe_op op_add (pe_ix ix_list (pv 0) pe_int (fun _ _ => rfl)) (pe_op op_mul pe_int (pe_ix ix_list (pv 0) pe_int (fun _ _ => rfl)))) (pe_op op_add pe_int (pe_ix ix_list (pv 0) pe_int (fun _ _ => rfl)))) pa_nil)) pe_int))
    (pss_cons (ps_set (i := 4) nd rfl (Or.inl rfl) (pe_op op_add (pe_op op_mod (pe_callTy call_int1 (by rfl) T.int (by decide +kernel) (pa_cons (pv 3) pa_nil)) pe_int) pe_int))
    (pss_cons (ps_set (i := 5) nd rfl (Or.inl rfl) (pe_op op_mod (pe_callTy call_int1 (by rfl) T.int (by decide +kernel) (pa_cons (pe_op op_mul (pe_op op_add (pe_op op_add (pv 3) (pe_ix ix_list (pv 0) pe_int (fun _ _ => rfl))) (pe_op op_fdiv (pe_ix ix_list (pv 0) pe_int (fun _ _ => rfl)) pe_int)) (pv 4)) pa_nil)) pe_int))
    (pss_one (ps_ret (pe_op op_mod (pe_callTy call_int1 (by rfl) T.int (by decide +kernel) (pa_cons (pe_op op_fdiv (pe_op op_mod (pe_callTy call_int1 (by rfl) T.int (by decide +kernel) (pa_cons (pe_op op_add (pe_op op_mul (pv 5) pe_int) (pv 3)) pa_nil)) pe_int) pe_int) pa_nil)) (pv 1)))))))), ?_⟩
  have hl := SqL.of (K := K) ha
  refine ⟨.ref a, rfl, a, _, 0, .int x, rfl, rfl, hl, atI_nat (j := 0) rfl, x, 0, rfl, rfl, _, rfl, ?_⟩
  by_cases hx : 0 < x
  · refine iteY (decide_eq_true hx) ?_
    refine ⟨.ref a, rfl, a, _, 0, .int x, rfl, rfl, hl, atI_nat (j := 0) rfl, .inl ⟨x, rfl, .int low, rfl, x, low, rfl, rfl, h0, ?_⟩⟩
    refine ⟨.ref a, rfl, a, _, 0, .int x, rfl, rfl, hl, atI_nat (j := 0) rfl, .int low, rfl, x, low, rfl, rfl, ⟨h0, by omega⟩, ?_⟩
    refine ⟨.ref a, rfl, a, _, 0, 0, rfl, rfl, ha, rfl, ?_⟩
    have hr0 : 0 ≤ x % low := Int.emod_nonneg _ (by omega)
    refine ⟨.int (x % low), rfl, ?_⟩
    obtain ⟨r, er⟩ := Int.eq_ofNat_of_zero_le hr0
    rw [er]
    refine k r _ Xa.upd ⟨x / low, b, c, upd_same, by omega⟩ ?_
    rw [← er]
    exact Int.emod_lt_of_pos _ h0
  · refine iteN (decide_eq_false hx) ?_
    refine ⟨.ref a, rfl, a, _, 2, .int (c : Int), rfl, rfl, hl, atI_nat (j := 2) rfl, c, 1, rfl, rfl, ?_⟩
    refine ⟨.ref a, rfl, a, _, 2, 2, rfl, rfl, ha, rfl, ?_⟩
    have h2 : (upd H a (.lst ([V.int x, V.int b, V.int (c : Int)].set 2 (.int ((c : Int) + 1))))) a = some (.lst [.int x, .int b, .int ((c + 1 : Nat) : Int)]) := upd_same
    have e2 : Xa a H (upd H a (.lst ([V.int x, V.int b, V.int (c : Int)].set 2 (.int ((c : Int) + 1))))) := Xa.upd
    generalize upd H a (.lst ([V.int x, V.int b, V.int (c : Int)].set 2 (.int ((c : Int) + 1)))) = H2 at h2 e2
    have hl2 := SqL.of (K := K) h2
    have p64 : ((c + 1 : Nat) : Int) + 39373 < 2 ^ 64 := by omega
    refine ⟨.ref a, rfl, a, _, 1, .int b, rfl, rfl, hl2, atI_nat (j := 1) rfl, .ref a, rfl, a, _, 2, .int ((c + 1 : Nat) : Int), rfl, rfl, hl2, atI_nat (j := 2) rfl, 48271, _, rfl, rfl, .inl (by decide), b, _, rfl, rfl, ?_⟩
    refine ⟨.ref a, rfl, a, _, 2, .int ((c + 1 : Nat) : Int), rfl, rfl, hl2, atI_nat (j := 2) rfl, 39373, _, rfl, rfl, _, _, rfl, rfl, .inr ⟨by omega, by omega⟩, .inl ⟨_, rfl, _, 2147483647, rfl, rfl, (show (0 : Int) < 2147483647 by decide), ?_⟩⟩
    refine ⟨_, rfl, .inl ⟨_, rfl, _, 40009, rfl, rfl, (show (0 : Int) < 40009 by decide), _, 7, rfl, rfl, ?_⟩⟩
    refine ⟨_, rfl, .ref a, rfl, a, _, 2, .int ((c + 1 : Nat) : Int), rfl, rfl, hl2, atI_nat (j := 2) rfl, _, _, rfl, rfl, .ref a, rfl, a, _, 1, .int b, rfl, rfl, hl2, atI_nat (j := 1) rfl, b, 1000003, rfl, rfl, ⟨by decide, by decide⟩, _, _, rfl, rfl, ?_⟩
    refine ⟨_, rfl, _, _, rfl, rfl, .inr ⟨?_, ?_⟩, .inl ⟨_, rfl, _, 2147483629, rfl, rfl, (show (0 : Int) < 2147483629 by decide), ?_⟩⟩
    · have := Int.emod_nonneg ((b + 48271 * ((c + 1 : Nat) : Int)) * (39373 + ((c + 1 : Nat) : Int)) % 2147483647) (show (40009 : Int) ≠ 0 by decide)
      show -(2 ^ 64) < ((b + 48271 * ((c + 1 : Nat) : Int)) * (39373 + ((c + 1 : Nat) : Int)) % 2147483647) % 40009 + 7
      omega
    · have := Int.emod_lt_of_pos ((b + 48271 * ((c + 1 : Nat) : Int)) * (39373 + ((c + 1 : Nat) : Int)) % 2147483647) (show (0 : Int) < 40009 by decide)
      show ((b + 48271 * ((c + 1 : Nat) : Int)) * (39373 + ((c + 1 : Nat) : Int)) % 2147483647) % 40009 + 7 < 2 ^ 64
      omega
    refine ⟨_, rfl, _, 48271, rfl, rfl, .inr ⟨by decide, by decide⟩, _, rfl, _, _, rfl, rfl, .inl ⟨_, rfl, _, 2147483587, rfl, rfl, (show (0 : Int) < 2147483587 by decide), _, 64, rfl, rfl, ⟨by decide, by decide⟩, .inl ⟨_, rfl, .int low, rfl, _, low, rfl, rfl, h0, ?_⟩⟩⟩
    generalize hz : (_ : Int) / 64 = z
    have hr0 : 0 ≤ z % low := Int.emod_nonneg _ (by omega)
    obtain ⟨r, er⟩ := Int.eq_ofNat_of_zero_le hr0
    show Q (.int (z % low)) H2
    rw [er]
    refine k r _ e2 ⟨x, b, c + 1, h2, by omega⟩ ?_
    rw [← er]
    exact Int.emod_lt_of_pos _ h0
end
/-! _law_box -/
abbrev sBox : Stmt := top 37
theorem scBox : FnScope ["_law_script", "_law_k", "_law_cell"] ["_law_script", "_law_k"] (defScope sBox) := ⟨rfl, rfl, rfl, by decide +kernel, rfl, by decide +kernel, by decide +kernel⟩
def spBox (K : PySem.W.Frag) : Sp := fun vs H Q _ => ∃ (a : Addr) (ns : List Int) (k : Nat), vs = [.ref a, .int k] ∧ SqL K H a (ns.map V.int) ∧ k < ns.length ∧ k < 1000 ∧ ∀ p H', Ex H H' → H p = none → Urn H' p 0 → Q (.ref p) H'
section
variable {P : Program} {w : World} {K : PySem.W.Frag} {mg : Str → Option Value} {base : Heap} {f : Addr}
theorem ok_box (F : Fn K "_law_box" "_law_box" sBox [] [] f) (T : Blt mg) : FnR P w K mg base CX0 1 f (spBox K) := by
  have nd := scBox.nd
  refine Fn.ok0 (ps := ["_law_script", "_law_k"]) F scBox (fun kV doc pm an cdv ct us hl => by match us, hl with | [u, u2], _ => rfl) (fun vs H Q E ⟨_, _, _, e, _⟩ => by rw [e]; rfl) (fun cdv A outer s H vs Q E hr h => ?_)
  obtain ⟨a, ns, j, rfl, ha, hj, hj2, k⟩ := h
  refine ⟨_, pss_cons (ps_set (i := 2) nd rfl (Or.inl rfl) (pe_ifExp (pt_cmpR op_lt (pv 1) (pe_callB call_len_seq (by rfl) T.len (by decide +kernel) (pa_cons (pv 0) pa_nil)) (nomark _)) (pe_ix ix_list (pv 0) (pv 1) (fun _ _ => rfl)) pe_int))
    (pss_one (ps_ret (pe_lst (pa_cons (pe_op op_mul (pe_callB call_abs (by rfl) T.abs (by decide +kernel) (pa_cons (pv 2) pa_nil)) (pe_callTy call_int1 (by rfl) T.int (by decide +kernel) (pa_cons (pe_cmpR op_ge (pe_callB call_abs (by rfl) T.abs (by decide +kernel) (pa_cons (pv 2) pa_nil)) (pe_op op_pow pe_int pe_int) (nomark _)) pa_nil)))
      (pa_cons (pe_op op_add (pe_op op_add (pe_op op_mod (pe_callTy call_int1 (by rfl) T.int (by decide +kernel) (pa_cons (pv 2) pa_nil)) pe_int) (pe_op op_mul pe_int (pv 1))) pe_int) (pa_cons pe_int pa_nil)))))), ?_⟩
  have hat : (ns.map V.int)[j]? = some (.int ns[j]) := by rw [List.getElem?_map, List.getElem?_eq_getElem hj]; rfl
  refine ⟨.int j, rfl, .ref a, rfl, a, _, rfl, .inl ha, _, _, rfl, rfl, _, rfl, iteY (decide_eq_true ?_) ?_⟩
  · show (j : Int) < ((ns.map V.int).length : Int)
    rw [List.length_map]
    omega
  refine ⟨.ref a, rfl, .int j, rfl, a, _, j, .int ns[j], rfl, rfl, ha, atI_nat hat, ?_⟩
  generalize ns[j] = cell
  refine ⟨.int cell, rfl, cell, rfl, .int cell, rfl, cell, rfl, 10, 18, rfl, rfl, ⟨by decide, by decide, by decide⟩, _, _, rfl, rfl, .inr ⟨_, rfl, _, _, rfl, rfl, .inr ⟨?_, ?_⟩, ?_⟩⟩
  · exact (show ∀ b : Bool, -(2 ^ 64 : Int) < (if b = true then (1 : Int) else 0) by decide) _
  · exact (show ∀ b : Bool, (if b = true then (1 : Int) else 0) < (2 ^ 64 : Int) by decide) _
  refine ⟨.int cell, rfl, .inl ⟨_, rfl, _, 2305843009213693951, rfl, rfl, (show (0 : Int) < 2305843009213693951 by decide), .int j, rfl, 39373, _, rfl, rfl, .inl (by decide), _, _, rfl, rfl, _, 1415, rfl, rfl, by show (3 : Nat) ≤ sizeLine; decide, fun p hp => ?_⟩⟩
  exact k p _ (Ex.new hp) hp ⟨_, _, 0, upd_same, Nat.le_refl _⟩
end
end CH
/-! text L5 -/
/-! _law_few, _law_mixed. -/
namespace CH
open PySem PySem.Spec PyProof.Rows L2 Evl RZ
abbrev sFew : Stmt := top 41
abbrev nFew : List Str := ["_law_urn", "_law_pool", "_law_one_of", "_law_own"]
theorem scFew : FnScope nFew ["_law_urn", "_law_pool", "_law_one_of"] (defScope sFew) := ⟨rfl, rfl, rfl, by decide +kernel, rfl, by decide +kernel, by decide +kernel⟩
def spFew : Sp := fun vs H Q _ => ∃ (a p : Addr) (lo : Int) (m : Nat) (pool : List Str), vs = [.ref a, .ref p, .int lo] ∧ 0 < lo ∧ lo < 1000 ∧ Urn H a m ∧ m ≤ 50000 ∧ H p = some (.lst (sL pool)) ∧ pool.length ≤ 1000 ∧
  ∀ r sub H', Xa a H H' → Urn H' a (m + pool.length) → NS H' r sub → sub.Sublist pool → Q r H'
theorem urn_ne {H : Hp} {a p : Addr} {m : Nat} {l : List Str} (h : Urn H a m) (e : H p = some (.lst (sL l))) : p ≠ a := fun z => by
  obtain ⟨x, b, c, h1, _⟩ := h
  rw [z, h1] at e
  have e2 := HO.lst.inj (Option.some.inj e)
  cases l with
  | nil => cases e2
  | cons y l => exact V.noConfusion (List.cons.inj e2).1
section
variable {P : Program} {w : World} {K : PySem.W.Frag} {mg : Str → Option Value} {base : Heap} {f : Addr}
theorem ok_few (F : Fn K "_law_few" "_law_few" sFew [] [] f) (T : Blt mg) (GT : Pr P w K mg base "_law_take" 1 spTake) : FnR P w K mg base CX0 2 f spFew := by
  have nd := scFew.nd
  refine Fn.ok0 (ps := ["_law_urn", "_law_pool", "_law_one_of"]) F scFew (fun kV doc pm an cdv ct us hl => by match us, hl with | [u, u2, u3], _ => rfl) (fun vs H Q E ⟨_, _, _, _, _, e, _⟩ => by rw [e]; rfl) (fun cdv A outer s H vs Q E hr h => ?_)
  obtain ⟨a, p, lo, m, pool, rfl, h0, h1, ur, hm, hp, hz, k⟩ := h
  refine ⟨_, pss_one (ps_ret (pe_callTy call_tuple_of (by rfl) T.tuple (by decide +kernel) (pa_cons (pe_lc (own := [("_law_own", 3)]) (g := gName 3) rfl nd (pi_list (pv 1)) (blkOk_by (N := nFew) (sc := defScope sFew) (by decide +kernel))
    (fun _ _ _ _ _ => pg_name (i := 3) nd rfl (Or.inl rfl)) (fun _ _ _ _ _ => pts_one (pt_cmpR op_eq (pe_pr GT hr (by rfl) (pa_cons (pv 0) (pa_cons (pv 2) pa_nil))) pe_int (nomark _))) (fun _ _ _ _ _ => pv 3)) pa_nil))), ?_⟩
  have npa := urn_ne ur hp
  refine ⟨.ref p, rfl, p, rfl, ⟨_, SqL.of hp⟩, fun D hD => ?_⟩
  have nDa : D ≠ a := fun z => by obtain ⟨x, b, c, h2, _⟩ := ur; rw [z, h2] at hD; cases hD
  have nDp : D ≠ p := fun z => by rw [z, hp] at hD; cases hD
  refine lc_list (xs := sL pool) (fun i H' => ∃ sub, Xa a H H' ∧ Urn H' a (m + i) ∧ H' D = some (.lst (sL sub)) ∧ sub.Sublist (pool.take i)) ⟨[], Xa.ex (Ex.new hD), ur.ex (Ex.new hD), upd_same, List.Sublist.refl _⟩ (fun i H' _ ⟨sub, x, _⟩ => SqL.of (x _ _ npa hp)) (fun i x H1 hx ⟨sub, x1, u1, d1, s1⟩ => ?_) (fun H1 ⟨sub, x1, u1, d1, s1⟩ => ?_)
  · obtain ⟨n, hni, rfl⟩ := nth_map hx
    have tk : pool.take (i + 1) = pool.take i ++ [n] := take_succ_some hni
    have hi : i < pool.length := (List.getElem?_eq_some_iff.mp hni).1
    refine ⟨rfl, .ref a, rfl, .int lo, rfl, a, lo, m + i, rfl, h0, h1, u1, by omega, fun r H2 x2 u2 hr2 => ⟨rfl, _, rfl, ?_⟩⟩
    have d2 := x2 _ _ nDa d1
    have sl : sub.length ≤ 1000 := by have := s1.length_le; rw [List.length_take] at this; omega
    cases decide (V.int (r : Int) = V.int 0) with
    | true =>
      refine iteY rfl ⟨.str n, rfl, sL sub, d2, sz_lt (by rw [List.length_map]; omega), sub ++ [n], (fun b o nb e => by rw [upd_ne (ne_of_none e hD)]; exact (x1.trans x2) b o nb e), ?_, ?_, ?_⟩
      · obtain ⟨y, b, c, h3, h4⟩ := u2
        exact ⟨y, b, c, by rw [upd_ne (Ne.symm nDa)]; exact h3, h4⟩
      · rw [upd_same]; unfold sL; rw [List.map_append]; rfl
      · rw [tk]; exact s1.append (List.Sublist.refl _)
    | false => exact iteN rfl ⟨sub, x1.trans x2, u2, d2, by rw [tk]; exact s1.trans (List.sublist_append_left _ _)⟩
  · rw [List.length_map] at u1 s1
    rw [List.take_length] at s1
    refine ⟨D, sL sub, rfl, .inl ⟨SqL.of d1, fun l hl => ?_⟩⟩
    exact k (.ref l) sub _ (x1.trans (Xa.ex (Ex.new hl))) (u1.ex (Ex.new hl)) ⟨l, rfl, upd_same⟩ s1
theorem erase_map {α β : Type} (f : α → β) : ∀ (l : List α) (i : Nat), (l.map f).eraseIdx i = (l.eraseIdx i).map f
  | [], _ => rfl
  | _ :: _, 0 => rfl
  | x :: l, i + 1 => by
    show f x :: (l.map f).eraseIdx i = f x :: (l.eraseIdx i).map f
    rw [erase_map f l i]
theorem cons_erase {α : Type} : ∀ {l : List α} {r : Nat} (h : r < l.length), (l[r] :: l.eraseIdx r).Perm l
  | x :: l, 0, _ => List.Perm.refl _
  | x :: l, r + 1, h => by
    show (l[r]'(Nat.lt_of_succ_lt_succ h) :: x :: l.eraseIdx r).Perm (x :: l)
    exact (List.Perm.swap _ _ _).trans (List.Perm.cons _ (cons_erase (Nat.lt_of_succ_lt_succ h)))
theorem seq_ix {r n : Nat} (h : r < n) : seqIndex? (r : Int) n = some r := by
  refine (ixN_seq (n := n) (i := (r : Int)) (j := r) ?_).1
  unfold ixN
  rw [if_pos (by omega), if_pos (by omega)]
  rfl
/-! _law_mixed -/
abbrev sMixed : Stmt := top 42
abbrev nMixed : List Str := ["_law_urn", "_law_pool", "_law_left", "_law_found", "_law_turn"]
theorem scMixed : FnScope nMixed ["_law_urn", "_law_pool"] (defScope sMixed) := ⟨rfl, rfl, rfl, by decide +kernel, rfl, by decide +kernel, by decide +kernel⟩
def spMixed : Sp := fun vs H Q _ => ∃ (a p : Addr) (m : Nat) (pool : List Str), vs = [.ref a, .ref p] ∧ Urn H a m ∧ m ≤ 50000 ∧ H p = some (.lst (sL pool)) ∧ pool.length < 1000 ∧
  ∀ r l H', Xa a H H' → Urn H' a (m + pool.length) → NS H' r l → l.Perm pool → Q r H'
theorem ok_mixed (F : Fn K "_law_mixed" "_law_mixed" sMixed [] [] f) (T : Blt mg) (GT : Pr P w K mg base "_law_take" 1 spTake) : FnR P w K mg base CX0 2 f spMixed := by
  have nd := scMixed.nd
  refine Fn.ok0 (ps := ["_law_urn", "_law_pool"]) F scMixed (fun kV doc pm an cdv ct us hl => by match us, hl with | [u, u2], _ => rfl) (fun vs H Q E ⟨_, _, _, _, e, _⟩ => by rw [e]; rfl) (fun cdv A outer s H vs Q E hr h => ?_)
  obtain ⟨a, p, m, pool, rfl, ur, hm, hp, hz, k⟩ := h
  refine ⟨_, pss_cons (ps_par (i := 2) (j := 3) rfl nd rfl rfl (by decide) rfl rfl (pa_cons (pe_callTy call_list_of (by rfl) T.list (by decide +kernel) (pa_cons (pv 1) pa_nil)) (pa_cons (pe_lst pa_nil) pa_nil)) (by rfl))
    (pss_cons (ps_for PassesOwn.never rfl (pi_range1 (by rfl) T.range (pa_cons (pe_callB call_len_seq (by rfl) T.len (by decide +kernel) (pa_cons (pv 1) pa_nil)) pa_nil)) (pg_name (i := 4) nd rfl (Or.inl rfl) (Or.inl rfl))
      (pss_one (ps_expr (pe_bm PySem.F.plainAttrs_list PySem.F.slot_list_append PySem.F.type_list_append mt_append (pv 3) (pa_cons (pe_bm PySem.F.plainAttrs_list PySem.F.slot_list_pop PySem.F.type_list_pop mt_popAt (pv 2)
        (pa_cons (pe_pr GT hr (by rfl) (pa_cons (pv 0) (pa_cons (pe_callB call_len_seq (by rfl) T.len (by decide +kernel) (pa_cons (pv 2) pa_nil)) pa_nil))) pa_nil)) pa_nil)))))
    (pss_one (ps_ret (pe_callTy call_tuple_of (by rfl) T.tuple (by decide +kernel) (pa_cons (pv 3) pa_nil))))), ?_⟩
  have npa := urn_ne ur hp
  refine ⟨.ref p, rfl, p, _, rfl, .inl (SqL.of hp), fun l1 hl1 => ⟨by show (0 : Nat) ≤ sizeLine; decide, fun l2 hl2 => ⟨_, _, rfl, ?_⟩⟩⟩
  have e1 : Ex H (upd H l1 (.lst (sL pool))) := Ex.new hl1
  have h1 : (upd H l1 (.lst (sL pool))) l1 = some (.lst (sL pool)) := upd_same
  generalize upd H l1 (.lst (sL pool)) = H1 at e1 h1 hl2
  have e2 : Ex H1 (upd H1 l2 (.lst [])) := Ex.new hl2
  have h2 : (upd H1 l2 (.lst [])) l2 = some (.lst []) := upd_same
  have n12 : l1 ≠ l2 := fun z => by rw [← z, h1] at hl2; cases hl2
  have hl2H : H l2 = none := by
    cases hh : H l2 with
    | none => rfl
    | some o => rw [e1 _ _ hh] at hl2; cases hl2
  generalize upd H1 l2 (.lst []) = H2 at e2 h2
  have e03 := e1.trans e2
  have na1 : l1 ≠ a := fun z => by obtain ⟨x, b, c, h, _⟩ := ur; rw [z, h] at hl1; cases hl1
  have na2 : l2 ≠ a := fun z => by obtain ⟨x, b, c, h, _⟩ := ur; rw [z, h] at hl2H; cases hl2H
  refine ⟨.ref p, rfl, p, _, rfl, .inl (SqL.of (e03 _ _ hp)), _, rfl, by omega, by rw [List.length_map]; omega, ?_⟩
  have hn : ((sL pool).length : Int).toNat = pool.length := by rw [List.length_map]; rfl
  rw [hn]
  refine for_range (fun i σ H' => ∃ o4 left found, σ = [some (.ref a), some (.ref p), some (.ref l1), some (.ref l2), o4] ∧ Xa a H H' ∧ Urn H' a (m + i) ∧ H' l1 = some (.lst (sL left)) ∧ H' l2 = some (.lst (sL found)) ∧ left.length + i = pool.length ∧ (found ++ left).Perm pool)
    ⟨none, pool, [], rfl, Xa.ex e03, ur.ex e03, e2 _ _ h1, h2, rfl, List.Perm.refl _⟩ (fun i σ H4 hi ⟨o4, left, found, es, x4, u4, d1, d2, hlen, hperm⟩ => ?_) (fun σ H4 ⟨o4, left, found, es, x4, u4, d1, d2, hlen, hperm⟩ => ?_)
  · subst es
    have hl0 : 0 < left.length := by omega
    have fl : found.length ≤ 1000 := by have := hperm.length_eq; rw [List.length_append] at this; omega
    refine ⟨.ref l2, rfl, .inl ⟨rfl, _, SqL.of d2⟩, .ref l1, rfl, .inl ⟨rfl, _, SqL.of d1⟩, .ref a, rfl, .ref l1, rfl, l1, _, rfl, .inl (SqL.of d1), ?_⟩
    refine ⟨a, ((sL left).length : Int), m + i, rfl, by rw [List.length_map]; omega, by rw [List.length_map]; omega, u4, by omega, fun r H5 x5 u5 hr5 => ?_⟩
    rw [List.length_map] at hr5
    have hr : r < left.length := by omega
    have d15 := x5 _ _ na1 d1
    have d25 := x5 _ _ na2 d2
    refine ⟨l1, sL left, r, r, .str left[r], rfl, rfl, d15, by omega, by omega, ?_, ?_, ?_⟩
    · rw [List.length_map]; exact seq_ix hr
    · rw [List.getElem?_map, List.getElem?_eq_getElem hr]; rfl
    have d1e : (upd H5 l1 (.lst ((sL left).eraseIdx r))) l1 = some (.lst (sL (left.eraseIdx r))) := by rw [upd_same]; unfold sL; rw [erase_map]
    have d2e : (upd H5 l1 (.lst ((sL left).eraseIdx r))) l2 = some (.lst (sL found)) := by rw [upd_ne (Ne.symm n12)]; exact d25
    have xe : Xa a H (upd H5 l1 (.lst ((sL left).eraseIdx r))) := fun b o nb e => by rw [upd_ne (ne_of_none e hl1)]; exact (x4.trans x5) b o nb e
    have ue : Urn (upd H5 l1 (.lst ((sL left).eraseIdx r))) a (m + i + 1) := by
      obtain ⟨y, b, c, h3, h4⟩ := u5
      exact ⟨y, b, c, by rw [upd_ne (Ne.symm na1)]; exact h3, h4⟩
    generalize upd H5 l1 (.lst ((sL left).eraseIdx r)) = H6 at d1e d2e xe ue
    refine ⟨l2, sL found, _, rfl, rfl, d2e, sz_lt (by rw [List.length_map]; omega), _, left.eraseIdx r, found ++ [left[r]], rfl, fun b o nb e => ?_, ?_, ?_, ?_, ?_, ?_⟩
    · rw [upd_ne (ne_of_none e hl2H)]; exact xe b o nb e
    · obtain ⟨y, b, c, h3, h4⟩ := ue
      exact ⟨y, b, c, by rw [upd_ne (Ne.symm na2)]; exact h3, h4⟩
    · rw [upd_ne n12]; exact d1e
    · rw [upd_same]; unfold sL; rw [List.map_append]; rfl
    · rw [List.length_eraseIdx_of_lt hr]; omega
    · refine List.Perm.trans ?_ hperm
      rw [List.append_assoc]
      exact List.Perm.append_left _ (cons_erase hr)
  · subst es
    have : left = [] := List.eq_nil_of_length_eq_zero (by omega)
    subst this
    rw [List.append_nil] at hperm
    refine ⟨.ref l2, rfl, l2, sL found, rfl, .inl ⟨SqL.of d2, fun l hl => ?_⟩⟩
    exact k (.ref l) found _ (x4.trans (Xa.ex (Ex.new hl))) (u4.ex (Ex.new hl)) ⟨l, rfl, upd_same⟩ hperm
end
end CH
/-! text L6 -/
/-! What _law_book takes. -/
namespace CH
open PySem PySem.Spec PyProof.Rows L2 Evl RZ
abbrev leR {β : Type} (f : β → Str × List Str) : β → β → Bool := PySem.W.dataLe false fun b => rowD (f b)
theorem leR_lt {β : Type} {f : β → Str × List Str} {a b : β} (hn : (f a).1 ≠ (f b).1) (h : leR f a b = true) : ltS (f a).1 (f b).1 = true := by
  have h : (!PySem.W.dataLt (rowD (f b)) (rowD (f a))) = true := h
  unfold rowD at h
  have hal : PySem.W.alike (.tuple ((f b).2.map .str)) (.tuple ((f a).2.map .str)) = true := alike_strsD _ _
  rw [PySem.W.dataLt_pair (by simp [PySem.W.alike]) hal] at h
  have e : PyData.eqv (.str (f b).1) (.str (f a).1) = false := by
    rw [PyData.eqv]
    exact beq_false_of_ne (Ne.symm hn)
  rw [e, if_neg Bool.false_ne_true, PySem.W.dataLt_str] at h
  rcases ordS.tot _ _ hn with z | z
  · exact z
  · have z : decide ((f b).1.cps.toList < (f a).1.cps.toList) = true := z
    rw [z] at h
    cases h
theorem rows_asc {β : Type} {f : β → Str × List Str} {bs : List β} (nd : (bs.map fun b => (f b).1).Nodup) : Asc ((bs.mergeSort (leR f)).map fun b => (f b).1) := by
  have T : PySem.W.TotalLe (leR f) := PySem.W.sortLe_total _ false _
  have P : (bs.mergeSort (leR f)).Pairwise fun a b => leR f a b = true := PySem.W.sort_pairwise T bs
  have N : ((bs.mergeSort (leR f)).map fun b => (f b).1).Nodup := (((List.mergeSort_perm bs (leR f)).map fun b => (f b).1).nodup_iff).mpr nd
  unfold Asc
  rw [List.pairwise_map]
  have N2 : (bs.mergeSort (leR f)).Pairwise fun a b => (f a).1 ≠ (f b).1 := List.pairwise_map.mp N
  exact (P.and N2).imp fun {a b} h => leR_lt h.2 h.1
theorem alike_rows (r q : Str × List Str) : PySem.W.alike (rowD r) (rowD q) = true := by
  unfold rowD
  simp [PySem.W.alike, PySem.W.alikeAll, alike_strs]
theorem depth_row (r : Str × List Str) : (rowD r).depth ≤ 4 := by
  simp [rowD, PyData.depth, PyData.depthAll, dep_strs]
/-! the table -/
abbrev Tb := List (Key × V)
def TabR (HB H : Hp) (ok : Str → Prop) (B : Nat) (kv : Key × V) (n : Str) : Prop := kv.1 = .inr n ∧ ∃ q ws, kv.2 = .ref q ∧ HB q = none ∧ H q = some (.lst (sL ws)) ∧ (∀ x ∈ ws, ok x) ∧ ws.length ≤ B
def Tab (HB H : Hp) (T : Addr) (ok : Str → Prop) (B : Nat) (ns : List Str) : Prop := HB T = none ∧ ∃ kvs : Tb, H T = some (.dK kvs) ∧ Paired (TabR HB H ok B) kvs ns
section
variable {HB H H' : Hp} {T a : Addr} {ok : Str → Prop} {B C : Nat} {ns : List Str}
theorem TabR.mono {kv : Key × V} {n : Str} (h : TabR HB H ok B kv n) (x : Xa a H H') (ha : ∃ o, HB a = some o) (hc : B ≤ C) : TabR HB H' ok C kv n := by
  obtain ⟨e, q, ws, e2, h1, h2, h3, h4⟩ := h
  exact ⟨e, q, ws, e2, h1, x _ _ (fun z => by obtain ⟨o, ho⟩ := ha; rw [z, ho] at h1; cases h1) h2, h3, by omega⟩
theorem Tab.mono (h : Tab HB H T ok B ns) (x : Xa a H H') (ha : ∃ o, HB a = some o) (hc : B ≤ C) : Tab HB H' T ok C ns := by
  obtain ⟨h1, kvs, h2, h3⟩ := h
  exact ⟨h1, kvs, x _ _ (fun z => by obtain ⟨o, ho⟩ := ha; rw [z, ho] at h1; cases h1) h2, L2.Paired.mapP h3 fun _ _ q => q.mono x ha hc⟩
theorem Tab.le (h : Tab HB H T ok B ns) (hc : B ≤ C) : Tab HB H T ok C ns := by
  obtain ⟨h1, kvs, h2, h3⟩ := h
  refine ⟨h1, kvs, h2, L2.Paired.mapP h3 fun _ _ q => ?_⟩
  obtain ⟨e, q, ws, e2, h1, h2, h3, h4⟩ := q
  exact ⟨e, q, ws, e2, h1, h2, h3, by omega⟩
theorem Tab.ex (h : Tab HB H T ok B ns) (x : Ex H H') : Tab HB H' T ok B ns := by
  obtain ⟨h1, kvs, h2, h3⟩ := h
  refine ⟨h1, kvs, x _ _ h2, L2.Paired.mapP h3 fun _ _ q => ?_⟩
  obtain ⟨e, q, ws, e2, h1, h2, h3, h4⟩ := q
  exact ⟨e, q, ws, e2, h1, x _ _ h2, h3, h4⟩
/-- one more in a list of the table -/
theorem Tab.app {q : Addr} {ws : List Str} {x : Str} (h : Tab HB H T ok B ns) (hq : HB q = none) (hw : H q = some (.lst (sL ws))) (hws : ∀ y ∈ ws, ok y) (hl : ws.length ≤ B) (hx : ok x) : Tab HB (upd H q (.lst (sL ws ++ [.str x]))) T ok (B + 1) ns := by
  obtain ⟨h1, kvs, h2, h3⟩ := h
  have nT : T ≠ q := fun z => by rw [z, hw] at h2; cases h2
  refine ⟨h1, kvs, by rw [upd_ne nT]; exact h2, L2.Paired.mapP h3 fun _ _ z => ?_⟩
  obtain ⟨e, q', ws', e2, z1, z2, z3, z4⟩ := z
  by_cases hqq : q' = q
  · subst hqq
    refine ⟨e, q', ws ++ [x], e2, z1, ?_, fun y hy => ?_, ?_⟩
    · rw [upd_same]; unfold sL; rw [List.map_append]; rfl
    · rcases List.mem_append.mp hy with h | h
      · exact hws y h
      · rw [List.mem_singleton.mp h]; exact hx
    · rw [List.length_append]; show _ + 1 ≤ _; omega
  · exact ⟨e, q', ws', e2, z1, by rw [upd_ne hqq]; exact z2, z3, by omega⟩
theorem paired_val {R : Key × V → Str → Prop} (hk : ∀ kv n, R kv n → kv.1 = .inr n) : ∀ {kvs : Tb} {ns : List Str}, Paired R kvs ns → ∀ {n : Str}, n ∈ ns → ∃ kv, R kv n ∧ valV kvs (.inr n) = some kv.2
  | _, _, .nil, _, h => nomatch h
  | kv :: kvs, m :: ns, .cons r t, n, h => by
    by_cases hm : m = n
    · subst hm
      refine ⟨kv, r, ?_⟩
      unfold valV
      rw [List.find?_cons_of_pos (by rw [hk _ _ r]; exact decide_eq_true rfl)]
      rfl
    · have hn : n ∈ ns := by
        rcases List.mem_cons.mp h with h | h
        · exact absurd h.symm hm
        · exact h
      obtain ⟨kv2, r2, e⟩ := paired_val hk t hn
      refine ⟨kv2, r2, ?_⟩
      unfold valV at e ⊢
      rw [List.find?_cons_of_neg (by rw [hk _ _ r, decide_eq_true_eq]; exact fun z => hm (Sum.inr.inj z))]
      exact e
theorem Tab.get (h : Tab HB H T ok B ns) {n : Str} (hn : n ∈ ns) : ∃ q ws, DGet H T (.str n) (some (.ref q)) ∧ HB q = none ∧ H q = some (.lst (sL ws)) ∧ (∀ x ∈ ws, ok x) ∧ ws.length ≤ B := by
  obtain ⟨h1, kvs, h2, h3⟩ := h
  obtain ⟨kv, ⟨e, q, ws, e2, z⟩, ev⟩ := paired_val (fun _ _ r => r.1) h3 hn
  refine ⟨q, ws, ?_, z⟩
  have := DGet.k (k := .inr n) h2
  rw [ev, e2] at this
  exact this
/-- one more name in the table -/
theorem Tab.put {q : Addr} {ws : List Str} {n : Str} (h : Tab HB H T ok B ns) (hn : n ∉ ns) (hq : HB q = none) (hw : H q = some (.lst (sL ws))) (hws : ∀ y ∈ ws, ok y) (hl : ws.length ≤ B) (hz : ns.length < 1000) : ∃ H', DPut H T (.str n) (.ref q) H' ∧ Tab HB H' T ok B (ns ++ [n]) ∧ Xa T H H' := by
  obtain ⟨h1, kvs, h2, h3⟩ := h
  have hlen := paired_lenW h3
  have hnk : putK kvs (.inr n) (.ref q) = kvs ++ [(.inr n, .ref q)] := by
    unfold putK
    rw [if_neg]
    intro hh
    obtain ⟨kv, hk1, hk2⟩ := List.any_eq_true.mp hh
    have hk2 := of_decide_eq_true hk2
    have : ∀ {kvs : Tb} {ns : List Str}, Paired (TabR HB H ok B) kvs ns → kv ∈ kvs → ∃ m ∈ ns, kv.1 = .inr m := fun {kvs ns} hp => by
      induction hp with
      | nil => intro hh; cases hh
      | cons r t ih =>
        intro hh
        rcases List.mem_cons.mp hh with rfl | hh
        · exact ⟨_, List.mem_cons_self, r.1⟩
        · obtain ⟨m, hm, e⟩ := ih hh; exact ⟨m, List.mem_cons_of_mem _ hm, e⟩
    obtain ⟨m, hm, e⟩ := this h3 hk1
    rw [hk2] at e
    exact hn (by rw [Sum.inr.inj e]; exact hm)
  refine ⟨_, DPut.k (k := .inr n) h2 (sz_lt (by omega)), ⟨h1, _, upd_same, ?_⟩, Xa.upd⟩
  rw [hnk]
  refine paired_snoc (L2.Paired.mapP h3 fun _ _ z => ?_) ⟨rfl, q, ws, rfl, hq, ?_, hws, hl⟩
  · obtain ⟨e, q', ws', e2, z1, z2, z3, z4⟩ := z
    exact ⟨e, q', ws', e2, z1, by rw [upd_ne (fun y => by rw [y, h2] at z2; cases z2)]; exact z2, z3, z4⟩
  · rw [upd_ne (fun y => by rw [y, h2] at hw; cases hw)]; exact hw
end
end CH
/-! text L7 -/
/-! _law_book. -/
namespace CH
open PySem PySem.Spec PyProof.Rows L2 Evl RZ
abbrev sBook : Stmt := top 43
abbrev nBook : List Str := ["_law_urn", "_law_most_so", "_law_free_so", "_law_left", "_law_many_so", "_law_empty_so", "_law_folk", "_law_free", "_law_table", "_law_style", "_law_wide", "_law_k", "_law_wants", "_law_far", "_law_way", "_law_rows_so", "_law_own", "_law_flat"]
theorem scBook : FnScope nBook ["_law_urn", "_law_most_so", "_law_free_so"] (defScope sBook) := ⟨rfl, rfl, rfl, by decide +kernel, rfl, by decide +kernel, by decide +kernel⟩
def scBookB : Scope := { kind := .function, names := [(".0", .local), ("_law_own", .cell), ("tuple", .globalImplicit), ("sorted", .globalImplicit), ("set", .globalImplicit), ("_law_table", .cell)], isGenerator := false, isCoroutine := false, more := [] }
def nm11 : List Str := ["a", "ann", "bob", "cat", "dan", "eve", "fay", "new", "old", "x", "zzzzzzzz"]
theorem nm11_nd : nm11.Nodup := by decide +kernel
theorem nm11_ok : ∀ x ∈ nm11, NameOk x := by
  have : ∀ x ∈ nm11, 1 ≤ x.length ∧ x.length ≤ 8 ∧ ∀ c ∈ x.cps.toList, c ∈ letters.cps.toList := by decide +kernel
  exact this
def spBook (K : PySem.W.Frag) : Sp := fun vs H Q _ => ∃ (a : Addr) (mo fr : Nat) (m : Nat), vs = [.ref a, .int mo, .int fr] ∧ 0 < mo ∧ mo ≤ 8 ∧ fr ≤ 1 ∧ Urn H a m ∧ m ≤ 1000 ∧
  ∀ r H' rows emp, Xa a H H' → Urn H' a (m + 200) → Dp K H' r (tomeD rows emp) → TomeOk rows emp → Q r H'
theorem ne_str (x y : Str) : (!decide (V.str x = V.str y)) = !decide (x = y) := by
  by_cases h : x = y
  · subst h; simp
  · rw [decide_eq_false (fun z => h (V.str.inj z)), decide_eq_false h]
theorem tyes_lc {σ : L2.St} {H : Hp} {A B : Hp → Prop} (h : A H) : tYes σ H (fun b H' => if b = true then A H' else B H') := by
  show (if true = true then A H else B H)
  rw [if_pos rfl]
  exact h
def GoodR (r : Str × List Str) : Prop := r.2.Nodup ∧ (∀ x ∈ r.2, x ∈ nm11) ∧ r.1 ∉ r.2 ∧ r.2.length ≤ 11
theorem SetS.conv {w : World} {h : Heap} {a : Addr} {l l' : List Str} (R : SetS w h a l) (e : ∀ k, k ∈ l ↔ k ∈ l') : SetS w h a l' := by
  obtain ⟨o, es, ep, t, h1, h2, h3, h4, h5, h6, h7, h8, h9, h10⟩ := R
  refine ⟨o, es, ep, t, h1, h2, h3, h4, h5, fun k => (e k).symm.trans (h6 k), h7, h8, ?_, h10⟩
  have := nodup_len h5 (m := l') fun x hx => (e x).mp ((h6 x).mpr hx)
  rw [List.length_map, Array.length_toList] at this
  exact this
def rSetS2 (w : World) (K : PySem.W.Frag) : List V → Hp → VK → Prop := fun vs H Q => ∃ (a : Addr) (l l' : List Str), vs = [.ref a] ∧ SqL K H a (sL l) ∧ l.length ≤ 1000 ∧ (∀ k, k ∈ l ↔ k ∈ l') ∧ ∀ p, H p = none → Q (.ref p) (upd H p (SetT w p l'))
theorem cr_setS2 {X : Cx} (hc : X.calm = true) : CallR X (.type "set") (rSetS2 X.w X.K) := by
  intro pins s σ H vs us Q I r h
  obtain ⟨a, l, l', rfl, hs, hl, e, q⟩ := h
  obtain ⟨its, rv, hL, _⟩ := I.list hs
  rw [Vals.ref1 r]
  refine set_strs l (I.ok.hd hc) hL.isList rv.strs (by unfold scanBound; omega) fun h' tk hS hk => ?_
  have hn : H s.heap.objs.size = none := I.hok.fresh (Nat.le_refl _)
  exact ⟨.ref s.heap.objs.size, upd H s.heap.objs.size (SetT X.w s.heap.objs.size l'), I.laid (t' := tk) hk (Nat.le_refl _) (setT_new (hS.conv e)), rfl, q _ hn⟩
theorem cr_setSK (w : World) (K : PySem.W.Frag) {X : Cx} (hc : X.calm = true) (hw : X.w = w := by rfl) (h : X.K = K := by rfl) : CallR X (.type "set") (rSetS2 w K) := by subst hw; subst h; exact cr_setS2 hc
def cutS (l : List Str) (lo hi : Option Int) : List Str := (l.drop (HT.sIx l.length 0 lo)).take (HT.sIx l.length l.length hi - HT.sIx l.length 0 lo)
theorem cutV_strs (l : List Str) (lo hi : Option Int) : cutV (sL l) lo hi = sL (cutS l lo hi) := by
  unfold cutV cutS sL
  rw [List.length_map, ← List.map_drop, ← List.map_take]
theorem cutS_sub (l : List Str) (lo hi : Option Int) : (cutS l lo hi).Sublist l := (List.take_sublist _ _).trans (List.drop_sublist _ _)
theorem cutS_take {l : List Str} {n : Nat} (h : n ≤ l.length) : cutS l none (some (n : Int)) = l.take n := by
  unfold cutS
  rw [HT.sIx_none, HT.sIx_nat, Nat.min_eq_left h, List.drop_zero, Nat.sub_zero]
theorem cutS_mid (l : List Str) (n k : Nat) : (cutS l (some (n : Int)) (some ((n : Int) + (k : Int)))).length ≤ k := by
  unfold cutS
  rw [show (n : Int) + (k : Int) = ((n + k : Nat) : Int) by omega, HT.sIx_nat, HT.sIx_nat, List.length_take]
  have : min (n + k) l.length - min n l.length ≤ k := by omega
  omega
theorem cutS_tail (l : List Str) (i : Nat) : (cutS l (some ((i : Int) + 1)) none).length ≤ l.length - 1 := by
  unfold cutS
  rw [show (i : Int) + 1 = ((i + 1 : Nat) : Int) by omega, HT.sIx_nat, HT.sIx_none, List.length_take]
  omega
theorem or_test {σ : L2.St} {H : Hp} {Q : Bool → Hp → Prop} {way st c : Int} (h14 : σ[14]? = some (some (.int way))) (h9 : σ[9]? = some (some (.int st))) (k : ∀ b, Q b H) :
    tOr (tTest (tOp rEq (tVar 14) (tC (.int 0)))) (tAnd (tTest (tOp rEq (tVar 14) (tC (.int c)))) (tTest (tOp (rI0 fun i j => .bl (decide (j < i))) (tVar 9) (tC (.int 0))))) σ H Q := by
  refine ⟨_, h14, rfl, _, rfl, ?_⟩
  cases decide (V.int way = V.int 0) with
  | true => exact iteY rfl (k true)
  | false =>
    refine iteN rfl ⟨_, h14, rfl, _, rfl, ?_⟩
    cases decide (V.int way = V.int c) with
    | true => exact iteY rfl ⟨_, h9, st, 0, rfl, rfl, _, rfl, k _⟩
    | false => exact iteN rfl (k false)
theorem rep_bool (b : Bool) (xs : List V) : (List.replicate (if b = true then (1 : Int) else 0).toNat xs).flatten = if b = true then xs else [] := by
  cases b with
  | true => show (List.replicate 1 xs).flatten = xs; simp [List.replicate]
  | false => rfl
theorem if_app {tt : TT} {te : TE} {D : Ends} {σ : L2.St} {H : Hp} {Good : Hp → Prop} (htt : ∀ Q : Bool → Hp → Prop, (∀ b, Q b H) → tt σ H Q) (hte : ∀ Q : VK, (∀ v H', Good H' → Q v H') → te σ H Q) (hg : Good H) (k : ∀ H', Good H' → D.nx σ H') : tIfS tt (tDrop te) tNext D σ H := by
  refine htt _ fun b => ?_
  cases b with
  | true => exact iteY rfl (hte _ fun v H' g => k H' g)
  | false => exact iteN rfl (k H hg)
theorem Tab.base {HB H : Hp} {T q : Addr} {ok : Str → Prop} {B : Nat} {ns : List Str} {o : HO} (h : Tab HB H T ok B ns) (hq : H q = none) : Tab (L2.upd HB q o) (L2.upd H q o) T ok B ns := by
  obtain ⟨h1, kvs, h2, h3⟩ := h
  have nT : T ≠ q := ne_of_none h2 hq
  refine ⟨by rw [upd_ne nT]; exact h1, kvs, by rw [upd_ne nT]; exact h2, L2.Paired.mapP h3 fun _ _ z => ?_⟩
  obtain ⟨e, q', ws', e2, z1, z2, z3, z4⟩ := z
  have nq : q' ≠ q := ne_of_none z2 hq
  exact ⟨e, q', ws', e2, by rw [upd_ne nq]; exact z1, by rw [upd_ne nq]; exact z2, z3, z4⟩
theorem Tab.unbase {HB H : Hp} {T q : Addr} {ok : Str → Prop} {B : Nat} {ns : List Str} {o : HO} (h : Tab (L2.upd HB q o) H T ok B ns) : Tab HB H T ok B ns := by
  obtain ⟨h1, kvs, h2, h3⟩ := h
  have un : ∀ {b : Addr}, (L2.upd HB q o) b = none → HB b = none := fun {b} hb => by
    by_cases hbq : b = q
    · rw [hbq, upd_same] at hb; cases hb
    · rw [upd_ne hbq] at hb; exact hb
  refine ⟨un h1, kvs, h2, L2.Paired.mapP h3 fun _ _ z => ?_⟩
  obtain ⟨e, q', ws', e2, z1, z2, z3, z4⟩ := z
  exact ⟨e, q', ws', e2, un z1, z2, z3, z4⟩
theorem Xa.base {a q : Addr} {HB H : Hp} {o : HO} (x : Xa a HB H) : Xa a (L2.upd HB q o) (L2.upd H q o) := fun b u nb e => by
  by_cases hb : b = q
  · rw [hb, upd_same] at e ⊢; exact e
  · rw [upd_ne hb] at e ⊢; exact x b u nb e
theorem Xa.unbase {a q : Addr} {HB H : Hp} {o : HO} (x : Xa a (L2.upd HB q o) H) (hq : HB q = none) : Xa a HB H := fun b u nb e => x b u nb (by rw [upd_ne (ne_of_none e hq)]; exact e)
theorem RowH.updL {H : Hp} {D : Addr} {l o : List V} (h : H D = some (.lst l)) {x : V} {r : Str × List Str} (z : RowH H x r) : RowH (upd H D (.lst o)) x r := by
  obtain ⟨t, w, a, b, c⟩ := z
  exact ⟨t, w, a, by rw [upd_ne (fun y => by rw [y, h] at b; cases b)]; exact b, c.updL h⟩
theorem cr_sortTK (w : World) {X : Cx} (hc : X.calm = true) (hw : X.w = w := by rfl) : CallR X (.builtin "sorted") (rSortT w) := by subst hw; exact cr_sortT hc
theorem row_dp {K : PySem.W.Frag} {H : Hp} {x : V} {r : Str × List Str} (h : RowH H x r) : Dp K H x (rowD r) := by
  obtain ⟨t, w, rfl, ht, ns⟩ := h
  exact .tup (SqT.of ht) (.cons (.str _) (.cons (nt_dp ns.nt) .nil))
theorem rows_dp {K : PySem.W.Frag} {H : Hp} : ∀ {xs : List V} {rows : Rows}, Paired (RowH H) xs rows → DpAll K H xs (rows.map rowD)
  | _, _, .nil => .nil
  | _, _, .cons r t => .cons (row_dp r) (rows_dp t)
section
variable {P : Program} {w : World} {K : PySem.W.Frag} {mg : Str → Option Value} {base : Heap} {f : Addr}
theorem ok_book (F : Fn K "_law_book" "_law_book" sBook [] [] f) (T : Blt mg) (GT : Pr P w K mg base "_law_take" 1 spTake) (GF : Pr P w K mg base "_law_few" 2 spFew) (GM : Pr P w K mg base "_law_mixed" 2 spMixed) : FnR P w K mg base CX0 3 f (spBook K) := by
  have nd := scBook.nd
  refine Fn.ok0 (ps := ["_law_urn", "_law_most_so", "_law_free_so"]) F scBook (fun kV doc pm an cdv ct us hl => by match us, hl with | [u, u2, u3], _ => rfl) (fun vs H Q E ⟨_, _, _, _, e, _⟩ => by rw [e]; rfl) (fun cdv A outer s H vs Q E hr h => ?_)
  obtain ⟨a, mo, fr, m, rfl, hmo0, hmo, hfr, ur, hm, k⟩ := h
  refine ⟨_, pss_cons (ps_set (i := 3) nd rfl (Or.inl rfl) (pe_lst (pa_cons pe_str (pa_cons pe_str (pa_cons pe_str (pa_cons pe_str (pa_cons pe_str (pa_cons pe_str (pa_cons pe_str (pa_cons pe_str (pa_cons pe_str (pa_cons pe_str (pa_cons pe_str pa_nil)))))))))))))
    (pss_cons (ps_par (i := 4) (j := 5) rfl nd rfl rfl (by decide) rfl rfl (pa_cons (pe_op op_add pe_int (pe_pr GT (hr.mono (by decide)) (by rfl) (pa_cons (pv 0) (pa_cons (pv 1) pa_nil)))) (pa_cons (pe_pr GT (hr.mono (by decide)) (by rfl) (pa_cons (pv 0) (pa_cons (pe_op op_add (pv 2) pe_int) pa_nil))) pa_nil)) (by rfl))
    (pss_cons (ps_set (i := 3) nd rfl (Or.inl rfl) (pe_callTy call_list_of (by rfl) T.list (by decide +kernel) (pa_cons (pe_pr GM (hr.mono (by decide)) (by rfl) (pa_cons (pv 0) (pa_cons (pv 3) pa_nil))) pa_nil)))
    (pss_cons (ps_par (i := 6) (j := 7) rfl nd rfl rfl (by decide) rfl rfl (pa_cons (pe_slice sl_list (pv 3) po_none (po_some (pv 4))) (pa_cons (pe_slice sl_list (pv 3) (po_some (pv 4)) (po_some (pe_op op_add (pv 4) (pv 5)))) pa_nil)) (by rfl))
    (pss_cons (ps_asg (pe_tup (pa_cons pe_dnewK (pa_cons (pe_pr GT (hr.mono (by decide)) (by rfl) (pa_cons (pv 0) (pa_cons pe_int pa_nil))) (pa_cons (pe_op op_add pe_int (pe_pr GT (hr.mono (by decide)) (by rfl) (pa_cons (pv 0) (pa_cons pe_int pa_nil)))) pa_nil))))
      (pg_tup rfl (pgs_cons (pg_name (i := 8) nd rfl (Or.inr rfl) (Or.inl rfl)) (pgs_cons (pg_name (i := 9) nd rfl (Or.inl rfl) (Or.inl rfl)) (pgs_cons (pg_name (i := 10) nd rfl (Or.inl rfl) (Or.inl rfl)) pgs_nil)))))
    (pss_cons (ps_for PassesOwn.never rfl (pi_range1 (by rfl) T.range (pa_cons (pv 4) pa_nil)) (pg_name (i := 11) nd rfl (Or.inl rfl) (Or.inl rfl))
      (pss_cons (ps_set (i := 12) nd rfl (Or.inl rfl) (pe_op op_rep (pe_lst (pa_cons (pe_ix ix_list (pv 6) (pe_op op_mod (pe_callTy call_int1 (by rfl) T.int (by decide +kernel) (pa_cons (pe_op op_add (pv 11) pe_int) pa_nil)) (pv 4)) (fun _ _ => rfl)) pa_nil)) (pe_callTy call_int1 (by rfl) T.int (by decide +kernel) (pa_cons (pe_cmpR op_eq (pv 9) pe_int (nomark _)) pa_nil))))
      (pss_cons (ps_set (i := 12) nd rfl (Or.inl rfl) (pe_op op_cat (pv 12) (pe_callTy call_list_of (by rfl) T.list (by decide +kernel) (pa_cons (pe_pr GF (hr.mono (by decide)) (by rfl) (pa_cons (pv 0) (pa_cons (pv 7) (pa_cons pe_int pa_nil)))) pa_nil))))
      (pss_one (ps_dput (huR hr) (pv 8) (pe_ix ix_list (pv 6) (pv 11) (fun _ _ => rfl)) (pe_op op_cat (pv 12) (pe_op op_rep (pe_slice sl_list (pv 3) (po_some (pe_un un_neg pe_int)) po_none) (pe_callTy call_int1 (by rfl) T.int (by decide +kernel) (pa_cons (pe_cmpR op_eq (pe_pr GT (hr.mono (by decide)) (by rfl) (pa_cons (pv 0) (pa_cons pe_int pa_nil))) pe_int (nomark _)) pa_nil)))) rfl)))))
    (pss_cons (ps_for PassesOwn.never rfl (pi_range1 (by rfl) T.range (pa_cons (pv 4) pa_nil)) (pg_name (i := 11) nd rfl (Or.inl rfl) (Or.inl rfl))
      (pss_one (ps_for PassesOwn.never rfl (pi_list (pe_slice sl_list (pv 6) (po_some (pe_op op_add (pv 11) pe_int)) po_none)) (pg_name (i := 13) nd rfl (Or.inl rfl) (Or.inl rfl))
        (pss_cons (ps_set (i := 14) nd rfl (Or.inl rfl) (pe_pr GT (hr.mono (by decide)) (by rfl) (pa_cons (pv 0) (pa_cons (pv 10) pa_nil))))
        (pss_cons (ps_if (PW.pt (pw_or (pt_cmpR op_eq (pv 14) pe_int (nomark _)) (pw_or1 (PW.pt (pw_and (pt_cmpR op_eq (pv 14) pe_int (nomark _)) (pw_and1 (pt_cmpR op_gt (pv 9) pe_int (nomark _))))))))
          (pss_one (ps_expr (pe_bm PySem.F.plainAttrs_list PySem.F.slot_list_append PySem.F.type_list_append mt_append (pe_dget (huR hr) (pv 8) (pe_ix ix_list (pv 6) (pv 11) (fun _ _ => rfl)) (fun _ _ => rfl)) (pa_cons (pv 13) pa_nil)))) pss_nil)
        (pss_one (ps_if (PW.pt (pw_or (pt_cmpR op_eq (pv 14) pe_int (nomark _)) (pw_or1 (PW.pt (pw_and (pt_cmpR op_eq (pv 14) pe_int (nomark _)) (pw_and1 (pt_cmpR op_gt (pv 9) pe_int (nomark _))))))))
          (pss_one (ps_expr (pe_bm PySem.F.plainAttrs_list PySem.F.slot_list_append PySem.F.type_list_append mt_append (pe_dget (huR hr) (pv 8) (pv 13) (fun _ _ => rfl)) (pa_cons (pe_ix ix_list (pv 6) (pv 11) (fun _ _ => rfl)) pa_nil)))) pss_nil)))))))
    (pss_cons (ps_setLc (i := 15) (own := [("_law_own", 16)]) (g := gName 16) (tt := tYes) rfl nd rfl rfl (sw_true rfl rfl rfl (by decide +kernel)) (pi_list (pv 6)) (blkOk_by (N := nBook) (sc := defScope sBook) (by decide +kernel))
      (fun _ _ _ _ _ => pg_name (i := 16) nd rfl (Or.inr rfl)) (fun _ _ _ _ _ => pts_nil) (fun _ _ _ _ _ => pe_tup (pa_cons (pv 16) (pa_cons (pe_callTy (call_tupK K) (by rfl) T.tuple (by decide +kernel) (pa_cons (pe_callB (cr_sortTK w rfl) (by rfl) T.sorted (by decide +kernel) (pa_cons (pe_callTy (cr_setSK w K rfl) (by rfl) T.set (by decide +kernel)
        (pa_cons (pe_lc (own := [("_law_flat", 17)]) (g := gName 17) rfl nd (pi_listK K (pe_dget (huR hr) (pv 8) (pv 16) (fun _ _ => rfl))) (blkOk_by (own := [("_law_flat", 17)]) (N := nBook) (sc := scBookB) (by decide +kernel))
          (fun _ _ _ _ _ => pg_name (i := 17) nd rfl (Or.inl rfl)) (fun _ _ _ _ _ => pts_one (pt_cmpR op_ne (pv 17) (pv 16) (nomark _))) (fun _ _ _ _ _ => pv 17)) pa_nil)) pa_nil)) pa_nil)) pa_nil))))
    (pss_one (ps_ret (pe_tup (pa_cons (pe_callTy call_tuple_of (by rfl) T.tuple (by decide +kernel) (pa_cons (pe_callB (cr_sortD hr.units) (by rfl) T.sorted (by decide +kernel) (pa_cons (pv 15) pa_nil)) pa_nil)) (pa_cons (pe_callTy call_tuple_of (by rfl) T.tuple (by decide +kernel) (pa_cons (pe_callB cr_sortedS (by rfl) T.sorted (by decide +kernel) (pa_cons (pv 7) pa_nil)) pa_nil)) pa_nil)))))))))))), ?_⟩
  refine ⟨by show (11 : Nat) ≤ sizeLine; decide, fun p hp => ?_⟩
  have e1 : Ex H (upd H p (.lst [.str "a", .str "ann", .str "bob", .str "cat", .str "dan", .str "eve", .str "fay", .str "new", .str "old", .str "x", .str "zzzzzzzz"])) := Ex.new hp
  have h1 : (upd H p (.lst [.str "a", .str "ann", .str "bob", .str "cat", .str "dan", .str "eve", .str "fay", .str "new", .str "old", .str "x", .str "zzzzzzzz"])) p = some (.lst (sL nm11)) := upd_same
  generalize upd H p (.lst [.str "a", .str "ann", .str "bob", .str "cat", .str "dan", .str "eve", .str "fay", .str "new", .str "old", .str "x", .str "zzzzzzzz"]) = H1 at e1 h1
  have u1 := ur.ex e1
  refine ⟨.ref a, rfl, .int mo, rfl, a, mo, m, rfl, by omega, by omega, u1, by omega, fun r1 H2 x2 u2 hr1 => ⟨1, r1, rfl, rfl, ?_⟩⟩
  refine ⟨.ref a, rfl, .int fr, rfl, fr, 1, rfl, rfl, a, (fr : Int) + 1, m + 1, rfl, by omega, by omega, u2, by omega, fun r2 H3 x3 u3 hr2 => ⟨_, _, rfl, ?_⟩⟩
  have h3 := x3 _ _ (urn_ne u2 (x2 _ _ (urn_ne u1 h1) h1)) (x2 _ _ (urn_ne u1 h1) h1)
  have hone : (fun (i j : Int) => V.int (i + j)) 1 (r1 : Int) = V.int ((1 + r1 : Nat) : Int) := by
    show V.int (1 + (r1 : Int)) = _
    rw [show (1 : Int) + (r1 : Int) = ((1 + r1 : Nat) : Int) by omega]
  rw [hone]
  generalize hmn : 1 + r1 = mn
  have mn8 : mn ≤ 8 := by omega
  have mn1 : 1 ≤ mn := by omega
  refine ⟨.ref a, rfl, .ref p, rfl, a, p, m + 1 + 1, nm11, rfl, u3, by omega, h3, by decide +kernel, fun r l H4 x4 u4 hr4 hperm => ?_⟩
  obtain ⟨lb, rfl, hlb⟩ := hr4
  have l11 : l.length = 11 := hperm.length_eq
  refine ⟨lb, _, rfl, .inr (SqT.of hlb), fun L hL => ?_⟩
  have e5 : Ex H4 (upd H4 L (.lst (sL l))) := Ex.new hL
  have h5 : (upd H4 L (.lst (sL l))) L = some (.lst (sL l)) := upd_same
  generalize upd H4 L (.lst (sL l)) = H5 at e5 h5
  refine ⟨.ref L, rfl, .int mn, rfl, mn, rfl, L, _, rfl, SqL.of h5, fun F hF => ?_⟩
  rw [cutV_strs, cutS_take (by omega)]
  have e6 : Ex H5 (upd H5 F (.lst (sL (l.take mn)))) := Ex.new hF
  have h6 : (upd H5 F (.lst (sL (l.take mn)))) F = some (.lst (sL (l.take mn))) := upd_same
  generalize upd H5 F (.lst (sL (l.take mn))) = H6 at e6 h6
  refine ⟨.ref L, rfl, .int mn, rfl, mn, rfl, .int mn, rfl, .int r2, rfl, mn, r2, rfl, rfl, _, rfl, L, _, rfl, SqL.of (e6 _ _ h5), fun Fr hFr => ⟨_, _, rfl, ?_⟩⟩
  rw [cutV_strs]
  have fr1 : (cutS l (some (mn : Int)) (some ((mn : Int) + (r2 : Int)))).length ≤ 1 := Nat.le_trans (cutS_mid l mn r2) (by omega)
  have frs : (cutS l (some (mn : Int)) (some ((mn : Int) + (r2 : Int)))).Sublist l := cutS_sub _ _ _
  generalize cutS l (some (mn : Int)) (some ((mn : Int) + (r2 : Int))) = free at fr1 frs
  have e7 : Ex H6 (upd H6 Fr (.lst (sL free))) := Ex.new hFr
  have h7 : (upd H6 Fr (.lst (sL free))) Fr = some (.lst (sL free)) := upd_same
  generalize upd H6 Fr (.lst (sL free)) = H7 at e7 h7
  have hx7 : Xa a H H7 := ((((((Xa.ex e1).trans x2).trans x3).trans x4).trans (Xa.ex e5)).trans (Xa.ex e6)).trans (Xa.ex e7)
  have u7 := ((u4.ex e5).ex e6).ex e7
  have hL7 := (e6.trans e7) _ _ h5
  have hF7 := e7 _ _ h6
  have folk_nd : (l.take mn).Nodup := (hperm.nodup_iff.mpr nm11_nd).sublist (List.take_sublist _ _)
  have folk_in : ∀ x ∈ l.take mn, x ∈ nm11 := fun x hx => hperm.mem_iff.mp ((List.take_sublist _ _).subset hx)
  have folk_len : (l.take mn).length = mn := by rw [List.length_take]; omega
  have free_in : ∀ x ∈ free, x ∈ nm11 := fun x hx => hperm.mem_iff.mp (frs.subset hx)
  have l_in : ∀ x ∈ l, x ∈ nm11 := fun x hx => hperm.mem_iff.mp hx
  generalize l.take mn = folk at folk_nd folk_in folk_len hF7
  clear h6 e6 e7 hF hFr e5 hL h5 hlb x4 u4 u3 x3 h3 x2 u2 u1 e1 h1 hp
  have ha7 : ∃ o, H7 a = some o := by obtain ⟨x, b, c, h, _⟩ := u7; exact ⟨_, h⟩
  have naL : L ≠ a := urn_ne u7 hL7
  have naF : F ≠ a := urn_ne u7 hF7
  have naFr : Fr ≠ a := urn_ne u7 h7
  -- the table, the style, the width
  refine fun T hT => ?_
  have naT : T ≠ a := fun z => by obtain ⟨o, ho⟩ := ha7; rw [z, ho] at hT; cases hT
  have e8 : Ex H7 (upd H7 T (.dK [])) := Ex.new hT
  have h8 : (upd H7 T (.dK [])) T = some (.dK []) := upd_same
  generalize upd H7 T (.dK []) = H8 at e8 h8
  refine ⟨.ref a, rfl, a, 4, m + 1 + 1 + nm11.length, rfl, by decide, by decide, u7.ex e8, by show m + 1 + 1 + 11 ≤ 100000; omega, fun st H9 x9 u9 hst => ?_⟩
  refine ⟨.ref a, rfl, a, 4, _, rfl, by decide, by decide, u9, by show m + 1 + 1 + 11 + 1 ≤ 100000; omega, fun wd H10 x10 u10 hwd => ⟨3, wd, rfl, rfl, by show (3 : Nat) ≤ sizeLine; decide, fun tp htp => ?_⟩⟩
  refine ⟨tp, [.ref T, .int st, .int ((3 : Int) + wd)], rfl, SqT.of upd_same, rfl, .ref T, _, rfl, .int st, _, rfl, .int ((3 : Int) + wd), [], rfl, rfl, ?_⟩
  have e11 : Ex H10 (upd H10 tp (.tup [.ref T, .int st, .int ((3 : Int) + wd)])) := Ex.new htp
  have x811 : Xa a H8 (upd H10 tp (.tup [.ref T, .int st, .int ((3 : Int) + wd)])) := (x9.trans x10).trans (Xa.ex e11)
  have u11 : Urn (upd H10 tp (.tup [.ref T, .int st, .int ((3 : Int) + wd)])) a (m + 15) := (u10.ex e11).le (by show m + 1 + 1 + 11 + 1 + 1 ≤ m + 15; omega)
  generalize upd H10 tp (.tup [.ref T, .int st, .int ((3 : Int) + wd)]) = H11 at x811 u11
  have x711 : Xa a H7 H11 := (Xa.ex e8).trans x811
  have t11 : Tab H7 H11 T (· ∈ nm11) 13 [] := ⟨hT, [], x811 _ _ naT h8, .nil⟩
  clear htp e11 x9 u9 x10 u10 x811 h8
  -- the wishes
  refine ⟨.int mn, rfl, mn, rfl, by omega, by omega, ?_⟩
  have hmt : ((mn : Nat) : Int).toNat = mn := rfl
  rw [hmt]
  refine for_range (fun i σ H' => ∃ o11 o12 o13 o14 o15 o16 o17, σ = [some (.ref a), some (.int mo), some (.int fr), some (.ref L), some (.int mn), some (.int r2), some (.ref F), some (.ref Fr), some (.ref T), some (.int st), some (.int ((3 : Int) + wd)), o11, o12, o13, o14, o15, o16, o17] ∧ Xa a H7 H' ∧ Urn H' a (m + 15 + 2 * i) ∧ Tab H7 H' T (· ∈ nm11) 13 (folk.take i))
    ⟨none, none, none, none, none, none, none, rfl, x711, u11, t11⟩ (fun i σ H12 hi ⟨o11, o12, o13, o14, o15, o16, o17, es, x12, u12, t12⟩ => ?_) (fun σ H12 ⟨o11, o12, o13, o14, o15, o16, o17, es, x12, u12, t12⟩ => ?_)
  · subst es
    have hF12 := x12 _ _ naF hF7
    have hL12 := x12 _ _ naL hL7
    have hFr12 := x12 _ _ naFr h7
    have hj : (i + 1) % mn < folk.length := by rw [folk_len]; exact Nat.mod_lt _ (by omega)
    have hi2 : i < folk.length := by omega
    have eix : ((i : Int) + 1) % (mn : Int) = (((i + 1) % mn : Nat) : Int) := by rw [Int.natCast_emod]; rfl
    have hat : atI (sL folk) ((((i + 1) % mn : Nat) : Int)) = some (.str folk[(i + 1) % mn]) := atI_nat (by rw [List.getElem?_map, List.getElem?_eq_getElem hj]; rfl)
    rw [Int.zero_add]
    refine ⟨.ref F, rfl, .int (i : Int), rfl, i, 1, rfl, rfl, .inl ⟨_, rfl, .int mn, rfl, _, mn, rfl, rfl, (show (0 : Int) < (mn : Int) by omega), ?_⟩⟩
    refine ⟨F, sL folk, ((i : Int) + 1) % (mn : Int), .str folk[(i + 1) % mn], rfl, rfl, SqL.of hF12, by rw [eix]; exact hat, by show (1 : Nat) ≤ sizeLine; decide, fun q1 hq1 => ?_⟩
    have e13 : Ex H12 (upd H12 q1 (.lst [.str folk[(i + 1) % mn]])) := Ex.new hq1
    have h13 : (upd H12 q1 (.lst [.str folk[(i + 1) % mn]])) q1 = some (.lst [.str folk[(i + 1) % mn]]) := upd_same
    generalize upd H12 q1 (.lst [.str folk[(i + 1) % mn]]) = H13 at e13 h13
    refine ⟨.int st, rfl, rfl, .inr ⟨_, rfl, q1, _, [.str folk[(i + 1) % mn]], rfl, rfl, h13, ?_, ?_, ?_, fun q2 hq2 => ?_⟩⟩
    · exact (show ∀ b : Bool, -(2 ^ 63 : Int) ≤ (if b = true then (1 : Int) else 0) by decide) _
    · exact (show ∀ b : Bool, (if b = true then (1 : Int) else 0) < (2 ^ 63 : Int) by decide) _
    · exact (show ∀ b : Bool, 1 * (if b = true then (1 : Int) else 0).toNat ≤ sizeLine by decide) _
    rw [rep_bool]
    have hw1 : ∀ b : Bool, ∃ ws1 : List Str, (if b = true then [V.str folk[(i + 1) % mn]] else []) = sL ws1 ∧ ws1.length ≤ 1 ∧ ∀ x ∈ ws1, x ∈ nm11 := fun b => by
      cases b with
      | true => exact ⟨[folk[(i + 1) % mn]], rfl, Nat.le_refl _, fun x hx => by rw [List.mem_singleton.mp hx]; exact folk_in _ (List.getElem_mem hj)⟩
      | false => exact ⟨[], rfl, Nat.zero_le _, fun x hx => nomatch hx⟩
    obtain ⟨ws1, hws1, hl1, hin1⟩ := hw1 (decide (V.int (st : Int) = V.int 3))
    rw [hws1]
    have e14 : Ex H13 (upd H13 q2 (.lst (sL ws1))) := Ex.new hq2
    have h14 : (upd H13 q2 (.lst (sL ws1))) q2 = some (.lst (sL ws1)) := upd_same
    generalize upd H13 q2 (.lst (sL ws1)) = H14 at e14 h14
    clear hq2 h13 hq1
    have u14 := (u12.ex e13).ex e14
    have e1214 := e13.trans e14
    refine ⟨.ref q2, rfl, .ref a, rfl, .ref Fr, rfl, a, Fr, 3, m + 15 + 2 * i, free, rfl, by decide, by decide, u14, by omega, e1214 _ _ hFr12, by omega, fun r sub H15 x15 u15 hr15 hsub => ?_⟩
    obtain ⟨rb, rfl, hrb⟩ := hr15
    have nq2a : q2 ≠ a := urn_ne u14 h14
    refine ⟨rb, _, rfl, .inr (SqT.of hrb), fun q3 hq3 => ?_⟩
    have e16 : Ex H15 (upd H15 q3 (.lst (sL sub))) := Ex.new hq3
    have h16 : (upd H15 q3 (.lst (sL sub))) q3 = some (.lst (sL sub)) := upd_same
    generalize upd H15 q3 (.lst (sL sub)) = H16 at e16 h16
    have sub1 : sub.length ≤ 1 := Nat.le_trans hsub.length_le fr1
    have h14' := e16 _ _ (x15 _ _ nq2a h14)
    refine ⟨q2, q3, sL ws1, sL sub, rfl, rfl, h14', h16, by rw [List.length_map, List.length_map, sizeLine_eq]; omega, fun q4 hq4 => ?_⟩
    have e17 : Ex H16 (upd H16 q4 (.lst (sL ws1 ++ sL sub))) := Ex.new hq4
    have h17 : (upd H16 q4 (.lst (sL ws1 ++ sL sub))) q4 = some (.lst (sL (ws1 ++ sub))) := by rw [upd_same]; unfold sL; rw [List.map_append]
    generalize upd H16 q4 (.lst (sL ws1 ++ sL sub)) = H17 at e17 h17
    have x1217 : Xa a H12 H17 := ((Xa.ex e1214).trans x15).trans (Xa.ex (e16.trans e17))
    have u17 := ((u15.ex e16).ex e17)
    have u17' : Urn H17 a (m + 15 + 2 * i + 1) := u17.le (by omega)
    have nq4a : q4 ≠ a := urn_ne u17 h17
    clear hq4 h14' h16 hq3 hrb
    -- table[folk[k]] = ..
    refine ⟨.ref q4, rfl, .ref L, rfl, 1, rfl, -1, rfl, L, sL l, rfl, SqL.of (x1217 _ _ naL hL12), fun q5 hq5 => ?_⟩
    rw [cutV_strs]
    have lst_in : ∀ x ∈ cutS l (some (-1)) none, x ∈ nm11 := fun x hx => l_in x ((cutS_sub _ _ _).subset hx)
    have lst_len : (cutS l (some (-1)) none).length ≤ 11 := by have := (cutS_sub l (some (-1)) none).length_le; omega
    generalize cutS l (some (-1)) none = last at lst_in lst_len
    have e18 : Ex H17 (upd H17 q5 (.lst (sL last))) := Ex.new hq5
    have h18 : (upd H17 q5 (.lst (sL last))) q5 = some (.lst (sL last)) := upd_same
    generalize upd H17 q5 (.lst (sL last)) = H18 at e18 h18
    have u18 := u17'.ex e18
    have nq5a : q5 ≠ a := urn_ne u18 h18
    refine ⟨.ref a, rfl, a, 6, m + 15 + 2 * i + 1, rfl, by decide, by decide, u18, by omega, fun r6 H19 x19 u19 hr6 => ?_⟩
    refine ⟨rfl, .inr ⟨_, rfl, q5, _, sL last, rfl, rfl, x19 _ _ nq5a h18, ?_, ?_, ?_, fun q6 hq6 => ?_⟩⟩
    · exact (show ∀ b : Bool, -(2 ^ 63 : Int) ≤ (if b = true then (1 : Int) else 0) by decide) _
    · exact (show ∀ b : Bool, (if b = true then (1 : Int) else 0) < (2 ^ 63 : Int) by decide) _
    · have : ∀ b : Bool, (if b = true then (1 : Int) else 0).toNat ≤ 1 := by decide
      have h1 := this (decide (V.int (r6 : Int) = V.int 0))
      rw [List.length_map, sizeLine_eq]
      have h2 := Nat.mul_le_mul lst_len h1
      omega
    rw [rep_bool]
    have hw2 : ∀ b : Bool, ∃ ws2 : List Str, (if b = true then sL last else []) = sL ws2 ∧ ws2.length ≤ 11 ∧ ∀ x ∈ ws2, x ∈ nm11 := fun b => by
      cases b with
      | true => exact ⟨last, rfl, lst_len, lst_in⟩
      | false => exact ⟨[], rfl, Nat.zero_le _, fun x hx => nomatch hx⟩
    obtain ⟨ws2, hws2, hl2, hin2⟩ := hw2 (decide (V.int (r6 : Int) = V.int 0))
    rw [hws2]
    have e20 : Ex H19 (upd H19 q6 (.lst (sL ws2))) := Ex.new hq6
    have h20 : (upd H19 q6 (.lst (sL ws2))) q6 = some (.lst (sL ws2)) := upd_same
    generalize upd H19 q6 (.lst (sL ws2)) = H20 at e20 h20
    have x1720 : Xa a H17 H20 := ((Xa.ex e18).trans x19).trans (Xa.ex e20)
    have u20 : Urn H20 a (m + 15 + 2 * (i + 1)) := (u19.ex e20).le (by omega)
    refine ⟨q4, q6, sL (ws1 ++ sub), sL ws2, rfl, rfl, x1720 _ _ nq4a h17, h20, by rw [List.length_map, List.length_map, List.length_append, sizeLine_eq]; omega, fun q7 hq7 => ?_⟩
    have e21 : Ex H20 (upd H20 q7 (.lst (sL (ws1 ++ sub) ++ sL ws2))) := Ex.new hq7
    have h21 : (upd H20 q7 (.lst (sL (ws1 ++ sub) ++ sL ws2))) q7 = some (.lst (sL (ws1 ++ sub ++ ws2))) := by rw [upd_same]; unfold sL; rw [← List.map_append]
    generalize upd H20 q7 (.lst (sL (ws1 ++ sub) ++ sL ws2)) = H21 at e21 h21
    have x1221 : Xa a H12 H21 := (x1217.trans x1720).trans (Xa.ex e21)
    have x721 := x12.trans x1221
    have t21 := t12.mono x1221 ha7 (Nat.le_refl _)
    have hq77 : H7 q7 = none := by
      cases hh : H7 q7 with
      | none => rfl
      | some o =>
        have nq : q7 ≠ a := urn_ne (u20.ex e21) h21
        have := ((x12.trans x1217).trans x1720) _ _ nq hh
        rw [this] at hq7; cases hq7
    have hni : folk[i] ∉ folk.take i := fun hh => by
      obtain ⟨j, hj2, ej⟩ := List.mem_iff_getElem.mp hh
      rw [List.length_take] at hj2
      rw [List.getElem_take] at ej
      have := (List.getElem_inj (h₀ := by omega) (h₁ := hi2) folk_nd).mp ej
      omega
    obtain ⟨H22, dp, t22, x22⟩ := t21.put hni hq77 h21 (fun x hx => by
      rcases List.mem_append.mp hx with h | h
      · rcases List.mem_append.mp h with h | h
        · exact hin1 x h
        · exact free_in x (hsub.subset h)
      · exact hin2 x h) (by rw [List.length_append, List.length_append]; omega) (by rw [List.length_take]; omega)
    refine ⟨.ref T, rfl, .ref F, rfl, .int (i : Int), rfl, F, sL folk, i, .str folk[i], rfl, rfl, SqL.of (x721 _ _ naF hF7), atI_nat (by rw [List.getElem?_map, List.getElem?_eq_getElem hi2]; rfl), T, H22, rfl, dp, ?_⟩
    have tk : folk.take (i + 1) = folk.take i ++ [folk[i]] := take_succ_some (List.getElem?_eq_getElem hi2)
    refine ⟨_, _, _, _, _, _, _, rfl, fun b o nb e => x22 b o (fun z => by rw [z, hT] at e; cases e) (x721 b o nb e), ?_, by rw [tk]; exact t22⟩
    obtain ⟨y, b, c, h3, h4⟩ := u20.ex e21
    exact ⟨y, b, c, x22 _ _ (Ne.symm naT) h3, h4⟩
  · subst es
    rw [← folk_len, List.take_length] at t12
    clear x711 u11 t11
    refine ⟨.int mn, rfl, mn, rfl, by omega, by omega, ?_⟩
    rw [hmt]
    refine for_range (fun i σ H' => ∃ o11 o12 o13 o14 o15 o16 o17, σ = [some (.ref a), some (.int mo), some (.int fr), some (.ref L), some (.int mn), some (.int r2), some (.ref F), some (.ref Fr), some (.ref T), some (.int st), some (.int ((3 : Int) + wd)), o11, o12, o13, o14, o15, o16, o17] ∧ Xa a H7 H' ∧ Urn H' a (m + 31 + 8 * i) ∧ Tab H7 H' T (· ∈ nm11) (13 + 16 * i) folk)
      ⟨o11, o12, o13, o14, o15, o16, o17, rfl, x12, u12.le (by omega), t12⟩ (fun i σ H20 hi ⟨o11, o12, o13, o14, o15, o16, o17, es, x20, u20, t20⟩ => ?_) (fun σ H20 ⟨o11, o12, o13, o14, o15, o16, o17, es, x20, u20, t20⟩ => ?_)
    · subst es
      rw [Int.zero_add]
      have hi2 : i < folk.length := by omega
      have hni : folk[i] ∈ folk := List.getElem_mem hi2
      have hia : (sL folk)[i]? = some (.str folk[i]) := by rw [List.getElem?_map, List.getElem?_eq_getElem hi2]; rfl
      refine ⟨.ref F, rfl, .int (i : Int), rfl, i, 1, rfl, rfl, _, rfl, F, sL folk, rfl, SqL.of (x20 _ _ naF hF7), fun q hq => ?_⟩
      rw [cutV_strs]
      have fs_in : ∀ x ∈ cutS folk (some ((i : Int) + 1)) none, x ∈ folk := (cutS_sub _ _ _).subset
      have fs_len : (cutS folk (some ((i : Int) + 1)) none).length ≤ 7 := by have := cutS_tail folk i; omega
      generalize cutS folk (some ((i : Int) + 1)) none = fs at fs_in fs_len
      have nqa : q ≠ a := fun z => by obtain ⟨y, b, c, h, _⟩ := u20; rw [z, h] at hq; cases hq
      have hq7 : H7 q = none := by
        cases hh : H7 q with
        | none => rfl
        | some o => rw [x20 _ _ nqa hh] at hq; cases hq
      have nqF : F ≠ q := ne_of_none hF7 hq7
      have xb := x20.base (q := q) (o := .lst (sL fs))
      have tb := t20.base (q := q) (o := .lst (sL fs)) hq
      have ub : Urn (upd H20 q (.lst (sL fs))) a (m + 31 + 8 * i) := by obtain ⟨y, b, c, h, hc⟩ := u20; exact ⟨y, b, c, by rw [upd_ne (Ne.symm nqa)]; exact h, hc⟩
      have hqb : (upd H7 q (.lst (sL fs))) q = some (.lst (sL fs)) := upd_same
      have hFb : (upd H7 q (.lst (sL fs))) F = some (.lst (sL folk)) := by rw [upd_ne nqF]; exact hF7
      have hab : ∃ o, (upd H7 q (.lst (sL fs))) a = some o := by obtain ⟨o, ho⟩ := ha7; exact ⟨o, by rw [upd_ne (Ne.symm nqa)]; exact ho⟩
      have unx : ∀ H', Xa a (upd H7 q (.lst (sL fs))) H' → Xa a H7 H' := fun H' x => x.unbase hq7
      have unt : ∀ H' B, Tab (upd H7 q (.lst (sL fs))) H' T (· ∈ nm11) B folk → Tab H7 H' T (· ∈ nm11) B folk := fun H' B t => t.unbase
      generalize upd H7 q (.lst (sL fs)) = HB at xb tb hqb hFb hab unx unt
      generalize upd H20 q (.lst (sL fs)) = H21 at xb tb ub
      refine ⟨q, rfl, ⟨_, SqL.of (xb _ _ nqa hqb)⟩, for_list (xs := sL fs) (fun j σ H' => ∃ o12 o13 o14 o15 o16 o17, σ = [some (.ref a), some (.int mo), some (.int fr), some (.ref L), some (.int mn), some (.int r2), some (.ref F), some (.ref Fr), some (.ref T), some (.int st), some (.int ((3 : Int) + wd)), some (.int i), o12, o13, o14, o15, o16, o17] ∧ Xa a HB H' ∧ Urn H' a (m + 31 + 8 * i + j) ∧ Tab HB H' T (· ∈ nm11) (13 + 16 * i + 2 * j) folk)
        ⟨o12, o13, o14, o15, o16, o17, rfl, xb, ub, tb⟩ (fun j σ H' _ ⟨_, _, _, _, _, _, _, x, _⟩ => SqL.of (x _ _ nqa hqb)) (fun j y σ H22 hy ⟨o12, o13, o14, o15, o16, o17, es, x22, u22, t22⟩ => ?_) (fun σ H22 ⟨o12, o13, o14, o15, o16, o17, es, x22, u22, t22⟩ => ?_)⟩
      · subst es
        obtain ⟨far, hfj, rfl⟩ := nth_map hy
        have hfar : far ∈ folk := fs_in _ (List.mem_of_getElem? hfj)
        have hj7 : j < 7 := by have := (List.getElem?_eq_some_iff.mp hfj).1; omega
        refine ⟨.ref a, rfl, .int ((3 : Int) + wd), rfl, a, (3 : Int) + wd, m + 31 + 8 * i + j, rfl, by omega, by omega, u22, by omega, fun way H23 x23 u23 hway => ?_⟩
        have x23' := x22.trans x23
        have t23 := t22.mono x23 hab (Nat.le_refl _)
        refine if_app (Good := fun H' => Xa a HB H' ∧ Urn H' a (m + 31 + 8 * i + j + 1) ∧ Tab HB H' T (· ∈ nm11) (13 + 16 * i + 2 * j + 1) folk) (fun Q => or_test rfl rfl) (fun Q kq => ?_) ⟨x23', u23, t23.le (Nat.le_succ _)⟩ (fun H24 ⟨x24, u24, t24⟩ => ?_)
        · obtain ⟨q', ws, dg, z1, z2, z3, z4⟩ := t23.get hni
          have nqa' : q' ≠ a := urn_ne u23 z2
          refine ⟨.ref T, rfl, .ref F, rfl, .int (i : Int), rfl, F, sL folk, i, .str folk[i], rfl, rfl, SqL.of (x23' _ _ naF hFb), atI_nat hia, T, .ref q', rfl, dg, .inl ⟨rfl, _, SqL.of z2⟩, .str far, rfl, q', sL ws, .str far, rfl, rfl, z2, sz_lt (by rw [List.length_map]; omega), kq _ _ ⟨fun b o nb e => ?_, ?_, t23.app z1 z2 z3 z4 (folk_in _ hfar)⟩⟩
          · rw [upd_ne (ne_of_none e z1)]; exact x23' b o nb e
          · obtain ⟨y, b, c, h, hc⟩ := u23; exact ⟨y, b, c, by rw [upd_ne (Ne.symm nqa')]; exact h, hc⟩
        · refine if_app (Good := fun H' => Xa a HB H' ∧ Urn H' a (m + 31 + 8 * i + j + 1) ∧ Tab HB H' T (· ∈ nm11) (13 + 16 * i + 2 * j + 1 + 1) folk) (fun Q => or_test rfl rfl) (fun Q kq => ?_) ⟨x24, u24, t24.le (Nat.le_succ _)⟩ (fun H25 ⟨x25, u25, t25⟩ => ?_)
          · obtain ⟨q', ws, dg, z1, z2, z3, z4⟩ := t24.get hfar
            have nqa' : q' ≠ a := urn_ne u24 z2
            refine ⟨.ref T, rfl, .str far, rfl, T, .ref q', rfl, dg, .inl ⟨rfl, _, SqL.of z2⟩, .ref F, rfl, .int (i : Int), rfl, F, sL folk, i, .str folk[i], rfl, rfl, SqL.of (x24 _ _ naF hFb), atI_nat hia, q', sL ws, .str folk[i], rfl, rfl, z2, sz_lt (by rw [List.length_map]; omega), kq _ _ ⟨fun b o nb e => ?_, ?_, t24.app z1 z2 z3 z4 (folk_in _ hni)⟩⟩
            · rw [upd_ne (ne_of_none e z1)]; exact x24 b o nb e
            · obtain ⟨y, b, c, h, hc⟩ := u24; exact ⟨y, b, c, by rw [upd_ne (Ne.symm nqa')]; exact h, hc⟩
          · exact ⟨_, _, _, _, _, _, rfl, x25, u25.le (by omega), t25.le (by omega)⟩
      · subst es
        rw [List.length_map] at u22 t22
        exact ⟨_, _, _, _, _, _, _, rfl, unx _ x22, u22.le (by omega), (unt _ _ t22).le (by omega)⟩
    · subst es
      have hF20 := x20 _ _ naF hF7
      refine ⟨.ref F, rfl, F, rfl, ⟨_, SqL.of hF20⟩, lcJ_in (P := fun i acc H' => ∃ rs, Paired (RowH H') acc rs ∧ rs.map (·.1) = folk.take i ∧ ∀ r ∈ rs, GoodR r) kpE (goes_lst kpE (SqL.of hF20)) (by rw [List.length_map]; omega) (fun D hD => ⟨[], .nil, rfl, fun r hr => nomatch hr⟩) (fun D i y H21 hi hi2 hy o => ?_) (fun D H21 acc hD e21 hacc hrs => ?_)⟩
      · obtain ⟨own, hfi, rfl⟩ := nth_map hy
        have hown : own ∈ folk := List.mem_of_getElem? hfi
        have e21 := o.step
        obtain ⟨q', ws, dg, z1, z2, z3, z4⟩ := (t20.ex e21).get hown
        refine ⟨rfl, tyes_lc ?_⟩
        refine ⟨.str own, rfl, .ref T, rfl, .str own, rfl, T, .ref q', rfl, dg, q', rfl, ⟨_, SqL.of z2⟩, fmJ kpE V.str (fun x => !decide (x = own)) V.str ws (goes_lstM kpE (SqL.of z2)) rfl (by omega) (by show 17 < 18; decide) (fun _ => rfl) (fun x H' _ e Q' q => ?_) (fun x H' _ _ e Q' q => ?_) (fun D2 H2 hD2 e2 hl => ?_)⟩
        · refine ⟨.str x, rfl, .str own, rfl, rfl, _, rfl, ?_⟩
          rw [ne_str]; exact q _ (Ex.refl _)
        · exact ⟨.str x, rfl, q _ _ (Ex.refl _) rfl⟩
        · have hmem : ∀ k, k ∈ ws.filter (fun x => !decide (x = own)) ↔ k ∈ nm11.filter fun k => decide (k ∈ ws) && !decide (k = own) := fun k => by
            rw [List.mem_filter, List.mem_filter, Bool.and_eq_true, decide_eq_true_eq]
            exact ⟨fun ⟨a, b⟩ => ⟨z3 k a, a, b⟩, fun ⟨_, a, b⟩ => ⟨a, b⟩⟩
          have hl11 : (nm11.filter fun k => decide (k ∈ ws) && !decide (k = own)).length ≤ 11 := List.length_filter_le _ _
          refine ⟨D2, _, nm11.filter fun k => decide (k ∈ ws) && !decide (k = own), rfl, SqL.of hl, Nat.le_trans (List.length_filter_le _ _) (by omega), hmem, fun p1 hp1 => ?_⟩
          refine ⟨p1, _, rfl, upd_same, by omega, fun ys p2 ynd ysort ymem ylen hp2 => ⟨p2, sL ys, rfl, .inl ⟨SqL.of upd_same, fun p3 hp3 => ⟨by show (2 : Nat) ≤ sizeLine; decide, fun p4 hp4 => ?_⟩⟩⟩⟩
          have e3 : Ex H2 (upd H2 p1 (SetT w p1 (nm11.filter fun k => decide (k ∈ ws) && !decide (k = own)))) := Ex.new hp1
          generalize upd H2 p1 (SetT w p1 (nm11.filter fun k => decide (k ∈ ws) && !decide (k = own))) = H3 at e3 hp2 hp3 hp4 ⊢
          have e4 : Ex H3 (upd H3 p2 (.lst (ys.map V.str))) := Ex.new hp2
          generalize upd H3 p2 (.lst (ys.map V.str)) = H4 at e4 hp3 hp4 ⊢
          have e5 : Ex H4 (upd H4 p3 (.tup (sL ys))) := Ex.new hp3
          have h5 : (upd H4 p3 (.tup (sL ys))) p3 = some (.tup (sL ys)) := upd_same
          generalize upd H4 p3 (.tup (sL ys)) = H5 at e5 h5 hp4 ⊢
          have e6 : Ex H5 (upd H5 p4 (.tup [.str own, .ref p3])) := Ex.new hp4
          have h6 : (upd H5 p4 (.tup [.str own, .ref p3])) p4 = some (.tup [.str own, .ref p3]) := upd_same
          refine LcOk.yes kpE (fun i acc H H' ⟨rs, z1, z2, z3⟩ e => ⟨rs, L2.Paired.mapP z1 fun _ _ z => z.mono kpE e, z2, z3⟩) (fun i acc H l o hl ⟨rs, z1, z2, z3⟩ => ⟨rs, L2.Paired.mapP z1 fun _ _ z => z.updL hl, z2, z3⟩) o hi2 ((((e2.trans e3).trans e4).trans e5).trans e6) (fun acc ⟨rs, z1, z2, z3⟩ => ?_)
          have tk : folk.take (i + 1) = folk.take i ++ [own] := take_succ_some hfi
          refine ⟨rs ++ [(own, ys)], paired_snoc (L2.Paired.mapP z1 fun _ _ z => z.mono kpE ((((e2.trans e3).trans e4).trans e5).trans e6)) ⟨p4, .ref p3, rfl, h6, p3, rfl, e6 _ _ h5⟩, by rw [List.map_append, z2, tk]; rfl, fun r hr => ?_⟩
          rcases List.mem_append.mp hr with hr | hr
          · exact z3 r hr
          · rw [List.mem_singleton.mp hr]
            refine ⟨ynd, fun x hx => (List.mem_filter.mp ((ymem x).mp hx)).1, fun hx => ?_, Nat.le_trans ylen hl11⟩
            have := (List.mem_filter.mp ((ymem own).mp hx)).2
            simp at this
      · obtain ⟨rs, pr, rnm, rgd⟩ := hrs
        rw [List.length_map, List.take_length] at rnm
        have rlen : rs.length = mn := by rw [← folk_len, ← rnm, List.length_map]
        obtain ⟨zs, z1, z2, z3⟩ := pairs_zip pr
        have x21 := x20.trans (Xa.ex e21)
        have u21 := u20.ex e21
        refine ⟨.ref D, rfl, D, zs.map fun z => (z.1, rowD z.2), rfl, ?_, ?_, ?_, ?_, ?_, fun p1 hp1 => ?_⟩
        · rw [List.map_map]
          show SqL K H21 D (zs.map (·.1))
          rw [z1]
          exact SqL.of hacc
        · intro b hb
          obtain ⟨z, hz, rfl⟩ := List.mem_map.mp hb
          exact row_dp (z3 z hz)
        · rw [List.map_map]
          exact fun x hx y hy => by
            obtain ⟨p, _, rfl⟩ := List.mem_map.mp hx
            obtain ⟨q, _, rfl⟩ := List.mem_map.mp hy
            exact alike_rows _ _
        · rw [List.map_map]
          refine .inl fun x hx => ?_
          obtain ⟨p, hp, rfl⟩ := List.mem_map.mp hx
          exact ⟨_, _, rfl⟩
        · intro b hb
          obtain ⟨z, hz, rfl⟩ := List.mem_map.mp hb
          exact Nat.le_trans (depth_row z.2) (by decide)
        · have m1 : (zs.map fun z => (z.1, rowD z.2)).mergeSort (PySem.W.dataLe false fun b : V × PyData => b.2) = (zs.mergeSort (leR fun z => z.2)).map fun z => (z.1, rowD z.2) := (List.map_mergeSort (r := leR fun z : V × (Str × List Str) => z.2) (s := PySem.W.dataLe false fun b : V × PyData => b.2) (f := fun z => (z.1, rowD z.2)) (l := zs) (fun a _ b _ => rfl)).symm
          rw [m1, List.map_map, show ((fun x : V × PyData => x.1) ∘ fun z : V × (Str × List Str) => (z.1, rowD z.2)) = (fun z => z.1) from rfl]
          have hms : ∀ z ∈ zs.mergeSort (leR fun z => z.2), z ∈ zs := fun z hz => (List.mergeSort_perm _ _).mem_iff.mp hz
          have hperm2 : ((zs.mergeSort (leR fun z => z.2)).map (·.2)).Perm rs := by
            have := (List.mergeSort_perm zs (leR fun z => z.2)).map (·.2)
            rw [z2] at this
            exact this
          have hasc : Asc (((zs.mergeSort (leR fun z => z.2)).map (·.2)).map (·.1)) := by
            rw [List.map_map]
            refine rows_asc (f := fun z : V × (Str × List Str) => z.2) (bs := zs) ?_
            have : (zs.map fun b => b.2.1) = rs.map (·.1) := by rw [← z2, List.map_map]; rfl
            rw [this, rnm]
            exact folk_nd
          have hpr : Paired (RowH H21) ((zs.mergeSort (leR fun z => z.2)).map (·.1)) ((zs.mergeSort (leR fun z => z.2)).map (·.2)) := zip_pairs (F := RowH H21) fun z hz => z3 z (hms z hz)
          generalize (zs.mergeSort (leR fun z => z.2)).map (·.2) = rows at hperm2 hasc hpr
          generalize (zs.mergeSort (leR fun z => z.2)).map (·.1) = xs at hpr
          have e22 : Ex H21 (upd H21 p1 (.lst xs)) := Ex.new hp1
          have h22 : (upd H21 p1 (.lst xs)) p1 = some (.lst xs) := upd_same
          generalize upd H21 p1 (.lst xs) = H22 at e22 h22
          refine ⟨p1, xs, rfl, .inl ⟨SqL.of h22, fun t1 ht1 => ?_⟩⟩
          have e23 : Ex H22 (upd H22 t1 (.tup xs)) := Ex.new ht1
          have h23 : (upd H22 t1 (.tup xs)) t1 = some (.tup xs) := upd_same
          generalize upd H22 t1 (.tup xs) = H23 at e23 h23
          have x23 := x21.trans (Xa.ex (e22.trans e23))
          refine ⟨.ref Fr, rfl, Fr, free, rfl, SqL.of (x23 _ _ naFr h7), by omega, fun ys p2 yperm ysort hp2 => ?_⟩
          have e24 : Ex H23 (upd H23 p2 (.lst (ys.map V.str))) := Ex.new hp2
          have h24 : (upd H23 p2 (.lst (ys.map V.str))) p2 = some (.lst (sL ys)) := upd_same
          generalize upd H23 p2 (.lst (ys.map V.str)) = H24 at e24 h24
          refine ⟨p2, sL ys, rfl, .inl ⟨SqL.of h24, fun t2 ht2 => ?_⟩⟩
          have e25 : Ex H24 (upd H24 t2 (.tup (sL ys))) := Ex.new ht2
          have h25 : (upd H24 t2 (.tup (sL ys))) t2 = some (.tup (sL ys)) := upd_same
          generalize upd H24 t2 (.tup (sL ys)) = H25 at e25 h25
          refine ⟨by show (2 : Nat) ≤ sizeLine; decide, fun t3 ht3 => ?_⟩
          have e26 : Ex H25 (upd H25 t3 (.tup [.ref t1, .ref t2])) := Ex.new ht3
          have h26 : (upd H25 t3 (.tup [.ref t1, .ref t2])) t3 = some (.tup [.ref t1, .ref t2]) := upd_same
          have rgd' : ∀ r ∈ rows, GoodR r := fun r hr => rgd r (hperm2.mem_iff.mp hr)
          have rnm' : ∀ r ∈ rows, r.1 ∈ folk := fun r hr => by rw [← rnm]; exact List.mem_map.mpr ⟨r, hperm2.mem_iff.mp hr, rfl⟩
          have e2126 := (((e22.trans e23).trans e24).trans e25).trans e26
          refine k _ _ _ ys (hx7.trans (x21.trans (Xa.ex e2126))) ((u21.ex e2126).le (by omega))
            (.tup (SqT.of h26) (.cons (.tup (SqT.of (((e24.trans e25).trans e26) _ _ h23)) (rows_dp (L2.Paired.mapP hpr fun _ _ z => z.mono kpE e2126))) (.cons (nt_dp ⟨t2, rfl, SqT.of (e26 _ _ h25)⟩) .nil)))
            ⟨?_, ?_, fun r hr => Nat.le_trans (rgd' r hr).2.2.2 (by decide), ?_, fun r hr => (rgd' r hr).1, fun r hr => (rgd' r hr).2.2.1, hasc, fun r hr => nm11_ok _ (folk_in _ (rnm' r hr))⟩
          · have := (hperm2.map (·.1)).nodup_iff
            rw [rnm] at this
            exact this.mpr folk_nd
          · rw [hperm2.length_eq]; omega
          · rw [yperm.length_eq]; omega
end
end CH
/-! text L8 -/
/-! _law_cells. -/
namespace CH
open PySem PySem.Spec PyProof.Rows L2 Evl RZ
def cutN (l : List Int) (lo hi : Option Int) : List Int := (l.drop (HT.sIx l.length 0 lo)).take (HT.sIx l.length l.length hi - HT.sIx l.length 0 lo)
theorem cutV_ints (l : List Int) (lo hi : Option Int) : cutV (l.map V.int) lo hi = (cutN l lo hi).map V.int := by
  unfold cutV cutN
  rw [List.length_map, ← List.map_drop, ← List.map_take]
theorem cutN_top (l : List Int) : (cutN l none (some (3 : Int))).length = min 3 l.length := by
  unfold cutN
  rw [HT.sIx_none, show (3 : Int) = ((3 : Nat) : Int) from rfl, HT.sIx_nat, List.length_take, List.length_drop]
  omega
theorem cutN_rest (l : List Int) : (cutN l (some (3 : Int)) (some (63 : Int))).length ≤ l.length - 3 := by
  unfold cutN
  rw [show (3 : Int) = ((3 : Nat) : Int) from rfl, show (63 : Int) = ((63 : Nat) : Int) from rfl, HT.sIx_nat, HT.sIx_nat, List.length_take, List.length_drop]
  omega
theorem for_enum {K : PySem.W.Frag} {a : Addr} {xs : List V} {g : TG} {tb : TS} {D : Ends} {σ : L2.St} {H : Hp} (Pv : Nat → L2.St → Hp → Prop) (h0 : Pv 0 σ H) (hl : ∀ i σ H, i ≤ xs.length → Pv i σ H → SqL K H a xs)
    (hs : ∀ i x σ H T, xs[i]? = some x → H T = none → Pv i σ H → g (.ref T) σ (upd H T (.tup [.int (i : Nat), x])) fun σ2 H2 => tb { D with nx := Pv (i + 1), ct := Pv (i + 1), bk := D.nx } σ2 H2) (hd : ∀ σ H, Pv xs.length σ H → D.nx σ H) :
    ∃ W : Nat → Nat → L2.St → Hp → Prop, (∃ m, W 0 m σ H) ∧ ∀ i m σ H, W i m σ H →
      ((Ite K a).stop i H ∧ D.nx σ H) ∨ ((Ite K a).go i H ∧ ∃ N : L2.St → Hp → Prop, (∀ σ' H', N σ' H' → ∃ m', m' < m ∧ W (i + 1) m' σ' H') ∧ ∀ x H', (Ite K a).yld i H x H' → g x σ H' fun σ2 H2 => tb { D with nx := N, ct := N, bk := D.nx } σ2 H2) := by
  refine ⟨fun i m σ H => m = xs.length - i ∧ i ≤ xs.length ∧ Pv i σ H, ⟨xs.length, by simp, Nat.zero_le _, h0⟩, ?_⟩
  rintro i m σ H ⟨rfl, hi, p⟩
  have q := hl i σ H hi p
  by_cases hlt : i < xs.length
  · refine .inr ⟨⟨xs, xs[i], q, List.getElem?_eq_getElem hlt⟩, Pv (i + 1), fun σ' H' p' => ⟨xs.length - (i + 1), by omega, rfl, hlt, p'⟩, fun v H' y => ?_⟩
    obtain ⟨T, x, rfl, hT, rfl, y⟩ := y
    exact hs i x σ H T (y xs q) hT p
  · have e : i = xs.length := by omega
    subst e
    exact .inl ⟨⟨xs, q, Nat.le_refl _⟩, hd σ H p⟩
abbrev sCells : Stmt := top 39
abbrev nCells : List Str := ["_law_script", "_law_top", "_law_cells_here", "_law_k", "_law_cell", "_law_at_so"]
theorem scCells : FnScope nCells ["_law_script", "_law_top"] (defScope sCells) := ⟨rfl, rfl, rfl, by decide +kernel, rfl, by decide +kernel, by decide +kernel⟩
def spCells (K : PySem.W.Frag) : Sp := fun vs H Q _ => ∃ (a : Addr) (ns : List Int), vs = [.ref a, .int 3] ∧ SqL K H a (ns.map V.int) ∧ ns.length ≤ 1000 ∧
  ∀ p H' (ms : List Int), Ex H H' → H' p = some (.lst (ms.map V.int)) → 1 ≤ ms.length → ms.length ≤ 3 → Q (.ref p) H'
theorem or_in {K : PySem.W.Frag} {ta tb : TE} {σ : L2.St} {H : Hp} {Q : VK} (PA Good : V → Hp → Prop) (ha : ∀ Q : VK, (∀ v H', PA v H' → Q v H') → ta σ H Q)
    (hA : ∀ v H', PA v H' → ∃ k, TruV K v H' k ∧ (k = true → Good v H') ∧ (k = false → ∀ Q : VK, (∀ v H', Good v H' → Q v H') → tb σ H' Q)) (k : ∀ v H', Good v H' → Q v H') : tOrT K ta tb σ H Q := by
  refine ha _ fun v H' h => ?_
  obtain ⟨b, h1, h2, h3⟩ := hA v H' h
  refine ⟨b, h1, ?_⟩
  cases b with
  | true => rw [if_pos rfl]; exact k _ _ (h2 rfl)
  | false => rw [if_neg Bool.false_ne_true]; exact h3 rfl _ k
section
variable {P : Program} {w : World} {K : PySem.W.Frag} {mg : Str → Option Value} {base : Heap} {f : Addr}
theorem ok_cells (F : Fn K "_law_cells" "_law_cells" sCells [] [] f) (T : Blt mg) : FnR P w K mg base CX0 1 f (spCells K) := by
  have nd := scCells.nd
  refine Fn.ok0 (ps := ["_law_script", "_law_top"]) F scCells (fun kV doc pm an cdv ct us hl => by match us, hl with | [u, u2], _ => rfl) (fun vs H Q E ⟨_, _, e, _⟩ => by rw [e]; rfl) (fun cdv A outer s H vs Q E hr h => ?_)
  obtain ⟨a, ns, rfl, ha, hz, k⟩ := h
  refine ⟨_, pss_cons (ps_set (i := 2) nd rfl (Or.inl rfl) (pe_orT (pe_callTy call_list_of (by rfl) T.list (by decide +kernel) (pa_cons (pe_slice sl_list (pv 0) po_none (po_some (pv 1))) pa_nil)) (pe_one (pe_lst (pa_cons pe_int pa_nil)))))
    (pss_cons (ps_for PassesOwn.never rfl (pi_enum (by rfl) T.enumerate (pa_cons (pe_slice sl_list (pv 0) (po_some (pv 1)) (po_some pe_int)) pa_nil)) (pg_tup rfl (pgs_cons (pg_name (i := 3) nd rfl (Or.inl rfl) (Or.inl rfl)) (pgs_cons (pg_name (i := 4) nd rfl (Or.inl rfl) (Or.inl rfl)) pgs_nil)))
      (pss_cons (ps_set (i := 5) nd rfl (Or.inl rfl) (pe_op op_mod (pe_callTy call_int1 (by rfl) T.int (by decide +kernel) (pa_cons (pv 3) pa_nil)) (pv 1)))
      (pss_one (ps_asg (pe_op op_add (pe_ix ix_list (pv 2) (pv 5) (fun _ _ => rfl)) (pe_op op_mul (pv 4) (pe_op op_add (pv 3) pe_int))) (pg_sub (pv 2) (pv 5) set_list)))))
    (pss_one (ps_ret (pv 2)))), ?_⟩
  refine or_in (K := K) (fun v H' => ∃ C, v = .ref C ∧ Ex H H' ∧ H C = none ∧ H' C = some (.lst ((cutN ns none (some 3)).map V.int))) (fun v H' => ∃ C cs, v = .ref C ∧ Ex H H' ∧ H C = none ∧ H' C = some (.lst (List.map V.int cs)) ∧ 1 ≤ cs.length ∧ cs.length ≤ 3 ∧ (3 < ns.length → cs.length = 3))
    (fun Q' q' => ?_) (fun v H' h => ?_) (fun v H1 h => ?_)
  · refine ⟨.ref a, rfl, .int 3, rfl, 3, rfl, a, _, rfl, ha, fun q hq => ?_⟩
    rw [cutV_ints]
    have e1 : Ex H (upd H q (.lst ((cutN ns none (some 3)).map V.int))) := Ex.new hq
    have h1 : (upd H q (.lst ((cutN ns none (some 3)).map V.int))) q = some (.lst ((cutN ns none (some 3)).map V.int)) := upd_same
    generalize upd H q (.lst ((cutN ns none (some 3)).map V.int)) = H1 at e1 h1
    refine ⟨q, _, rfl, .inl (SqL.of h1), fun L hL => q' _ _ ⟨L, rfl, e1.trans (Ex.new hL), ?_, upd_same⟩⟩
    cases hh : H L with
    | none => rfl
    | some o => rw [e1 _ _ hh] at hL; cases hL
  · obtain ⟨C, rfl, e1, hC, h1⟩ := h
    refine ⟨_, .inl ⟨_, SqL.of h1, rfl⟩, fun hk => ?_, fun hk Q' q' => ?_⟩
    · refine ⟨C, _, rfl, e1, hC, h1, ?_, ?_, fun h3 => ?_⟩
      · cases hc : cutN ns none (some 3) with
        | nil => rw [hc] at hk; cases hk
        | cons x l => exact Nat.le_add_left _ _
      · rw [cutN_top]; omega
      · rw [cutN_top]; omega
    · have h0 : (cutN ns none (some 3)).length = 0 := by
        cases hc : cutN ns none (some 3) with
        | nil => rfl
        | cons x l => rw [hc] at hk; cases hk
      rw [cutN_top] at h0
      refine ⟨by show (1 : Nat) ≤ sizeLine; decide, fun L hL => q' _ _ ⟨L, [0], rfl, e1.trans (Ex.new hL), ?_, upd_same, by decide, by decide, fun h3 => by omega⟩⟩
      cases hh : H L with
      | none => rfl
      | some o => rw [e1 _ _ hh] at hL; cases hL
  · obtain ⟨C, cs, rfl, e1, hC, h1, c1, c3, cn⟩ := h
    refine ⟨.ref a, rfl, .int 3, rfl, 3, rfl, 63, rfl, a, _, rfl, kpE.lst e1 ha, fun q hq => ?_⟩
    rw [cutV_ints]
    have rl := cutN_rest ns
    generalize cutN ns (some 3) (some 63) = rs at rl
    have nq : q ≠ C := fun z => by rw [z, h1] at hq; cases hq
    have e2 : Ex H1 (upd H1 q (.lst (rs.map V.int))) := Ex.new hq
    have h2 : (upd H1 q (.lst (rs.map V.int))) q = some (.lst (rs.map V.int)) := upd_same
    have h2C := e2 _ _ h1
    have e12 := e1.trans e2
    generalize upd H1 q (.lst (rs.map V.int)) = H2 at e2 h2 h2C e12
    refine ⟨q, _, rfl, SqL.of h2, for_enum (xs := rs.map V.int) (fun i σ H' => ∃ o3 o4 o5 cs', σ = [some (.ref a), some (.int 3), some (.ref C), o3, o4, o5] ∧ Ex H H' ∧ H' q = some (.lst (rs.map V.int)) ∧ H' C = some (.lst (List.map V.int cs')) ∧ cs'.length = cs.length)
      ⟨none, none, none, cs, rfl, e12, h2, h2C, rfl⟩ (fun i σ H' _ ⟨_, _, _, _, _, _, h, _⟩ => SqL.of h) (fun i x σ H' T' hx hT ⟨o3, o4, o5, cs', es, e, hq', hC', len⟩ => ?_) (fun σ H' ⟨o3, o4, o5, cs', es, e, hq', hC', len⟩ => ?_)⟩
    · subst es
      obtain ⟨x, hxi, rfl⟩ := nth_map hx
      have hi : i < rs.length := (List.getElem?_eq_some_iff.mp hxi).1
      have c3' : cs'.length = 3 := by rw [len]; exact cn (by omega)
      have e3 : Ex H' (upd H' T' (.tup [.int (i : Nat), .int x])) := Ex.new hT
      have h3 : (upd H' T' (.tup [.int (i : Nat), .int x])) T' = some (.tup [.int (i : Nat), .int x]) := upd_same
      generalize upd H' T' (.tup [.int (i : Nat), .int x]) = H3 at e3 h3
      refine ⟨T', [.int (i : Nat), .int x], rfl, SqT.of h3, rfl, .int (i : Nat), _, rfl, .int x, [], rfl, rfl, ?_⟩
      have hj : i % 3 < cs'.length := by rw [c3']; exact Nat.mod_lt _ (by decide)
      have hat : atI (cs'.map V.int) (((i % 3 : Nat) : Int)) = some (.int cs'[i % 3]) := atI_nat (by rw [List.getElem?_map, List.getElem?_eq_getElem hj]; rfl)
      have eix : ((i : Nat) : Int) % (3 : Int) = ((i % 3 : Nat) : Int) := by omega
      refine ⟨.int (i : Nat), rfl, .inl ⟨_, rfl, .int 3, rfl, _, 3, rfl, rfl, (show (0 : Int) < 3 by decide), ?_⟩⟩
      have hC3 := e3 _ _ hC'
      refine ⟨.ref C, rfl, .int ((i : Int) % 3), rfl, C, _, _, _, rfl, rfl, SqL.of hC3, by rw [eix]; exact hat, .int x, rfl, .int (i : Nat), rfl, i, 2, rfl, rfl, _, _, rfl, rfl, .inr ⟨?_, ?_⟩, _, _, rfl, rfl, ?_⟩
      · omega
      · omega
      refine ⟨.ref C, rfl, .int ((i : Int) % 3), rfl, C, _, _, i % 3, rfl, rfl, hC3, ?_, ?_⟩
      · rw [eix]
        unfold ixN
        rw [if_pos (by omega), if_pos (by rw [List.length_map]; omega)]
        rfl
      · exact ⟨_, _, _, cs'.set (i % 3) (cs'[i % 3] + x * ((i : Int) + 2)), rfl, kpE.mtn (e.trans e3) hC, by rw [upd_ne nq]; exact e3 _ _ hq', by rw [upd_same, List.map_set], by rw [List.length_set]; exact len⟩
    · subst es
      exact ⟨.ref C, rfl, k C H' cs' e hC' (by omega) (by omega)⟩
end
end CH
/-! text L9 -/
/-! _law_same, at things that are the same. -/
namespace CH
open PySem PySem.Spec PyProof.Rows L2 Evl RZ
abbrev sSame : Stmt := top 40
abbrev nSame : List Str := ["_law_got", "_law_goal", "_law_mine_so", "_law_own"]
theorem scSame : FnScope nSame ["_law_got", "_law_goal"] (defScope sSame) := ⟨rfl, rfl, rfl, by decide +kernel, rfl, by decide +kernel, by decide +kernel⟩
def spSame (K : PySem.W.Frag) (n : Nat) : Sp := fun vs H Q _ => ∃ x y d, vs = [x, y] ∧ Dp K H x d ∧ Dp K H y d ∧ Okd n d ∧ ∀ H', Ex H H' → Q (.bl true) H'
def spSame' (K : PySem.W.Frag) : Nat → Sp
  | 0 => fun _ _ _ _ => False
  | n + 1 => spSame K n
section
variable {R : Hp → Hp → Prop} {H1 : Hp}
theorem goes_zipL (kp : Kp R) {K : PySem.W.Frag} {a b : Addr} {xs ys : List V} (hx : SqL K H1 a xs) (hy : SqL K H1 b ys) : GoesN R H1 (Itz K a b) (min xs.length ys.length) (fun i v H => ∃ T x y, v = .ref T ∧ H T = some (.tup [x, y]) ∧ xs[i]? = some x ∧ ys[i]? = some y) where
  go := fun i H hi r => ⟨xs, ys, xs[i]'(by omega), ys[i]'(by omega), kp.lst r hx, kp.lst r hy, List.getElem?_eq_getElem _, List.getElem?_eq_getElem _⟩
  stop := fun i H hi r => ⟨xs, ys, kp.lst r hx, kp.lst r hy, by omega⟩
  yld := fun i H v H' hi r ⟨T, x, y, e, hT, e2, z1, z2⟩ => by
    subst e2
    exact ⟨kp.new hT, T, x, y, e, upd_same, z1 xs (kp.lst r hx), z2 ys (kp.lst r hy)⟩
end
section
variable {P : Program} {w : World} {K : PySem.W.Frag} {mg : Str → Option Value} {base : Heap} {f : Addr}
theorem same_step (F : Fn K "_law_same" "_law_same" sSame [] [] f) (T : Blt mg) {n : Nat} (G : Pr P w K mg base "_law_same" n (spSame' K n)) : FnR P w K mg base CX0 (n + 1) f (spSame K n) := by
  have nd := scSame.nd
  refine Fn.ok0 (ps := ["_law_got", "_law_goal"]) F scSame (fun kV doc pm an cdv ct us hl => by match us, hl with | [u, u2], _ => rfl) (fun vs H Q E ⟨_, _, _, e, _⟩ => by rw [e]; rfl) (fun cdv A outer s H vs Q E hr h => ?_)
  obtain ⟨x, y, d, rfl, hx, hy, hd, k⟩ := h
  refine ⟨_, pss_cons (ps_if (pt_val (pe_callB call_isiT (by rfl) T.isinstance (by decide +kernel) (pa_cons (pv 1) (pa_cons (pe_tup (pa_cons (pe_bltn (v := .ty "list") (by rfl) T.list (by decide +kernel) rfl) (pa_cons (pe_bltn (v := .ty "tuple") (by rfl) T.tuple (by decide +kernel) rfl) pa_nil))) pa_nil))))
      (pss_cons (ps_if (PW.pt (pw_or (pt_cmpR op_ne (pe_callB call_isi (by rfl) T.isinstance (by decide +kernel) (pa_cons (pv 0) (pa_cons (pe_bltn (v := .ty "list") (by rfl) T.list (by decide +kernel) rfl) pa_nil))) (pe_callB call_isi (by rfl) T.isinstance (by decide +kernel) (pa_cons (pv 1) (pa_cons (pe_bltn (v := .ty "list") (by rfl) T.list (by decide +kernel) rfl) pa_nil))) (nomark _))
          (pw_or1 (pt_cmpR op_ne (pe_callB call_isi (by rfl) T.isinstance (by decide +kernel) (pa_cons (pv 0) (pa_cons (pe_bltn (v := .ty "tuple") (by rfl) T.tuple (by decide +kernel) rfl) pa_nil))) (pe_callB call_isi (by rfl) T.isinstance (by decide +kernel) (pa_cons (pv 1) (pa_cons (pe_bltn (v := .ty "tuple") (by rfl) T.tuple (by decide +kernel) rfl) pa_nil))) (nomark _)))))
        (pss_one (ps_ret pe_bl)) pss_nil)
      (pss_one (ps_ret (pe_and (pe_cmpR op_eq (pe_callB call_len_seq (by rfl) T.len (by decide +kernel) (pa_cons (pv 0) pa_nil)) (pe_callB call_len_seq (by rfl) T.len (by decide +kernel) (pa_cons (pv 1) pa_nil)) (nomark _))
        (pe_one (pe_callB (cr_all rfl) (by rfl) T.all (by decide +kernel) (pa_cons (pe_lc (own := [("_law_mine_so", 2), ("_law_own", 3)]) (g := gTup K 2 (gCons (gName 2) (gCons (gName 3) gNil))) (tt := tYes) rfl nd (pi_zipA (by rfl) T.zip (pa_cons (pv 0) (pa_cons (pv 1) pa_nil))) (blkOk_by (N := nSame) (sc := defScope sSame) (by decide +kernel))
          (fun _ _ _ _ _ => pg_tup rfl (pgs_cons (pg_name (i := 2) nd rfl (Or.inl rfl)) (pgs_cons (pg_name (i := 3) nd rfl (Or.inl rfl)) pgs_nil))) (fun _ _ _ _ _ => pts_nil) (fun _ _ _ _ _ => pe_pr G hr (by rfl) (pa_cons (pv 2) (pa_cons (pv 3) pa_nil)))) pa_nil)))))))
      pss_nil)
    (pss_cons (ps_if (PW.pt (pw_or (pt_cmpR op_isN (pv 1) pe_non (nomark _)) (pw_or1 (pt_val (pe_callB call_isiT (by rfl) T.isinstance (by decide +kernel) (pa_cons (pv 1) (pa_cons (pe_tup (pa_cons (pe_bltn (v := .ty "bool") (by rfl) T.bool (by decide +kernel) rfl) (pa_cons (pe_bltn (v := .ty "str") (by rfl) T.str (by decide +kernel) rfl) pa_nil))) pa_nil)))))))
      (pss_one (ps_ret (pe_and (pe_cmpR op_eq (pv 0) (pv 1) (nomark _)) (pe_and (pe_cmpR op_eq (pe_callB call_isi (by rfl) T.isinstance (by decide +kernel) (pa_cons (pv 0) (pa_cons (pe_bltn (v := .ty "bool") (by rfl) T.bool (by decide +kernel) rfl) pa_nil))) (pe_callB call_isi (by rfl) T.isinstance (by decide +kernel) (pa_cons (pv 1) (pa_cons (pe_bltn (v := .ty "bool") (by rfl) T.bool (by decide +kernel) rfl) pa_nil))) (nomark _))
        (pe_one (pe_cmpR op_eq (pe_cmpR op_isN (pv 0) pe_non (nomark _)) (pe_cmpR op_isN (pv 1) pe_non (nomark _)) (nomark _))))))) pss_nil)
    (pss_one ps_never)), ?_⟩
  have two : Paired ClsV [.ty "list", .ty "tuple"] [.type "list", .type "tuple"] := .cons (.ty _) (.cons (.ty _) .nil)
  have two2 : Paired ClsV [.ty "bool", .ty "str"] [.type "bool", .type "str"] := .cons (.ty _) (.cons (.ty _) .nil)
  have cs : (∃ z, x = .str z ∧ y = .str z) ∨ ∃ a b xs ys ds m, x = .ref a ∧ y = .ref b ∧ ((SqT K H a xs ∧ SqT K H b ys) ∨ (SqL K H a xs ∧ SqL K H b ys)) ∧ DpAll K H xs ds ∧ DpAll K H ys ds ∧ ds.length ≤ 1000 ∧ n = m + 1 ∧ ∀ x ∈ ds, Okd m x := by
    cases hx with
    | str z => cases hy; exact .inl ⟨z, rfl, rfl⟩
    | tup e hx =>
      cases hy with
      | tup e2 hy =>
        cases n with
        | zero => exact hd.elim
        | succ m => exact .inr ⟨_, _, _, _, _, m, rfl, rfl, .inl ⟨e, e2⟩, hx, hy, hd.1, rfl, hd.2⟩
    | lst e hx =>
      cases hy with
      | lst e2 hy =>
        cases n with
        | zero => exact hd.elim
        | succ m => exact .inr ⟨_, _, _, _, _, m, rfl, rfl, .inr ⟨e, e2⟩, hx, hy, hd.1, rfl, hd.2⟩
    | _ => exact absurd hd (by cases n <;> exact fun z => z)
  rcases cs with ⟨z, rfl, rfl⟩ | ⟨a, b, xs, ys, ds, m, rfl, rfl, hs, dx, dy, hz, rfl, hok⟩
  · refine ⟨.str z, rfl, by show (2 : Nat) ≤ sizeLine; decide, fun tp htp => ⟨.str z, tp, _, _, _, false, rfl, upd_same, two, .base (.str z), kitAny_cons (b := false) (kit_ty (by decide +kernel)) (fun _ => kitAny_cons (b := false) (kit_ty (by decide +kernel)) (fun _ => kitAny_nil) fun z => by cases z) (fun z => by cases z), false, rfl, iteN rfl ?_⟩⟩
    have e1 : Ex H (upd H tp (.tup [.ty "list", .ty "tuple"])) := Ex.new htp
    generalize upd H tp (.tup [.ty "list", .ty "tuple"]) = H1 at e1
    refine ⟨.str z, rfl, rfl, _, rfl, iteN (decide_eq_false fun h => by cases h) ⟨.str z, rfl, by show (2 : Nat) ≤ sizeLine; decide, fun tp2 htp2 => ⟨.str z, tp2, _, _, _, true, rfl, upd_same, two2, .base (.str z), kitAny_cons (b := false) (kit_ty (by decide +kernel)) (fun _ => kitAny_cons (b := true) (kit_ty (by decide +kernel)) (fun z => by cases z) fun z => rfl) (fun z => by cases z), true, rfl, iteY rfl ?_⟩⟩⟩
    have e2 : Ex H1 (upd H1 tp2 (.tup [.ty "bool", .ty "str"])) := Ex.new htp2
    generalize upd H1 tp2 (.tup [.ty "bool", .ty "str"]) = H2 at e2
    refine ⟨.str z, rfl, .str z, rfl, rfl, _, rfl, iteY (decide_eq_true rfl) ⟨.str z, rfl, .str z, .ty "bool", _, _, false, rfl, .ty _, .base (.str z), kit_ty (by decide +kernel), .str z, rfl, .str z, .ty "bool", _, _, false, rfl, .ty _, .base (.str z), kit_ty (by decide +kernel), rfl, _, rfl, iteY (decide_eq_true rfl) ⟨.str z, rfl, rfl, .str z, rfl, rfl, rfl, ?_⟩⟩⟩
    rw [show decide (V.bl (decide (V.str z = V.non)) = V.bl (decide (V.str z = V.non))) = true from decide_eq_true rfl]
    exact k _ (e1.trans e2)
  · have lx := dpAll_len dx
    have ly := dpAll_len dy
    have yes : ∀ n, (List.replicate n true).all id = true := fun n => by simp
    refine ⟨.ref b, rfl, by show (2 : Nat) ≤ sizeLine; decide, fun tp htp => ?_⟩
    have e1 : Ex H (upd H tp (.tup [.ty "list", .ty "tuple"])) := Ex.new htp
    have htp1 : (upd H tp (.tup [.ty "list", .ty "tuple"])) tp = some (.tup [.ty "list", .ty "tuple"]) := upd_same
    generalize upd H tp (.tup [.ty "list", .ty "tuple"]) = H1 at e1 htp1 ⊢
    have dx1 := DpAll.mono kpE e1 dx
    have dy1 := DpAll.mono kpE e1 dy
    rcases hs with ⟨ha, hb⟩ | ⟨ha, hb⟩
    · have ha1 := kpE.tup e1 ha
      have hb1 := kpE.tup e1 hb
      refine ⟨.ref b, tp, _, _, _, true, rfl, htp1, two, tyx_T hb1, kitAny_cons (b := false) (kit_ty (by decide +kernel)) (fun _ => kitAny_cons (b := true) (kit_ty (by decide +kernel)) (fun z => by cases z) fun z => rfl) (fun z => by cases z), true, rfl, iteY rfl ?_⟩
      refine ⟨.ref a, rfl, .ref a, .ty "list", _, _, false, rfl, .ty _, tyx_T ha1, kit_ty (by decide +kernel), .ref b, rfl, .ref b, .ty "list", _, _, false, rfl, .ty _, tyx_T hb1, kit_ty (by decide +kernel), rfl, _, rfl, iteN rfl ?_⟩
      refine ⟨.ref a, rfl, .ref a, .ty "tuple", _, _, true, rfl, .ty _, tyx_T ha1, kit_ty (by decide +kernel), .ref b, rfl, .ref b, .ty "tuple", _, _, true, rfl, .ty _, tyx_T hb1, kit_ty (by decide +kernel), rfl, _, rfl, iteN rfl ?_⟩
      refine ⟨.ref a, rfl, a, xs, rfl, .inr ha1, .ref b, rfl, b, ys, rfl, .inr hb1, rfl, _, rfl, iteY (decide_eq_true (by rw [lx, ly])) ?_⟩
      refine ⟨.ref a, rfl, .ref b, rfl, a, b, xs, ys, rfl, .inr ⟨ha1, hb1, lcJ2_in (P := fun i acc => acc = (List.replicate i true).map V.bl) kpE (goes_zip kpE ha1 hb1) (by omega) rfl (fun D i v H' hi hi2 it o => ?_) (fun D H' acc hD e hacc p => ?_)⟩⟩
      · obtain ⟨T', x', y', ev, hT, hx, hy⟩ := it
        obtain ⟨d1, hd1, dx'⟩ := dpAll_at dx1 hx
        obtain ⟨d2, hd2, dy'⟩ := dpAll_at dy1 hy
        have dd : d2 = d1 := Option.some.inj (hd2.symm.trans hd1)
        subst dd
        refine ⟨T', [x', y'], ev, SqT.of hT, rfl, x', [y'], rfl, y', [], rfl, rfl, rfl, ?_⟩
        refine ⟨x', rfl, y', rfl, x', y', d2, rfl, Dp.mono kpE o.step dx', Dp.mono kpE o.step dy', hok d2 (List.mem_of_getElem? hd1), fun H2 e2 => ?_⟩
        refine o.yes kpE (fun _ _ _ _ p _ => p) (fun _ _ _ _ _ _ p => p) hi2 e2 fun acc ha => ?_
        rw [ha, List.replicate_succ', List.map_append]
        rfl
      · exact ⟨D, List.replicate _ true, rfl, SqL.of (by rw [hacc, p]), by rw [yes]; exact k _ (e1.trans e)⟩
    · have ha1 := kpE.lst e1 ha
      have hb1 := kpE.lst e1 hb
      refine ⟨.ref b, tp, _, _, _, true, rfl, htp1, two, tyx_L hb1, kitAny_cons (b := true) (kit_ty (by decide +kernel)) (fun z => by cases z) fun z => rfl, true, rfl, iteY rfl ?_⟩
      refine ⟨.ref a, rfl, .ref a, .ty "list", _, _, true, rfl, .ty _, tyx_L ha1, kit_ty (by decide +kernel), .ref b, rfl, .ref b, .ty "list", _, _, true, rfl, .ty _, tyx_L hb1, kit_ty (by decide +kernel), rfl, _, rfl, iteN rfl ?_⟩
      refine ⟨.ref a, rfl, .ref a, .ty "tuple", _, _, false, rfl, .ty _, tyx_L ha1, kit_ty (by decide +kernel), .ref b, rfl, .ref b, .ty "tuple", _, _, false, rfl, .ty _, tyx_L hb1, kit_ty (by decide +kernel), rfl, _, rfl, iteN rfl ?_⟩
      refine ⟨.ref a, rfl, a, xs, rfl, .inl ha1, .ref b, rfl, b, ys, rfl, .inl hb1, rfl, _, rfl, iteY (decide_eq_true (by rw [lx, ly])) ?_⟩
      refine ⟨.ref a, rfl, .ref b, rfl, a, b, xs, ys, rfl, .inl ⟨ha1, hb1, lcJ2_in (P := fun i acc => acc = (List.replicate i true).map V.bl) kpE (goes_zipL kpE ha1 hb1) (by omega) rfl (fun D i v H' hi hi2 it o => ?_) (fun D H' acc hD e hacc p => ?_)⟩⟩
      · obtain ⟨T', x', y', ev, hT, hx, hy⟩ := it
        obtain ⟨d1, hd1, dx'⟩ := dpAll_at dx1 hx
        obtain ⟨d2, hd2, dy'⟩ := dpAll_at dy1 hy
        have dd : d2 = d1 := Option.some.inj (hd2.symm.trans hd1)
        subst dd
        refine ⟨T', [x', y'], ev, SqT.of hT, rfl, x', [y'], rfl, y', [], rfl, rfl, rfl, ?_⟩
        refine ⟨x', rfl, y', rfl, x', y', d2, rfl, Dp.mono kpE o.step dx', Dp.mono kpE o.step dy', hok d2 (List.mem_of_getElem? hd1), fun H2 e2 => ?_⟩
        refine o.yes kpE (fun _ _ _ _ p _ => p) (fun _ _ _ _ _ _ p => p) hi2 e2 fun acc ha => ?_
        rw [ha, List.replicate_succ', List.map_append]
        rfl
      · exact ⟨D, List.replicate _ true, rfl, SqL.of (by rw [hacc, p]), by rw [yes]; exact k _ (e1.trans e)⟩
theorem ok_same (F : Fn K "_law_same" "_law_same" sSame [] [] f) (T : Blt mg) (hm : mg "_law_same" = some (.ref f)) : ∀ n, FnR P w K mg base CX0 (n + 1) f (spSame K n)
  | 0 => same_step F T ⟨f, hm, F.choose_spec.kp, fun _ _ _ _ _ _ _ _ _ _ _ z => z.elim⟩
  | n + 1 => same_step F T ⟨f, hm, F.choose_spec.kp, ok_same F T hm n⟩
end
end CH
/-! text L10 -/
/-! _law_known_right. Printed by gen10.py. -/
namespace CH
open PySem PySem.Spec PyProof.Rows L2 Evl RZ
def rLine : Rows := [("a", ["b"]), ("b", ["a", "c"]), ("c", ["b"])]
def rStar : Rows := [("a", ["m"]), ("b", ["m"]), ("c", ["m"]), ("m", ["a", "b", "c"])]
def rKite : Rows := [("a", ["b", "c"]), ("b", ["a", "c"]), ("c", ["a", "b", "d"]), ("d", ["c"])]
def rRing : Rows := [("a", ["b", "c"]), ("b", ["a", "c"]), ("c", ["a", "b"]), ("d", [])]
def rTail : Rows := [("e", ["f"]), ("f", ["e"])]
def rLone : Rows := [("a", ["zz"])]
abbrev rRound : Rows := rRing ++ rTail
theorem k_rLine : freeN rLine = (["a", "c"] : List Str) ∧ holdN rLine = (["b"] : List Str) ∧ fixN rLine = ([] : List Str) := by decide +kernel
theorem k_rStar : freeN rStar = (["a", "b", "c"] : List Str) ∧ holdN rStar = (["m"] : List Str) ∧ fixN rStar = ([] : List Str) := by decide +kernel
theorem k_rKite : freeN rKite = ([] : List Str) ∧ holdN rKite = ([] : List Str) ∧ fixN rKite = (["a", "b", "c", "d"] : List Str) := by decide +kernel
theorem k_rRound : freeN rRound = (["a", "b", "c", "d"] : List Str) ∧ holdN rRound = ([] : List Str) ∧ fixN rRound = (["e", "f"] : List Str) := by decide +kernel
instance (l : List Str) : Decidable (Asc l) := inferInstanceAs (Decidable (List.Pairwise _ l))
instance (s : Str) : Decidable (NameOk s) := inferInstanceAs (Decidable (_ ∧ _ ∧ _))
theorem o_rLine : TomeOk rLine [] := ⟨by decide +kernel, by decide +kernel, by decide +kernel, by decide +kernel, by decide +kernel, by decide +kernel, by decide +kernel, by decide +kernel⟩
theorem o_rStar : TomeOk rStar [] := ⟨by decide +kernel, by decide +kernel, by decide +kernel, by decide +kernel, by decide +kernel, by decide +kernel, by decide +kernel, by decide +kernel⟩
theorem o_rKite : TomeOk rKite [] := ⟨by decide +kernel, by decide +kernel, by decide +kernel, by decide +kernel, by decide +kernel, by decide +kernel, by decide +kernel, by decide +kernel⟩
theorem o_rRound : TomeOk rRound [] := ⟨by decide +kernel, by decide +kernel, by decide +kernel, by decide +kernel, by decide +kernel, by decide +kernel, by decide +kernel, by decide +kernel⟩
theorem o_rLone : TomeOk rLone [] := ⟨by decide +kernel, by decide +kernel, by decide +kernel, by decide +kernel, by decide +kernel, by decide +kernel, by decide +kernel, by decide +kernel⟩
theorem o_none : TomeOk [] ["x"] := ⟨by decide +kernel, by decide +kernel, by decide +kernel, by decide +kernel, by decide +kernel, by decide +kernel, by decide +kernel, by decide +kernel⟩
/-! displays -/
def tSs : List Str → TA
  | [] => tNil
  | x :: l => tCons (tC (.str x)) (tSs l)
def tRow (r : Str × List Str) : TE := tTup (tCons (tC (.str r.1)) (tCons (tTup (tSs r.2)) tNil))
def tRows : Rows → TA
  | [] => tNil
  | r :: l => tCons (tRow r) (tRows l)
def tTome (rows : Rows) (emp : List Str) : TE := tTup (tCons (tTup (tRows rows)) (tCons (tTup (tSs emp)) tNil))
def tKd (a b c : List Str) : TE := tTup (tCons (tTup (tSs a)) (tCons (tTup (tSs b)) (tCons (tTup (tSs c)) tNil)))
def kindsD (a b c : List Str) : PyData := .tuple [.tuple (a.map .str), .tuple (b.map .str), .tuple (c.map .str)]
section
variable {K : PySem.W.Frag}
def DE (K : PySem.W.Frag) (te : TE) (d : PyData) : Prop := ∀ (σ : L2.St) (H : Hp) (Q : VK), (∀ v H', Ex H H' → Dp K H' v d → Q v H') → te σ H Q
def DA (K : PySem.W.Frag) (ta : TA) (ds : List PyData) : Prop := ∀ (σ : L2.St) (H : Hp) (Q : List V → Hp → Prop), (∀ vs H', Ex H H' → DpAll K H' vs ds → Q vs H') → ta σ H Q
theorem seq_de {te : TE} {d : PyData} {i : Nat} {u : TS} {D : Ends} {σ : L2.St} {H : Hp} (h : DE K te d) (k : ∀ v H', Ex H H' → Dp K H' v d → u D (σ.set i (some v)) H') : tSeq (tAsg te (gName i)) u D σ H := h _ _ _ k
theorem cons_de {te : TE} {ta : TA} {d : PyData} {σ : L2.St} {H : Hp} {Q : List V → Hp → Prop} (h : DE K te d) (k : ∀ v H', Ex H H' → Dp K H' v d → ta σ H' fun vs H2 => Q (v :: vs) H2) : tCons te ta σ H Q := h _ _ _ k
theorem de_str (x : Str) : DE K (tC (.str x)) (.str x) := fun σ H Q k => k _ _ (Ex.refl _) (.str x)
theorem da_nil : DA K tNil [] := fun σ H Q k => k _ _ (Ex.refl _) .nil
theorem da_cons {te : TE} {ta : TA} {d : PyData} {ds : List PyData} (h : DE K te d) (t : DA K ta ds) : DA K (tCons te ta) (d :: ds) := fun σ H Q k =>
  h σ H _ fun v H1 e1 d1 => t σ H1 _ fun vs H2 e2 d2 => k _ _ (e1.trans e2) (.cons (Dp.mono kpE e2 d1) d2)
theorem de_tup {ta : TA} {ds : List PyData} (t : DA K ta ds) (hz : ds.length ≤ 1000) : DE K (tTup ta) (.tuple ds) := fun σ H Q k =>
  t σ H _ fun vs H1 e1 d1 => ⟨by rw [dpAll_len d1, sizeLine_eq]; omega, fun p hp => k _ _ (e1.trans (Ex.new hp)) (.tup (SqT.of upd_same) (DpAll.mono kpE (Ex.new hp) d1))⟩
theorem lst_de {ta : TA} {ds : List PyData} {σ : L2.St} {H : Hp} {Q : VK} (h : DA K ta ds) (hz : ds.length ≤ 1000) (k : ∀ p xs H', Ex H H' → H' p = some (.lst xs) → DpAll K H' xs ds → Q (.ref p) H') : tLst ta σ H Q :=
  h _ _ _ fun vs H1 e1 d1 => ⟨by rw [dpAll_len d1, sizeLine_eq]; omega, fun p hp => k p vs _ (e1.trans (Ex.new hp)) upd_same (DpAll.mono kpE (Ex.new hp) d1)⟩
theorem seq_lst {ta : TA} {ds : List PyData} {i : Nat} {u : TS} {D : Ends} {σ : L2.St} {H : Hp} (h : DA K ta ds) (hz : ds.length ≤ 1000) (k : ∀ p xs H', Ex H H' → H' p = some (.lst xs) → DpAll K H' xs ds → u D (σ.set i (some (.ref p))) H') : tSeq (tAsg (tLst ta) (gName i)) u D σ H := by
  show tLst ta σ H (fun x H1 => gName i x σ H1 (u D))
  exact lst_de h hz k
theorem gName_k {i : Nat} {x : V} {σ : L2.St} {H : Hp} {k : L2.St → Hp → Prop} (h : k (σ.set i (some x)) H) : gName i x σ H k := h
theorem da_strs : ∀ l : List Str, DA K (tSs l) (l.map .str)
  | [] => da_nil
  | x :: l => da_cons (de_str x) (da_strs l)
theorem de_strs {l : List Str} (h : l.length ≤ 1000) : DE K (tTup (tSs l)) (.tuple (l.map .str)) := de_tup (da_strs l) (by rw [List.length_map]; exact h)
theorem da_rows : ∀ {rows : Rows}, (∀ r ∈ rows, r.2.length ≤ 40) → DA K (tRows rows) (rows.map rowD)
  | [], _ => da_nil
  | r :: l, h => da_cons (de_tup (da_cons (de_str r.1) (da_cons (de_strs (Nat.le_trans (h r List.mem_cons_self) (by decide))) da_nil)) (by show (2 : Nat) ≤ 1000; decide)) (da_rows fun x hx => h x (List.mem_cons_of_mem _ hx))
theorem de_rows {rows : Rows} (T : ∀ r ∈ rows, r.2.length ≤ 40) (hl : rows.length ≤ 8) : DE K (tTup (tRows rows)) (.tuple (rows.map rowD)) := de_tup (da_rows T) (by rw [List.length_map]; omega)
theorem de_tome {rows : Rows} {emp : List Str} (T : ∀ r ∈ rows, r.2.length ≤ 40) (hl : rows.length ≤ 8) (he : emp.length ≤ 40) : DE K (tTome rows emp) (tomeD rows emp) :=
  de_tup (da_cons (de_rows T hl) (da_cons (de_strs (by omega)) da_nil)) (by show (2 : Nat) ≤ 1000; decide)
theorem de_kd {a b c : List Str} (ha : a.length ≤ 1000) (hb : b.length ≤ 1000) (hc : c.length ≤ 1000) : DE K (tKd a b c) (kindsD a b c) :=
  de_tup (da_cons (de_strs ha) (da_cons (de_strs hb) (da_cons (de_strs hc) da_nil))) (by show (3 : Nat) ≤ 1000; decide)
theorem okd_kinds {a b c : List Str} (ha : a.length ≤ 1000) (hb : b.length ≤ 1000) (hc : c.length ≤ 1000) : Okd 2 (kindsD a b c) := by
  refine ⟨by show (3 : Nat) ≤ 1000; decide, fun x hx => ?_⟩
  rcases List.mem_cons.mp hx with rfl | hx
  · exact okd_strs ha
  rcases List.mem_cons.mp hx with rfl | hx
  · exact okd_strs hb
  rcases List.mem_cons.mp hx with rfl | hx
  · exact okd_strs hc
  · nomatch hx
theorem ns_ds {H : Hp} {v : V} {l : List Str} (h : NS H v l) : Ds H v (.tuple (l.map .str)) := by
  obtain ⟨a, rfl, ha⟩ := h
  refine .tup ha ?_
  have : ∀ l : List Str, DsAll H (sL l) (l.map .str) := fun l => by
    induction l with
    | nil => exact .nil
    | cons x l ih => exact .cons (.str x) ih
  exact this l
theorem three_ds {H : Hp} {r : V} {a b c : List Str} (h : Three H r a b c) : Ds H r (kindsD a b c) := by
  obtain ⟨t, x, y, z, rfl, ht, hx, hy, hz⟩ := h
  exact .tup ht (.cons (ns_ds hx) (.cons (ns_ds hy) (.cons (ns_ds hz) .nil)))
end
theorem dp_pair {K : PySem.W.Frag} {H : Hp} {v : V} {d1 d2 : PyData} (h : Dp K H v (.tuple [d1, d2])) : ∃ a x y, v = .ref a ∧ SqT K H a [x, y] ∧ Dp K H x d1 ∧ Dp K H y d2 := by
  cases h with
  | tup e t =>
    cases t with
    | cons a t =>
      cases t with
      | cons b t =>
        cases t
        exact ⟨_, _, _, rfl, e, a, b⟩
theorem dp_tup {K : PySem.W.Frag} {H : Hp} {v : V} {ds : List PyData} (h : Dp K H v (.tuple ds)) : ∃ a xs, v = .ref a ∧ SqT K H a xs ∧ DpAll K H xs ds := by
  cases h with
  | tup e t => exact ⟨_, _, rfl, e, t⟩
theorem dpAll_app {K : PySem.W.Frag} {H : Hp} : ∀ {xs ys : List V} {ds es : List PyData}, DpAll K H xs ds → DpAll K H ys es → DpAll K H (xs ++ ys) (ds ++ es)
  | _, _, _, _, .nil, h => h
  | _, _, _, _, .cons a b, h => .cons a (dpAll_app b h)
theorem cat_dp {K : PySem.W.Frag} {H : Hp} {Q : VK} {x y : V} {ds es : List PyData} (hx : Dp K H x (.tuple ds)) (hy : Dp K H y (.tuple es)) (hz : ds.length + es.length ≤ 1000) (k : ∀ v H', Ex H H' → Dp K H' v (.tuple (ds ++ es)) → Q v H') : rCatA K x y H Q := by
  obtain ⟨a, xs, rfl, sa, da⟩ := dp_tup hx
  obtain ⟨b, ys, rfl, sb, db⟩ := dp_tup hy
  have la := dpAll_len da
  have lb := dpAll_len db
  refine ⟨a, b, xs, ys, rfl, rfl, sa, sb, by rw [la, lb, sizeLine_eq]; omega, fun h => ?_, fun _ h => ?_, fun _ _ p hp => ?_⟩
  · subst h
    have : ds = [] := List.length_eq_zero_iff.mp la.symm
    subst this
    exact k _ H (Ex.refl _) hy
  · subst h
    have : es = [] := List.length_eq_zero_iff.mp lb.symm
    subst this
    rw [List.append_nil] at k
    exact k _ H (Ex.refl _) hx
  · exact k _ _ (Ex.new hp) (.tup (SqT.of upd_same) (DpAll.mono kpE (Ex.new hp) (dpAll_app da db)))
abbrev sKnown : Stmt := top 46
abbrev nKnown : List Str := ["_law_line", "_law_star", "_law_kite", "_law_round_so", "_law_told", "_law_goal", "_law_lone", "_law_tome"]
theorem scKnown : FnScope nKnown [] (defScope sKnown) := ⟨rfl, rfl, rfl, by decide +kernel, rfl, by decide +kernel, by decide +kernel⟩
def spKnown : Sq := fun vs H Q => vs = [] ∧ ∀ H', Ex H H' → Q (.bl true) H'
section
variable {P : Program} {w : World} {K : PySem.W.Frag} {mg : Str → Option Value} {base : Heap} {f : Addr}
theorem ok_known (F : Fn K "_law_known_right" "_law_known_right" sKnown [] [] f) (T : Blt mg) (GK : Pr P w K mg base "kinds" 13 (spKinds K)) (GS : Pr P w K mg base "_law_same" 4 (spSame K 3)) (GC : Pr2 P w K mg base "_law_case_right" 45 (spCase K)) : FnR2 P w K mg base 46 f spKnown := by
  have nd := scKnown.nd
  refine Fn.ok2 (ps := []) F scKnown (fun kV doc pm an cdv ct us hl => by match us, hl with | [], _ => rfl) (fun vs H Q ⟨e, _⟩ => by rw [e]; rfl) (fun cdv A outer s H vs Q hr h => ?_)
  obtain ⟨rfl, k⟩ := h
  refine ⟨_, pss2_cons (ps2 (ps_set (i := 0) nd rfl (Or.inl rfl) (show PE _ _ (tTome rLine []) from (pe_tup (pa_cons (pe_tup (pa_cons (pe_tup (pa_cons pe_str (pa_cons (pe_tup (pa_cons pe_str pa_nil)) pa_nil))) (pa_cons (pe_tup (pa_cons pe_str (pa_cons (pe_tup (pa_cons pe_str (pa_cons pe_str pa_nil))) pa_nil))) (pa_cons (pe_tup (pa_cons pe_str (pa_cons (pe_tup (pa_cons pe_str pa_nil)) pa_nil))) pa_nil)))) (pa_cons (pe_tup pa_nil) pa_nil))))))
    (pss2_cons (ps2 (ps_set (i := 1) nd rfl (Or.inl rfl) (show PE _ _ (tTome rStar []) from (pe_tup (pa_cons (pe_tup (pa_cons (pe_tup (pa_cons pe_str (pa_cons (pe_tup (pa_cons pe_str pa_nil)) pa_nil))) (pa_cons (pe_tup (pa_cons pe_str (pa_cons (pe_tup (pa_cons pe_str pa_nil)) pa_nil))) (pa_cons (pe_tup (pa_cons pe_str (pa_cons (pe_tup (pa_cons pe_str pa_nil)) pa_nil))) (pa_cons (pe_tup (pa_cons pe_str (pa_cons (pe_tup (pa_cons pe_str (pa_cons pe_str (pa_cons pe_str pa_nil)))) pa_nil))) pa_nil))))) (pa_cons (pe_tup pa_nil) pa_nil))))))
    (pss2_cons (ps2 (ps_set (i := 2) nd rfl (Or.inl rfl) (show PE _ _ (tTome rKite []) from (pe_tup (pa_cons (pe_tup (pa_cons (pe_tup (pa_cons pe_str (pa_cons (pe_tup (pa_cons pe_str (pa_cons pe_str pa_nil))) pa_nil))) (pa_cons (pe_tup (pa_cons pe_str (pa_cons (pe_tup (pa_cons pe_str (pa_cons pe_str pa_nil))) pa_nil))) (pa_cons (pe_tup (pa_cons pe_str (pa_cons (pe_tup (pa_cons pe_str (pa_cons pe_str (pa_cons pe_str pa_nil)))) pa_nil))) (pa_cons (pe_tup (pa_cons pe_str (pa_cons (pe_tup (pa_cons pe_str pa_nil)) pa_nil))) pa_nil))))) (pa_cons (pe_tup pa_nil) pa_nil))))))
    (pss2_cons (ps2 (ps_set (i := 3) nd rfl (Or.inl rfl) (show PE _ _ (tTome rRing []) from (pe_tup (pa_cons (pe_tup (pa_cons (pe_tup (pa_cons pe_str (pa_cons (pe_tup (pa_cons pe_str (pa_cons pe_str pa_nil))) pa_nil))) (pa_cons (pe_tup (pa_cons pe_str (pa_cons (pe_tup (pa_cons pe_str (pa_cons pe_str pa_nil))) pa_nil))) (pa_cons (pe_tup (pa_cons pe_str (pa_cons (pe_tup (pa_cons pe_str (pa_cons pe_str pa_nil))) pa_nil))) (pa_cons (pe_tup (pa_cons pe_str (pa_cons (pe_tup pa_nil) pa_nil))) pa_nil))))) (pa_cons (pe_tup pa_nil) pa_nil))))))
    (pss2_cons (ps2 (ps_set (i := 3) nd rfl (Or.inl rfl) (pe_tup (pa_cons (pe_op op_catA (pe_ix ix_tup (pv 3) pe_int (fun _ _ => rfl)) (show PE _ _ (tTup (tRows rTail)) from (pe_tup (pa_cons (pe_tup (pa_cons pe_str (pa_cons (pe_tup (pa_cons pe_str pa_nil)) pa_nil))) (pa_cons (pe_tup (pa_cons pe_str (pa_cons (pe_tup (pa_cons pe_str pa_nil)) pa_nil))) pa_nil))))) (pa_cons (show PE _ _ (tTup (tSs [])) from pe_tup pa_nil) pa_nil)))))
    (pss2_cons (ps2 (ps_setLc (i := 4) (own := [("_law_tome", 7)]) (g := gName 7) (tt := tYes) rfl nd rfl rfl (sw_true rfl rfl rfl (by decide +kernel)) (pi_tup (pe_tup (pa_cons (pv 0) (pa_cons (pv 1) (pa_cons (pv 2) (pa_cons (pv 3) pa_nil)))))) (blkOk_by (N := nKnown) (sc := defScope sKnown) (by decide +kernel))
      (fun _ _ _ _ _ => pg_name (i := 7) nd rfl (Or.inl rfl)) (fun _ _ _ _ _ => pts_nil) (fun _ _ _ _ _ => pe_pr GK (hr.mono (by decide)) (by rfl) (pa_cons (pv 7) pa_nil))))
    (pss2_cons (ps2 (ps_set (i := 5) nd rfl (Or.inl rfl) (pe_lst (pa_cons (show PE _ _ (tKd ["a", "c"] ["b"] []) from (pe_tup (pa_cons (pe_tup (pa_cons pe_str (pa_cons pe_str pa_nil))) (pa_cons (pe_tup (pa_cons pe_str pa_nil)) (pa_cons (pe_tup pa_nil) pa_nil))))) (pa_cons (show PE _ _ (tKd ["a", "b", "c"] ["m"] []) from (pe_tup (pa_cons (pe_tup (pa_cons pe_str (pa_cons pe_str (pa_cons pe_str pa_nil)))) (pa_cons (pe_tup (pa_cons pe_str pa_nil)) (pa_cons (pe_tup pa_nil) pa_nil))))) (pa_cons (show PE _ _ (tKd [] [] ["a", "b", "c", "d"]) from (pe_tup (pa_cons (pe_tup pa_nil) (pa_cons (pe_tup pa_nil) (pa_cons (pe_tup (pa_cons pe_str (pa_cons pe_str (pa_cons pe_str (pa_cons pe_str pa_nil))))) pa_nil))))) pa_nil))))))
    (pss2_cons (ps2 (ps_if (pt_not (pt_val (pe_pr GS (hr.mono (by decide)) (by rfl) (pa_cons (pv 4) (pa_cons (pe_op op_cat (pv 5) (pe_lst (pa_cons (show PE _ _ (tKd ["a", "b", "c", "d"] [] ["e", "f"]) from (pe_tup (pa_cons (pe_tup (pa_cons pe_str (pa_cons pe_str (pa_cons pe_str (pa_cons pe_str pa_nil))))) (pa_cons (pe_tup pa_nil) (pa_cons (pe_tup (pa_cons pe_str (pa_cons pe_str pa_nil))) pa_nil))))) pa_nil))) pa_nil))))) (pss_one (ps_ret pe_bl)) pss_nil))
    (pss2_cons (ps2 (ps_set (i := 6) nd rfl (Or.inl rfl) (show PE _ _ (tTome rLone []) from (pe_tup (pa_cons (pe_tup (pa_cons (pe_tup (pa_cons pe_str (pa_cons (pe_tup (pa_cons pe_str pa_nil)) pa_nil))) pa_nil)) (pa_cons (pe_tup pa_nil) pa_nil))))))
    (pss2_one (ps2_ret (pe2_callB (cr_all rfl) (by rfl) T.all (by decide +kernel) (pa2_cons' (pe2_lc (own := [("_law_tome", 7)]) (g := gName 7) rfl nd (pi_tup (pe_tup (pa_cons (pv 0) (pa_cons (pv 1) (pa_cons (pv 2) (pa_cons (pv 3) (pa_cons (show PE _ _ (tTome [] ["x"]) from (pe_tup (pa_cons (pe_tup pa_nil) (pa_cons (pe_tup (pa_cons pe_str pa_nil)) pa_nil)))) (pa_cons (pv 6) pa_nil)))))))) (blkOk_by (N := nKnown) (sc := defScope sKnown) (by decide +kernel))
      (fun _ _ _ _ _ => pg_name (i := 7) nd rfl (Or.inl rfl)) (fun _ _ _ _ _ => pe2_pr GC hr (by rfl) (pa2 (pa_cons (pv 7) pa_nil)))) pa2_nil)))))))))))), ?_⟩
  refine seq_de (de_tome (K := K) o_rLine.wl o_rLine.len (by decide)) fun v1 H1 e1 d1 => ?_
  refine seq_de (de_tome (K := K) o_rStar.wl o_rStar.len (by decide)) fun v2 H2 e2 d2 => ?_
  refine seq_de (de_tome (K := K) o_rKite.wl o_rKite.len (by decide)) fun v3 H3 e3 d3 => ?_
  refine seq_de (de_tome (K := K) (rows := rRing) (emp := []) (by decide +kernel) (by decide) (by decide)) fun v4 H4 e4 d4 => ?_
  obtain ⟨a4, x4, y4, rfl, s4, dx4, _⟩ := dp_pair d4
  refine ⟨.ref a4, rfl, a4, [x4, y4], 0, x4, rfl, rfl, s4, rfl, ?_⟩
  show (tTup (tRows rTail)) _ _ _
  refine (de_rows (K := K) (rows := rTail) (by decide +kernel) (by decide)) _ _ _ fun v5 H5 e5 d5 => ?_
  refine cat_dp (Dp.mono kpE e5 dx4) d5 (by decide) fun v6 H6 e6 d6 => ?_
  show (tCons (tTup (tSs [])) tNil) _ _ _
  refine cons_de (de_strs (K := K) (l := []) (by decide)) fun v7 H7 e7 d7 => ⟨by show (2 : Nat) ≤ sizeLine; decide, fun p8 hp8 => ?_⟩
  have e8 : Ex H7 (upd H7 p8 (.tup [v6, v7])) := Ex.new hp8
  have h8 : (upd H7 p8 (.tup [v6, v7])) p8 = some (.tup [v6, v7]) := upd_same
  generalize upd H7 p8 (.tup [v6, v7]) = H8 at e8 h8
  rw [← List.map_append] at d6
  have d8 : Dp K H8 (.ref p8) (tomeD rRound []) := .tup (SqT.of h8) (.cons (Dp.mono kpE (e7.trans e8) d6) (.cons (Dp.mono kpE e8 d7) .nil))
  have d1' := Dp.mono kpE (((((e2.trans e3).trans e4).trans e5).trans e6).trans (e7.trans e8)) d1
  have d2' := Dp.mono kpE ((((e3.trans e4).trans e5).trans e6).trans (e7.trans e8)) d2
  have d3' := Dp.mono kpE (((e4.trans e5).trans e6).trans (e7.trans e8)) d3
  have e08 := (((((e1.trans e2).trans e3).trans e4).trans e5).trans e6).trans (e7.trans e8)
  clear e1 e2 e3 e4 e5 e6 e7 e8 d1 d2 d3 d4 d5 d6 d7 h8
  refine ⟨v1, rfl, v2, rfl, v3, rfl, .ref p8, rfl, by show (4 : Nat) ≤ sizeLine; decide, fun tp htp => ?_⟩
  have e9 : Ex H8 (upd H8 tp (.tup [v1, v2, v3, .ref p8])) := Ex.new htp
  have h9 : (upd H8 tp (.tup [v1, v2, v3, .ref p8])) tp = some (.tup [v1, v2, v3, .ref p8]) := upd_same
  generalize upd H8 tp (.tup [v1, v2, v3, .ref p8]) = H9 at e9 h9
  have hall : ∀ z ∈ [(v1, rLine), (v2, rStar), (v3, rKite), (V.ref p8, rRound)], Dp K H9 z.1 (tomeD z.2 []) ∧ TomeOk z.2 [] := fun z hz => by
    rcases List.mem_cons.mp hz with rfl | hz
    · exact ⟨Dp.mono kpE e9 d1', o_rLine⟩
    rcases List.mem_cons.mp hz with rfl | hz
    · exact ⟨Dp.mono kpE e9 d2', o_rStar⟩
    rcases List.mem_cons.mp hz with rfl | hz
    · exact ⟨Dp.mono kpE e9 d3', o_rKite⟩
    rcases List.mem_cons.mp hz with rfl | hz
    · exact ⟨Dp.mono kpE e9 d8, o_rRound⟩
    · nomatch hz
  have h9' : SqT K H9 tp ([(v1, rLine), (v2, rStar), (v3, rKite), (V.ref p8, rRound)].map Prod.fst) := SqT.of h9
  have htold : ([(v1, rLine), (v2, rStar), (v3, rKite), (V.ref p8, rRound)].map fun z => kindsD (freeN z.2) (holdN z.2) (fixN z.2)) = [kindsD (freeN rLine) (holdN rLine) (fixN rLine), kindsD (freeN rStar) (holdN rStar) (fixN rStar), kindsD (freeN rKite) (holdN rKite) (fixN rKite), kindsD (freeN rRound) (holdN rRound) (fixN rRound)] := rfl
  have hlen : [(v1, rLine), (v2, rStar), (v3, rKite), (V.ref p8, rRound)].length = 4 := rfl
  refine ⟨tp, rfl, ⟨_, h9'⟩, ?_⟩
  generalize [(v1, rLine), (v2, rStar), (v3, rKite), (V.ref p8, rRound)] = fs at hall h9' htold hlen
  refine lcJ_in (P := fun i acc H' => DsAll H' acc ((fs.take i).map fun z => kindsD (freeN z.2) (holdN z.2) (fixN z.2))) kpE (goes_tupM kpE h9') (by omega) (fun _ _ => .nil) (fun D i x H' hi hi2 it o => ?_) (fun D H10 acc hD e10 hacc hP => ?_)
  · obtain ⟨z, hz, rfl⟩ := it
    obtain ⟨hd, ho⟩ := hall z (List.mem_of_getElem? hz)
    refine ⟨rfl, tyes_lc ?_⟩
    refine ⟨z.1, rfl, z.1, z.2, [], rfl, Dp.mono kpE o.step hd, ho, fun r H2 e2 h3 => ?_⟩
    refine o.yes kpE (fun _ _ _ _ p r => DsAll.mono kpE r p) (fun i acc H l o' h q => q.upd h) hi2 e2 fun acc p => ?_
    rw [take_succ_some hz, List.map_append]
    exact (DsAll.mono kpE e2 p).snoc (three_ds h3)
  rw [List.take_length, htold, k_rLine.1, k_rLine.2.1, k_rLine.2.2, k_rStar.1, k_rStar.2.1, k_rStar.2.2, k_rKite.1, k_rKite.2.1, k_rKite.2.2, k_rRound.1, k_rRound.2.1, k_rRound.2.2] at hP
  have hD9 : Ex H9 H10 := e10
  have e010 := (e08.trans e9).trans e10
  have td : DpAll K H10 acc _ := hP.dp
  -- the goal
  refine gName_k ?_
  refine seq_lst (K := K) (da_cons (de_kd (by decide) (by decide) (by decide)) (da_cons (de_kd (by decide) (by decide) (by decide)) (da_cons (de_kd (by decide) (by decide) (by decide)) da_nil))) (by decide) fun g gs H11 e11 hg dg => ?_
  refine ⟨.ref D, rfl, .ref g, rfl, ?_⟩
  show (tLst _) _ _ _
  refine lst_de (K := K) (da_cons (de_kd (by decide) (by decide) (by decide)) da_nil) (by decide) fun q qs H12 e12 hq dq => ?_
  refine ⟨g, q, gs, qs, rfl, rfl, e12 _ _ hg, hq, ?_, fun q4 hq4 => ?_⟩
  · rw [dpAll_len dg, dpAll_len dq, sizeLine_eq]; decide
  have e13 : Ex H12 (upd H12 q4 (.lst (gs ++ qs))) := Ex.new hq4
  have h13 : (upd H12 q4 (.lst (gs ++ qs))) q4 = some (.lst (gs ++ qs)) := upd_same
  generalize upd H12 q4 (.lst (gs ++ qs)) = H13 at e13 h13
  refine ⟨.ref D, .ref q4, .list _, rfl, .lst (SqL.of (((e11.trans e12).trans e13) _ _ hacc)) (DpAll.mono kpE ((e11.trans e12).trans e13) td), .lst (SqL.of h13) (dpAll_app (DpAll.mono kpE (e12.trans e13) dg) (DpAll.mono kpE e13 dq)), ⟨by decide, fun x hx => ?_⟩, fun H14 e14 => ⟨true, rfl, iteN rfl ?_⟩⟩
  · rcases List.mem_cons.mp hx with rfl | hx
    · exact okd_kinds (by decide) (by decide) (by decide)
    rcases List.mem_cons.mp hx with rfl | hx
    · exact okd_kinds (by decide) (by decide) (by decide)
    rcases List.mem_cons.mp hx with rfl | hx
    · exact okd_kinds (by decide) (by decide) (by decide)
    rcases List.mem_cons.mp hx with rfl | hx
    · exact okd_kinds (by decide) (by decide) (by decide)
    · nomatch hx
  have e014 := (((e010.trans e11).trans e12).trans e13).trans e14
  have e914 := ((((hD9.trans e11).trans e12).trans e13).trans e14)
  show (tSeq (tAsg (tTome rLone []) (gName 6)) _) _ _ _
  refine seq_de (de_tome (K := K) o_rLone.wl o_rLone.len (by decide)) fun v15 H15 e15 d15 => ?_
  refine ⟨v1, rfl, v2, rfl, v3, rfl, .ref p8, rfl, ?_⟩
  refine cons_de (de_tome (K := K) (rows := []) (emp := ["x"]) (by decide +kernel) (by decide) (by decide)) fun v16 H16 e16 d16 => ?_
  refine ⟨v15, rfl, by show (6 : Nat) ≤ sizeLine; decide, fun t2 ht2 => ?_⟩
  have e17 : Ex H16 (upd H16 t2 (.tup [v1, v2, v3, .ref p8, v16, v15])) := Ex.new ht2
  have h17 : (upd H16 t2 (.tup [v1, v2, v3, .ref p8, v16, v15])) t2 = some (.tup [v1, v2, v3, .ref p8, v16, v15]) := upd_same
  generalize upd H16 t2 (.tup [v1, v2, v3, .ref p8, v16, v15]) = H17 at e17 h17
  have e1417 := (e15.trans e16).trans e17
  have e817 := (e9.trans e914).trans e1417
  have hall2 : ∀ x ∈ [v1, v2, v3, .ref p8, v16, v15], ∃ rows emp, Dp K H17 x (tomeD rows emp) ∧ TomeOk rows emp := fun x hx => by
    rcases List.mem_cons.mp hx with rfl | hx
    · exact ⟨_, _, Dp.mono kpE e817 d1', o_rLine⟩
    rcases List.mem_cons.mp hx with rfl | hx
    · exact ⟨_, _, Dp.mono kpE e817 d2', o_rStar⟩
    rcases List.mem_cons.mp hx with rfl | hx
    · exact ⟨_, _, Dp.mono kpE e817 d3', o_rKite⟩
    rcases List.mem_cons.mp hx with rfl | hx
    · exact ⟨_, _, Dp.mono kpE e817 d8, o_rRound⟩
    rcases List.mem_cons.mp hx with rfl | hx
    · exact ⟨_, _, Dp.mono kpE e17 d16, o_none⟩
    rcases List.mem_cons.mp hx with rfl | hx
    · exact ⟨_, _, Dp.mono kpE (e16.trans e17) d15, o_rLone⟩
    · nomatch hx
  have h17' : SqT K H17 t2 [v1, v2, v3, .ref p8, v16, v15] := SqT.of h17
  have len6 : [v1, v2, v3, V.ref p8, v16, v15].length = 6 := rfl
  generalize [v1, v2, v3, V.ref p8, v16, v15] = xs at hall2 h17' len6
  refine ⟨t2, rfl, ⟨_, h17'⟩, lcJ_in (P := fun i acc _ => acc = (List.replicate i true).map V.bl) kpE (goes_tup kpE h17') (by omega) (fun _ _ => rfl) (fun D i x H' hi hi2 it o => ?_) (fun D H18 acc hD e18 hacc hP => ?_)⟩
  · obtain ⟨rows, emp, hd, ho⟩ := hall2 x (List.mem_of_getElem? it)
    refine ⟨rfl, tyes_lc ?_⟩
    refine ⟨x, rfl, x, rows, emp, rfl, Dp.mono kpE o.step hd, ho, fun H2 e2 => ?_⟩
    refine o.yes kpE (fun _ _ _ _ p _ => p) (fun _ _ _ _ _ _ p => p) hi2 e2 fun acc p => ?_
    rw [p, List.replicate_succ', List.map_append]
    rfl
  · refine ⟨D, List.replicate _ true, rfl, SqL.of (by rw [hacc, hP]), ?_⟩
    rw [show (List.replicate xs.length true).all id = true by simp]
    exact k _ ((e014.trans e1417).trans e18)
end
end CH
/-! text L11 -/
/-! _law_right, law. -/
namespace CH
open PySem PySem.Spec PyProof.Rows L2 Evl RZ
abbrev sRight : Stmt := top 47
theorem scRight : FnScope ["_law_urn"] ["_law_urn"] (defScope sRight) := ⟨rfl, rfl, rfl, by decide +kernel, rfl, by decide +kernel, by decide +kernel⟩
def spRight : Sq := fun vs H Q => ∃ a, vs = [.ref a] ∧ Urn H a 0 ∧ ∀ H', Xa a H H' → Q (.bl true) H'
abbrev sLaw : Stmt := top 48
abbrev nLaw : List Str := ["_law_script", "_law_cells_here", "_law_k"]
theorem scLaw : FnScope nLaw ["_law_script"] (defScope sLaw) := ⟨rfl, rfl, rfl, by decide +kernel, rfl, by decide +kernel, by decide +kernel⟩
def spLaw (K : PySem.W.Frag) : Sq := fun vs H Q => ∃ (a : Addr) (ns : List Int), vs = [.ref a] ∧ SqL K H a (ns.map V.int) ∧ ns.length ≤ 1000 ∧ ∀ H', Ex H H' → Q (.bl true) H'
section
variable {P : Program} {w : World} {K : PySem.W.Frag} {mg : Str → Option Value} {base : Heap} {f : Addr}
theorem ok_right (F : Fn K "_law_right" "_law_right" sRight [] [] f) (GB : Pr P w K mg base "_law_book" 3 (spBook K)) (GC : Pr2 P w K mg base "_law_case_right" 45 (spCase K)) : FnR2 P w K mg base 46 f spRight := by
  have nd := scRight.nd
  refine Fn.ok2 (ps := ["_law_urn"]) F scRight (fun kV doc pm an cdv ct us hl => by match us, hl with | [u], _ => rfl) (fun vs H Q ⟨_, e, _⟩ => by rw [e]; rfl) (fun cdv A outer s H vs Q hr h => ?_)
  obtain ⟨a, rfl, ur, k⟩ := h
  refine ⟨_, pss2_one (ps2_ret (pe2_and (pe2_pr GC hr (by rfl) (pa2 (pa_cons (pe_pr GB (hr.mono (by decide)) (by rfl) (pa_cons (pv 0) (pa_cons pe_int (pa_cons pe_int pa_nil)))) pa_nil)))
    (pe2_pr GC hr (by rfl) (pa2 (pa_cons (pe_pr GB (hr.mono (by decide)) (by rfl) (pa_cons (pv 0) (pa_cons pe_int (pa_cons pe_int pa_nil)))) pa_nil))))), ?_⟩
  refine ⟨.ref a, rfl, a, 8, 1, 0, rfl, by decide, by decide, by decide, ur, by decide, fun r H1 rows emp x1 u1 d1 o1 => ⟨r, rows, emp, rfl, d1, o1, fun H2 e2 => ⟨true, rfl, iteY rfl ?_⟩⟩⟩
  exact ⟨.ref a, rfl, a, 7, 0, 200, rfl, by decide, by decide, by decide, u1.ex e2, by decide, fun r H3 rows emp x3 u3 d3 o3 => ⟨r, rows, emp, rfl, d3, o3, fun H4 e4 => k H4 (((x1.trans (Xa.ex e2)).trans x3).trans (Xa.ex e4))⟩⟩
theorem ok_law (F : Fn K "law" "law" sLaw [] [] f) (T : Blt mg) (GL : Pr P w K mg base "_law_cells" 1 (spCells K)) (GB : Pr P w K mg base "_law_box" 1 (spBox K)) (GK : Pr2 P w K mg base "_law_known_right" 46 spKnown) (GR : Pr2 P w K mg base "_law_right" 46 spRight) : FnR2 P w K mg base 47 f (spLaw K) := by
  have nd := scLaw.nd
  refine Fn.ok2 (ps := ["_law_script"]) F scLaw (fun kV doc pm an cdv ct us hl => by match us, hl with | [u], _ => rfl) (fun vs H Q ⟨_, _, e, _⟩ => by rw [e]; rfl) (fun cdv A outer s H vs Q hr h => ?_)
  obtain ⟨a, ns, rfl, ha, hz, k⟩ := h
  refine ⟨_, pss2_cons (ps2 (ps_set (i := 1) nd rfl (Or.inr rfl) (pe_pr GL (hr.mono (by decide)) (by rfl) (pa_cons (pv 0) (pa_cons pe_int pa_nil)))))
    (pss2_one (ps2_ret (pe2_and (pe2_pr0 GK hr (by rfl)) (pe2_callB (cr_all rfl) (by rfl) T.all (by decide +kernel) (pa2_cons' (pe2_lc (own := [("_law_k", 2)]) (g := gName 2) rfl nd (pi_range1 (by rfl) T.range (pa_cons (pe_callB call_len_seq (by rfl) T.len (by decide +kernel) (pa_cons (pv 1) pa_nil)) pa_nil)) (blkOk_by (N := nLaw) (sc := defScope sLaw) (by decide +kernel))
      (fun _ _ _ _ _ => pg_name (i := 2) nd rfl (Or.inl rfl)) (fun _ _ _ _ _ => pe2_pr GR hr (by rfl) (pa2 (pa_cons (pe_pr GB (hr.mono (by decide)) (by rfl) (pa_cons (pv 1) (pa_cons (pv 2) pa_nil))) pa_nil)))) pa2_nil))))), ?_⟩
  refine ⟨.ref a, rfl, a, ns, rfl, ha, hz, fun C H1 ms e1 h1 c1 c3 => ⟨rfl, fun H2 e2 => ⟨true, rfl, iteY rfl ?_⟩⟩⟩
  have h2 := e2 _ _ h1
  refine ⟨.ref C, rfl, C, ms.map V.int, rfl, .inl (SqL.of h2), (ms.map V.int).length, rfl, ?_, ?_, ?_⟩
  · rw [List.length_map]; omega
  · rw [List.length_map]; omega
  rw [List.length_map, show ((ms.length : Int)).toNat = ms.length from rfl]
  refine lcJ_in (P := fun i acc _ => acc = (List.replicate i true).map V.bl) kpE goes_rng (by omega) (fun _ _ => rfl) (fun D i x H' hi hi2 it o => ?_) (fun D H3 acc hD e3 hacc hP => ?_)
  · subst it
    rw [Int.zero_add]
    refine ⟨rfl, tyes_lc ?_⟩
    have hC := o.step _ _ h2
    refine ⟨.ref C, rfl, .int (i : Int), rfl, C, ms, i, rfl, SqL.of hC, hi, by omega, fun p H4 e4 hp u4 => ⟨p, rfl, u4, fun H5 x5 => ?_⟩⟩
    refine o.yes kpE (fun _ _ _ _ p _ => p) (fun _ _ _ _ _ _ p => p) hi2 (fun b u hb => x5 b u (fun z => by rw [z, hp] at hb; cases hb) (e4 b u hb)) fun acc p => ?_
    rw [p, List.replicate_succ', List.map_append]
    rfl
  · refine ⟨D, List.replicate _ true, rfl, SqL.of (by rw [hacc, hP]), ?_⟩
    rw [show (List.replicate ms.length true).all id = true by simp]
    exact k _ ((e1.trans e2).trans e3)
end
end CH
/-! text HD4 -/
/-! The end, over the milder model. -/
namespace CH
open PySem PySem.Spec PySem.W PySem.Calls PyProof.Rows L2
section
variable {P : Program} {w : World} {K : PySem.W.Frag} {mg mb : Str → Option Value}
theorem ny_nil {g : Array GenState} (h : g = #[]) : Ny g := by
  subst h
  intro i k l c p fs cl e
  simp at e
theorem law_call2 {k : Nat} {fa a : Addr} {sp : Sq} {s₁ : Shared} {vs : List Value} {ns : List Int}
    (KX : K.In s₁.heap) (hns : s₁.heap.Ns mainGlobals mg) (hb : s₁.heap.Ns builtinsNs mb) (hbb : ∀ x : Str, x ≠ "__name__" → mb x = bootBuiltins x) (hlim : s₁.heap.NoLimit) (hg : s₁.gens = #[])
    (ha : s₁.heap.get? a = some { cls := .type "list", data := .seq vs.toArray }) (hi : IntsAre vs ns) (hl : ns.length ≤ sizeLine) (hr : Room k callerA)
    (F : ∀ base : Heap, K.In base → base.Ns mainGlobals mg → FnR2 P w K mg base k fa sp)
    (hsp : ∀ H : Hp, Only H → SqL K H a (ns.map V.int) → sp [.ref a] H (fun v _ => v = .bl true)) :
    codeAny (M2 P w) callerA (.call (.ref fa) ⟨[.ref a], []⟩) (fun r s' => r = .ok (.ret (.bool true)) ∧ OldK s₁.heap s'.heap ∧ s'.os = s₁.os ∧ AllBare s'.gens ∧ Ny s'.gens) s₁ := by
  have rv := vals_ints hi
  have lenV := hi.length
  have core : ∀ H : Hp, Only H → SqL K H a (ns.map V.int) → HOk P w H s₁.heap → (∀ b, H b ≠ none → b = a) → (H a ≠ none → K.lookup a = none) →
      codeAny (M2 P w) callerA (.call (.ref fa) ⟨[.ref a], []⟩) (fun r s' => r = .ok (.ret (.bool true)) ∧ OldK s₁.heap s'.heap ∧ s'.os = s₁.os ∧ AllBare s'.gens ∧ Ny s'.gens) s₁ := by
    intro H hO hS hok hA hK
    have base_of : ∀ {b : Addr} {o : Obj}, s₁.heap.get? b = some o → H b = none → (hidT s₁.heap H).get? b = some o := fun e n => hidT_get e n
    have noA : ∀ {b : Addr} {o : Obj} {es : Array DictEntry} {ep : Nat}, s₁.heap.get? b = some o → o.data = .dict es ep → H b = none := fun {b o es ep} e d => by
      cases q : H b with
      | none => rfl
      | some u =>
        have e' : b = a := hA b (by rw [q]; simp)
        subst e'
        rw [ha] at e; cases e
        have d' : Data.seq vs.toArray _ = Data.dict es ep := d
        cases d'
    have nsK : ∀ {b : Addr} {m : Str → Option Value}, s₁.heap.Ns b m → (hidT s₁.heap H).Ns b m := fun {b m} ⟨o, es, ep, e, d, r⟩ => ⟨o, es, ep, base_of e (noA e d), d, r⟩
    have hKb : K.In (hidT s₁.heap H) := fun b o e => base_of (KX b o e) (by
      cases q : H b with
      | none => rfl
      | some u =>
        have e' : b = a := hA b (by rw [q]; simp)
        subst e'
        rw [hK (by rw [q]; simp)] at e; cases e)
    have hM : Mod K mg (hidT s₁.heap H) := ⟨hKb, nsK hns, ⟨mb, nsK hb, hbb⟩, let ⟨mc, h1, h2⟩ := hlim; ⟨mc, nsK h1, h2⟩⟩
    have e0 : Env0 P w K mg (hidT s₁.heap H) callerA [] s₁ H := ⟨rfl, hM, fun b o e => of_hidT e, Nat.le_of_eq (hidT_size _ _), trivial, fun b hb => absurd (show b ∈ ([] : List Addr) from hb) (by simp), hok, .of_eq hg⟩
    refine codeAny_mono (F _ hKb (nsK hns) callerA [] s₁ H [.ref a] [.ref a] _ hr e0 (ny_nil hg) (.cons rfl .nil) (hsp H hO hS)) fun r s' h => ?_
    cases r with
    | error e => exact h.elim
    | ok fl =>
      cases fl with
      | next => exact False.elim h
      | brk => exact False.elim h
      | cont => exact False.elim h
      | ret u =>
        obtain ⟨⟨v, H', os, bare, un, hok', r', q⟩, ny⟩ := h
        have q' : v = .bl true := q
        subst q'
        obtain rfl : u = Value.bool true := r'
        refine ⟨rfl, OldK.of_keep fun b o e => ?_, os, bare, ny⟩
        cases q : H b with
        | none => exact un.keep b o e q (by intro z; exact absurd (show b ∈ ([] : List Addr) from z) (by simp)) (by simp)
        | some u =>
          rcases hO b with z | ⟨ob, xs, z⟩
          · rw [q] at z; cases z
          · have z2 := un.frzs b ob _ z
            obtain ⟨e1, _⟩ := hok b _ z
            obtain ⟨e2, _⟩ := hok' b _ z2
            rw [e] at e1; cases e1
            exact e2
  cases hk : K.lookup a with
  | some o =>
    have e := KX a o hk
    rw [ha] at e
    cases e
    refine core (fun _ => none) (fun _ => .inl rfl) (.inr ⟨_, vs.toArray, _, hk, rfl, rfl, rfl, by rw [List.size_toArray, lenV]; exact hl, by simpa using rv⟩) (fun b u z => by have z' : (none : Option HO) = some u := z; cases z') (fun b z => absurd rfl z) fun z => absurd rfl z
  | none =>
    refine core (fun b => if b = a then some (.frz { cls := .type "list", data := .seq vs.toArray } (.lst (ns.map V.int))) else none) (fun b => ?_) (.inl (.inr ⟨{ cls := .type "list", data := .seq vs.toArray }, if_pos rfl⟩)) (fun b u z => ?_) (fun b z => ?_) fun _ => hk
    · by_cases hb : b = a
      · exact .inr ⟨_, _, if_pos hb⟩
      · exact .inl (if_neg hb)
    · by_cases hb : b = a
      · have z' := (if_pos hb).symm.trans z
        cases z'
        subst hb
        exact ⟨ha, by rw [List.length_map]; exact hl, vs, _, rv, ha⟩
      · have z' := (if_neg hb).symm.trans z
        cases z'
    · by_cases hb : b = a
      · exact hb
      · exact absurd (if_neg hb) z
end
theorem callFrom2 {c : ClaimW} {tree : List Value → Sem PySem.Fin} {w : World} {s : Shared} {free : Addr → Prop} {gens : Prop} {kept : Heap → Prop} (hz : s.asleep) (hgens : s.gens = #[])
    (hspec : ∀ args, c.pre args = true → WData.layableAll args = true →
      ∀ ord : List DictEntry → List DictEntry, (∀ l, (ord l).Perm l) →
      ∃ vs s₁, layAllW c.records (classAt s.heap) w.params ord args s = some (vs, s₁) ∧
        wpAny (M2 c.prog w) callerA (tree vs) (fun fin s' => ∃ f, fin = .done f ∧ (c.Ends s args vs s₁ (.ok f) s' ∧ s'.os = s.os ∧ (AllBare s'.gens ∧ Ny s'.gens) ∧ kept s'.heap))
          (fun e s' => c.Ends s args vs s₁ (.error e) s' ∧ s'.os = s.os ∧ (AllBare s'.gens ∧ Ny s'.gens) ∧ kept s'.heap) s₁) :
    c.CallFrom (fun vs => ⟨tree vs, .builtin "claim.caller" {}, default, []⟩) w free gens kept s := by
  intro args hpre hlay ord hord
  obtain ⟨vs, s₁, hlaid, hcode⟩ := hspec args hpre hlay ord hord
  have hal := layAllW_rest _ _ _ hlaid
  obtain ⟨k, r, s', s'', hsched, eh, eo, hlife, hcase, hos, hkp⟩ := ends2 (prog := c.prog) (w := w) (t := tree vs) (s := s₁)
    (R := fun r s' => c.Ends s args vs s₁ r s' ∧ s'.os = s.os ∧ kept s'.heap)
    (Shared.asleep_of_life hal.2.2.2 hz) (hal.1.trans hgens)
    (wpAny_mono hcode (by
      rintro fin s' ⟨f, e, h1, h2, h3, h4⟩
      exact ⟨f, e, ⟨h1, h2, h4⟩, h3⟩) (by
      rintro e s' ⟨h1, h2, h3, h4⟩
      exact ⟨⟨h1, h2, h4⟩, h3⟩))
  have hcase := hcase.congr eh
  have hkp : kept s'.heap := by rw [eh]; exact hkp
  rw [← eo] at hos
  have hlife : s'.heap.life = s.heap.life := hlife.trans hal.2.2.2
  refine ⟨vs, s₁, hlaid, k, _, s', hsched, ?_, (fun _ i x hx => by rw [hgens] at hx; simp at hx), hkp, by rw [hlife], Shared.rest_eq hos⟩
  rcases hcase with ⟨v, rfl, d1, d2, d3, d4, d5⟩ | ⟨e, ob, cls, rfl, d1, d2, d3, d4, d5⟩
  · exact .inl ⟨v, rfl, d1, d2, d3, fun b o y _ => d4 b o y, d5⟩
  · exact .inr ⟨e, ob, cls, rfl, d1, d2, d3, d4, fun b o y _ => d5 b o y⟩
theorem open_any2 {r : RowW} {run : Value → List Value → Sem Value} {tree : List Value → Sem PySem.Fin} {q : Program} {loose defs kps : List Str} {writes : Bool} {Xt : Shared → Bool} {XP : (Str → Option Value) → Heap → Prop} {α : Type} {Yf : Shared → α} {Ya : World → α} {YP : World → Heap → Prop} {N : Nat}
    (left : LeftO r.prog q loose Xt Yf Ya N) (hY : ∀ w s, Yf s = Ya w → YP w s.heap) (hYk : ∀ w h h', YP w h → (∀ b o, h.get? b = some o → h'.get? b = some o) → YP w h') (hX : ∀ s, Xt s = true → XP (s.heap.nsMap mainGlobals) s.heap) (hXk : ∀ mg h h', XP mg h → (∀ b o, h.get? b = some o → h'.get? b = some o) → XP mg h')
    (hRf : ∀ s, Xt s = true → RecFacts r.records s.heap) (hwr : (!writes || r.records.isEmpty) = true) (ok : (chainsOk q && opensWell r.prog && (frees r && r.within.isEmpty)) = true) (hb : r.prog.bare) (hw : r.promised)
    (ht : ∀ vs (w : World) (s : Shared) mg f (Q : PySem.Fin → Shared → Prop) (E : Value → Shared → Prop), s.heap.Ns mainGlobals mg → mg r.name = some f → wpAny (M2 r.prog w) callerA (run f vs) (fun v s' => Q (.done (.ret v)) s') E s → wpAny (M2 r.prog w) callerA (tree vs) Q E s)
    (pin : ∀ w s, s.heap.isNs mainGlobals = true → Ground q loose [] XP w s (s.heap.nsMap mainGlobals) (s.heap.nsMap builtinsNs) s.heap → ∀ n ∈ defs, isTheDefsW r.prog s.heap n)
    (call : ∀ (w : World) (s₀ s₁ : Shared) (mg mb : Str → Option Value), Ground q loose r.records XP w s₀ mg mb s₁.heap → YP w s₁.heap → ∀ (args : List WData) (vs : List Value) (as : List Addr),
      r.claim.pre args = true → WData.layableAll args = true → Laid r.records w s₀ s₁ args vs as → sysModules < s₀.heap.objs.size → ∃ f, mg r.name = some f ∧
        wpAny (M2 r.prog w) callerA (run f vs) (fun v s' => GoodWG r.claim (classAt s₀.heap) (ExcName.means s₀.heap) args s₁ (.ok (.ret v)) s' ∧ Ny s'.gens)
          (fun e s' => GoodWG r.claim (classAt s₀.heap) (ExcName.means s₀.heap) args s₁ (.error e) s' ∧ Ny s'.gens) s₁) : r.claim.HoldsOpenBy (fun vs => ⟨tree vs, .builtin "claim.caller" {}, default, []⟩) defs kps writes := by
  obtain ⟨ok, k5⟩ := Bool.and_eq_true_iff.mp ok
  obtain ⟨hch, o1⟩ := Bool.and_eq_true_iff.mp ok
  obtain ⟨k5, k6⟩ := Bool.and_eq_true_iff.mp k5
  obtain ⟨hsame, hu, ha, hap, hm⟩ := frees_parts k5
  refine ⟨⟨hb, o1, by show r.makers.map _ = []; rw [hm]; rfl⟩, hw.witness, fun w => ⟨(left.behind hX hch w).1, fun s' hs' => ?_⟩⟩
  obtain ⟨s₀, hf, hg0, s, hT, hz, hgens, hg, G00, y⟩ := (left.behind (XP := fun mg h => XP mg h ∧ RecFacts r.records h) (fun s hs => ⟨hX s hs, hRf s hs⟩) hch w).2 s' hs'
  have G0 : Ground q loose [] XP w s (s.heap.nsMap mainGlobals) (s.heap.nsMap builtinsNs) s.heap := ⟨G00.T, G00.B, G00.D, G00.TE, G00.TD, G00.W, G00.X.1, G00.cls, G00.has, G00.apart, G00.once, G00.K⟩
  have RF := G00.X.2
  have hT' := hT
  refine ⟨s₀, hf, hg0, s, hT, pin w s hg G0, RF.1, RF.2.1, ?_⟩
  have hgens : s.gens = #[] := Array.eq_empty_of_size_eq_zero (beq_iff_eq.mp hgens)
  have G : Ground q loose r.records XP w s _ _ s.heap := RF.ground G0
  refine callFrom2 (c := r.claim) hz hgens fun args hpre hlay ord hord => ?_
  obtain ⟨⟨vs, s₁⟩, hlaid⟩ := Option.isSome_iff_exists.mp (layAllW_isSome (P := w.params) (ord := ord) G.has args r.args s (pre_splitW hpre).1)
  have keeps := layAllW_keeps _ _ _ hlaid
  have hal := layAllW_rest _ _ _ hlaid
  obtain ⟨as, hrd, hin, hold⟩ := reads_layAllW hord _ _ _ hlaid hlay s₁.heap (fun _ _ e => e)
  have L : Laid r.records w s s₁ args vs as := ⟨⟨ord, hord, hlaid⟩, hrd, hin, hold, keeps, hal.1.trans hgens, hal.2.2.1⟩
  have G₁ := G.keeps hXk keeps
  obtain ⟨f, hf, h⟩ := call w s s₁ _ _ G₁ (hYk _ _ _ (hY w s y) keeps) args vs as hpre hlay L G.low
  have hi := ident_freeW hu ha hap
  have hwi : r.claim.within = [] := List.isEmpty_iff.mp k6
  exact ⟨vs, s₁, hlaid, ht vs w s₁ _ f _ _ G₁.T.g hf (wpAny_mono h (fun v s' ⟨g, ny⟩ => ⟨_, rfl, have z := g.laid (c := r.claim) hsame hwi hi L; ⟨z.1, z.2.1, ⟨z.2.2, ny⟩, fun q => ⟨namesKept_of hT' hg kps keeps g.2.1.old, noTable hwr q⟩⟩⟩) fun e s' ⟨g, ny⟩ => have z := g.laid (c := r.claim) hsame hwi hi L; ⟨z.1, z.2.1, ⟨z.2.2, ny⟩, fun q => ⟨namesKept_of hT' hg kps keeps g.2.1.old, noTable hwr q⟩⟩)⟩
theorem head2 {r : OpenRow} {q : Program} {H : Hook} {ob : SharedT → H.α} {M : Nat} {loose : List Str} {d : DefRec} {kwd : List (Str × Expr)} (ho : ∀ s : SharedT, ob s = H.obs s.abs)
    (e : opening r.prog = plainProg r.prog.main.scope.names) (f : ∀ s, fenceModules? r.prog s = some s) (run : ∀ w, HandSHeadRun.RunEq r q H ob M loose w)
    (hdef : defOf q r.name = some (d, kwd)) (hp : r.prog.theDef r.name = some (d.params, d.body, d.scope)) (hk : kwWritten? d.params.kwonlyargs d.params.kw_defaults = some kwd)
    (hwr : (!r.writes || r.records.isEmpty) = true) (k1 : r.wellSaid = true) (ok : (chainsOk q && opensWell r.prog && (frees r.toRowW && r.within.isEmpty)) = true) (hb : r.prog.bare) (hw : r.toRowW.promised)
    (call : ∀ (w : World) (s₀ s₁ : Shared) (mg mb : Str → Option Value), Ground q loose r.records (XL q []) w s₀ mg mb s₁.heap → H.says w s₁.heap → ∀ (a : Addr) (o : Obj) (pm cd doc dV kV : Value), s₁.heap.get? a = some o →
      o.data = .func { docDef d.name d.params d.body d.scope pm cd doc with defaults := dV, kwdefaults := kV } → s₁.heap.CodeRec cd d.name → Dflts mg s₁.heap d.params kwd dV kV → mg d.name = some (.ref a) → s₁.gens = #[] →
      ∀ (args : List WData) (vals : List Value) (as : List Addr), r.toRowW.claim.pre args = true → WData.layableAll args = true → ReadsAllW r.records (classAt s₀.heap) s₁.heap vals args as → WellAll w.params s₁.heap vals args → (∀ a ∈ as, (a == sysModules) = false) →
        wpAny (M2 r.prog w) callerA (PySem.call (.ref a) vals) (fun v s' => GoodWG r.toRowW.claim (classAt s₀.heap) (ExcName.means s₀.heap) args s₁ (.ok (.ret v)) s' ∧ Ny s'.gens)
          (fun e s' => GoodWG r.toRowW.claim (classAt s₀.heap) (ExcName.means s₀.heap) args s₁ (.error e) s' ∧ Ny s'.gens) s₁) : r.Holds := by
  have left : LeftO r.prog q loose (fun s => xlAt q [] s && recOk r.toRowW.records s) H.obs H.val (M + 600) true :=
    HandSHeadRun.left_one (M := M) e (Nat.ble_eq_true_of_le (by omega)) f (Nat.ble_eq_true_of_le (by omega)) fun w os => by
      have z := run w os
      have eo : ob = fun s => H.obs s.abs := funext ho
      rw [eo] at z
      simp only [HandSHeadRun.endQ_eq, HandSHeadRun.seenQ_eq]
      exact z
  refine ⟨k1, hw, open_any2 (r := r.toRowW) (run := fun f vs => PySem.call f vs) (tree := fun vs => do match ← nsGet mainNs r.name with
      | some f => do ret (← PySem.call f vs)
      | none => unsupported "claim.caller:no-such-global") left H.of H.keeps (fun s z => xl_of s (Bool.and_eq_true_iff.mp z).1) XL.keeps (fun s z => recFacts_of (Bool.and_eq_true_iff.mp z).2) hwr ok hb hw
    (fun vs w s mg f Q E hg hf h => wpAny_bind (wpAny_nsGet hg (by rw [hf]; exact wpAny_bind (wpAny_mono h (fun _ _ x => wpAny_pure x) fun _ _ x => x))))
    (fun w s hg G n hn => ?_) fun w s₀ s₁ mg mb G Y args vs as hpre hlay L low => ?_⟩
  · obtain rfl : n = r.name := by split at hn <;> simp_all
    exact pinned_of_view hg G hdef hp hk
  · obtain ⟨a, o, pm, cd, doc, dV, kV, h1, h2, h3, h4, h5⟩ := G.fn hdef
    exact ⟨.ref a, h1, call w s₀ s₁ mg mb G Y a o pm cd doc dV kV h2 h3 h4 h5 (defOf_name hdef ▸ h1) L.gens args vs as hpre hlay L.reads L.well (L.low low)⟩
end CH
/-! text HD3 -/
/-! All promises together. Printed by genh3.py. -/
namespace CH
open PySem PySem.Spec PyProof.Rows L2 Evl
section
variable {K : PySem.W.Frag}
theorem F_but (c : SaysK hfs hfn K) : Fn K "but" "but" sBut [] [] (He.ga K "but") := c.def_ 0 (d := dd0) rfl
theorem F_tupled (c : SaysK hfs hfn K) : Fn K "tupled" "tupled" sTupled [] [] (He.ga K "tupled") := c.def_ 1 (d := dd1) rfl
theorem F_as_set (c : SaysK hfs hfn K) : Fn K "as_set" "as_set" sAsSet [] [] (He.ga K "as_set") := c.def_ 2 (d := dd2) rfl
theorem F_is_name (c : SaysK hfs hfn K) : Fn K "is_name" "is_name" sIsName [] [] (He.ga K "is_name") := c.def_ 3 (d := dd3) rfl
theorem F_rises (c : SaysK hfs hfn K) : Fn K "rises" "rises" sRises [] [] (He.ga K "rises") := c.def_ 4 (d := dd4) rfl
theorem F_is_set (c : SaysK hfs hfn K) : Fn K "is_set" "is_set" sIsSet [] [] (He.ga K "is_set") := c.def_ 5 (d := dd5) rfl
theorem F_is_odd (c : SaysK hfs hfn K) : Fn K "is_odd" "is_odd" sIsOdd [] [] (He.ga K "is_odd") := c.def_ 6 (d := dd6) rfl
theorem F_most_swaps (c : SaysK hfs hfn K) : Fn K "most_swaps" "most_swaps" sMostSwaps [] [("without", .ref (kwAt ("most_swaps", none) "without" K))] (He.ga K "most_swaps") := c.def_ 7 (d := dd7) rfl
theorem F_kinds (c : SaysK hfs hfn K) : Fn K "kinds" "kinds" sKinds [] [] (He.ga K "kinds") := c.def_ 8 (d := dd8) rfl
theorem F_suited_to (c : SaysK hfs hfn K) : Fn K "suited_to" "suited_to" sSuitedTo [] [] (He.ga K "suited_to") := c.def_ 9 (d := dd9) rfl
theorem F_leaves (c : SaysK hfs hfn K) : Fn K "leaves" "leaves" sLeaves [] [] (He.ga K "leaves") := c.def_ 10 (d := dd10) rfl
theorem F_parts_in (c : SaysK hfs hfn K) : Fn K "parts_in" "parts_in" sPartsIn [] [("odd", .non)] (He.ga K "parts_in") := c.def_ 11 (d := dd11) rfl
theorem F_is_barrier (c : SaysK hfs hfn K) : Fn K "is_barrier" "is_barrier" sBarrier [] [] (He.ga K "is_barrier") := c.def_ 12 (d := dd12) rfl
theorem F_gain_by_household (c : SaysK hfs hfn K) : Fn K "gain_by_household" "gain_by_household" sGain [] [] (He.ga K "gain_by_household") := c.def_ 13 (d := dd13) rfl
theorem F_loss_by_household (c : SaysK hfs hfn K) : Fn K "loss_by_household" "loss_by_household" sLoss [] [] (He.ga K "loss_by_household") := c.def_ 14 (d := dd14) rfl
theorem F_can_leave (c : SaysK hfs hfn K) : Fn K "can_leave" "can_leave" sCanLeave [] [] (He.ga K "can_leave") := c.def_ 15 (d := dd15) rfl
theorem F_names_of (c : SaysK hfs hfn K) : Fn K "names_of" "names_of" sNamesOf [] [] (He.ga K "names_of") := c.def_ 16 (d := dd16) rfl
theorem F_line_of (c : SaysK hfs hfn K) : Fn K "line_of" "line_of" sLineOf [.ref (He.dflAt ("line_of", none) 0 K)] [] (He.ga K "line_of") := c.def_ 17 (d := dd17) rfl
theorem F_kept (c : SaysK hfs hfn K) : Fn K "kept" "kept" sKept [] [("first", .ref (kwAt ("kept", none) "first" K))] (He.ga K "kept") := c.def_ 18 (d := dd18) rfl
theorem F_every_swaps (c : SaysK hfs hfn K) : Fn K "every_swaps" "every_swaps" sEsw [] [("without", .ref (kwAt ("every_swaps", none) "without" K))] (He.ga K "every_swaps") := c.def_ 19 (d := dd19) rfl
theorem F_Sheet___init__ (c : SaysK hfs hfn K) : Fn K "__init__" "Sheet.__init__" sShInit [] [] (He.ma K (He.ga K "Sheet") "__init__") := c.def_ 20 (d := dd20) rfl
theorem F_Sheet_names (c : SaysK hfs hfn K) : Fn K "names" "Sheet.names" sShNames [] [] (He.ma K (He.ga K "Sheet") "names") := c.def_ 21 (d := dd21) rfl
theorem F_Sheet_check (c : SaysK hfs hfn K) : Fn K "check" "Sheet.check" sShCheck [] [] (He.ma K (He.ga K "Sheet") "check") := c.def_ 22 (d := dd22) rfl
theorem F_Sheet_checked (c : SaysK hfs hfn K) : Fn K "checked" "Sheet.checked" sShChecked [] [] (He.ma K (He.ga K "Sheet") "checked") := c.def_ 23 (d := dd23) rfl
theorem F_Sheet_suit (c : SaysK hfs hfn K) : Fn K "suit" "Sheet.suit" sShSuit [] [] (He.ma K (He.ga K "Sheet") "suit") := c.def_ 24 (d := dd24) rfl
theorem F_Sheet_suited (c : SaysK hfs hfn K) : Fn K "suited" "Sheet.suited" sShSuited [] [] (He.ma K (He.ga K "Sheet") "suited") := c.def_ 25 (d := dd25) rfl
theorem F_Swapping___init__ (c : SaysK hfs hfn K) : Fn K "__init__" "Swapping.__init__" sSwInit [.ref (He.dflAt ("Swapping", some "__init__") 0 K)] [] (He.ma K (He.ga K "Swapping") "__init__") := c.def_ 26 (d := dd26) rfl
theorem F_Swapping_names (c : SaysK hfs hfn K) : Fn K "names" "Swapping.names" sSwNames [] [] (He.ma K (He.ga K "Swapping") "names") := c.def_ 27 (d := dd27) rfl
theorem F_Swapping_near (c : SaysK hfs hfn K) : Fn K "near" "Swapping.near" sSwNear [] [] (He.ma K (He.ga K "Swapping") "near") := c.def_ 28 (d := dd28) rfl
theorem F_Swapping_most (c : SaysK hfs hfn K) : Fn K "most" "Swapping.most" sMost [] [] (He.ma K (He.ga K "Swapping") "most") := c.def_ 29 (d := dd29) rfl
theorem F_Swapping_most_of_all (c : SaysK hfs hfn K) : Fn K "most_of_all" "Swapping.most_of_all" sMostAll [] [] (He.ma K (He.ga K "Swapping") "most_of_all") := c.def_ 30 (d := dd30) rfl
theorem F_Swapping_behind (c : SaysK hfs hfn K) : Fn K "behind" "Swapping.behind" sBehind [] [] (He.ma K (He.ga K "Swapping") "behind") := c.def_ 31 (d := dd31) rfl
theorem F_Swapping_firsts (c : SaysK hfs hfn K) : Fn K "firsts" "Swapping.firsts" sFirsts [] [] (He.ma K (He.ga K "Swapping") "firsts") := c.def_ 32 (d := dd32) rfl
theorem F_Swapping_is_open (c : SaysK hfs hfn K) : Fn K "is_open" "Swapping.is_open" sIsOpen [] [] (He.ma K (He.ga K "Swapping") "is_open") := c.def_ 33 (d := dd33) rfl
theorem F_Swapping_least (c : SaysK hfs hfn K) : Fn K "least" "Swapping.least" sLeast [] [] (He.ma K (He.ga K "Swapping") "least") := c.def_ 34 (d := dd34) rfl
theorem F_Swapping_lump (c : SaysK hfs hfn K) : Fn K "lump" "Swapping.lump" sLump [] [] (He.ma K (He.ga K "Swapping") "lump") := c.def_ 35 (d := dd35) rfl
theorem F_Swapping_lumps (c : SaysK hfs hfn K) : Fn K "lumps" "Swapping.lumps" sLumps [] [] (He.ma K (He.ga K "Swapping") "lumps") := c.def_ 36 (d := dd36) rfl
theorem F_Swapping_every (c : SaysK hfs hfn K) : Fn K "every" "Swapping.every" sEvery [] [] (He.ma K (He.ga K "Swapping") "every") := c.def_ 37 (d := dd37) rfl
theorem F_Together___init__ (c : SaysK hfs hfn K) : Fn K "__init__" "Together.__init__" sTgInit [] [] (He.ma K (He.ga K "Together") "__init__") := c.def_ 38 (d := dd38) rfl
theorem F_Together_can (c : SaysK hfs hfn K) : Fn K "can" "Together.can" sTgCan [] [] (He.ma K (He.ga K "Together") "can") := c.def_ 39 (d := dd39) rfl
theorem F_Together_kept (c : SaysK hfs hfn K) : Fn K "kept" "Together.kept" sTgKept [] [] (He.ma K (He.ga K "Together") "kept") := c.def_ 40 (d := dd40) rfl
theorem F__law_box (c : SaysK hfs hfn K) : Fn K "_law_box" "_law_box" sBox [] [] (He.ga K "_law_box") := c.def_ 41 (d := dd41) rfl
theorem F__law_take (c : SaysK hfs hfn K) : Fn K "_law_take" "_law_take" sTake [] [] (He.ga K "_law_take") := c.def_ 42 (d := dd42) rfl
theorem F__law_cells (c : SaysK hfs hfn K) : Fn K "_law_cells" "_law_cells" sCells [] [] (He.ga K "_law_cells") := c.def_ 43 (d := dd43) rfl
theorem F__law_same (c : SaysK hfs hfn K) : Fn K "_law_same" "_law_same" sSame [] [] (He.ga K "_law_same") := c.def_ 44 (d := dd44) rfl
theorem F__law_few (c : SaysK hfs hfn K) : Fn K "_law_few" "_law_few" sFew [] [] (He.ga K "_law_few") := c.def_ 45 (d := dd45) rfl
theorem F__law_mixed (c : SaysK hfs hfn K) : Fn K "_law_mixed" "_law_mixed" sMixed [] [] (He.ga K "_law_mixed") := c.def_ 46 (d := dd46) rfl
theorem F__law_book (c : SaysK hfs hfn K) : Fn K "_law_book" "_law_book" sBook [] [] (He.ga K "_law_book") := c.def_ 47 (d := dd47) rfl
theorem F__law_all (c : SaysK hfs hfn K) : Fn K "_law_all" "_law_all" sAll [] [] (He.ga K "_law_all") := c.def_ 48 (d := dd48) rfl
theorem F__law_case_right (c : SaysK hfs hfn K) : Fn K "_law_case_right" "_law_case_right" sCase [] [] (He.ga K "_law_case_right") := c.def_ 49 (d := dd49) rfl
theorem F__law_known_right (c : SaysK hfs hfn K) : Fn K "_law_known_right" "_law_known_right" sKnown [] [] (He.ga K "_law_known_right") := c.def_ 50 (d := dd50) rfl
theorem F__law_right (c : SaysK hfs hfn K) : Fn K "_law_right" "_law_right" sRight [] [] (He.ga K "_law_right") := c.def_ 51 (d := dd51) rfl
theorem F_law (c : SaysK hfs hfn K) : Fn K "law" "law" sLaw [] [] (He.ga K "law") := c.def_ 52 (d := dd52) rfl
theorem X_free_tuple (c : SaysK hfs hfn K) : (bFa (.free "tuple") : FB) K = true := c.at 0 rfl
theorem X_free_list (c : SaysK hfs hfn K) : (bFa (.free "list") : FB) K = true := c.at 1 rfl
theorem X_free_len (c : SaysK hfs hfn K) : (bFa (.free "len") : FB) K = true := c.at 2 rfl
theorem X_free_sorted (c : SaysK hfs hfn K) : (bFa (.free "sorted") : FB) K = true := c.at 3 rfl
theorem X_free_set (c : SaysK hfs hfn K) : (bFa (.free "set") : FB) K = true := c.at 4 rfl
theorem X_free_range (c : SaysK hfs hfn K) : (bFa (.free "range") : FB) K = true := c.at 5 rfl
theorem X_free_max (c : SaysK hfs hfn K) : (bFa (.free "max") : FB) K = true := c.at 6 rfl
theorem X_free_any (c : SaysK hfs hfn K) : (bFa (.free "any") : FB) K = true := c.at 7 rfl
theorem X_free_all (c : SaysK hfs hfn K) : (bFa (.free "all") : FB) K = true := c.at 8 rfl
theorem X_free_isinstance (c : SaysK hfs hfn K) : (bFa (.free "isinstance") : FB) K = true := c.at 9 rfl
theorem X_free_zip (c : SaysK hfs hfn K) : (bFa (.free "zip") : FB) K = true := c.at 10 rfl
theorem X_free_enumerate (c : SaysK hfs hfn K) : (bFa (.free "enumerate") : FB) K = true := c.at 11 rfl
theorem X_free_int (c : SaysK hfs hfn K) : (bFa (.free "int") : FB) K = true := c.at 12 rfl
theorem X_free_bool (c : SaysK hfs hfn K) : (bFa (.free "bool") : FB) K = true := c.at 13 rfl
theorem X_free_str (c : SaysK hfs hfn K) : (bFa (.free "str") : FB) K = true := c.at 14 rfl
theorem X_free_abs (c : SaysK hfs hfn K) : (bFa (.free "abs") : FB) K = true := c.at 15 rfl
theorem X_LETTERS (c : SaysK hfs hfn K) : (bFa (.str "LETTERS" "abcdefghijklmnopqrstuvwxyz") : FB) K = true := c.at 16 rfl
theorem X_LONGEST (c : SaysK hfs hfn K) : (bFa (.int "LONGEST" 8) : FB) K = true := c.at 17 rfl
theorem X_PAIR (c : SaysK hfs hfn K) : (bFa (.int "PAIR" 2) : FB) K = true := c.at 18 rfl
theorem X_BOTH (c : SaysK hfs hfn K) : (bFa (.int "BOTH" 2) : FB) K = true := c.at 19 rfl
theorem X_glo_but (c : SaysK hfs hfn K) : (bFa (.glo "but") : FB) K = true := c.at 20 rfl
theorem X_glo_tupled (c : SaysK hfs hfn K) : (bFa (.glo "tupled") : FB) K = true := c.at 21 rfl
theorem X_glo_as_set (c : SaysK hfs hfn K) : (bFa (.glo "as_set") : FB) K = true := c.at 22 rfl
theorem X_glo_is_name (c : SaysK hfs hfn K) : (bFa (.glo "is_name") : FB) K = true := c.at 23 rfl
theorem X_glo_rises (c : SaysK hfs hfn K) : (bFa (.glo "rises") : FB) K = true := c.at 24 rfl
theorem X_glo_is_set (c : SaysK hfs hfn K) : (bFa (.glo "is_set") : FB) K = true := c.at 25 rfl
theorem X_glo_is_odd (c : SaysK hfs hfn K) : (bFa (.glo "is_odd") : FB) K = true := c.at 26 rfl
theorem X_glo_most_swaps (c : SaysK hfs hfn K) : (bFa (.glo "most_swaps") : FB) K = true := c.at 27 rfl
theorem X_glo_kinds (c : SaysK hfs hfn K) : (bFa (.glo "kinds") : FB) K = true := c.at 28 rfl
theorem X_glo_suited_to (c : SaysK hfs hfn K) : (bFa (.glo "suited_to") : FB) K = true := c.at 29 rfl
theorem X_glo_leaves (c : SaysK hfs hfn K) : (bFa (.glo "leaves") : FB) K = true := c.at 30 rfl
theorem X_glo_parts_in (c : SaysK hfs hfn K) : (bFa (.glo "parts_in") : FB) K = true := c.at 31 rfl
theorem X_glo_is_barrier (c : SaysK hfs hfn K) : (bFa (.glo "is_barrier") : FB) K = true := c.at 32 rfl
theorem X_glo_gain_by_household (c : SaysK hfs hfn K) : (bFa (.glo "gain_by_household") : FB) K = true := c.at 33 rfl
theorem X_glo_loss_by_household (c : SaysK hfs hfn K) : (bFa (.glo "loss_by_household") : FB) K = true := c.at 34 rfl
theorem X_glo_can_leave (c : SaysK hfs hfn K) : (bFa (.glo "can_leave") : FB) K = true := c.at 35 rfl
theorem X_glo_names_of (c : SaysK hfs hfn K) : (bFa (.glo "names_of") : FB) K = true := c.at 36 rfl
theorem X_glo_line_of (c : SaysK hfs hfn K) : (bFa (.glo "line_of") : FB) K = true := c.at 37 rfl
theorem X_glo_kept (c : SaysK hfs hfn K) : (bFa (.glo "kept") : FB) K = true := c.at 38 rfl
theorem X_glo_every_swaps (c : SaysK hfs hfn K) : (bFa (.glo "every_swaps") : FB) K = true := c.at 39 rfl
theorem X_glo__law_box (c : SaysK hfs hfn K) : (bFa (.glo "_law_box") : FB) K = true := c.at 40 rfl
theorem X_glo__law_take (c : SaysK hfs hfn K) : (bFa (.glo "_law_take") : FB) K = true := c.at 41 rfl
theorem X_glo__law_cells (c : SaysK hfs hfn K) : (bFa (.glo "_law_cells") : FB) K = true := c.at 42 rfl
theorem X_glo__law_same (c : SaysK hfs hfn K) : (bFa (.glo "_law_same") : FB) K = true := c.at 43 rfl
theorem X_glo__law_few (c : SaysK hfs hfn K) : (bFa (.glo "_law_few") : FB) K = true := c.at 44 rfl
theorem X_glo__law_mixed (c : SaysK hfs hfn K) : (bFa (.glo "_law_mixed") : FB) K = true := c.at 45 rfl
theorem X_glo__law_book (c : SaysK hfs hfn K) : (bFa (.glo "_law_book") : FB) K = true := c.at 46 rfl
theorem X_glo__law_all (c : SaysK hfs hfn K) : (bFa (.glo "_law_all") : FB) K = true := c.at 47 rfl
theorem X_glo__law_case_right (c : SaysK hfs hfn K) : (bFa (.glo "_law_case_right") : FB) K = true := c.at 48 rfl
theorem X_glo__law_known_right (c : SaysK hfs hfn K) : (bFa (.glo "_law_known_right") : FB) K = true := c.at 49 rfl
theorem X_glo__law_right (c : SaysK hfs hfn K) : (bFa (.glo "_law_right") : FB) K = true := c.at 50 rfl
theorem X_glo_law (c : SaysK hfs hfn K) : (bFa (.glo "law") : FB) K = true := c.at 51 rfl
theorem X_glo_Sheet (c : SaysK hfs hfn K) : (bFa (.glo "Sheet") : FB) K = true := c.at 52 rfl
theorem X_glo_Swapping (c : SaysK hfs hfn K) : (bFa (.glo "Swapping") : FB) K = true := c.at 53 rfl
theorem X_glo_Together (c : SaysK hfs hfn K) : (bFa (.glo "Together") : FB) K = true := c.at 54 rfl
theorem X_glo_Order (c : SaysK hfs hfn K) : (bFa (.glo "Order") : FB) K = true := c.at 55 rfl
theorem X_scl_Sheet (c : SaysK hfs hfn K) : (bScl "Sheet" : FB) K = true := c.at 56 rfl
theorem X_mkr_Sheet (c : SaysK hfs hfn K) : (bFa (.mkr "Sheet") : FB) K = true := c.at 57 rfl
theorem X_scl_Swapping (c : SaysK hfs hfn K) : (bScl "Swapping" : FB) K = true := c.at 58 rfl
theorem X_mkr_Swapping (c : SaysK hfs hfn K) : (bFa (.mkr "Swapping") : FB) K = true := c.at 59 rfl
theorem X_scl_Together (c : SaysK hfs hfn K) : (bScl "Together" : FB) K = true := c.at 60 rfl
theorem X_mkr_Together (c : SaysK hfs hfn K) : (bFa (.mkr "Together") : FB) K = true := c.at 61 rfl
theorem X_no_Order (c : SaysK hfs hfn K) : (bNo "Order" : FB) K = true := c.at 62 rfl
theorem X_slot_Sheet_0 (c : SaysK hfs hfn K) : (bSlot "Sheet" "own_empties" 0 : FB) K = true := c.at 63 rfl
theorem X_slot_Sheet_1 (c : SaysK hfs hfn K) : (bSlot "Sheet" "own_homes" 1 : FB) K = true := c.at 64 rfl
theorem X_slot_Sheet_2 (c : SaysK hfs hfn K) : (bSlot "Sheet" "own_rows" 2 : FB) K = true := c.at 65 rfl
theorem X_slot_Swapping_0 (c : SaysK hfs hfn K) : (bSlot "Swapping" "own_known" 0 : FB) K = true := c.at 66 rfl
theorem X_slot_Swapping_1 (c : SaysK hfs hfn K) : (bSlot "Swapping" "own_names" 1 : FB) K = true := c.at 67 rfl
theorem X_slot_Swapping_2 (c : SaysK hfs hfn K) : (bSlot "Swapping" "own_near" 2 : FB) K = true := c.at 68 rfl
theorem X_slot_Swapping_3 (c : SaysK hfs hfn K) : (bSlot "Swapping" "own_pairs" 3 : FB) K = true := c.at 69 rfl
theorem X_slot_Together_0 (c : SaysK hfs hfn K) : (bSlot "Together" "own_best" 0 : FB) K = true := c.at 70 rfl
theorem X_slot_Together_1 (c : SaysK hfs hfn K) : (bSlot "Together" "own_names" 1 : FB) K = true := c.at 71 rfl
theorem X_slot_Together_2 (c : SaysK hfs hfn K) : (bSlot "Together" "own_sheet" 2 : FB) K = true := c.at 72 rfl
theorem X_meth_Sheet_names (c : SaysK hfs hfn K) : (bFa (.meth "Sheet" "names") : FB) K = true := c.at 73 rfl
theorem X_meth_Sheet_check (c : SaysK hfs hfn K) : (bFa (.meth "Sheet" "check") : FB) K = true := c.at 74 rfl
theorem X_meth_Sheet_checked (c : SaysK hfs hfn K) : (bFa (.meth "Sheet" "checked") : FB) K = true := c.at 75 rfl
theorem X_meth_Sheet_suit (c : SaysK hfs hfn K) : (bFa (.meth "Sheet" "suit") : FB) K = true := c.at 76 rfl
theorem X_meth_Sheet_suited (c : SaysK hfs hfn K) : (bFa (.meth "Sheet" "suited") : FB) K = true := c.at 77 rfl
theorem X_meth_Swapping_names (c : SaysK hfs hfn K) : (bFa (.meth "Swapping" "names") : FB) K = true := c.at 78 rfl
theorem X_meth_Swapping_near (c : SaysK hfs hfn K) : (bFa (.meth "Swapping" "near") : FB) K = true := c.at 79 rfl
theorem X_meth_Swapping_most (c : SaysK hfs hfn K) : (bFa (.meth "Swapping" "most") : FB) K = true := c.at 80 rfl
theorem X_meth_Swapping_most_of_all (c : SaysK hfs hfn K) : (bFa (.meth "Swapping" "most_of_all") : FB) K = true := c.at 81 rfl
theorem X_meth_Swapping_behind (c : SaysK hfs hfn K) : (bFa (.meth "Swapping" "behind") : FB) K = true := c.at 82 rfl
theorem X_meth_Swapping_firsts (c : SaysK hfs hfn K) : (bFa (.meth "Swapping" "firsts") : FB) K = true := c.at 83 rfl
theorem X_meth_Swapping_is_open (c : SaysK hfs hfn K) : (bFa (.meth "Swapping" "is_open") : FB) K = true := c.at 84 rfl
theorem X_meth_Swapping_least (c : SaysK hfs hfn K) : (bFa (.meth "Swapping" "least") : FB) K = true := c.at 85 rfl
theorem X_meth_Swapping_lump (c : SaysK hfs hfn K) : (bFa (.meth "Swapping" "lump") : FB) K = true := c.at 86 rfl
theorem X_meth_Swapping_lumps (c : SaysK hfs hfn K) : (bFa (.meth "Swapping" "lumps") : FB) K = true := c.at 87 rfl
theorem X_meth_Swapping_every (c : SaysK hfs hfn K) : (bFa (.meth "Swapping" "every") : FB) K = true := c.at 88 rfl
theorem X_meth_Together_can (c : SaysK hfs hfn K) : (bFa (.meth "Together" "can") : FB) K = true := c.at 89 rfl
theorem X_meth_Together_kept (c : SaysK hfs hfn K) : (bFa (.meth "Together" "kept") : FB) K = true := c.at 90 rfl
theorem X_bm_Sheet_check (c : SaysK hfs hfn K) : (bBm "Sheet" "check" : FB) K = true := c.at 91 rfl
theorem X_bm_Swapping_behind (c : SaysK hfs hfn K) : (bBm "Swapping" "behind" : FB) K = true := c.at 92 rfl
theorem X_emp_ms (c : SaysK hfs hfn K) : (bEmp (kwAt ("most_swaps", none) "without") : FB) K = true := c.at 93 rfl
theorem X_emp_lo (c : SaysK hfs hfn K) : (bEmp (He.dflAt ("line_of", none) 0) : FB) K = true := c.at 94 rfl
theorem X_emp_ke (c : SaysK hfs hfn K) : (bEmp (kwAt ("kept", none) "first") : FB) K = true := c.at 95 rfl
theorem X_emp_es (c : SaysK hfs hfn K) : (bEmp (kwAt ("every_swaps", none) "without") : FB) K = true := c.at 96 rfl
theorem X_emp_sw (c : SaysK hfs hfn K) : (bEmp (He.dflAt ("Swapping", some "__init__") 0) : FB) K = true := c.at 97 rfl
theorem emp_ok {K : PySem.W.Frag} {p : PySem.W.Frag → Addr} (c : bEmp p K = true) : Emp K (.ref (p K)) := fun H => by
  refine ⟨_, rfl, ?_⟩
  unfold bEmp at c
  cases q : K.lookup (p K) with
  | none =>
    rw [q] at c
    cases c
  | some o =>
    obtain ⟨oc, od, dt, osl⟩ := o
    rw [q] at c
    cases oc with
    | type t =>
      cases dt with
      | seq its n =>
        obtain ⟨h1, h2⟩ := He.ba (show (decide (t = "tuple") && decide (its.toList = [])) = true from c)
        have e := of_decide_eq_true h2
        refine .inr ⟨_, its, n, q, congrArg Value.type (of_decide_eq_true h1), rfl, ?_, ?_⟩
        · rw [← Array.length_toList, e]; exact Nat.zero_le _
        · rw [e]; exact .nil
      | _ => cases c
    | _ => cases dt <;> cases c
variable {P : Program} {w : World} {mg : Str → Option Value} {base : Heap} {f : Addr} {t t2 : V}
theorem pr_mk {x q : Str} {st : Stmt} {k : Nat} {sp : Sp} (F : Fn K x q st [] [] f) (hm : mg x = some (.ref f)) (G : FnR P w K mg base CX0 k f sp) : Pr P w K mg base x k sp := ⟨f, hm, F.choose_spec.kp, G⟩
theorem pr2_mk {x q : Str} {st : Stmt} {k : Nat} {sp : Sq} (F : Fn K x q st [] [] f) (hm : mg x = some (.ref f)) (G : FnR2 P w K mg base k f sp) : Pr2 P w K mg base x k sp := ⟨f, hm, F.choose_spec.kp, G⟩
theorem lo_mk {fd : FuncData} (F : FunD K "line_of" "line_of" (defArgs sLineOf) (defBody sLineOf) (defScope sLineOf) [t] [] f fd) {k : Nat} (G : FnOk P w K mg base CX0 k f fd ["sheet", "order", "first"] (spLineOf K)) : FnR P w K mg base CX0 k f (spLineOf K) := by
  obtain ⟨ds, h1, h2⟩ := F.binds1 (ps := ["sheet", "order", "first"]) 3 1 (by simp) (by rfl) fun T kV doc pm an cdv ct us its hu hi => by
    match us, hu, its, hi with | [a, b, c], _, [d], _ => exact ⟨_, rfl, rfl⟩
  have := G.raw h2 h1
  simpa using this
theorem kept_conv (h2 : Emp K t2) (G : Pr2 P w K mg base "kept" 44 (fun vs H Q => spKept K (vs ++ [t2]) H Q)) : Pr2 P w K mg base "kept" 44 (fun vs H Q => spKept K (vs ++ [t]) H Q) := by
  obtain ⟨f, h, hk, G⟩ := G
  refine ⟨f, h, hk, fun A outer s H us vs Q r e n rv hs => G A outer s H us vs Q r e n rv ?_⟩
  obtain ⟨v, u, a, rows, emp, l, ev, x⟩ := hs
  obtain ⟨rfl, _⟩ := List.append_inj' (s₁ := vs) (t₁ := [t]) (s₂ := [v, .ref a]) (t₂ := [u]) ev rfl
  exact ⟨v, t2, a, rows, emp, l, rfl, x.1, x.2.1, x.2.2.1, x.2.2.2.1, x.2.2.2.2.1, h2 H, x.2.2.2.2.2.2⟩
end
section
variable {K : PySem.W.Frag} {P : Program} {w : World} {mg : Str → Option Value} {base h : Heap}
theorem all_law (X : K.In h) (G : h.Ns mainGlobals mg) (c : SaysK hfs hfn K) : FnR2 P w K mg base 47 (He.ga K "law") (spLaw K) := by
  have T : Blt mg := ⟨He.free_ok X G (X_free_tuple c), He.free_ok X G (X_free_list c), He.free_ok X G (X_free_len c), He.free_ok X G (X_free_sorted c), He.free_ok X G (X_free_set c), He.free_ok X G (X_free_range c), He.free_ok X G (X_free_max c), He.free_ok X G (X_free_any c), He.free_ok X G (X_free_all c), He.free_ok X G (X_free_isinstance c), He.free_ok X G (X_free_zip c), He.free_ok X G (X_free_enumerate c), He.free_ok X G (X_free_int c), He.free_ok X G (X_free_bool c), He.free_ok X G (X_free_str c), He.free_ok X G (X_free_abs c)⟩
  have Cs : Cst mg := ⟨He.str_ok X G (X_LETTERS c), He.int_ok X G (X_LONGEST c), He.int_ok X G (X_PAIR c), He.int_ok X G (X_BOTH c)⟩
  have SS : ShC K mg (He.ga K "Sheet") := ⟨(He.glo_ok X G (X_glo_Sheet c)), scl_ok (X_scl_Sheet c), slot_ok (X_slot_Sheet_0 c) (by decide), slot_ok (X_slot_Sheet_1 c) (by decide), slot_ok (X_slot_Sheet_2 c) (by decide)⟩
  have S : SwC K mg (He.ga K "Swapping") := ⟨(He.glo_ok X G (X_glo_Swapping c)), scl_ok (X_scl_Swapping c), slot_ok (X_slot_Swapping_0 c) (by decide), slot_ok (X_slot_Swapping_1 c) (by decide), slot_ok (X_slot_Swapping_2 c) (by decide), slot_ok (X_slot_Swapping_3 c) (by decide)⟩
  have TG : TgC K mg (He.ga K "Together") := ⟨(He.glo_ok X G (X_glo_Together c)), scl_ok (X_scl_Together c), slot_ok (X_slot_Together_0 c) (by decide), slot_ok (X_slot_Together_1 c) (by decide), slot_ok (X_slot_Together_2 c) (by decide)⟩
  have O : OrC K mg (He.ga K "Order") := ⟨(He.glo_ok X G (X_glo_Order c)), no_ok (X_no_Order c)⟩
  have htms := emp_ok (X_emp_ms c)
  have htlo := emp_ok (X_emp_lo c)
  have htke := emp_ok (X_emp_ke c)
  have htes := emp_ok (X_emp_es c)
  have htsw := emp_ok (X_emp_sw c)
  have Pbut : Pr P w K mg base "but" 1 (spBut K) := pr_mk (F_but c) (He.glo_ok X G (X_glo_but c)) (ok_but (F_but c) T)
  have Ptup : Pr P w K mg base "tupled" 5 (spTupled K 4) := pr_mk (F_tupled c) (He.glo_ok X G (X_glo_tupled c)) (ok_tupled (F_tupled c) T (He.glo_ok X G (X_glo_tupled c)) 4)
  have Pas : Pr P w K mg base "as_set" 1 (spAsSet K) := pr_mk (F_as_set c) (He.glo_ok X G (X_glo_as_set c)) (ok_asSet (F_as_set c) T)
  have Pisn : Pr P w K mg base "is_name" 1 (spIsName) := pr_mk (F_is_name c) (He.glo_ok X G (X_glo_is_name c)) (ok_isName (F_is_name c) T Cs)
  have Pri : Pr P w K mg base "rises" 1 (spRises K) := pr_mk (F_rises c) (He.glo_ok X G (X_glo_rises c)) (ok_rises (F_rises c) T)
  have Piss : Pr P w K mg base "is_set" 2 (spIsSet K) := pr_mk (F_is_set c) (He.glo_ok X G (X_glo_is_set c)) (ok_isSet (F_is_set c) T Pisn Pri)
  have Podd : Pr P w K mg base "is_odd" 1 (spIsOdd K) := pr_mk (F_is_odd c) (He.glo_ok X G (X_glo_is_odd c)) (ok_isOdd (F_is_odd c) T Cs)
  have MSh : MkR P w K mg base (He.ga K "Sheet") 6 (spShInit K (He.ga K "Sheet")) := ⟨_, He.mkr_ok (X_mkr_Sheet c), ok_shInit (F_Sheet___init__ c) T SS Ptup⟩
  have shN : MtP P w K mg base (He.ga K "Sheet") "names" 1 (spShNames (He.ga K "Sheet")) := ⟨_, He.meth_ok (X_meth_Sheet_names c), ok_shNames (F_Sheet_names c) T SS⟩
  have shCB : BmP P w K mg base (He.ga K "Sheet") "check" 1 (spShCheck (He.ga K "Sheet")) := ⟨_, bm_ok (X_bm_Sheet_check c), ok_shCheck (F_Sheet_check c) T SS⟩
  have shC := shCB.mt
  have shD : MtP P w K mg base (He.ga K "Sheet") "checked" 6 (spShChecked K (He.ga K "Sheet")) := ⟨_, He.meth_ok (X_meth_Sheet_checked c), ok_shChecked (F_Sheet_checked c) T SS Ptup shCB⟩
  have shS : MtP P w K mg base (He.ga K "Sheet") "suit" 1 (spShSuit (He.ga K "Sheet")) := ⟨_, He.meth_ok (X_meth_Sheet_suit c), ok_shSuit (F_Sheet_suit c) SS⟩
  have shSd : MtP P w K mg base (He.ga K "Sheet") "suited" 2 (spShSuited (He.ga K "Sheet")) := ⟨_, He.meth_ok (X_meth_Sheet_suited c), ok_shSuited (F_Sheet_suited c) T SS shS⟩
  obtain ⟨fdI, FI⟩ := F_Swapping___init__ c
  have GI := ok_swInit (P := P) (w := w) (base := base) FI T S SS MSh shD shN shSd
  have Mb : MkR P w K mg base (He.ga K "Swapping") 8 (spSwInit K (He.ga K "Swapping")) := sw_mk2 FI (He.mkr_ok (X_mkr_Swapping c)) GI
  have Ma : MkR P w K mg base (He.ga K "Swapping") 8 (fun vs => spSwInit K (He.ga K "Swapping") (vs ++ [.ref (He.dflAt ("Swapping", some "__init__") 0 K)])) := sw_mk1 FI (He.mkr_ok (X_mkr_Swapping c)) GI
  have swN : MtP P w K mg base (He.ga K "Swapping") "names" 1 (spSwNames (He.ga K "Swapping")) := ⟨_, He.meth_ok (X_meth_Swapping_names c), ok_swNames (F_Swapping_names c) S⟩
  have swR : MtP P w K mg base (He.ga K "Swapping") "near" 1 (spSwNear (He.ga K "Swapping")) := ⟨_, He.meth_ok (X_meth_Swapping_near c), ok_swNear (F_Swapping_near c) S⟩
  have swM : MtP P w K mg base (He.ga K "Swapping") "most" 10 (spMost (He.ga K "Swapping") 8) := ⟨_, He.meth_ok (X_meth_Swapping_most c), ok_most (F_Swapping_most c) (He.meth_ok (X_meth_Swapping_most c)) T Cs S Pbut 8⟩
  have swA : MtP P w K mg base (He.ga K "Swapping") "most_of_all" 11 (spMostAll (He.ga K "Swapping")) := ⟨_, He.meth_ok (X_meth_Swapping_most_of_all c), ok_mostAll (F_Swapping_most_of_all c) S swM⟩
  have swBB : BmP P w K mg base (He.ga K "Swapping") "behind" 1 (spBehind K) := ⟨_, bm_ok (X_bm_Swapping_behind c), ok_behind (F_Swapping_behind c) T⟩
  have swB := swBB.mt
  have swF : MtP P w K mg base (He.ga K "Swapping") "firsts" 11 (spFirsts (He.ga K "Swapping")) := ⟨_, He.meth_ok (X_meth_Swapping_firsts c), ok_firsts (F_Swapping_firsts c) T S swM swBB⟩
  have swO : MtP P w K mg base (He.ga K "Swapping") "is_open" 12 (spIsOpen (He.ga K "Swapping")) := ⟨_, He.meth_ok (X_meth_Swapping_is_open c), ok_isOpen (F_Swapping_is_open c) S Pbut swM swA⟩
  have swL : MtP P w K mg base (He.ga K "Swapping") "least" 12 (spLeast (He.ga K "Swapping")) := ⟨_, He.meth_ok (X_meth_Swapping_least c), ok_least (F_Swapping_least c) T S swM swF swB⟩
  have swP : MtP P w K mg base (He.ga K "Swapping") "lump" 2 (spLump K (He.ga K "Swapping")) := ⟨_, He.meth_ok (X_meth_Swapping_lump c), ok_lump (F_Swapping_lump c) T S Pas⟩
  have swQ : MtP P w K mg base (He.ga K "Swapping") "lumps" 3 (spLumps K (He.ga K "Swapping")) := ⟨_, He.meth_ok (X_meth_Swapping_lumps c), ok_lumps (F_Swapping_lumps c) T S swP⟩
  obtain ⟨fdm, Fm⟩ := F_most_swaps c
  have Gm := ok_mostSwaps (P := P) (w := w) (base := base) Fm Cs S Mb swA
  have Pms := ms_pos Fm Gm (He.glo_ok X G (X_glo_most_swaps c))
  have Pmk := ms_kw Fm Gm (He.glo_ok X G (X_glo_most_swaps c))
  have Pki : Pr P w K mg base "kinds" 13 (spKinds K) := pr_mk (F_kinds c) (He.glo_ok X G (X_glo_kinds c)) (ok_kinds (F_kinds c) T S htsw Ma swN swO swR Pbut)
  have Psu : Pr P w K mg base "suited_to" 8 (spSuitedTo K) := pr_mk (F_suited_to c) (He.glo_ok X G (X_glo_suited_to c)) (ok_suitedTo (F_suited_to c) SS MSh shC shSd)
  have Ple : Pr P w K mg base "leaves" 13 (spLeaves K) := pr_mk (F_leaves c) (He.glo_ok X G (X_glo_leaves c)) (ok_leaves (F_leaves c) SS S htsw MSh shC Ma swN swO swL Pbut)
  obtain ⟨fdp, Fp⟩ := F_parts_in c
  have Gp := ok_partsIn (P := P) (w := w) (base := base) Fp SS S htsw MSh shD Ma swQ Podd
  have Ppp := pi_pos Fp Gp (He.glo_ok X G (X_glo_parts_in c))
  have Ppk := pi_kw Fp Gp (He.glo_ok X G (X_glo_parts_in c))
  have Pba : Pr P w K mg base "is_barrier" 12 (spBarrier K) := pr_mk (F_is_barrier c) (He.glo_ok X G (X_glo_is_barrier c)) (ok_barrier (F_is_barrier c) T Cs S htsw Ma swN swQ swA Pbut Podd Piss)
  have Pga : Pr P w K mg base "gain_by_household" 14 (spGain K) := pr_mk (F_gain_by_household c) (He.glo_ok X G (X_glo_gain_by_household c)) (ok_gain (F_gain_by_household c) T Cs SS MSh shD Pki)
  have Plo : Pr P w K mg base "loss_by_household" 13 (spLoss K) := pr_mk (F_loss_by_household c) (He.glo_ok X G (X_glo_loss_by_household c)) (ok_loss (F_loss_by_household c) htms Pms Pmk)
  have Pca : Pr P w K mg base "can_leave" 13 (spCanLeave K) := pr_mk (F_can_leave c) (He.glo_ok X G (X_glo_can_leave c)) (ok_canLeave (F_can_leave c) htms SS MSh shD Pms Pmk)
  have Pno : Pr P w K mg base "names_of" 6 (spNamesOf K) := pr_mk (F_names_of c) (He.glo_ok X G (X_glo_names_of c)) (ok_namesOf (F_names_of c) T O Ptup)
  obtain ⟨fdl, Fl⟩ := F_line_of c
  have Pli : Pr P w K mg base "line_of" 8 (spLineOf K) := ⟨_, (He.glo_ok X G (X_glo_line_of c)), Fl.kp, lo_mk Fl (ok_lineOf Fl SS MSh shD Pno)⟩
  have ES : EswP P w K mg base (He.ga K "Swapping") (He.ga K "every_swaps") (He.ma K (He.ga K "Swapping") "every") (.ref (kwAt ("every_swaps", none) "without" K)) := ⟨T, S, Mb, swN, swA, swF, swB, F_Swapping_every c, He.meth_ok (X_meth_Swapping_every c), htes, F_every_swaps c, (He.glo_ok X G (X_glo_every_swaps c))⟩
  have Mt : Mk2 P w K mg base (He.ga K "Together") 42 (spTgInit K (He.ga K "Together")) := ⟨_, He.mkr_ok (X_mkr_Together c), ok_tgInit (F_Together___init__ c) T TG SS ES Ptup Pas MSh shN⟩
  have tgC : MtP P w K mg base (He.ga K "Together") "can" 1 (spTgCan K (He.ga K "Together")) := ⟨_, He.meth_ok (X_meth_Together_can c), ok_tgCan (F_Together_can c) T TG⟩
  have tgK : MtP P w K mg base (He.ga K "Together") "kept" 2 (spTgKept K (He.ga K "Together")) := ⟨_, He.meth_ok (X_meth_Together_kept c), ok_tgKept (F_Together_kept c) T TG tgC Pas⟩
  obtain ⟨fdk, Fk⟩ := F_kept c
  have Pke := kept_pos Fk (ok_kept (P := P) (w := w) (base := base) Fk TG Mt tgK Pli) (He.glo_ok X G (X_glo_kept c))
  have Pal : Pr P w K mg base "_law_all" 1 (spAll K) := pr_mk (F__law_all c) (He.glo_ok X G (X_glo__law_all c)) (ok_all (F__law_all c))
  have CP : CaseP P w K mg base (.ref (kwAt ("most_swaps", none) "without" K)) := ⟨T, htms, Pal, Pms, Pmk, Pki, Ple, Plo, Pga, Pca, kept_conv htke Pke, Psu, Ppp, Ppk, Pba⟩
  have Qca : Pr2 P w K mg base "_law_case_right" 45 (spCase K) := pr2_mk (F__law_case_right c) (He.glo_ok X G (X_glo__law_case_right c)) (ok_case (F__law_case_right c) CP)
  have Pta : Pr P w K mg base "_law_take" 1 (spTake) := pr_mk (F__law_take c) (He.glo_ok X G (X_glo__law_take c)) (ok_take (F__law_take c) T)
  have Pbo : Pr P w K mg base "_law_box" 1 (spBox K) := pr_mk (F__law_box c) (He.glo_ok X G (X_glo__law_box c)) (ok_box (F__law_box c) T)
  have Pfe : Pr P w K mg base "_law_few" 2 (spFew) := pr_mk (F__law_few c) (He.glo_ok X G (X_glo__law_few c)) (ok_few (F__law_few c) T Pta)
  have Pmi : Pr P w K mg base "_law_mixed" 2 (spMixed) := pr_mk (F__law_mixed c) (He.glo_ok X G (X_glo__law_mixed c)) (ok_mixed (F__law_mixed c) T Pta)
  have Pbk : Pr P w K mg base "_law_book" 3 (spBook K) := pr_mk (F__law_book c) (He.glo_ok X G (X_glo__law_book c)) (ok_book (F__law_book c) T Pta Pfe Pmi)
  have Pce : Pr P w K mg base "_law_cells" 1 (spCells K) := pr_mk (F__law_cells c) (He.glo_ok X G (X_glo__law_cells c)) (ok_cells (F__law_cells c) T)
  have Psa : Pr P w K mg base "_law_same" 4 (spSame K 3) := pr_mk (F__law_same c) (He.glo_ok X G (X_glo__law_same c)) (ok_same (F__law_same c) T (He.glo_ok X G (X_glo__law_same c)) 3)
  have Qkn : Pr2 P w K mg base "_law_known_right" 46 spKnown := pr2_mk (F__law_known_right c) (He.glo_ok X G (X_glo__law_known_right c)) (ok_known (F__law_known_right c) T Pki Psa Qca)
  have Qri : Pr2 P w K mg base "_law_right" 46 spRight := pr2_mk (F__law_right c) (He.glo_ok X G (X_glo__law_right c)) (ok_right (F__law_right c) Pbk Qca)
  exact ok_law (F_law c) T Pce Pbo Qkn Qri
end
end CH
/-! text HD5 -/
open PySem PySem.W PySem.Calls PyProof.Rows
theorem PySem.Challenge.cw_crosshomes_k92_whole_who_stays_in_some_b_holds : PySem.Challenge.rw_crosshomes_k92_whole_who_stays_in_some_b.Holds := by
  w_on; o_law
  refine CH.head2 (r := OpenLaw.row PySem.Challenge.rw_crosshomes_k92_whole_who_stays_in_some_b) (q := view (OpenLaw.row PySem.Challenge.rw_crosshomes_k92_whole_who_stays_in_some_b).prog [48]) (H := CH.hk) (ob := CH.hob) (M := 4000) (loose := CH.hloose) (d := HandSHeadRun.topDef (OpenLaw.row PySem.Challenge.rw_crosshomes_k92_whole_who_stays_in_some_b).prog 48) (kwd := []) CH.hob_eq
    (by kernel_rfl) (fun s => by kernel_rfl) CH.hrun (by kernel_rfl) (by kernel_rfl) (by kernel_rfl) (by rfl) (by first | assumption | decide +kernel) (by decide +kernel) ⟨rfl, rfl, rfl, rfl, rfl, by decide +kernel⟩ ?hw ?hc
  case hw => w_witness2
  case hc =>
    intro w s₀ s₁ mg mb G Y fa o pm cd doc dV kV ho hd hcd hD hmg hg args vals as hpre hlay hrd hwl hlo
    obtain ⟨K, KX, c⟩ := Y
    obtain ⟨a, vs, ns, rfl, rfl, hobj, hints, hlen⟩ := Att.script_of (l := PySem.Challenge.rw_crosshomes_k92_whole_who_stays_in_some_b) (n := 63) rfl hpre hwl
    have hmg' : mg ("law" : PySem.Str) = some (.ref fa) := by
      have e : (HandSHeadRun.topDef (OpenLaw.row PySem.Challenge.rw_crosshomes_k92_whole_who_stays_in_some_b).prog 48).name = ("law" : PySem.Str) := by kernel_rfl
      rw [← e]
      exact hmg
    have e := hmg'.symm.trans (He.glo_ok KX G.T.g (CH.X_glo_law c))
    cases e
    have F : ∀ base : Heap, K.In base → base.Ns mainGlobals mg → CH.FnR2 (OpenLaw.row PySem.Challenge.rw_crosshomes_k92_whole_who_stays_in_some_b).prog w K mg base 47 (He.ga K "law") (CH.spLaw K) := fun base _ _ => CH.all_law KX G.T.g c
    refine wpAny_call (codeAny_mono (CH.law_call2 KX G.T.g G.T.b G.T.builtins G.T.nolimit hg hobj hints (Nat.le_trans hlen (by decide)) ⟨rfl, by decide, by decide⟩ F (fun H hO hS => ⟨a, ns, rfl, hS, Nat.le_trans hlen (by decide), fun H' _ => rfl⟩)) fun r s' hq => ?_)
    obtain ⟨rfl, h2, h3, h4, h5⟩ := hq
    exact ⟨⟨.inl ⟨.bool true, .bool true, [], rfl, fun _ => rfl, .bool true, Att.post_true _ _, fun _ => ⟨List.Pairwise.nil, fun _ hm => (nomatch hm)⟩⟩, h2, h3, h4⟩, h5⟩
