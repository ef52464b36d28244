import PyProof.Rows.All
import Wide.All
import OpenK.AllK
import Wide.FinOn
import PySem.Challenge.RW_rh0076_02
open PySem PySem.W PyProof.Rows
set_option Elab.async false
set_option backward.eqns.nonrecursive false
set_option maxRecDepth 100000
set_option maxHeartbeats 8000000
set_option linter.unusedVariables false
set_option linter.unusedSimpArgs false
set_option compiler.extract_closed false
set_option bootstrap.genMatcherCode false
set_option genSizeOf false
local macro_rules
  | `(tactic| omega) => `(tactic| lia)
namespace Mini
theorem split_o {p q : Program} {loose : List Str} {Xt : Shared -> Bool} {α : Type} {Yf : Shared -> α} {Ya : World -> α} {N : Nat} {g0 : Bool}
    (h1 : ∀ w, (openEnds treeTable p w N).map (fun s => openSeen q loose (importedModules p.main.body) Xt g0 s) = some (openGood q loose))
    (h2 : ∀ w, (openEnds treeTable p w N).map (fun s => Yf s) = some (Ya w)) : LeftO p q loose Xt Yf Ya N g0 := fun w => by
  obtain ⟨s, e1, e2⟩ := Option.map_eq_some_iff.mp (h1 w)
  obtain ⟨s', e1', e2'⟩ := Option.map_eq_some_iff.mp (h2 w)
  obtain rfl : s = s' := Option.some.inj (e1.symm.trans e1')
  rw [e1]
  exact congrArg some (Prod.ext e2 e2')
theorem said_2 : OpenLaw.wellSaid PySem.Challenge.rw_rh0076_02 = true := by
  rewrite [PySem.W.Fast.te9446332074065402090]; kernel_rfl
theorem seen_2 : ∀ w, (openEnds treeTable PySem.Challenge.rw_rh0076_02.row.prog w 4722).map (fun s => openSeen (view PySem.Challenge.pw_rh0076_02 [0, 2, 3, 4, 5, 6, 7, 8, 10, 11, 12, 14, 15, 16, 17, 18, 19, 20, 21, 22, 23, 24, 25, 26, 28, 29, 30, 31, 32]) [] (importedModules PySem.Challenge.rw_rh0076_02.row.prog.main.body) (fun s => xlAt (view PySem.Challenge.pw_rh0076_02 [0, 2, 3, 4, 5, 6, 7, 8, 10, 11, 12, 14, 15, 16, 17, 18, 19, 20, 21, 22, 23, 24, 25, 26, 28, 29, 30, 31, 32]) [] s && recOk (RowW.records (OpenRow.toRowW PySem.Challenge.rw_rh0076_02.row)) s) true s) = some (openGood (view PySem.Challenge.pw_rh0076_02 [0, 2, 3, 4, 5, 6, 7, 8, 10, 11, 12, 14, 15, 16, 17, 18, 19, 20, 21, 22, 23, 24, 25, 26, 28, 29, 30, 31, 32]) []) := by
  intro w; delta openEnds topFrom fencedOpening; rewrite [PySem.W.Fast.te10274390034422433532, PySem.W.Fast.te1435165496053646825, PySem.W.Fast.te14289696077712309145, PySem.W.Fast.te14082659384304107361, PySem.W.Fast.te14364793385576792824, PySem.W.Fast.te8920871248978507458, PySem.W.Fast.te4187177175401517315]; kernel_rfl
noncomputable def hop_2 (H : Hook) (hl : ∀ w, (openEnds treeTable PySem.Challenge.rw_rh0076_02.row.prog w 4722).map (fun s => H.obs s) = some (H.val w)) := fun (said : (OpenLaw.row PySem.Challenge.rw_rh0076_02).wellSaid = true) hw hc => PySem.W.holds_open (r := OpenLaw.row PySem.Challenge.rw_rh0076_02) (q := (view PySem.Challenge.pw_rh0076_02 [0, 2, 3, 4, 5, 6, 7, 8, 10, 11, 12, 14, 15, 16, 17, 18, 19, 20, 21, 22, 23, 24, 25, 26, 28, 29, 30, 31, 32])) (loose := []) (Xt := fun s => xlAt (view PySem.Challenge.pw_rh0076_02 [0, 2, 3, 4, 5, 6, 7, 8, 10, 11, 12, 14, 15, 16, 17, 18, 19, 20, 21, 22, 23, 24, 25, 26, 28, 29, 30, 31, 32]) [] s && recOk (RowW.records (OpenRow.toRowW PySem.Challenge.rw_rh0076_02.row)) s) (XP := XL (view PySem.Challenge.pw_rh0076_02 [0, 2, 3, 4, 5, 6, 7, 8, 10, 11, 12, 14, 15, 16, 17, 18, 19, 20, 21, 22, 23, 24, 25, 26, 28, 29, 30, 31, 32]) []) (Yf := Hook.obs H) (Ya := Hook.val H) (YP := Hook.says H) (N := 4722) (split_o seen_2 hl) (Hook.of H) (Hook.keeps H) (fun s e => xl_of s (Bool.and_eq_true_iff.mp e).1) XL.keeps (by rfl) (by rfl) (by rfl) (fun s e => recFacts_of (Bool.and_eq_true_iff.mp e).2) (by rfl) said (by decide +kernel) ⟨rfl, rfl, rfl, rfl, rfl, by decide +kernel⟩ hw hc
end Mini
local macro_rules
  | `(tactic| o_law) => `(tactic| refine holds_law Mini.said_2 fun said => ?_)
  | `(tactic| o_head $H:term) => `(tactic| (refine Mini.hop_2 $H ?hl (by assumption) ?hw ?hc; case hl => (intro w; delta openEnds topFrom fencedOpening; rewrite [PySem.W.Fast.te10274390034422433532, PySem.W.Fast.te1435165496053646825, PySem.W.Fast.te14289696077712309145, PySem.W.Fast.te14082659384304107361, PySem.W.Fast.te14364793385576792824, PySem.W.Fast.te8920871248978507458]; kernel_rfl)))
open_top hd2 for PySem.Challenge.rw_rh0076_02
open PySem.Calls
namespace Mini
inductive V where
  | none
  | bool (b : Bool)
  | int (i : Int)
  | str (s : String)
  | tup (l : List V)
  | ref (a : Nat)
  deriving Inhabited
inductive MObj where
  | list (vs : List V)
  | dictI (kvs : List (Int × V))
  | dictS (kvs : List (String × V))
  | dictT (kvs : List (List Int × V))
  | inst (C : Nat) (fs : List (String × V))
  | tab (P : Nat) (k : Option (Nat × Int × Int))
  | code (q : String)
  | exc (C : Nat) (fs : List (String × V)) (raised : Bool)
theorem no_some {α : Type} {P : Prop} {y : α} (h : none = some y) : P := by cases h
@[elab_as_elim] theorem one_elim {α : Type} {a c : α} {P : α -> Prop} (e : some a = some c) (h : P a) : P c := by cases e; exact h
@[elab_as_elim] theorem some_elim {α β : Type} {a c : α} {b d : β} {P : α -> β -> Prop} (e : some (a, b) = some (c, d)) (h : P a b) : P c d := by cases e; exact h
noncomputable abbrev MH := List (MObj × Nat)
noncomputable def ob (mh : MH) (i : Nat) : Option MObj := match mh[i]? with | some x => some x.1 | none => none
noncomputable def putO (mh : MH) (i : Nat) (o : MObj) : MH := match mh[i]? with | some x => mh.set i (o, x.2 + 1) | none => mh
noncomputable def mkO (mh : MH) (o : MObj) : MH := mh ++ [(o, 0)]
noncomputable abbrev Loc := List (Option V)
noncomputable abbrev Rho := List (Addr × Addr)
noncomputable def Own (ρ : Rho) (b : Addr) : Prop := ∃ p ∈ ρ, b = p.1 \/ b = p.2
mutual
inductive ValIs (ρ : Rho) (h : Heap) : Value -> V -> Prop where
  | none : ValIs ρ h .none .none
  | bool (b : Bool) : ValIs ρ h (.bool b) (.bool b)
  | int (i : Int) (t : Tok) : ValIs ρ h (.int i t) (.int i)
  | str (s : String) (t : Tok) : PyData.strOk (Str.ofString s) = true -> ValIs ρ h (.str (Str.ofString s) t) (.str s)
  | tup {a : Addr} {items : List Value} {l : List V} : IsTup h a items.toArray -> ValsAre ρ h items l -> ValIs ρ h (.ref a) (.tup l)
  | ref {i : Nat} {p : Addr × Addr} : ρ[i]? = some p -> ValIs ρ h (.ref p.1) (.ref i)
inductive ValsAre (ρ : Rho) (h : Heap) : List Value -> List V -> Prop where
  | nil : ValsAre ρ h [] []
  | cons {v : Value} {x : V} {vs : List Value} {xs : List V} : ValIs ρ h v x -> ValsAre ρ h vs xs -> ValsAre ρ h (v :: vs) (x :: xs)
end
inductive PairsAre {K K' : Type} (f : K' -> K) (ρ : Rho) (h : Heap) : List (K × Value) -> List (K' × V) -> Prop where
  | nil : PairsAre f ρ h [] []
  | cons {k : K'} {v : Value} {x : V} {r : List (K × Value)} {r' : List (K' × V)} : ValIs ρ h v x -> PairsAre f ρ h r r' -> PairsAre f ρ h ((f k, v) :: r) ((k, x) :: r')
noncomputable def pairsT (xs : List (List Int × Addr × Value)) : List (List Int × Value) := xs.map fun x => (x.1, x.2.2)
section
variable (prog : Program) (w : World)
noncomputable def ObjIs (ρ : Rho) (h : Heap) (p : Addr × Addr) : MObj -> Prop
  | .list vs => p.2 = p.1 /\ ∃ items n, h.get? p.1 = some (listOf items.toArray n) /\ ValsAre ρ h items vs
  | .dictI kvs => p.2 = p.1 /\ sysModules < p.1 /\ ∃ ms, h.DictOf (intKind prog w) p.1 ms /\ PairsAre id ρ h ms kvs
  | .dictS kvs => p.2 = p.1 /\ sysModules < p.1 /\ ∃ ms, h.DictOf (strKind prog w) p.1 ms /\ PairsAre Str.ofString ρ h ms kvs
  | .dictT kvs => p.2 = p.1 /\ sysModules < p.1 /\ ∃ xs, h.DictOfH (tupleKind (intKind prog w)) p.1 xs /\ PairsAre id ρ h (pairsT xs) kvs
  | .inst C fs => ∃ ms, h.Inst p.1 C (fun x => ms.lookup x) /\ (∀ o, h.get? p.1 = some o -> o.dict = some p.2) /\ PairsAre Str.ofString ρ h ms fs
  | .tab P none => p.2 = p.1 /\ p.1 = P /\ h.get? p.1 = some (tabObj #[])
  | .tab P (some (j, l, c)) => p.2 = p.1 /\ p.1 = P /\ ∃ c', ρ[j]? = some (c', c') /\ h.get? p.1 = some (tabObj #[rawInt l, rawInt c, .ref c'])
  | .code q => p.2 = p.1 /\ h.CodeRec (.ref p.1) (Str.ofString q)
  | .exc C fs r => ∃ ms o vs, h.get? p.1 = some o /\ o.cls = .ref C /\ o.dict = some p.2 /\ o.data = .fields vs /\ (r = false -> vs[1]? = some .none) /\ h.Ns1 p.2 (fun x => ms.lookup x) /\ PairsAre Str.ofString ρ h ms fs
variable {prog w}
noncomputable def TupKept (h h' : Heap) : Prop := ∀ b o, h.get? b = some o -> o.cls = .type "tuple" -> (∃ items n, o.data = .seq items n) -> h'.get? b = some o
noncomputable def Pre (ρ ρ' : Rho) : Prop := ∀ (i : Nat) (p : Addr × Addr), ρ[i]? = some p -> ρ'[i]? = some p
theorem TupKept.isTup {h h' : Heap} (k : TupKept h h') {a : Addr} {items : Array Value} (x : IsTup h a items) : IsTup h' a items := by
  obtain ⟨o, ho, hc, n, hd⟩ := x
  exact ⟨o, k _ _ ho hc ⟨_, _, hd⟩, hc, n, hd⟩
theorem TupKept.key {h h' : Heap} (k : TupKept h h') {a : Addr} {ks : List Int} (x : IsTupleKey (intKind prog w) h ks a) : IsTupleKey (intKind prog w) h' ks a := by
  obtain ⟨o, items, n, ho, hc, hd, hi⟩ := x
  exact ⟨o, items, n, k _ _ ho hc ⟨_, _, hd⟩, hc, hd, hi⟩
theorem ValIs.mono {ρ ρ' : Rho} {h h' : Heap} (k : TupKept h h') (q : Pre ρ ρ') {v : Value} {x : V} (d : ValIs ρ h v x) : ValIs ρ' h' v x :=
  ValIs.rec (motive_1 := fun v x _ => ValIs ρ' h' v x) (motive_2 := fun v x _ => ValsAre ρ' h' v x) .none .bool .int .str (fun ht _ ih => .tup (k.isTup ht) ih) (fun e => .ref (q _ _ e)) .nil (fun _ _ a b => .cons a b) d
theorem ValsAre.mono {ρ ρ' : Rho} {h h' : Heap} (k : TupKept h h') (q : Pre ρ ρ') {v : List Value} {x : List V} (d : ValsAre ρ h v x) : ValsAre ρ' h' v x :=
  ValsAre.rec (motive_1 := fun v x _ => ValIs ρ' h' v x) (motive_2 := fun v x _ => ValsAre ρ' h' v x) .none .bool .int .str (fun ht _ ih => .tup (k.isTup ht) ih) (fun e => .ref (q _ _ e)) .nil (fun _ _ a b => .cons a b) d
theorem PairsAre.mono {K K' : Type} {f : K' -> K} {ρ ρ' : Rho} {h h' : Heap} (k : TupKept h h') (q : Pre ρ ρ') {a : List (K × Value)} {b : List (K' × V)} (x : PairsAre f ρ h a b) : PairsAre f ρ' h' a b := by
  induction x with
  | nil => exact .nil
  | cons e _ ih => exact .cons (e.mono k q) ih
theorem ObjIs.mono {ρ ρ' : Rho} {h h' : Heap} (k : TupKept h h') (q : Pre ρ ρ') {p : Addr × Addr} (h1 : ∀ o, h.get? p.1 = some o -> h'.get? p.1 = some o) (h2 : ∀ o, h.get? p.2 = some o -> h'.get? p.2 = some o)
    {m : MObj} (x : ObjIs prog w ρ h p m) : ObjIs prog w ρ' h' p m := by
  have dm : ∀ {K : Type} [DecidableEq K] {kd : PySem.KeyKind prog w K} {ms : List (K × Value)}, h.DictOf kd p.1 ms -> h'.DictOf kd p.1 ms := fun d => d.imp fun o d => d.imp fun es d => d.imp fun ep d => ⟨h1 _ d.1, d.2⟩
  cases m with
  | list vs => exact And.imp_right (fun y => y.imp fun items y => y.imp fun n y => ⟨h1 _ y.1, y.2.mono k q⟩) x
  | dictI kvs => exact ⟨x.1, x.2.1, x.2.2.imp fun ms y => ⟨dm y.1, y.2.mono k q⟩⟩
  | dictS kvs => exact ⟨x.1, x.2.1, x.2.2.imp fun ms y => ⟨dm y.1, y.2.mono k q⟩⟩
  | dictT kvs => exact ⟨x.1, x.2.1, x.2.2.imp fun ms y => ⟨y.1.imp fun o => .imp fun es => .imp fun ep r => ⟨h1 _ r.1, r.2.1, r.2.2.1, r.2.2.2.1, fun x hx => k.key (r.2.2.2.2.1 x hx), r.2.2.2.2.2⟩, y.2.mono k q⟩⟩
  | inst C fs =>
    refine Exists.imp (fun ms y => ⟨?_, ?_, y.2.2.mono k q⟩) x
    . refine y.1.imp fun o r => ⟨h1 _ r.1, r.2.1, r.2.2.1, ?_⟩
      refine r.2.2.2.imp_right fun z => ?_
      obtain ⟨d, hod, hne, o2, es, ep, ho2, r2⟩ := z
      have e : d = p.2 := Option.some.inj (hod.symm.trans (y.2.1 o r.1))
      exact ⟨d, hod, hne, o2, es, ep, by rw [e] at ho2 ⊢; exact h2 _ ho2, r2⟩
    . intro o' ho'
      refine y.1.elim fun o r => ?_
      rw [<- Option.some.inj ((h1 _ r.1).symm.trans ho')]
      exact y.2.1 o r.1
  | tab P o =>
    cases o with
    | none => exact ⟨x.1, x.2.1, h1 _ x.2.2⟩
    | some t => exact ⟨x.1, x.2.1, x.2.2.imp fun c' y => ⟨q _ _ y.1, h1 _ y.2⟩⟩
  | code y =>
    refine ⟨x.1, x.2.elim fun c y => y.elim fun oc y => y.elim fun vs y => y.elim fun t y => ⟨c, oc, vs, t, y.1, ?_, y.2.2⟩⟩
    have e : p.1 = c := Value.ref.inj y.1
    rw [<- e]; exact h1 _ (e ▸ y.2.1)
  | exc C fs r => exact x.imp fun ms y => y.imp fun o y => y.imp fun vs y => ⟨h1 _ y.1, y.2.1, y.2.2.1, y.2.2.2.1, y.2.2.2.2.1, y.2.2.2.2.2.1.imp fun o2 z => z.imp fun es z => z.imp fun ep z => ⟨h2 _ z.1, z.2⟩, y.2.2.2.2.2.2.mono k q⟩
theorem ob_some {mh : MH} {i : Nat} {o : MObj} (e : ob mh i = some o) : ∃ st, mh[i]? = some (o, st) := by
  unfold ob at e
  split at e
  . rename_i x h; cases e; exact ⟨x.2, h⟩
  . exact no_some e
theorem ob_lt {mh : MH} {i : Nat} {o : MObj} (e : ob mh i = some o) : i < mh.length := by
  obtain ⟨st, h⟩ := ob_some e
  exact (List.getElem?_eq_some_iff.mp h).1
theorem put_at {mh : MH} {i : Nat} {o m : MObj} {st : Nat} (e : mh[i]? = some (m, st)) : putO mh i o = mh.set i (o, st + 1) := by
  unfold putO; rw [e]
theorem put_length (mh : MH) (i : Nat) (o : MObj) : (putO mh i o).length = mh.length := by
  unfold putO; split <;> simp
theorem put_get_ne (mh : MH) {i j : Nat} (o : MObj) (h : i ≠ j) : (putO mh i o)[j]? = mh[j]? := by
  unfold putO; split
  . rw [List.getElem?_set_ne h]
  . rfl
theorem ob_put_ne (mh : MH) {i j : Nat} (o : MObj) (h : i ≠ j) : ob (putO mh i o) j = ob mh j := by
  unfold ob; rw [put_get_ne mh o h]
theorem ob_put_self {mh : MH} {i : Nat} {o m : MObj} (h : ob mh i = some m) : ob (putO mh i o) i = some o := by
  obtain ⟨st, e⟩ := ob_some h
  rw [put_at e]
  unfold ob
  rw [List.getElem?_set_self (ob_lt h)]
theorem mk_get {mh : MH} {i : Nat} {x : MObj × Nat} (o : MObj) (h : mh[i]? = some x) : (mkO mh o)[i]? = some x := by
  unfold mkO
  rw [List.getElem?_append_left (List.getElem?_eq_some_iff.mp h).1]; exact h
theorem ob_mk {mh : MH} {i : Nat} {m : MObj} (o : MObj) (h : ob mh i = some m) : ob (mkO mh o) i = some m := by
  obtain ⟨st, e⟩ := ob_some h
  unfold ob; rw [mk_get o e]
theorem ob_mk_new (mh : MH) (o : MObj) : ob (mkO mh o) mh.length = some o := by
  unfold ob mkO
  rw [List.getElem?_append_right (Nat.le_refl _)]; simp
structure St (prog : Program) (w : World) (B : Heap) (ρ : Rho) (mh : MH) (h : Heap) : Prop where
  keep : ∀ b o, B.get? b = some o -> h.get? b = some o
  len : ρ.length = mh.length
  apart : ∀ (i j : Nat) (p q : Addr × Addr), ρ[i]? = some p -> ρ[j]? = some q -> i ≠ j -> p.1 ≠ q.1 /\ p.1 ≠ q.2 /\ p.2 ≠ q.1 /\ p.2 ≠ q.2
  new : ∀ b, Own ρ b -> B.get? b = none
  obj : ∀ (i : Nat) (p : Addr × Addr) (o : MObj), ρ[i]? = some p -> ob mh i = some o -> ObjIs prog w ρ h p o
noncomputable def Stays (ρ : Rho) (mh : MH) (h : Heap) (mh' : MH) (h' : Heap) : Prop := ∀ (i : Nat) (o : MObj) (st : Nat), mh[i]? = some (o, st) ->
  ∃ o' st', mh'[i]? = some (o', st') /\ st <= st' /\ (st = st' -> o = o' /\ ∀ (p : Addr × Addr), ρ[i]? = some p -> (∀ x, h.get? p.1 = some x -> h'.get? p.1 = some x) /\ ∀ x, h.get? p.2 = some x -> h'.get? p.2 = some x)
theorem Stays.refl (ρ : Rho) (mh : MH) (h : Heap) : Stays ρ mh h mh h := fun i o st e => ⟨o, st, e, Nat.le_refl _, fun _ => ⟨rfl, fun _ _ => ⟨fun _ e => e, fun _ e => e⟩⟩⟩
theorem Stays.grow {ρ : Rho} {mh : MH} {h h' : Heap} (k : ∀ b o, Own ρ b -> h.get? b = some o -> h'.get? b = some o) : Stays ρ mh h mh h' := fun i o st e =>
  ⟨o, st, e, Nat.le_refl _, fun _ => ⟨rfl, fun p hp => ⟨fun x ex => k _ x ⟨p, List.mem_of_getElem? hp, .inl rfl⟩ ex, fun x ex => k _ x ⟨p, List.mem_of_getElem? hp, .inr rfl⟩ ex⟩⟩⟩
theorem Stays.trans {ρ ρ' : Rho} {mh mh' mh'' : MH} {h h' h'' : Heap} (q : Pre ρ ρ') (a : Stays ρ mh h mh' h') (b : Stays ρ' mh' h' mh'' h'') : Stays ρ mh h mh'' h'' := fun i o st e => by
  obtain ⟨o', st', e', le', k'⟩ := a i o st e
  obtain ⟨o'', st'', e'', le'', k''⟩ := b i o' st' e'
  refine ⟨o'', st'', e'', Nat.le_trans le' le'', fun z => ?_⟩
  have z1 : st = st' := by omega
  have z2 : st' = st'' := by omega
  refine ⟨(k' z1).1.trans (k'' z2).1, fun p hp => ?_⟩
  have u := (k' z1).2 p hp
  have w := (k'' z2).2 p (q i p hp)
  exact ⟨fun x ex => w.1 x (u.1 x ex), fun x ex => w.2 x (u.2 x ex)⟩
structure Ext (X : List Addr) (ρ : Rho) (mh : MH) (h : Heap) (ρ' : Rho) (mh' : MH) (h' : Heap) : Prop where
  pre : Pre ρ ρ'
  fresh : ∀ b, Own ρ' b -> Own ρ b \/ (h.get? b = none /\ b ∉ X)
  kept : ∀ b o, h.get? b = some o -> ¬ Own ρ b -> b ∉ X -> h'.get? b = some o
  stays : Stays ρ mh h mh' h'
theorem Pre.refl (ρ : Rho) : Pre ρ ρ := fun _ _ e => e
theorem Pre.own {ρ ρ' : Rho} (q : Pre ρ ρ') {b : Addr} (o : Own ρ b) : Own ρ' b := by
  obtain ⟨p, hp, e⟩ := o
  obtain ⟨i, hi⟩ := List.getElem?_of_mem hp
  exact ⟨p, List.mem_of_getElem? (q i p hi), e⟩
theorem Pre.append (ρ l : Rho) : Pre ρ (ρ ++ l) := fun i p e => by
  rw [List.getElem?_append_left]
  . exact e
  . exact (List.getElem?_eq_some_iff.mp e).1
theorem Ext.refl (X : List Addr) (ρ : Rho) (mh : MH) (h : Heap) : Ext X ρ mh h ρ mh h := ⟨.refl ρ, fun _ o => .inl o, fun _ _ e _ _ => e, .refl _ _ _⟩
theorem Ext.trans {X : List Addr} {ρ ρ' ρ'' : Rho} {mh mh' mh'' : MH} {h h' h'' : Heap} (a : Ext X ρ mh h ρ' mh' h') (b : Ext X ρ' mh' h' ρ'' mh'' h'') : Ext X ρ mh h ρ'' mh'' h'' := by
  refine ⟨fun i p e => b.pre i p (a.pre i p e), fun x o => ?_, fun x o e n m => ?_, a.stays.trans a.pre b.stays⟩
  . rcases b.fresh x o with o | o
    . exact a.fresh x o
    . cases q : h.get? x with
      | none => exact .inr ⟨rfl, o.2⟩
      | some y =>
        by_cases z : Own ρ x
        . exact .inl z
        . have := a.kept x y q z o.2
          rw [this] at o; cases o.1
  . refine b.kept x o (a.kept x o e n m) (fun z => ?_) m
    rcases a.fresh x z with z | z
    . exact n z
    . rw [e] at z; cases z.1
theorem Ext.weaken {ρ ρ' : Rho} {mh mh' : MH} {h h' : Heap} {X : List Addr} (a : Ext [] ρ mh h ρ' mh' h') (hL : ∀ x ∈ X, ∃ o, h.get? x = some o) : Ext X ρ mh h ρ' mh' h' :=
  ⟨a.pre, fun b o => (a.fresh b o).imp_right fun z => ⟨z.1, fun m => by obtain ⟨_, e⟩ := hL b m; rw [e] at z; cases z.1⟩, fun b o e n _ => a.kept b o e n (by simp), a.stays⟩
theorem Ext.widen {X : List Addr} {ρ ρ' : Rho} {mh mh' : MH} {h h' : Heap} {Y : List Addr} (a : Ext X ρ mh h ρ' mh' h') (hX : ∀ x ∈ X, x ∈ Y) (hY : ∀ y ∈ Y, ∃ o, h.get? y = some o) : Ext Y ρ mh h ρ' mh' h' :=
  ⟨a.pre, fun b o => (a.fresh b o).imp_right fun z => ⟨z.1, fun m => by obtain ⟨_, e⟩ := hY b m; rw [z.1] at e; cases e⟩, fun b o e n m => a.kept b o e n fun q => m (hX b q), a.stays⟩
theorem Ext.drop {ρ ρ' : Rho} {mh mh' : MH} {h h₁ h' : Heap} {X : List Addr} (k : ∀ b o, h.get? b = some o -> h₁.get? b = some o) (hL : ∀ x ∈ X, h.get? x = none) (a : Ext X ρ mh h₁ ρ' mh' h') : Ext [] ρ mh h ρ' mh' h' := by
  refine ⟨a.pre, fun b o => (a.fresh b o).imp_right fun z => ⟨?_, by simp⟩, fun b o e n _ => a.kept b o (k _ _ e) n fun m => ?_, (Stays.grow (fun b o _ e => k b o e)).trans (.refl ρ) a.stays⟩
  . cases q : h.get? b with
    | none => rfl
    | some y => rw [k _ _ q] at z; cases z.1
  . rw [hL _ m] at e; cases e
variable {B : Heap} {ρ ρ' : Rho} {mh mh' : MH} {h h' : Heap}
theorem St.mh_of (S : St prog w B ρ mh h) {i : Nat} {p : Addr × Addr} (e : ρ[i]? = some p) : ∃ o, ob mh i = some o := by
  have := (List.getElem?_eq_some_iff.mp e).1
  rw [S.len] at this
  unfold ob
  rw [List.getElem?_eq_getElem this]
  exact ⟨_, rfl⟩
theorem St.rho_of (S : St prog w B ρ mh h) {i : Nat} {o : MObj} (e : ob mh i = some o) : ∃ p, ρ[i]? = some p := by
  have := ob_lt e
  rw [<- S.len] at this
  exact ⟨_, List.getElem?_eq_getElem this⟩
theorem ObjIs.there {p : Addr × Addr} {m : MObj} (x : ObjIs prog w ρ h p m) : (∃ o, h.get? p.1 = some o) /\ ∃ o, h.get? p.2 = some o := by
  have two : p.2 = p.1 -> (∃ o, h.get? p.1 = some o) -> (∃ o, h.get? p.1 = some o) /\ ∃ o, h.get? p.2 = some o := fun e y => ⟨y, e ▸ y⟩
  have dm : ∀ {K : Type} [DecidableEq K] {kd : PySem.KeyKind prog w K} {ms : List (K × Value)}, h.DictOf kd p.1 ms -> ∃ o, h.get? p.1 = some o := fun d => d.imp fun o d => d.elim fun es d => d.elim fun ep d => d.1
  cases m with
  | list vs => exact two x.1 (x.2.elim fun items y => y.elim fun n y => ⟨_, y.1⟩)
  | dictI kvs => exact two x.1 (x.2.2.elim fun ms y => dm y.1)
  | dictS kvs => exact two x.1 (x.2.2.elim fun ms y => dm y.1)
  | dictT kvs => exact two x.1 (x.2.2.elim fun ms y => y.1.imp fun o z => z.elim fun es z => z.elim fun ep z => z.1)
  | inst C fs =>
    refine Exists.elim x fun ms y => y.1.elim fun o r => ⟨⟨o, r.1⟩, ?_⟩
    have t := y.2.1 o r.1
    rcases r.2.2.2 with hd | ⟨d, hod, hne, o2, es, ep, ho2, r2⟩
    . rw [hd.1] at t; cases t
    . exact ⟨o2, Option.some.inj (hod.symm.trans t) ▸ ho2⟩
  | tab P o =>
    cases o with
    | none => exact two x.1 ⟨_, x.2.2⟩
    | some t => exact two x.1 (x.2.2.elim fun c' y => ⟨_, y.2⟩)
  | code q => exact two x.1 (x.2.elim fun c y => y.elim fun oc y => y.elim fun vs y => y.elim fun t y => ⟨oc, Value.ref.inj y.1 ▸ y.2.1⟩)
  | exc C fs r => exact Exists.elim x fun ms y => y.elim fun o y => y.elim fun vs y => ⟨⟨o, y.1⟩, y.2.2.2.2.2.1.elim fun o2 z => z.elim fun es z => z.elim fun ep z => ⟨o2, z.1⟩⟩
theorem ObjIs.noTup {p : Addr × Addr} {b : Addr} (hb : b = p.1 \/ b = p.2) {o : Obj} (ho : h.get? b = some o) (hc : o.cls = .type "tuple") (hd : ∃ items n, o.data = .seq items n) {m : MObj} (x : ObjIs prog w ρ h p m) : False := by
  have at1 : p.2 = p.1 -> ∀ {o'}, h.get? p.1 = some o' -> o = o' := fun e o' ho' => Option.some.inj (ho.symm.trans ((hb.elim id fun q => q.trans e) ▸ ho'))
  have nt : ∀ {T : String}, (Value.type T == Value.type "tuple") = false -> o.cls ≠ .type T := fun e q => by rw [hc] at q; rw [<- q] at e; exact absurd e (by decide)
  have nd : ∀ {o' : Obj}, o = o' -> (∀ items n, o'.data ≠ .seq items n) -> False := fun e n => by subst e; obtain ⟨items, k, hd⟩ := hd; exact n _ _ hd
  have dm : p.2 = p.1 -> ∀ {K : Type} [DecidableEq K] {kd : PySem.KeyKind prog w K} {ms : List (K × Value)}, h.DictOf kd p.1 ms -> False := fun e {K _ kd ms} d => d.elim fun o d => d.elim fun es d => d.elim fun ep d => nt (T := "dict") (by decide) (at1 e d.1 ▸ d.2.1.1)
  cases m with
  | list vs => exact x.2.elim fun items y => y.elim fun n y => nt (T := "list") (by decide) (at1 x.1 y.1 ▸ rfl)
  | dictI kvs => exact x.2.2.elim fun ms y => dm x.1 y.1
  | dictS kvs => exact x.2.2.elim fun ms y => dm x.1 y.1
  | dictT kvs => exact x.2.2.elim fun ms y => y.1.elim fun o' z => z.elim fun es z => z.elim fun ep z => nt (T := "dict") (by decide) (at1 x.1 z.1 ▸ z.2.1.1)
  | tab P t =>
    cases t with
    | none => exact nd (at1 x.1 x.2.2) fun _ _ q => by cases q
    | some t => exact x.2.2.elim fun c' y => nd (at1 x.1 y.2) fun _ _ q => by cases q
  | code q => exact x.2.elim fun c y => y.elim fun oc y => y.elim fun vs y => y.elim fun t y => nd (at1 x.1 (Value.ref.inj y.1 ▸ y.2.1)) fun _ _ q => by rw [y.2.2.1] at q; cases q
  | exc C fs r =>
    refine Exists.elim x fun ms y => y.elim fun o' y => y.elim fun vs y => ?_
    rcases hb with q | q
    . have e : o = o' := Option.some.inj (ho.symm.trans (q.symm ▸ y.1))
      have := y.2.1; rw [<- e, hc] at this; cases this
    . exact y.2.2.2.2.2.1.elim fun o2 z => z.elim fun es z => z.elim fun ep z => nd (Option.some.inj (ho.symm.trans (q ▸ z.1))) fun _ _ u => by rw [z.2.1] at u; cases u
  | inst C fs =>
    refine Exists.elim x fun ms y => y.1.elim fun o' r => ?_
    rcases hb with q | q
    . have e : o = o' := Option.some.inj (ho.symm.trans (q.symm ▸ r.1))
      have := r.2.1; rw [<- e, hc] at this; cases this
    . have t := y.2.1 o' r.1
      rcases r.2.2.2 with hd' | ⟨d, hod, hne, o2, es, ep, ho2, hd2, r2⟩
      . rw [hd'.1] at t; cases t
      . exact nd (Option.some.inj (ho.symm.trans ((q.trans (Option.some.inj (hod.symm.trans t)).symm) ▸ ho2))) fun _ _ u => by rw [hd2] at u; cases u
theorem St.there (S : St prog w B ρ mh h) {b : Addr} (o : Own ρ b) : ∃ x, h.get? b = some x := by
  obtain ⟨p, hp, e⟩ := o
  obtain ⟨i, hi⟩ := List.getElem?_of_mem hp
  obtain ⟨m, hm⟩ := S.mh_of hi
  have := (S.obj i p m hi hm).there
  rcases e with rfl | rfl
  . exact this.1
  . exact this.2
theorem St.notOwn (S : St prog w B ρ mh h) {b : Addr} {o : Obj} (ho : h.get? b = some o) (hc : o.cls = .type "tuple") (hd : ∃ items n, o.data = .seq items n) : ¬ Own ρ b := by
  rintro ⟨p, hp, e⟩
  obtain ⟨i, hi⟩ := List.getElem?_of_mem hp
  obtain ⟨m, hm⟩ := S.mh_of hi
  exact (S.obj i p m hi hm).noTup e ho hc hd
theorem Ext.tup (S : St prog w B ρ mh h) (x : Ext [] ρ mh h ρ' mh' h') : TupKept h h' := fun b o ho hc hd => x.kept b o ho (S.notOwn ho hc hd) (by simp)
theorem ValIs.ext (S : St prog w B ρ mh h) (x : Ext [] ρ mh h ρ' mh' h') {v : Value} {y : V} (d : ValIs ρ h v y) : ValIs ρ' h' v y := d.mono (x.tup S) x.pre
theorem ValsAre.ext (S : St prog w B ρ mh h) (x : Ext [] ρ mh h ρ' mh' h') {v : List Value} {y : List V} (d : ValsAre ρ h v y) : ValsAre ρ' h' v y := d.mono (x.tup S) x.pre
theorem St.grow (S : St prog w B ρ mh h) (k : ∀ b o, h.get? b = some o -> h'.get? b = some o) : St prog w B ρ mh h' /\ Ext [] ρ mh h ρ mh h' :=
  ⟨⟨fun b o e => k b o (S.keep b o e), S.len, S.apart, S.new, fun i p o hi hm => (S.obj i p o hi hm).mono (fun b o e _ _ => k b o e) (.refl ρ) (fun o e => k _ o e) fun o e => k _ o e⟩,
   ⟨.refl ρ, fun _ o => .inl o, fun b o e _ _ => k b o e, .grow fun b o _ e => k b o e⟩⟩
theorem St.local (S : St prog w B ρ mh h) {L : Addr} (nL : ¬ Own ρ L) (bL : B.get? L = none) (ht : ∀ o, h.get? L = some o -> o.cls ≠ .type "tuple" \/ ∀ items n, o.data ≠ .seq items n)
    (k : ∀ b o, b ≠ L -> h.get? b = some o -> h'.get? b = some o) : St prog w B ρ mh h' /\ Ext [L] ρ mh h ρ mh h' := by
  have tk : TupKept h h' := fun b o e hc hd => k b o (fun q => by
    subst q
    rcases ht o e with z | z
    . exact z hc
    . obtain ⟨_, _, hd⟩ := hd; exact z _ _ hd) e
  refine ⟨⟨fun b o e => k b o (fun q => by subst q; rw [bL] at e; cases e) (S.keep b o e), S.len, S.apart, S.new, fun i p o hi hm => (S.obj i p o hi hm).mono tk (.refl ρ) (fun o e => k _ o (fun q => ?_) e) fun o e => k _ o (fun q => ?_) e⟩,
   ⟨.refl ρ, fun _ o => .inl o, fun b o e _ m => k b o (fun q => m (by simp [q])) e, .grow fun b o z e => k b o (fun q => nL (q ▸ z)) e⟩⟩
  . exact nL ⟨p, List.mem_of_getElem? hi, .inl q.symm⟩
  . exact nL ⟨p, List.mem_of_getElem? hi, .inr q.symm⟩
theorem St.alloc (S : St prog w B ρ mh h) {p : Addr × Addr} {o : MObj} (k : ∀ b o, h.get? b = some o -> h'.get? b = some o) (n1 : h.get? p.1 = none) (n2 : h.get? p.2 = none) (ho : ObjIs prog w (ρ ++ [p]) h' p o) :
    St prog w B (ρ ++ [p]) (mkO mh o) h' /\ Ext [] ρ mh h (ρ ++ [p]) (mkO mh o) h' /\ (ρ ++ [p])[mh.length]? = some p := by
  have nB : ∀ b, h.get? b = none -> B.get? b = none := fun b e => by
    cases q : B.get? b with
    | none => rfl
    | some x => rw [S.keep _ _ q] at e; cases e
  have own' : ∀ b, Own (ρ ++ [p]) b -> Own ρ b \/ b = p.1 \/ b = p.2 := by
    rintro b ⟨q, hq, e⟩
    rcases List.mem_append.mp hq with z | z
    . exact .inl ⟨q, z, e⟩
    . rw [List.mem_singleton.mp z] at e; exact .inr e
  have fr : ∀ b, (b = p.1 \/ b = p.2) -> h.get? b = none := fun b e => by rcases e with rfl | rfl <;> assumption
  have notold : ∀ (i : Nat) (q : Addr × Addr), ρ[i]? = some q -> q.1 ≠ p.1 /\ q.1 ≠ p.2 /\ q.2 ≠ p.1 /\ q.2 ≠ p.2 := fun i q e => by
    have o1 : Own ρ q.1 := ⟨q, List.mem_of_getElem? e, .inl rfl⟩
    have o2 : Own ρ q.2 := ⟨q, List.mem_of_getElem? e, .inr rfl⟩
    obtain ⟨_, t1⟩ := S.there o1
    obtain ⟨_, t2⟩ := S.there o2
    refine ⟨fun z => ?_, fun z => ?_, fun z => ?_, fun z => ?_⟩
    . rw [z, n1] at t1; cases t1
    . rw [z, n2] at t1; cases t1
    . rw [z, n1] at t2; cases t2
    . rw [z, n2] at t2; cases t2
  have idx : ∀ (i : Nat) (q : Addr × Addr), (ρ ++ [p])[i]? = some q -> ρ[i]? = some q \/ (i = ρ.length /\ q = p) := fun i q e => by
    by_cases z : i < ρ.length
    . rw [List.getElem?_append_left z] at e; exact .inl e
    . rw [List.getElem?_append_right (by omega)] at e
      have : i - ρ.length = 0 := by
        have := (List.getElem?_eq_some_iff.mp e).1
        simp at this; omega
      rw [this] at e
      simp at e
      exact .inr ⟨by omega, e.symm⟩
  refine ⟨⟨fun b o e => k b o (S.keep b o e), by simp [mkO, S.len], fun i j q r hi hj ne => ?_, fun b o => ?_, fun i q m hi hm => ?_⟩, ⟨.append _ _, fun b o => ?_, fun b o e _ _ => k b o e, fun i m st e => ⟨m, st, mk_get o e, Nat.le_refl _, fun _ => ⟨rfl, fun _ _ => ⟨fun x ex => k _ x ex, fun x ex => k _ x ex⟩⟩⟩⟩, ?_⟩
  . rcases idx i q hi with hi' | ⟨hi', rfl⟩
    . rcases idx j r hj with hj' | ⟨hj', rfl⟩
      . exact S.apart i j q r hi' hj' ne
      . exact notold i q hi'
    . rcases idx j r hj with hj' | ⟨hj', rfl⟩
      . have := notold j r hj'; exact ⟨this.1.symm, this.2.2.1.symm, this.2.1.symm, this.2.2.2.symm⟩
      . omega
  . rcases own' b o with z | z
    . exact S.new b z
    . exact nB b (fr b z)
  . rcases idx i q hi with hi' | ⟨hi', rfl⟩
    . obtain ⟨m', hm'⟩ := S.mh_of hi'
      have : m' = m := by rw [ob_mk o hm'] at hm; exact Option.some.inj hm
      subst this
      exact (S.obj i q m' hi' hm').mono (fun b o e _ _ => k b o e) (.append _ _) (fun o e => k _ o e) fun o e => k _ o e
    . subst hi'
      rw [S.len, ob_mk_new] at hm
      cases hm
      exact ho
  . rcases own' b o with z | z
    . exact .inl z
    . exact .inr ⟨fr b z, by simp⟩
  . rw [List.getElem?_append_right (by rw [S.len]; exact Nat.le_refl _), S.len]; simp
theorem St.put (S : St prog w B ρ mh h) {i : Nat} {p : Addr × Addr} {o : MObj} (hi : ρ[i]? = some p) (k : ∀ b o, b ≠ p.1 -> b ≠ p.2 -> h.get? b = some o -> h'.get? b = some o) (ho : TupKept h h' -> ObjIs prog w ρ h' p o) :
    St prog w B ρ (putO mh i o) h' /\ Ext [] ρ mh h ρ (putO mh i o) h' := by
  have op1 : Own ρ p.1 := ⟨p, List.mem_of_getElem? hi, .inl rfl⟩
  have op2 : Own ρ p.2 := ⟨p, List.mem_of_getElem? hi, .inr rfl⟩
  have tk : TupKept h h' := fun b o e hc hd => k b o (fun q => S.notOwn e hc hd (q ▸ op1)) (fun q => S.notOwn e hc hd (q ▸ op2)) e
  refine ⟨⟨fun b o e => k b o (fun q => ?_) (fun q => ?_) (S.keep b o e), by rw [put_length]; exact S.len, S.apart, S.new, fun j q m hj hm => ?_⟩, ⟨.refl ρ, fun _ o => .inl o, fun b o e n _ => k b o (fun q => n (q ▸ op1)) (fun q => n (q ▸ op2)) e, fun j m st e => ?_⟩⟩
  . subst q; rw [S.new _ op1] at e; cases e
  . subst q; rw [S.new _ op2] at e; cases e
  . by_cases z : i = j
    . subst z
      rw [hi] at hj; cases hj
      obtain ⟨m', hm'⟩ := S.mh_of hi
      rw [ob_put_self hm'] at hm
      cases hm; exact ho tk
    . rw [ob_put_ne _ _ z] at hm
      have ap := S.apart i j p q hi hj z
      exact (S.obj j q m hj hm).mono tk (.refl ρ) (fun o e => k _ o (Ne.symm ap.1) (Ne.symm ap.2.2.1) e) fun o e => k _ o (Ne.symm ap.2.1) (Ne.symm ap.2.2.2) e
  . by_cases z : i = j
    . subst z
      refine ⟨o, st + 1, ?_, by omega, fun z => by omega⟩
      rw [put_at e, List.getElem?_set_self (List.getElem?_eq_some_iff.mp e).1]
    . refine ⟨m, st, by rw [put_get_ne _ _ z]; exact e, Nat.le_refl _, fun _ => ⟨rfl, fun q hj => ?_⟩⟩
      have ap := S.apart i j p q hi hj z
      exact ⟨fun x ex => k _ x (Ne.symm ap.1) (Ne.symm ap.2.2.1) ex, fun x ex => k _ x (Ne.symm ap.2.1) (Ne.symm ap.2.2.2) ex⟩
end
end Mini
namespace Mini
structure Cx where
  prog : Program
  w : World
  B : Heap
  K : Frag
  g : Array GenState
  d : Drawn
  os : OsState
  p : Program
  loose : List Str
  mg : Str -> Option Value
  mb : Str -> Option Value
structure Cx.Ok (C : Cx) : Prop where
  X : C.K.In C.B
  T : TopRead C.p C.loose C.mg C.mb C.B
noncomputable def Sh (C : Cx) (s : Shared) : Prop := s.gens = C.g /\ s.drawn = C.d /\ s.os = C.os
noncomputable def Room (n : Nat) (A : Around) : Prop := A.depth + 3 * n + 8 < recursionLimit /\ A.units + 12 * n + 100 < cLine /\ A.handled = none
noncomputable abbrev SSt (C : Cx) (ρ : Rho) (mh : MH) (s : Shared) : Prop := St C.prog C.w C.B ρ mh s.heap
structure Fid where
  L : Addr
  cs : List (Str × Addr)
noncomputable def Fid.X (p : Fid) : List Addr := p.L :: p.cs.map (·.2)
structure Fn where
  scope : Scope
  env : Fid -> Env
  hs : ∀ p, (env p).scope = scope
  hl : ∀ p, (env p).locals = p.L
  hg : ∀ p, (env p).globals = mainGlobals
  hb : ∀ p, (env p).builtins = builtinsNs
  hc : ∀ p, (env p).cells = p.cs
noncomputable abbrev Fn.of (name : Str) (scope : Scope) (a : Addr) (cd : Value) : Fn where
  scope := scope
  env p := { envOf name scope p.L a cd with cells := p.cs }
  hs _ := rfl
  hl _ := rfl
  hg _ := rfl
  hb _ := rfl
  hc _ := rfl
noncomputable def Fn.ix (f : Fn) (x : Str) : Option Nat := f.scope.names.findIdx? (·.1 == x)
noncomputable def Fn.at (f : Fn) (x : Str) (i : Nat) : Bool := f.ix x == some i && (f.scope.names.lookup x == some .local || f.scope.names.lookup x == some .cell) && f.scope.kind == .function && !(x == ("__debug__" : Str))
noncomputable def Holds (f : Fn) (p : Fid) (h : Heap) (m : Str -> Option Value) (x : Str) (v : Value) : Prop :=
  if f.scope.names.lookup x = some .cell then ∃ c, p.cs.lookup x = some c /\ h.IsCell c (some v) else m x = some v
noncomputable def LocIs (f : Fn) (p : Fid) (ρ : Rho) (h : Heap) (m : Str -> Option Value) (loc : Loc) : Prop :=
  ∀ x i v, f.ix x = some i -> loc[i]? = some (some v) -> ∃ v', Holds f p h m x v' /\ ValIs ρ h v' v
structure Fra (C : Cx) (f : Fn) (L : Fid) (loc : Loc) (ρ : Rho) (mh : MH) (s : Shared) : Prop where
  sh : Sh C s
  st : SSt C ρ mh s
  ns : ∃ m, s.heap.Ns L.L m /\ LocIs f L ρ s.heap m loc
  nX : ∀ x ∈ L.X, ¬ Own ρ x
  bX : ∀ x ∈ L.X, C.B.get? x = none
  cX : ∀ c ∈ L.cs.map (·.2), c ≠ L.L /\ ∃ v, s.heap.IsCell c v
  cN : (L.cs.map (·.2)).Nodup
  cS : ∀ x, f.scope.names.lookup x = some .cell -> ∃ c, L.cs.lookup x = some c
theorem Fra.there {C : Cx} {f : Fn} {L : Fid} {loc : Loc} {ρ : Rho} {mh : MH} {s : Shared} (F : Fra C f L loc ρ mh s) : ∃ _u : Unit, ∀ x ∈ L.X, ∃ o, s.heap.get? x = some o := by
  refine ⟨(), fun x hx => ?_⟩
  rcases List.mem_cons.mp hx with rfl | hx
  . obtain ⟨m, ⟨o, es, ep, ho, _⟩, _⟩ := F.ns
    exact ⟨o, ho⟩
  . obtain ⟨_, v, o, ho, _⟩ := F.cX x hx
    exact ⟨o, ho⟩
theorem lookup_mem {α : Type} {x : Str} {c : α} : ∀ {l : List (Str × α)}, l.lookup x = some c -> (x, c) ∈ l
  | [], h => by cases h
  | (a, b) :: r, h => by
    rw [List.lookup_cons] at h
    split at h
    . rename_i e; cases h; rw [eq_of_beq e]; exact .head _
    . exact .tail _ (lookup_mem h)
theorem Holds.mono {f : Fn} {p : Fid} {h h' : Heap} {m : Str -> Option Value} {x : Str} {v : Value} (H : Holds f p h m x v) (k : ∀ c ∈ p.cs.map (·.2), ∀ o, h.get? c = some o -> h'.get? c = some o) : Holds f p h' m x v := by
  unfold Holds at H ⊢
  split
  . rename_i e
    rw [if_pos e] at H
    obtain ⟨c, hc, o, ho, hd⟩ := H
    refine ⟨c, hc, o, k c ?_ o ho, hd⟩
    have := lookup_mem hc
    exact List.mem_map.mpr ⟨_, this, rfl⟩
  . rename_i e
    rw [if_neg e] at H; exact H
theorem Fra.ext {C : Cx} {f : Fn} {L : Fid} {loc : Loc} {ρ ρ' : Rho} {mh mh' : MH} {s s' : Shared} (F : Fra C f L loc ρ mh s) (x : Ext [] ρ mh s.heap ρ' mh' s'.heap) (sh : Sh C s') (S' : SSt C ρ' mh' s') : Fra C f L loc ρ' mh' s' := by
  have k : ∀ y ∈ L.X, ∀ o, s.heap.get? y = some o -> s'.heap.get? y = some o := fun y hy o e => x.kept y o e (F.nX y hy) (by simp)
  obtain ⟨m, ⟨o, es, ep, ho, r⟩, hl⟩ := F.ns
  refine ⟨sh, S', ⟨m, ⟨o, es, ep, k _ (.head _) _ ho, r⟩, fun y i v hi hv => ?_⟩, fun y hy z => ?_, F.bX, fun c hc => ?_, F.cN, F.cS⟩
  . obtain ⟨v', h1, h2⟩ := hl y i v hi hv
    exact ⟨v', h1.mono fun c hc => k c (.tail _ hc), h2.ext F.st x⟩
  . rcases x.fresh y z with z | z
    . exact F.nX y hy z
    . obtain ⟨_, t⟩ := F.there
      obtain ⟨_, t⟩ := t y hy
      rw [t] at z; cases z.1
  . obtain ⟨h1, v, o, ho, hd⟩ := F.cX c hc
    exact ⟨h1, v, o, k c (.tail _ hc) o ho, hd⟩
section
variable {α β : Type} {P : Prop}
noncomputable def bd (x : Option (α × MH)) (f : α -> MH -> Option β) : Option β := match x with | some (a, m) => f a m | none => none
theorem bd_elim {x : Option (α × MH)} {f : α -> MH -> Option β} {y : β} (h : bd x f = some y) (k : ∀ a m, x = some (a, m) -> f a m = some y -> P) : P := by
  cases x with | none => exact no_some h | some p => exact k p.1 p.2 rfl h
noncomputable def bo (x : Option α) (f : α -> Option β) : Option β := match x with | some a => f a | none => none
theorem bo_elim {x : Option α} {f : α -> Option β} {y : β} (h : bo x f = some y) (k : ∀ a, x = some a -> f a = some y -> P) : P := by
  cases x with | none => exact no_some h | some p => exact k p rfl h
noncomputable def gd (c : Prop) [Decidable c] (x : Option α) : Option α := if c then x else none
theorem gd_elim {c : Prop} [Decidable c] {x : Option α} {y : α} (h : gd c x = some y) (k : c -> x = some y -> P) : P := by
  unfold gd at h; by_cases z : c
  . rw [if_pos z] at h; exact k z h
  . rw [if_neg z] at h; exact no_some h
noncomputable def vref (a : V) (f : Nat -> Option β) : Option β := match a with | .ref i => f i | _ => none
theorem vref_elim {a : V} {f : Nat -> Option β} {y : β} (h : vref a f = some y) (k : ∀ i, a = .ref i -> f i = some y -> P) : P := by cases a <;> first | exact k _ rfl h | exact no_some h
noncomputable def vint (a : V) (f : Int -> Option β) : Option β := match a with | .int i => f i | _ => none
theorem vint_elim {a : V} {f : Int -> Option β} {y : β} (h : vint a f = some y) (k : ∀ i, a = .int i -> f i = some y -> P) : P := by cases a <;> first | exact k _ rfl h | exact no_some h
noncomputable def vtup (a : V) (f : List V -> Option β) : Option β := match a with | .tup i => f i | _ => none
theorem vtup_elim {a : V} {f : List V -> Option β} {y : β} (h : vtup a f = some y) (k : ∀ i, a = .tup i -> f i = some y -> P) : P := by cases a <;> first | exact k _ rfl h | exact no_some h
noncomputable def vbool (a : V) (f : Bool -> Option β) : Option β := match a with | .bool i => f i | _ => none
theorem vbool_elim {a : V} {f : Bool -> Option β} {y : β} (h : vbool a f = some y) (k : ∀ i, a = .bool i -> f i = some y -> P) : P := by cases a <;> first | exact k _ rfl h | exact no_some h
noncomputable def cd (b : Bool) (x y : Option α) : Option α := match b with | true => x | false => y
theorem cd_elim {b : Bool} {x y : Option α} {z : α} (h : cd b x y = some z) (k1 : b = true -> x = some z -> P) (k2 : b = false -> y = some z -> P) : P := by cases b <;> first | exact k1 rfl h | exact k2 rfl h
noncomputable def vrt (a : V) (f : Nat -> Option β) (g : List V -> Option β) : Option β := match a with | .ref i => f i | .tup l => g l | _ => none
theorem vrt_elim {a : V} {f : Nat -> Option β} {g : List V -> Option β} {y : β} (h : vrt a f g = some y) (k1 : ∀ i, a = .ref i -> f i = some y -> P) (k2 : ∀ l, a = .tup l -> g l = some y -> P) : P := by cases a <;> first | exact k1 _ rfl h | exact k2 _ rfl h | exact no_some h
noncomputable def vkey (a : V) (f : Int -> Option β) (g : String -> Option β) (q : List V -> Option β) : Option β := match a with | .int i => f i | .str s => g s | .tup l => q l | _ => none
theorem vkey_elim {a : V} {f : Int -> Option β} {g : String -> Option β} {q : List V -> Option β} {y : β} (h : vkey a f g q = some y) (k1 : ∀ i, a = .int i -> f i = some y -> P) (k2 : ∀ i, a = .str i -> g i = some y -> P) (k3 : ∀ i, a = .tup i -> q i = some y -> P) : P := by
  cases a <;> first | exact k1 _ rfl h | exact k2 _ rfl h | exact k3 _ rfl h | exact no_some h
noncomputable def oL (mh : MH) (i : Nat) (f : List V -> Option β) : Option β := match ob mh i with | some (.list l) => f l | _ => none
noncomputable def oI (mh : MH) (i : Nat) (f : List (Int × V) -> Option β) : Option β := match ob mh i with | some (.dictI l) => f l | _ => none
noncomputable def oS (mh : MH) (i : Nat) (f : List (String × V) -> Option β) : Option β := match ob mh i with | some (.dictS l) => f l | _ => none
noncomputable def oT (mh : MH) (i : Nat) (f : List (List Int × V) -> Option β) : Option β := match ob mh i with | some (.dictT l) => f l | _ => none
noncomputable def oN (mh : MH) (i : Nat) (f : Nat -> List (String × V) -> Option β) : Option β := match ob mh i with | some (.inst c l) => f c l | _ => none
noncomputable def oLD (mh : MH) (i : Nat) (f : List V -> Option β) (g : List (Int × V) -> Option β) : Option β := match ob mh i with | some (.list l) => f l | some (.dictI l) => g l | _ => none
section
variable {mh : MH} {i : Nat} {y : β}
theorem oLD_elim {f : List V -> Option β} {g : List (Int × V) -> Option β} (h : oLD mh i f g = some y) (k1 : ∀ l, ob mh i = some (.list l) -> f l = some y -> P) (k2 : ∀ l, ob mh i = some (.dictI l) -> g l = some y -> P) : P := by unfold oLD at h; generalize ob mh i = o at h k1 k2; cases o with | none => exact no_some h | some o => cases o <;> first | exact k1 _ rfl h | exact k2 _ rfl h | exact no_some h
theorem oL_elim {f : List V -> Option β} (h : oL mh i f = some y) (k : ∀ l, ob mh i = some (.list l) -> f l = some y -> P) : P := by unfold oL at h; generalize ob mh i = o at h k; cases o with | none => exact no_some h | some o => cases o <;> first | exact k _ rfl h | exact no_some h
theorem oI_elim {f : List (Int × V) -> Option β} (h : oI mh i f = some y) (k : ∀ l, ob mh i = some (.dictI l) -> f l = some y -> P) : P := by unfold oI at h; generalize ob mh i = o at h k; cases o with | none => exact no_some h | some o => cases o <;> first | exact k _ rfl h | exact no_some h
theorem oS_elim {f : List (String × V) -> Option β} (h : oS mh i f = some y) (k : ∀ l, ob mh i = some (.dictS l) -> f l = some y -> P) : P := by unfold oS at h; generalize ob mh i = o at h k; cases o with | none => exact no_some h | some o => cases o <;> first | exact k _ rfl h | exact no_some h
theorem oT_elim {f : List (List Int × V) -> Option β} (h : oT mh i f = some y) (k : ∀ l, ob mh i = some (.dictT l) -> f l = some y -> P) : P := by unfold oT at h; generalize ob mh i = o at h k; cases o with | none => exact no_some h | some o => cases o <;> first | exact k _ rfl h | exact no_some h
theorem oN_elim {f : Nat -> List (String × V) -> Option β} (h : oN mh i f = some y) (k : ∀ c l, ob mh i = some (.inst c l) -> f c l = some y -> P) : P := by unfold oN at h; generalize ob mh i = o at h k; cases o with | none => exact no_some h | some o => cases o <;> first | exact k _ _ rfl h | exact no_some h
end
noncomputable def on1 (f : V -> MH -> Option β) : List V -> MH -> Option β := fun as mh => match as with | [a] => f a mh | _ => none
noncomputable def on2 (f : V -> V -> MH -> Option β) : List V -> MH -> Option β := fun as mh => match as with | [a, b] => f a b mh | _ => none
noncomputable def on3 (f : V -> V -> V -> MH -> Option β) : List V -> MH -> Option β := fun as mh => match as with | [a, b, c] => f a b c mh | _ => none
theorem on1_elim {f : V -> MH -> Option β} {as : List V} {mh : MH} {y : β} (h : on1 f as mh = some y) (k : ∀ a, as = [a] -> f a mh = some y -> P) : P := by
  cases as with | nil => exact no_some h | cons a as => cases as with | nil => exact k _ rfl h | cons b as => exact no_some h
theorem on2_elim {f : V -> V -> MH -> Option β} {as : List V} {mh : MH} {y : β} (h : on2 f as mh = some y) (k : ∀ a b, as = [a, b] -> f a b mh = some y -> P) : P := by
  cases as with | nil => exact no_some h | cons a as => cases as with | nil => exact no_some h | cons b as => cases as with | nil => exact k _ _ rfl h | cons c as => exact no_some h
theorem on3_elim {f : V -> V -> V -> MH -> Option β} {as : List V} {mh : MH} {y : β} (h : on3 f as mh = some y) (k : ∀ a b c, as = [a, b, c] -> f a b c mh = some y -> P) : P := by
  cases as with | nil => exact no_some h | cons a as => cases as with | nil => exact no_some h | cons b as => cases as with | nil => exact no_some h | cons c as => cases as with | nil => exact k _ _ _ rfl h | cons d as => exact no_some h
end
theorem ValIs.refE {ρ : Rho} {h : Heap} {v : Value} {i : Nat} {P : Prop} (d : ValIs ρ h v (.ref i)) (k : ∀ p, v = .ref p.1 -> ρ[i]? = some p -> P) : P := by cases d with | ref e => exact k _ rfl e
theorem ValIs.intE {ρ : Rho} {h : Heap} {v : Value} {i : Int} {P : Prop} (d : ValIs ρ h v (.int i)) (k : ∀ t, v = .int i t -> P) : P := by cases d with | int i t => exact k t rfl
theorem ValIs.strE {ρ : Rho} {h : Heap} {v : Value} {x : String} {P : Prop} (d : ValIs ρ h v (.str x)) (k : ∀ t, v = .str (Str.ofString x) t -> PyData.strOk (Str.ofString x) = true -> P) : P := by cases d with | str s t e => exact k t rfl e
theorem ValIs.boolE {ρ : Rho} {h : Heap} {v : Value} {b : Bool} (d : ValIs ρ h v (.bool b)) : v = .bool b := by cases d; rfl
theorem ValIs.tupE {ρ : Rho} {h : Heap} {v : Value} {l : List V} {P : Prop} (d : ValIs ρ h v (.tup l)) (k : ∀ a items, v = .ref a -> IsTup h a items.toArray -> ValsAre ρ h items l -> P) : P := by cases d with | tup a b => exact k _ _ rfl a b
theorem ValsAre.nilE {ρ : Rho} {h : Heap} {v : List Value} (d : ValsAre ρ h v []) : v = [] := by cases d; rfl
theorem ValsAre.consE {ρ : Rho} {h : Heap} {v : List Value} {x : V} {xs : List V} {P : Prop} (d : ValsAre ρ h v (x :: xs)) (k : ∀ a as, v = a :: as -> ValIs ρ h a x -> ValsAre ρ h as xs -> P) : P := by cases d with | cons a b => exact k _ _ rfl a b
theorem ValsAre.oneE {ρ : Rho} {h : Heap} {v : List Value} {x : V} {P : Prop} (d : ValsAre ρ h v [x]) (k : ∀ a, v = [a] -> ValIs ρ h a x -> P) : P := d.consE fun a as e d1 d2 => k a (by rw [e, d2.nilE]) d1
theorem ValsAre.twoE {ρ : Rho} {h : Heap} {v : List Value} {x y : V} {P : Prop} (d : ValsAre ρ h v [x, y]) (k : ∀ a b, v = [a, b] -> ValIs ρ h a x -> ValIs ρ h b y -> P) : P := d.consE fun a as e d1 d2 => d2.oneE fun b e2 d3 => k a b (by rw [e, e2]) d1 d3
theorem ValsAre.threeE {ρ : Rho} {h : Heap} {v : List Value} {x y z : V} {P : Prop} (d : ValsAre ρ h v [x, y, z]) (k : ∀ a b c, v = [a, b, c] -> ValIs ρ h a x -> ValIs ρ h b y -> ValIs ρ h c z -> P) : P := d.consE fun a as e d1 d2 => d2.twoE fun b c e2 d3 d4 => k a b c (by rw [e, e2]) d1 d3 d4
noncomputable abbrev RE := Loc -> MH -> Option (V × MH)
noncomputable abbrev REs := Loc -> MH -> Option (List V × MH)
noncomputable abbrev RT := Loc -> MH -> Option (Bool × MH)
noncomputable abbrev O1 := V -> MH -> Option (V × MH)
noncomputable abbrev O2 := V -> V -> MH -> Option (V × MH)
noncomputable abbrev ON := List V -> MH -> Option (V × MH)
inductive SR where
  | next (loc : Loc) (mh : MH)
  | cont (loc : Loc) (mh : MH)
  | ret (v : V) (mh : MH)
noncomputable abbrev RS := Loc -> MH -> Option SR
inductive PE (C : Cx) (ρ : Rho) (mh : MH) (h : Heap) (mh' : MH) (v : V) (v' : Value) (s' : Shared) : Prop where
  | mk (ρ' : Rho) (x : Ext [] ρ mh h ρ' mh' s'.heap) (sh : Sh C s') (S : SSt C ρ' mh' s') (d : ValIs ρ' s'.heap v' v)
inductive PEs (C : Cx) (ρ : Rho) (mh : MH) (h : Heap) (mh' : MH) (v : List V) (v' : List Value) (s' : Shared) : Prop where
  | mk (ρ' : Rho) (x : Ext [] ρ mh h ρ' mh' s'.heap) (sh : Sh C s') (S : SSt C ρ' mh' s') (d : ValsAre ρ' s'.heap v' v)
inductive PT (C : Cx) (ρ : Rho) (mh : MH) (h : Heap) (mh' : MH) (b b' : Bool) (s' : Shared) : Prop where
  | mk (ρ' : Rho) (x : Ext [] ρ mh h ρ' mh' s'.heap) (sh : Sh C s') (S : SSt C ρ' mh' s') (e : b' = b)
inductive PS (C : Cx) (f : Fn) (L : Fid) (ρ : Rho) (mh : MH) (h : Heap) (r : SR) (fl : Flow) (s' : Shared) : Prop where
  | mk (ρ' : Rho) (mh' : MH) (x : Ext L.X ρ mh h ρ' mh' s'.heap) (sh : Sh C s') (z : match r, fl with
    | .next loc m, .next => m = mh' /\ Fra C f L loc ρ' m s'
    | .cont loc m, .cont => m = mh' /\ Fra C f L loc ρ' m s'
    | .ret v m, .ret v' => m = mh' /\ SSt C ρ' m s' /\ ValIs ρ' s'.heap v' v
    | _, _ => False)
noncomputable def SemE (C : Cx) (n : Nat) (f : Fn) (e : Expr) (r : RE) : Prop :=
  ∀ A E L loc ρ mh s v mh', Room n A -> Fra C f L loc ρ mh s -> r loc mh = some (v, mh') -> wpAny (model C.prog C.w) A (eval e (f.env L)) (PE C ρ mh s.heap mh' v) E s
noncomputable def SemEs (C : Cx) (n : Nat) (f : Fn) (es : List Expr) (r : REs) : Prop :=
  (∀ loc mh v mh', r loc mh = some (v, mh') -> v.length = es.length) /\ ∀ A E L loc ρ mh s v mh' pos, Room n A -> Fra C f L loc ρ mh s -> r loc mh = some (v, mh') -> wpAny (model C.prog C.w) A (spliced (backTo pos (starEach es (f.env L)))) (PEs C ρ mh s.heap mh' v) E s
noncomputable def SemT (C : Cx) (n : Nat) (f : Fn) (e : Expr) (r : RT) : Prop :=
  ∀ A E L loc ρ mh s b mh', Room n A -> Fra C f L loc ρ mh s -> r loc mh = some (b, mh') -> wpAny (model C.prog C.w) A (isTrue e (f.env L) (eval e (f.env L))) (PT C ρ mh s.heap mh' b) E s
noncomputable def SemS1 (C : Cx) (n : Nat) (f : Fn) (st : Stmt) (r : RS) : Prop :=
  ∀ A E L loc ρ mh s x, Room n A -> Fra C f L loc ρ mh s -> r loc mh = some x -> wpAny (model C.prog C.w) A (exec st (f.env L)) (PS C f L ρ mh s.heap x) E s
noncomputable def SemS (C : Cx) (n : Nat) (f : Fn) (st : List Stmt) (r : RS) : Prop :=
  ∀ A E L loc ρ mh s x, Room n A -> Fra C f L loc ρ mh s -> r loc mh = some x -> wpAny (model C.prog C.w) A (execs st (f.env L)) (PS C f L ρ mh s.heap x) E s
noncomputable def Op1 (C : Cx) (n : Nat) (t : Value -> Sem Value) (g : O1) : Prop :=
  ∀ A E ρ mh s a a' v mh', Room n A -> Sh C s -> SSt C ρ mh s -> ValIs ρ s.heap a' a -> g a mh = some (v, mh') -> wpAny (model C.prog C.w) A (t a') (PE C ρ mh s.heap mh' v) E s
noncomputable def Op2 (C : Cx) (n : Nat) (t : Value -> Value -> Sem Value) (g : O2) : Prop :=
  ∀ A E ρ mh s a b a' b' v mh', Room n A -> Sh C s -> SSt C ρ mh s -> ValIs ρ s.heap a' a -> ValIs ρ s.heap b' b -> g a b mh = some (v, mh') -> wpAny (model C.prog C.w) A (t a' b') (PE C ρ mh s.heap mh' v) E s
noncomputable def SemF (C : Cx) (n : Nat) (c : Value) (g : ON) : Prop :=
  ∀ A E ρ mh s as as' v mh', Room n A -> Sh C s -> SSt C ρ mh s -> ValsAre ρ s.heap as' as -> g as mh = some (v, mh') -> wpAny (model C.prog C.w) A (call c as') (PE C ρ mh s.heap mh' v) E s
section
variable {C : Cx} {n : Nat} {f : Fn} {A : Around} {E : Value -> Shared -> Prop} {ρ ρ' : Rho} {mh mh' : MH} {s s' : Shared} {v : V} {v' : Value} {h h' : Heap}
theorem PE.trans {mh₁ : MH} (x : Ext [] ρ mh h ρ' mh₁ h') (p : PE C ρ' mh₁ h' mh' v v' s') : PE C ρ mh h mh' v v' s' :=
  let ⟨r, a, b, c, d⟩ := p; ⟨r, x.trans a, b, c, d⟩
theorem PE.same (sh : Sh C s) (S : SSt C ρ mh s) (d : ValIs ρ s.heap v' v) : PE C ρ mh s.heap mh v v' s := ⟨ρ, .refl _ _ _ _, sh, S, d⟩
theorem PE.tok (sh : Sh C s) (S : SSt C ρ mh s) (d : ValIs ρ s.heap v' v) {t : Nat} : PE C ρ mh s.heap mh v v' { s with toks := t } := ⟨ρ, .refl _ _ _ _, sh, S, d⟩
noncomputable def rConst (v : V) : RE := fun _ mh => some (v, mh)
noncomputable def rLoc (i : Nat) : RE := fun loc mh => match loc[i]? with | some (some v) => some (v, mh) | _ => none
noncomputable def rOp1 (r : RE) (g : O1) : RE := fun loc mh => bd (r loc mh) fun a m => g a m
noncomputable def rOp2 (r q : RE) (g : O2) : RE := fun loc mh => bd (r loc mh) fun a m => bd (q loc m) fun b m => g a b m
noncomputable def rNil : REs := fun _ mh => some ([], mh)
noncomputable def rCons (r : RE) (q : REs) : REs := fun loc mh => bd (r loc mh) fun a m => bd (q loc m) fun b m => some (a :: b, m)
noncomputable def rCallN (q : REs) (g : ON) : RE := fun loc mh => bd (q loc mh) fun as m => g as m
theorem via {G : Prop} (h : ∀ P : Prop, (G -> P) -> P) : G := h G id
theorem SemE.use {e : Expr} {r : RE} (h : SemE C n f e r) {L : Fid} {loc : Loc} {m₁ : MH} (hr : Room n A) (F : Fra C f L loc ρ mh s) (er : r loc mh = some (v, m₁)) {Q : Value -> Shared -> Prop}
    (k : ∀ v' s₁ ρ₁, Ext [] ρ mh s.heap ρ₁ m₁ s₁.heap -> Sh C s₁ -> SSt C ρ₁ m₁ s₁ -> Fra C f L loc ρ₁ m₁ s₁ -> ValIs ρ₁ s₁.heap v' v -> Q v' s₁) : wpAny (model C.prog C.w) A (eval e (f.env L)) Q E s :=
  wpAny_mono (h A E L loc ρ mh s v m₁ hr F er) (fun v' s₁ p => p.rec fun ρ₁ x sh S d => k v' s₁ ρ₁ x sh S (F.ext x sh S) d) fun _ _ x => x
theorem SemEs.use {e : List Expr} {r : REs} (h : SemEs C n f e r) {L : Fid} {loc : Loc} {m₁ : MH} {vs : List V} {pos : Pos} (hr : Room n A) (F : Fra C f L loc ρ mh s) (er : r loc mh = some (vs, m₁)) {Q : List Value -> Shared -> Prop}
    (k : ∀ v' s₁ ρ₁, Ext [] ρ mh s.heap ρ₁ m₁ s₁.heap -> Sh C s₁ -> SSt C ρ₁ m₁ s₁ -> Fra C f L loc ρ₁ m₁ s₁ -> ValsAre ρ₁ s₁.heap v' vs -> Q v' s₁) : wpAny (model C.prog C.w) A (spliced (backTo pos (starEach e (f.env L)))) Q E s :=
  wpAny_mono (h.2 A E L loc ρ mh s vs m₁ pos hr F er) (fun v' s₁ p => p.rec fun ρ₁ x sh S d => k v' s₁ ρ₁ x sh S (F.ext x sh S) d) fun _ _ x => x
theorem SemT.use {e : Expr} {r : RT} (h : SemT C n f e r) {L : Fid} {loc : Loc} {m₁ : MH} {b : Bool} (hr : Room n A) (F : Fra C f L loc ρ mh s) (er : r loc mh = some (b, m₁)) {Q : Bool -> Shared -> Prop}
    (k : ∀ s₁ ρ₁, Ext [] ρ mh s.heap ρ₁ m₁ s₁.heap -> Sh C s₁ -> SSt C ρ₁ m₁ s₁ -> Fra C f L loc ρ₁ m₁ s₁ -> Q b s₁) : wpAny (model C.prog C.w) A (isTrue e (f.env L) (eval e (f.env L))) Q E s :=
  wpAny_mono (h A E L loc ρ mh s b m₁ hr F er) (fun v' s₁ p => p.rec fun ρ₁ x sh S d => d ▸ k s₁ ρ₁ x sh S (F.ext x sh S)) fun _ _ x => x
theorem PE.use {t : Sem Value} {m₁ : MH} (h : wpAny (model C.prog C.w) A t (PE C ρ mh s.heap m₁ v) E s) {Q : Value -> Shared -> Prop}
    (k : ∀ v' s₁ ρ₁, Ext [] ρ mh s.heap ρ₁ m₁ s₁.heap -> Sh C s₁ -> SSt C ρ₁ m₁ s₁ -> ValIs ρ₁ s₁.heap v' v -> Q v' s₁) : wpAny (model C.prog C.w) A t Q E s :=
  wpAny_mono h (fun v' s₁ p => p.rec fun ρ₁ x sh S d => k v' s₁ ρ₁ x sh S d) fun _ _ x => x
theorem SemE.int {i : Int} {k : Nat} {pos : Pos} : SemE C n f (.Constant (.int i) k pos) (rConst (.int i)) := fun A E L loc ρ mh s v mh' hr F e => by
  cases e
  exact wpAny_mkInt (PE.tok F.sh F.st (.int _ _))
theorem SemE.str {x : String} {k : Nat} {pos : Pos} (hx : PyData.strOk (Str.ofString x) = true) : SemE C n f (.Constant (.str (Str.ofString x)) k pos) (rConst (.str x)) := fun A E L loc ρ mh s v mh' hr F e => by
  cases e
  exact Constant_str (PE.tok F.sh F.st (.str _ _ hx))
theorem SemE.bool {b : Bool} {k : Nat} {pos : Pos} : SemE C n f (.Constant (.bool b) k pos) (rConst (.bool b)) := fun A E L loc ρ mh s v mh' hr F e => by
  cases e
  exact Constant_bool (PE.same F.sh F.st (.bool _))
theorem SemE.none {k : Nat} {pos : Pos} : SemE C n f (.Constant .none k pos) (rConst .none) := fun A E L loc ρ mh s v mh' hr F e => by
  cases e
  exact Constant_none (PE.same F.sh F.st .none)
theorem Fn.at_spec {x : Str} {i : Nat} (h : f.at x i = true) : f.ix x = some i /\ (f.scope.names.lookup x = some .local \/ f.scope.names.lookup x = some .cell) /\ f.scope.kind = .function /\ (x == ("__debug__" : Str)) = false := by
  unfold Fn.at at h
  simp only [Bool.and_eq_true, Bool.not_eq_true', Bool.or_eq_true] at h
  obtain ⟨⟨⟨h1, h2⟩, h3⟩, h4⟩ := h
  exact ⟨eq_of_beq h1, h2.imp eq_of_beq eq_of_beq, eq_of_beq h3, h4⟩
theorem load_V {x : Str} {i : Nat} {u : V} {L : Fid} {loc : Loc} {Q : Value -> Shared -> Prop} (hi : f.at x i = true) (F : Fra C f L loc ρ mh s) (hu : loc[i]? = some (some u)) (hq : ∀ v', ValIs ρ s.heap v' u -> Q v' s) : wpAny (model C.prog C.w) A (loadName (f.env L) x) Q E s := by
  obtain ⟨h1, h2, h3, h4⟩ := Fn.at_spec hi
  obtain ⟨m, hn, hl⟩ := F.ns
  obtain ⟨u', hm, hd⟩ := hl x i _ h1 hu
  have hk : (f.env L).scope.kind = .function := by rw [f.hs]; exact h3
  rcases h2 with h2 | h2
  . unfold Holds at hm
    rw [if_neg (by rw [h2]; decide)] at hm
    exact wpAny_loadName_local hk (by show (f.env L).scope.names.lookup x = _; rw [f.hs]; exact h2) (by rw [f.hl]; exact hn) hm (hq _ hd)
  . unfold Holds at hm
    rw [if_pos h2] at hm
    obtain ⟨c, hc, hv⟩ := hm
    exact wpAny_loadName_cell hk (by show (f.env L).scope.names.lookup x = _; rw [f.hs]; exact h2) (by rw [f.hc]; exact hc) hv (hq _ hd)
theorem rLoc_inv {loc : Loc} {mh m : MH} {i : Nat} {u : V} (e : rLoc i loc mh = some (u, m)) : loc[i]? = some (some u) /\ m = mh := by
  cases h : loc[i]? with
  | none => delta rLoc at e; rw [h] at e; exact no_some e
  | some o =>
    delta rLoc at e; rw [h] at e
    cases o with
    | none => exact no_some e
    | some w => cases e; exact ⟨rfl, rfl⟩
theorem SemE.loc {x : Str} {pos : Pos} (i : Nat) (hi : f.at x i = true) : SemE C n f (.Name x pos) (rLoc i) := fun A E L loc ρ mh s v mh' hr F e => by
  obtain ⟨hu, e⟩ := rLoc_inv e
  subst e
  exact wpAny_Name (load_V hi F hu fun v' d => PE.same F.sh F.st d) (Fn.at_spec hi).2.2.2
theorem SemE.op1 {e : Expr} {r : RE} {t : Value -> Sem Value} {g : O1} {e' : Expr} (h1 : SemE C n f e r) (hg : Op1 C n t g)
    (hw : ∀ L A E s (Q : Value -> Shared -> Prop), wpAny (model C.prog C.w) A (eval e (f.env L)) (fun a s₁ => wpAny (model C.prog C.w) A (t a) Q E s₁) E s -> wpAny (model C.prog C.w) A (eval e' (f.env L)) Q E s) :
    SemE C n f e' (rOp1 r g) := fun A E L loc ρ mh s v mh' hr F e => by
  exact bd_elim e fun a m ea e => hw _ _ _ _ _ (h1.use hr F ea fun a' s₁ ρ₁ x₁ sh₁ S₁ F₁ d₁ => wpAny_mono (hg A E ρ₁ m s₁ a a' v mh' hr sh₁ S₁ d₁ e) (fun _ _ q => q.trans x₁) fun _ _ x => x)
theorem SemE.op2 {e₁ e₂ : Expr} {r q : RE} {t : Value -> Value -> Sem Value} {g : O2} {e' : Expr} (h1 : SemE C n f e₁ r) (h2 : SemE C n f e₂ q) (hg : Op2 C n t g)
    (hw : ∀ L A E s (Q : Value -> Shared -> Prop), wpAny (model C.prog C.w) A (eval e₁ (f.env L)) (fun a s₁ => wpAny (model C.prog C.w) A (eval e₂ (f.env L)) (fun b s₂ => wpAny (model C.prog C.w) A (t a b) Q E s₂) E s₁) E s -> wpAny (model C.prog C.w) A (eval e' (f.env L)) Q E s) :
    SemE C n f e' (rOp2 r q g) := fun A E L loc ρ mh s v mh' hr F e => by
  exact bd_elim e fun a m ea e => bd_elim e fun b m2 eb e => hw _ _ _ _ _ (h1.use hr F ea fun a' s₁ ρ₁ x₁ sh₁ S₁ F₁ d₁ => h2.use hr F₁ eb fun b' s₂ ρ₂ x₂ sh₂ S₂ F₂ d₂ =>
    wpAny_mono (hg A E ρ₂ m2 s₂ a b a' b' v mh' hr sh₂ S₂ (d₁.ext S₁ x₂) d₂ e) (fun _ _ q => q.trans (x₁.trans x₂)) fun _ _ x => x)
theorem SemEs.nil : SemEs C n f [] rNil := ⟨fun _ _ _ _ e => by cases e; rfl, fun A E L loc ρ mh s v mh' pos hr F e => by
  cases e
  exact spliced_nil ⟨ρ, .refl _ _ _ _, F.sh, F.st, .nil⟩⟩
theorem SemEs.cons {e : Expr} {es : List Expr} {r : RE} {q : REs} (h1 : SemE C n f e r) (h2 : SemEs C n f es q) (he : ∀ L, starEach (e :: es) (f.env L) = (false, eval e (f.env L)) :: starEach es (f.env L) := by intro _; rfl) :
    SemEs C n f (e :: es) (rCons r q) := by
  refine ⟨fun loc mh v mh' e => bd_elim e fun a m ea e => bd_elim e fun b m2 eb w => ?_, fun A E L loc ρ mh s v mh' pos hr F e => bd_elim e fun a m ea e => bd_elim e fun b m2 eb w => some_elim w ?_⟩
  . refine some_elim w ?_; rw [List.length_cons, h2.1 _ _ _ _ eb]; rfl
  . exact spliced_more (h1.use hr F ea fun a' s₁ ρ₁ x₁ sh₁ S₁ F₁ d₁ => h2.use hr F₁ eb fun b' s₂ ρ₂ x₂ sh₂ S₂ F₂ d₂ => ⟨ρ₂, x₁.trans x₂, sh₂, S₂, .cons (d₁.ext S₁ x₂) d₂⟩) (he L)
theorem SemE.bin {l r : Expr} {op : Operator} {pos : Pos} {a b : RE} {g : O2} (h1 : SemE C n f l a) (h2 : SemE C n f r b) (hg : Op2 C n (binaryOp op) g) : SemE C n f (.BinOp l op r pos) (rOp2 a b g) :=
  .op2 h1 h2 hg fun _ _ _ _ _ h => wpAny_BinOp h
theorem SemE.cmp {l r : Expr} {op : CmpOp} {pos : Pos} {a b : RE} {g : O2} (h1 : SemE C n f l a) (h2 : SemE C n f r b) (hg : Op2 C n (compareOp op) g) (hm : behindInMarks op r = false := by with_unfolding_all rfl) : SemE C n f (.Compare l [op] [r] pos) (rOp2 a b g) :=
  .op2 h1 h2 hg fun _ _ _ _ _ h => wpAny_Compare1 h hm
end
end Mini
namespace Mini
section
variable {C : Cx} {n : Nat} {f : Fn} {A : Around} {E : Value -> Shared -> Prop} {ρ ρ' : Rho} {mh mh' : MH} {s s' : Shared} {v : V} {v' : Value} {h h' : Heap} {L : Fid} {loc loc' : Loc}
noncomputable def rT (r : RE) : RT := fun loc mh => bd (r loc mh) fun v m => vbool v fun b => some (b, m)
noncomputable def rTNot (r : RT) : RT := fun loc mh => bd (r loc mh) fun b m => some (!b, m)
noncomputable def rTAnd (r q : RT) : RT := fun loc mh => bd (r loc mh) fun b m => cd b (q loc m) (some (false, m))
noncomputable def rTOr (r q : RT) : RT := fun loc mh => bd (r loc mh) fun b m => cd b (some (true, m)) (q loc m)
noncomputable def rTC (b : Bool) : RT := fun _ mh => some (b, mh)
theorem PT.trans {mh₁ : MH} {b : Bool} {b' : Bool} (x : Ext [] ρ mh h ρ' mh₁ h') (p : PT C ρ' mh₁ h' mh' b b' s') : PT C ρ mh h mh' b b' s' :=
  let ⟨r, a, c, d, e⟩ := p; ⟨r, x.trans a, c, d, e⟩
theorem truthy_V {b : Bool} (sh : Sh C s) (S : SSt C ρ mh s) (d : ValIs ρ s.heap v' (.bool b)) : wpAny (model C.prog C.w) A (truthy v') (PT C ρ mh s.heap mh b) E s := by
  rw [d.boolE]
  exact wpAny_truthy_bool ⟨ρ, .refl _ _ _ _, sh, S, rfl⟩
theorem SemT.plain {e : Expr} {r : RE} (h : SemE C n f e r) (he : ∀ L, isTrue e (f.env L) (eval e (f.env L)) = (do let v <- eval e (f.env L); standAt e.pos; holding [v] (truthy v)) := by intro _; rfl) :
    SemT C n f e (rT r) := fun A E L loc ρ mh s b mh' hr F e' => by
  refine bd_elim e' fun v m ea e => vbool_elim e fun b eb w => some_elim w ?_
  subst eb
  exact isTrue_plain (h.use hr F ea fun a' s₁ ρ₁ x₁ sh₁ S₁ F₁ d₁ => wpAny_mono (truthy_V sh₁ S₁ d₁) (fun _ _ q => q.trans x₁) fun _ _ x => x) (he L)
theorem SemT.cmp {l r : Expr} {op : CmpOp} {pos : Pos} {a b : RE} {g : O2} (h1 : SemE C n f l a) (h2 : SemE C n f r b) (hg : Op2 C n (compareOp op) g) (hm : behindInMarks op r = false := by with_unfolding_all rfl) :
    SemT C n f (.Compare l [op] [r] pos) (rT (rOp2 a b g)) := fun A E L loc ρ mh s b mh' hr F e' => by
  refine bd_elim e' fun v m ea e => vbool_elim e fun b eb w => some_elim w ?_
  subst eb
  exact bd_elim ea fun x m1 ex e => bd_elim e fun y m2 ey e => wpAny_isTrue_Compare1 (h1.use hr F ex fun a' s₁ ρ₁ x₁ sh₁ S₁ F₁ d₁ => h2.use hr F₁ ey fun b' s₂ ρ₂ x₂ sh₂ S₂ F₂ d₂ =>
    PE.use (hg A E ρ₂ m2 s₂ _ _ a' b' _ _ hr sh₂ S₂ (d₁.ext S₁ x₂) d₂ e) fun c s₃ ρ₃ x₃ sh₃ S₃ d₃ => wpAny_mono (truthy_V sh₃ S₃ d₃) (fun _ _ q => q.trans (x₁.trans (x₂.trans x₃))) fun _ _ x => x) hm
theorem SemT.not {e : Expr} {pos : Pos} {r : RT} (h : SemT C n f e r) : SemT C n f (.UnaryOp .Not e pos) (rTNot r) := fun A E L loc ρ mh s b mh' hr F e' => by
  exact bd_elim e' fun b m ea w => some_elim w (isTrue_not (h.use hr F ea fun s₁ ρ₁ x₁ sh₁ S₁ F₁ => ⟨ρ₁, x₁, sh₁, S₁, rfl⟩))
noncomputable def SemTs (C : Cx) (n : Nat) (f : Fn) (op : BoolOp) (es : List Expr) (r : RT) : Prop :=
  ∀ A E L loc ρ mh s b mh' pos whole, Room n A -> Fra C f L loc ρ mh s -> r loc mh = some (b, mh') -> wpAny (model C.prog C.w) A (isTrue (.BoolOp op es pos) (f.env L) whole) (PT C ρ mh s.heap mh' b) E s
theorem SemT.bool {op : BoolOp} {es : List Expr} {pos : Pos} {r : RT} (h : SemTs C n f op es r) : SemT C n f (.BoolOp op es pos) r := fun A E L loc ρ mh s b mh' hr F e' => h A E L loc ρ mh s b mh' pos _ hr F e'
theorem SemTs.and_nil : SemTs C n f .And [] (rTC true) := fun A E L loc ρ mh s b mh' pos whole hr F e' => by
  cases e'; exact isTrue_and_nil ⟨ρ, .refl _ _ _ _, F.sh, F.st, rfl⟩
theorem SemTs.or_nil : SemTs C n f .Or [] (rTC false) := fun A E L loc ρ mh s b mh' pos whole hr F e' => by
  cases e'; exact isTrue_or_nil ⟨ρ, .refl _ _ _ _, F.sh, F.st, rfl⟩
theorem SemTs.and {e : Expr} {es : List Expr} {r q : RT} (h1 : SemT C n f e r) (h2 : SemTs C n f .And es q) : SemTs C n f .And (e :: es) (rTAnd r q) := fun A E L loc ρ mh s b mh' pos whole hr F e' => by
  exact bd_elim e' fun b m ea e => isTrue_and (h1.use hr F ea fun s₁ ρ₁ x₁ sh₁ S₁ F₁ => cd_elim e (fun eb e => by
    rw [eb]; exact wpAny_mono (h2 A E L loc ρ₁ m s₁ _ mh' pos whole hr F₁ e) (fun _ _ q => q.trans x₁) fun _ _ x => x) fun eb w => by
    rw [eb]; exact some_elim w ⟨ρ₁, x₁, sh₁, S₁, rfl⟩)
theorem SemTs.or {e : Expr} {es : List Expr} {r q : RT} (h1 : SemT C n f e r) (h2 : SemTs C n f .Or es q) : SemTs C n f .Or (e :: es) (rTOr r q) := fun A E L loc ρ mh s b mh' pos whole hr F e' => by
  exact bd_elim e' fun b m ea e => isTrue_or (h1.use hr F ea fun s₁ ρ₁ x₁ sh₁ S₁ F₁ => cd_elim e (fun eb w => by
    rw [eb]; exact some_elim w ⟨ρ₁, x₁, sh₁, S₁, rfl⟩) fun eb e => by
    rw [eb]; exact wpAny_mono (h2 A E L loc ρ₁ m s₁ _ mh' pos whole hr F₁ e) (fun _ _ q => q.trans x₁) fun _ _ x => x)
noncomputable def rAnd (r q : RE) : RE := fun loc mh => bd (r loc mh) fun v m => vbool v fun b => cd b (q loc m) (some (.bool false, m))
noncomputable def rOr (r q : RE) : RE := fun loc mh => bd (r loc mh) fun v m => vbool v fun b => cd b (some (.bool true, m)) (q loc m)
noncomputable def rIfE (t : RT) (r q : RE) : RE := fun loc mh => bd (t loc mh) fun b m => cd b (r loc m) (q loc m)
theorem PT.use {t : Sem Bool} {m₁ : MH} {b : Bool} (h : wpAny (model C.prog C.w) A t (PT C ρ mh s.heap m₁ b) E s) {Q : Bool -> Shared -> Prop}
    (k : ∀ s₁ ρ₁, Ext [] ρ mh s.heap ρ₁ m₁ s₁.heap -> Sh C s₁ -> SSt C ρ₁ m₁ s₁ -> Q b s₁) : wpAny (model C.prog C.w) A t Q E s :=
  wpAny_mono h (fun b' s₁ p => p.rec fun ρ₁ x sh S e => e ▸ k s₁ ρ₁ x sh S) fun _ _ x => x
theorem SemE.bool1 {op : BoolOp} {e : Expr} {pos : Pos} {r : RE} (h : SemE C n f e r) : SemE C n f (.BoolOp op [e] pos) r := fun A E L loc ρ mh s b mh' hr F e' => BoolOp_one (h A E L loc ρ mh s _ _ hr F e')
theorem SemE.and {e e₂ : Expr} {rest : List Expr} {pos : Pos} {r q : RE} (h1 : SemE C n f e r) (h2 : SemE C n f (.BoolOp .And (e₂ :: rest) pos) q) : SemE C n f (.BoolOp .And (e :: e₂ :: rest) pos) (rAnd r q) := fun A E L loc ρ mh s b mh' hr F e' => by
  refine bd_elim e' fun v m ea e => vbool_elim e fun b eb e => ?_
  subst eb
  refine BoolOp_and (h1.use hr F ea fun c s₁ ρ₁ x₁ sh₁ S₁ F₁ d₁ => PT.use (truthy_V sh₁ S₁ d₁) fun s₂ ρ₂ x₂ sh₂ S₂ => cd_elim e (fun eb e => ?_) fun eb w => ?_)
  . rw [eb]; exact wpAny_mono (h2 A E L loc ρ₂ m s₂ _ _ hr (F₁.ext x₂ sh₂ S₂) e) (fun _ _ q => q.trans (x₁.trans x₂)) fun _ _ x => x
  . rw [eb] at d₁ ⊢; exact some_elim w ⟨ρ₂, x₁.trans x₂, sh₂, S₂, d₁.ext S₁ x₂⟩
theorem SemE.or {e e₂ : Expr} {rest : List Expr} {pos : Pos} {r q : RE} (h1 : SemE C n f e r) (h2 : SemE C n f (.BoolOp .Or (e₂ :: rest) pos) q) : SemE C n f (.BoolOp .Or (e :: e₂ :: rest) pos) (rOr r q) := fun A E L loc ρ mh s b mh' hr F e' => by
  refine bd_elim e' fun v m ea e => vbool_elim e fun b eb e => ?_
  subst eb
  refine BoolOp_or (h1.use hr F ea fun c s₁ ρ₁ x₁ sh₁ S₁ F₁ d₁ => PT.use (truthy_V sh₁ S₁ d₁) fun s₂ ρ₂ x₂ sh₂ S₂ => cd_elim e (fun eb w => ?_) fun eb e => ?_)
  . rw [eb] at d₁ ⊢; exact some_elim w ⟨ρ₂, x₁.trans x₂, sh₂, S₂, d₁.ext S₁ x₂⟩
  . rw [eb]; exact wpAny_mono (h2 A E L loc ρ₂ m s₂ _ _ hr (F₁.ext x₂ sh₂ S₂) e) (fun _ _ q => q.trans (x₁.trans x₂)) fun _ _ x => x
theorem SemE.ite {t a b : Expr} {pos : Pos} {r : RT} {p q : RE} (h1 : SemT C n f t r) (h2 : SemE C n f a p) (h3 : SemE C n f b q) : SemE C n f (.IfExp t a b pos) (rIfE r p q) := fun A E L loc ρ mh s v mh' hr F e' => by
  exact bd_elim e' fun b m ea e => IfExp_ (h1.use hr F ea fun s₁ ρ₁ x₁ sh₁ S₁ F₁ => cd_elim e (fun eb e => by
    rw [eb]; exact wpAny_mono (h2 A E L loc ρ₁ m s₁ _ _ hr F₁ e) (fun _ _ q => q.trans x₁) fun _ _ x => x) fun eb e => by
    rw [eb]; exact wpAny_mono (h3 A E L loc ρ₁ m s₁ _ _ hr F₁ e) (fun _ _ q => q.trans x₁) fun _ _ x => x)
noncomputable def rSkip : RS := fun loc mh => some (.next loc mh)
noncomputable def rSeq (r q : RS) : RS := fun loc mh => match r loc mh with | some (.next loc' mh') => q loc' mh' | x => x
noncomputable def rSet (i : Nat) (r : RE) : RS := fun loc mh => bd (r loc mh) fun v m => some (.next (loc.set i (some v)) m)
noncomputable def rIf (t : RT) (r q : RS) : RS := fun loc mh => bd (t loc mh) fun b m => cd b (r loc m) (q loc m)
noncomputable def rRet (r : RE) : RS := fun loc mh => bd (r loc mh) fun v m => some (.ret v m)
noncomputable def rExpr (r : RE) : RS := fun loc mh => bd (r loc mh) fun _ m => some (.next loc m)
noncomputable def rCont : RS := fun loc mh => some (.cont loc mh)
theorem PS.trans {mh₁ : MH} {x : SR} {fl : Flow} (e : Ext L.X ρ mh h ρ' mh₁ h') (p : PS C f L ρ' mh₁ h' x fl s') : PS C f L ρ mh h x fl s' :=
  let ⟨r, m, a, b, c⟩ := p; ⟨r, m, e.trans a, b, c⟩
theorem SemS.nil : SemS C n f [] rSkip := fun A E L loc ρ mh s x hr F e => by
  cases e
  exact wpAny_execs_nil ⟨ρ, mh, .refl _ _ _ _, F.sh, rfl, F⟩
@[elab_as_elim] theorem PS.next {fl : Flow} {l : Loc} {m : MH} {P : Flow -> Prop} (p : PS C f L ρ mh h (.next l m) fl s') (k : ∀ ρ', Ext L.X ρ mh h ρ' m s'.heap -> Sh C s' -> Fra C f L l ρ' m s' -> P .next) : P fl := by
  obtain ⟨ρ', m', x, sh, z⟩ := p
  cases fl <;> first | exact z.elim | exact k ρ' (z.1 ▸ x) sh z.2
@[elab_as_elim] theorem PS.cont {fl : Flow} {l : Loc} {m : MH} {P : Flow -> Prop} (p : PS C f L ρ mh h (.cont l m) fl s') (k : ∀ ρ', Ext L.X ρ mh h ρ' m s'.heap -> Sh C s' -> Fra C f L l ρ' m s' -> P .cont) : P fl := by
  obtain ⟨ρ', m', x, sh, z⟩ := p
  cases fl <;> first | exact z.elim | exact k ρ' (z.1 ▸ x) sh z.2
@[elab_as_elim] theorem PS.ret {fl : Flow} {v : V} {m : MH} {P : Flow -> Prop} (p : PS C f L ρ mh h (.ret v m) fl s') (k : ∀ ρ' v', Ext L.X ρ mh h ρ' m s'.heap -> Sh C s' -> SSt C ρ' m s' -> ValIs ρ' s'.heap v' v -> P (.ret v')) : P fl := by
  obtain ⟨ρ', m', x, sh, z⟩ := p
  cases fl <;> first | exact z.elim | exact k ρ' _ (z.1 ▸ x) sh z.2.1 z.2.2
theorem SemS.cons {st : Stmt} {rest : List Stmt} {r q : RS} (h1 : SemS1 C n f st r) (h2 : SemS C n f rest q) : SemS C n f (st :: rest) (rSeq r q) := fun A E L loc ρ mh s x hr F e => by
  cases ea : r loc mh with
  | none => unfold rSeq at e; rw [ea] at e; exact no_some e
  | some y =>
    unfold rSeq at e; rw [ea] at e
    refine wpAny_execs_cons (wpAny_mono (h1 A E L loc ρ mh s y hr F ea) (fun fl s₁ p => ?_) fun _ _ x => x)
    cases y with
    | next l m => exact p.next fun ρ₁ x₁ sh₁ F₁ => wpAny_mono (h2 A E L l ρ₁ _ s₁ x hr F₁ e) (fun _ _ q => q.trans x₁) fun _ _ x => x
    | cont l m => exact (Option.some.inj e : _ = x) ▸ p.cont fun ρ₁ x₁ sh₁ F₁ => ⟨ρ₁, _, x₁, sh₁, rfl, F₁⟩
    | ret l m => exact (Option.some.inj e : _ = x) ▸ p.ret fun ρ₁ v x₁ sh₁ S₁ d => ⟨ρ₁, _, x₁, sh₁, rfl, S₁, d⟩
theorem Fra.touch {x : Str} {i : Nat} {m : Str -> Option Value} {s₁ : Shared} {b₀ : Addr} (hi : f.at x i = true) (F : Fra C f L loc ρ mh s) (hl : LocIs f L ρ s.heap m loc) (d : ValIs ρ s.heap v' v)
    (hb : b₀ ∈ L.X) (hs : Heap.SameBut b₀ s.heap s₁.heap) (sh : Sh C s₁) {m' : Str -> Option Value} (hn' : s₁.heap.Ns L.L m') (hc : ∀ c ∈ L.cs.map (·.2), ∃ v, s₁.heap.IsCell c v)
    (hx : Holds f L s₁.heap m' x v') (ho : ∀ y u, y ≠ x -> Holds f L s.heap m y u -> Holds f L s₁.heap m' y u) : Ext [b₀] ρ mh s.heap ρ mh s₁.heap /\ Fra C f L (loc.set i (some v)) ρ mh s₁ := by
  obtain ⟨_, there⟩ := F.there
  have noSeq : ∀ o, s.heap.get? b₀ = some o -> ∀ items k, o.data ≠ .seq items k := fun o e items k q => by
    rcases List.mem_cons.mp hb with rfl | hb
    . obtain ⟨_, ⟨o', _, _, ho', hd', _⟩, _⟩ := F.ns
      rw [e] at ho'; cases ho'; rw [q] at hd'; cases hd'
    . obtain ⟨_, _, o', ho', hd'⟩ := F.cX _ hb
      rw [e] at ho'; cases ho'; rw [q] at hd'; cases hd'
  have key := F.st.local (h' := s₁.heap) (F.nX _ hb) (F.bX _ hb) (fun o' e => .inr fun items k => noSeq o' e items k) (fun b o ne e => (hs.2 b ne).trans e)
  have tk : TupKept s.heap s₁.heap := fun b o e hc hdd => (hs.2 b fun q => by subst q; obtain ⟨_, _, hdd⟩ := hdd; exact noSeq o e _ _ hdd).trans e
  refine ⟨key.2, sh, key.1, ⟨_, hn', fun y j u hj hu => ?_⟩, F.nX, F.bX, fun c hcc => ⟨(F.cX c hcc).1, hc c hcc⟩, F.cN, F.cS⟩
  have hxi := (Fn.at_spec hi).1
  by_cases q : j = i
  . subst q
    have lt : j < loc.length := by
      have := (List.getElem?_eq_some_iff.mp hu).1
      simpa using this
    rw [List.getElem?_set_self lt] at hu
    cases hu
    have : y = x := by
      unfold Fn.ix at hxi hj
      obtain ⟨h1, h2, _⟩ := List.findIdx?_eq_some_iff_getElem.mp hxi
      obtain ⟨h3, h4, _⟩ := List.findIdx?_eq_some_iff_getElem.mp hj
      exact (eq_of_beq h4).symm.trans (eq_of_beq h2)
    subst this
    exact ⟨v', hx, d.mono tk (.refl ρ)⟩
  . rw [List.getElem?_set_ne (Ne.symm q)] at hu
    obtain ⟨u', h1, h2⟩ := hl y j u hj hu
    refine ⟨u', ho y u' (fun z => ?_) h1, h2.mono tk (.refl ρ)⟩
    subst z; rw [hxi] at hj; cases hj; exact q rfl
theorem store_L {x : Str} {i : Nat} (hi : f.at x i = true) (h2 : f.scope.names.lookup x = some .local) (F : Fra C f L loc ρ mh s) (d : ValIs ρ s.heap v' v) :
    wpAny (model C.prog C.w) A (storeName (f.env L) x v') (fun _ s' => Ext [L.L] ρ mh s.heap ρ mh s'.heap /\ Fra C f L (loc.set i (some v)) ρ mh s') E s := by
  obtain ⟨h1, _, h3, h4⟩ := Fn.at_spec hi
  obtain ⟨m, hn, hl⟩ := F.ns
  have hk : (f.env L).scope.kind = .function := by rw [f.hs]; exact h3
  refine wpAny_storeName_local (by show (f.env L).scope.names.lookup x = _; rw [f.hs]; exact h2) (by rw [f.hl]; exact hn) (fun h' hn' hs => ?_) ?_
  . rw [f.hl] at hn' hs
    have cell : ∀ c ∈ L.cs.map (·.2), h'.get? c = s.heap.get? c := fun c hc => hs.2 c (F.cX c hc).1
    refine F.touch (s₁ := { s with heap := h', toks := s.toks + 1 }) hi hl d (.head _) hs F.sh hn' (fun c hc => ?_) ?_ fun y u hy H => ?_
    . obtain ⟨_, v, o, ho, hd⟩ := F.cX c hc
      exact ⟨v, o, (cell c hc).trans ho, hd⟩
    . unfold Holds
      rw [if_neg (by rw [h2]; decide)]
      show (if x = x then some v' else m x) = some v'
      rw [if_pos rfl]
    . have H' := H.mono (h' := h') fun c hc o e => (cell c hc).trans e
      unfold Holds at H' ⊢
      split
      . rename_i e; rw [if_pos e] at H'; exact H'
      . rename_i e; rw [if_neg e] at H'; show (if y = x then some v' else m y) = some u; rw [if_neg hy]; exact H'
  . rw [hk]
    show ((ScopeKind.function == .class) || ((ScopeKind.function == .module) && _)) = false
    rfl
theorem store_V {x : Str} {i : Nat} (hi : f.at x i = true) (F : Fra C f L loc ρ mh s) (d : ValIs ρ s.heap v' v) :
    wpAny (model C.prog C.w) A (storeName (f.env L) x v') (fun _ s' => Ext L.X ρ mh s.heap ρ mh s'.heap /\ Fra C f L (loc.set i (some v)) ρ mh s') E s := by
  obtain ⟨_, there⟩ := F.there
  obtain ⟨h1, h2, h3, h4⟩ := Fn.at_spec hi
  rcases h2 with h2 | h2
  . exact wpAny_mono (store_L hi h2 F d) (fun _ s' p => ⟨p.1.widen (fun z hz => by rw [List.mem_singleton.mp hz]; exact .head _) there, p.2⟩) fun _ _ x => x
  . obtain ⟨m, hn, hl⟩ := F.ns
    have hk : (f.env L).scope.kind = .function := by rw [f.hs]; exact h3
    obtain ⟨c, hc⟩ := F.cS x h2
    have hcm : c ∈ L.cs.map (·.2) := List.mem_map.mpr ⟨_, lookup_mem hc, rfl⟩
    obtain ⟨hcL, v₀, hcell⟩ := F.cX c hcm
    refine wpAny_storeName_cell hk (by show (f.env L).scope.names.lookup x = _; rw [f.hs]; exact h2) (by rw [f.hc]; exact hc) hcell fun h' hc' hs => ?_
    obtain ⟨oL, es, ep, hoL, rL⟩ := id hn
    have fin := F.touch (s₁ := { s with heap := h' }) hi hl d (.tail _ hcm) hs F.sh (m' := m) ⟨oL, es, ep, (hs.2 _ (Ne.symm hcL)).trans hoL, rL⟩ (fun c₂ hc₂ => ?_) ?_ fun y u hy H => ?_
    . exact ⟨fin.1.widen (fun z hz => by rw [List.mem_singleton.mp hz]; exact .tail _ hcm) there, fin.2⟩
    . by_cases z : c₂ = c
      . subst z; exact ⟨_, hc'⟩
      . obtain ⟨_, v, o, ho, hd⟩ := F.cX c₂ hc₂
        exact ⟨v, o, (hs.2 _ z).trans ho, hd⟩
    . unfold Holds
      rw [if_pos h2]
      exact ⟨c, hc, hc'⟩
    . unfold Holds at H ⊢
      split
      . rename_i e
        rw [if_pos e] at H
        obtain ⟨c₂, hc₂, o, ho, hd⟩ := H
        refine ⟨c₂, hc₂, o, (hs.2 _ fun z => ?_).trans ho, hd⟩
        subst z
        have m1 := lookup_mem hc
        have m2 := lookup_mem hc₂
        have : ∀ {l : List (Str × Addr)} {a b : Str} {c : Addr}, (l.map (·.2)).Nodup -> (a, c) ∈ l -> (b, c) ∈ l -> a = b := by
          intro l
          induction l with
          | nil => intro a b c _ h; cases h
          | cons q r ih =>
            intro a b c hn ha hb
            rw [List.map_cons, List.nodup_cons] at hn
            rcases List.mem_cons.mp ha with e1 | ha
            . rcases List.mem_cons.mp hb with e2 | hb
              . exact congrArg Prod.fst (e1.trans e2.symm)
              . exact absurd (List.mem_map.mpr ⟨_, hb, by rw [<- e1]⟩) hn.1
            . rcases List.mem_cons.mp hb with e2 | hb
              . exact absurd (List.mem_map.mpr ⟨_, ha, by rw [<- e2]⟩) hn.1
              . exact ih hn.2 ha hb
        exact hy (this F.cN m2 m1)
      . rename_i e; rw [if_neg e] at H; exact H
theorem SemS1.assign {x : Str} {px pos : Pos} {e : Expr} {r : RE} (i : Nat) (hi : f.at x i = true) (h : SemE C n f e r) (hs : ∀ L, swapsWith e (some (.Name x px)) pos.line (f.env L) = pure false := by intro _; rfl) :
    SemS1 C n f (.Assign [.Name x px] e pos) (rSet i r) := fun A E L loc ρ mh s x hr F e => by
  obtain ⟨_, hL⟩ := F.there
  exact bd_elim e fun v m ea w => one_elim w (wpAny_Assign_Name (h.use hr F ea fun a' s₁ ρ₁ x₁ sh₁ S₁ F₁ d₁ =>
    wpAny_mono (store_V hi F₁ d₁) (fun _ s₂ p => ⟨ρ₁, _, (x₁.weaken hL).trans p.1, p.2.sh, rfl, p.2⟩) fun _ _ x => x) (hs L))
theorem SemS1.expr {e : Expr} {pos : Pos} {r : RE} (h : SemE C n f e r) (hi : ∀ L, interactive (f.env L) = false := by intro _; rfl) (hs : ∀ L, swapsWith e none pos.line (f.env L) = pure false := by intro _; rfl) :
    SemS1 C n f (.Expr e pos) (rExpr r) := fun A E L loc ρ mh s x hr F e => by
  obtain ⟨_, hL⟩ := F.there
  exact bd_elim e fun v m ea w => one_elim w (wpAny_Expr_any (h.use hr F ea fun a' s₁ ρ₁ x₁ sh₁ S₁ F₁ d₁ => ⟨ρ₁, _, x₁.weaken hL, sh₁, rfl, F₁⟩) (hi L) (hs L))
theorem SemS1.ret {e : Expr} {pos : Pos} {r : RE} (h : SemE C n f e r) : SemS1 C n f (.Return (some e) pos) (rRet r) := fun A E L loc ρ mh s x hr F e => by
  obtain ⟨_, hL⟩ := F.there
  exact bd_elim e fun v m ea w => one_elim w (wpAny_Return_some (h.use hr F ea fun a' s₁ ρ₁ x₁ sh₁ S₁ F₁ d₁ => ⟨ρ₁, _, x₁.weaken hL, sh₁, rfl, S₁, d₁⟩))
theorem SemS1.ite {t : Expr} {a b : List Stmt} {pos : Pos} {r : RT} {p q : RS} (h1 : SemT C n f t r) (h2 : SemS C n f a p) (h3 : SemS C n f b q) : SemS1 C n f (.If t a b pos) (rIf r p q) := fun A E L loc ρ mh s x hr F e' => by
  obtain ⟨_, hL⟩ := F.there
  exact bd_elim e' fun b m ea e => wpAny_If (h1.use hr F ea fun s₁ ρ₁ x₁ sh₁ S₁ F₁ => cd_elim e (fun eb e => by
    rw [if_pos eb]; exact wpAny_mono (h2 A E L loc ρ₁ m s₁ _ hr F₁ e) (fun _ _ q => q.trans (x₁.weaken hL)) fun _ _ x => x) fun eb e => by
    rw [if_neg (by rw [eb]; decide)]; exact wpAny_mono (h3 A E L loc ρ₁ m s₁ _ hr F₁ e) (fun _ _ q => q.trans (x₁.weaken hL)) fun _ _ x => x)
end
end Mini
namespace Mini
theorem ofString_inj {a b : String} (h : Str.ofString a = Str.ofString b) : a = b := by
  rw [Str.ofString_eq_toList, Str.ofString_eq_toList] at h
  have h := congrArg Str.cps h
  simp only at h
  have h2 : a.toList.map Char.toNat = b.toList.map Char.toNat := by simpa using congrArg Array.toList h
  have inj : ∀ (x y : List Char), x.map Char.toNat = y.map Char.toNat -> x = y := by
    intro x
    induction x with
    | nil => intro y h; cases y with
      | nil => rfl
      | cons => simp at h
    | cons c x ih => intro y h; cases y with
      | nil => simp at h
      | cons d y =>
        simp only [List.map_cons, List.cons.injEq] at h
        have : c = d := by
          apply Char.ext
          apply UInt32.toNat_inj.mp
          exact h.1
        rw [this, ih y h.2]
  have h3 := inj _ _ h2
  exact String.toList_inj.mp h3
noncomputable def putA {K β : Type} [DecidableEq K] (k : K) (v : β) : List (K × β) -> List (K × β)
  | [] => [(k, v)]
  | (a, b) :: r => if a = k then (a, v) :: r else (a, b) :: putA k v r
noncomputable def getA {K β : Type} [DecidableEq K] (k : K) : List (K × β) -> Option β
  | [] => none
  | (a, b) :: r => if a = k then some b else getA k r
section
variable {C : Cx} {n : Nat} {f : Fn} {A : Around} {E : Value -> Shared -> Prop} {ρ ρ' : Rho} {mh mh' : MH} {s s' : Shared} {v : V} {v' : Value} {h h' : Heap} {L : Fid} {loc loc' : Loc}
theorem PairsAre.get {K K' : Type} [DecidableEq K] [DecidableEq K'] {g : K' -> K} (inj : ∀ a b, g a = g b -> a = b) {ms : List (K × Value)} {kvs : List (K' × V)} (p : PairsAre g ρ h ms kvs) (k : K') :
    (getA k kvs = none /\ getA (g k) ms = none) \/ ∃ x y, getA k kvs = some x /\ getA (g k) ms = some y /\ ValIs ρ h y x := by
  induction p with
  | nil => exact .inl ⟨rfl, rfl⟩
  | @cons k' v x r r' hv _ ih =>
    unfold getA
    by_cases z : k' = k
    . subst z; exact .inr ⟨x, v, by simp, by simp, hv⟩
    . have z2 : ¬ g k' = g k := fun e => z (inj _ _ e)
      rw [if_neg z, if_neg z2]; exact ih
theorem PairsAre.put {K K' : Type} [DecidableEq K] [DecidableEq K'] {g : K' -> K} (inj : ∀ a b, g a = g b -> a = b) {ms : List (K × Value)} {kvs : List (K' × V)} (p : PairsAre g ρ h ms kvs) (k : K') (d : ValIs ρ h v' v) :
    PairsAre g ρ h (putA (g k) v' ms) (putA k v kvs) := by
  induction p with
  | nil => exact .cons d .nil
  | @cons k' v x r r' hv q ih =>
    unfold putA
    by_cases z : k' = k
    . subst z; rw [if_pos rfl, if_pos rfl]; exact .cons d q
    . have z2 : ¬ g k' = g k := fun e => z (inj _ _ e)
      rw [if_neg z, if_neg z2]; exact .cons hv ih
theorem PairsAre.length {K K' : Type} {g : K' -> K} {ms : List (K × Value)} {kvs : List (K' × V)} (p : PairsAre g ρ h ms kvs) : ms.length = kvs.length := by
  induction p with
  | nil => rfl
  | cons _ _ ih => simp [ih]
@[elab_as_elim] theorem ValsAre.ind {P : List Value -> List V -> Prop} {vs : List Value} {xs : List V} (d : ValsAre ρ h vs xs) (h0 : P [] []) (h1 : ∀ {v x vs xs}, ValIs ρ h v x -> ValsAre ρ h vs xs -> P vs xs -> P (v :: vs) (x :: xs)) : P vs xs :=
  ValsAre.rec (motive_1 := fun _ _ _ => True) (motive_2 := fun vs xs _ => P vs xs) trivial (fun _ => trivial) (fun _ _ => trivial) (fun _ _ _ => trivial) (fun _ _ _ => trivial) (fun _ => trivial) h0 (fun a b _ ih => h1 a b ih) d
theorem ValsAre.length {vs : List Value} {xs : List V} (d : ValsAre ρ h vs xs) : vs.length = xs.length := d.ind rfl fun _ _ ih => congrArg Nat.succ ih
theorem ValsAre.get {vs : List Value} {xs : List V} {i : Nat} {x : V} (d : ValsAre ρ h vs xs) (e : xs[i]? = some x) : ∃ y, vs[i]? = some y /\ ValIs ρ h y x :=
  ValsAre.ind (P := fun vs xs => ∀ i, xs[i]? = some x -> ∃ y, vs[i]? = some y /\ ValIs ρ h y x) d (fun i e => by cases e) (fun {v y _ _} a _ ih i e => by
    cases i with
    | zero => exact ⟨v, rfl, (Option.some.inj e : y = x) ▸ a⟩
    | succ i => exact ih i e) i e
theorem ValsAre.append {vs vs' : List Value} {xs xs' : List V} (d : ValsAre ρ h vs xs) (q : ValsAre ρ h vs' xs') : ValsAre ρ h (vs ++ vs') (xs ++ xs') := d.ind q fun a _ ih => .cons a ih
theorem ValsAre.set {vs : List Value} {xs : List V} (i : Nat) (d : ValIs ρ h v' v) (q : ValsAre ρ h vs xs) : ValsAre ρ h (vs.set i v') (xs.set i v) :=
  ValsAre.ind (P := fun vs xs => ∀ i, ValsAre ρ h (vs.set i v') (xs.set i v)) q (fun _ => .nil) (fun a b ih i => by cases i with | zero => exact .cons d b | succ i => exact .cons a (ih i)) i
theorem ValsAre.drop {vs : List Value} {xs : List V} (i : Nat) (q : ValsAre ρ h vs xs) : ValsAre ρ h (vs.drop i) (xs.drop i) :=
  ValsAre.ind (P := fun vs xs => ∀ i, ValsAre ρ h (vs.drop i) (xs.drop i)) q (fun i => by simp; exact .nil) (fun a b ih i => by cases i with | zero => exact .cons a b | succ i => exact ih i) i
theorem ValsAre.take {vs : List Value} {xs : List V} (i : Nat) (q : ValsAre ρ h vs xs) : ValsAre ρ h (vs.take i) (xs.take i) :=
  ValsAre.ind (P := fun vs xs => ∀ i, ValsAre ρ h (vs.take i) (xs.take i)) q (fun i => by simp; exact .nil) (fun a b ih i => by cases i with | zero => exact .nil | succ i => exact .cons a (ih i)) i
noncomputable def Keepable (C : Cx) (c : Value) : Prop := ∀ h, C.K.In h -> ∃ k, (k = Keeper.frame \/ k = Keeper.machine \/ k = Keeper.boundFrame) /\ Looks (model C.prog C.w) h (keeperOf c) k
theorem Keepable.ref {a : Addr} (h : keepIn C.K (.ref a) = true) : Keepable C (.ref a) := fun h' X => keeps_K h h' X
theorem Keepable.builtin {id : String} : Keepable C (.builtin id) := fun h' X => ⟨.machine, .inr (.inl rfl), Looks.of_pure rfl⟩
theorem Keepable.type {id : String} : Keepable C (.type id) := fun h' X => ⟨.machine, .inr (.inl rfl), Looks.of_pure rfl⟩
theorem evalArgs_V {c : Value} {es : List Expr} {pos : Pos} {env : Env} {Q : Args -> Shared -> Prop} (hp : ∀ e rest, es = e :: rest -> starEach es env = (false, eval e env) :: starEach rest env)
    (h : wpAny (model C.prog C.w) A (spliced (backTo pos (starEach es env))) (fun vs s' => Q ⟨vs, []⟩ s') E s) : wpAny (model C.prog C.w) A (evalArgs c true (backTo pos (starEach es env)) []) Q E s := by
  cases es with
  | nil =>
    unfold evalArgs
    show wpAny _ A (spliced (backTo pos (starEach [] env)) >>= _) Q E s
    have h : wpAny (model C.prog C.w) A (spliced (backTo pos (starEach [] env))) (fun vs s' => Q ⟨vs, []⟩ s') E s := h
    exact wpAny_bind (wpAny_mono h (fun vs s' h' => wpAny_bind (wpAny_pure (wpAny_holding (wpAny_bind (wpAny_pure (wpAny_bind (wpAny_pure (wpAny_pure h')))))))) fun _ _ x => x)
  | cons e rest =>
    have := hp e rest rfl
    rw [this] at h ⊢
    exact evalArgs_plain h
theorem callWith_V {c : Value} {first : List Value} {es : List Expr} {pos : Pos} {env : Env} {Q : Value -> Shared -> Prop} (hk : Keepable C c) (hp : (backTo pos (starEach es env)).any (·.1) = false)
    (he : ∀ e rest, es = e :: rest -> starEach es env = (false, eval e env) :: starEach rest env)
    (h : wpAny (model C.prog C.w) A (spliced (backTo pos (starEach es env))) (fun vs s₁ => C.K.In s₁.heap /\ wpAny (model C.prog C.w) A (call c (first ++ vs)) Q E s₁) E s) :
    wpAny (model C.prog C.w) A (callWith pos c first (backTo pos (starEach es env)) []) Q E s :=
  callWith_of (P := C.K.In) (by rw [hp]; rfl) hk (evalArgs_V he h)
noncomputable def plainE : Expr -> Bool
  | .Starred .. => false
  | _ => true
theorem star_plain {e : Expr} {rest : List Expr} {env : Env} (h : plainE e = true) : starEach (e :: rest) env = (false, eval e env) :: starEach rest env := by
  cases e <;> first | rfl | cases h
theorem any_plain {pos : Pos} {env : Env} : ∀ {es : List Expr}, es.all plainE = true -> (backTo pos (starEach es env)).any (·.1) = false
  | [], _ => rfl
  | e :: r, h => by
    simp only [List.all_cons, Bool.and_eq_true] at h
    rw [star_plain h.1]
    show (false || (backTo pos (starEach r env)).any (·.1)) = false
    rw [any_plain h.2]; rfl
theorem head_plain {env : Env} {es : List Expr} (h : es.all plainE = true) : ∀ e rest, es = e :: rest -> starEach es env = (false, eval e env) :: starEach rest env := fun e rest q => by
  subst q
  simp only [List.all_cons, Bool.and_eq_true] at h
  exact star_plain h.1
noncomputable def Stands (C : Cx) (f : Fn) (e : Expr) (c : Value) : Prop := ∀ A E L loc ρ mh s (Q : Value -> Shared -> Prop), Fra C f L loc ρ mh s -> Q c s -> wpAny (model C.prog C.w) A (eval e (f.env L)) Q E s
noncomputable def Fn.glo (f : Fn) (x : Str) : Bool := f.scope.names.lookup x == some .globalImplicit && f.scope.kind == .function && !(x == ("__debug__" : Str))
theorem Fn.glo_spec {x : Str} (h : f.glo x = true) : f.scope.names.lookup x = some .globalImplicit /\ f.scope.kind = .function /\ (x == ("__debug__" : Str)) = false := by
  unfold Fn.glo at h
  simp only [Bool.and_eq_true, Bool.not_eq_true'] at h
  exact ⟨eq_of_beq h.1.1, eq_of_beq h.1.2, h.2⟩
theorem Stands.glo (hC : C.Ok) {x : Str} {pos : Pos} {c : Value} (hx : f.glo x = true) (e : nsIn C.K mainGlobals x = some (some c)) : Stands C f (.Name x pos) c := fun A E L loc ρ mh s Q F h => by
  obtain ⟨h1, h2, h3⟩ := Fn.glo_spec hx
  have X : C.K.In s.heap := fun a o e => F.st.keep a o (hC.X a o e)
  have T := hC.T.keeps F.st.keep
  exact Name_function_global (by rw [f.hs]; exact h2) (by show (f.env L).scope.names.lookup x = _; rw [f.hs]; exact h1) (loadGlobal_global (env := f.env L) (by rw [f.hg]; exact T.g) (mg_of X T.g e) h) h3
theorem Stands.bi (hC : C.Ok) {x : Str} {pos : Pos} {c : Value} (hx : f.glo x = true) (e : nsIn C.K mainGlobals x = some none) (hb : bootBuiltins x = some c) (hn : x ≠ "__name__") : Stands C f (.Name x pos) c := fun A E L loc ρ mh s Q F h => by
  obtain ⟨h1, h2, h3⟩ := Fn.glo_spec hx
  have X : C.K.In s.heap := fun a o e => F.st.keep a o (hC.X a o e)
  have T := hC.T.keeps F.st.keep
  exact Name_function_global (by rw [f.hs]; exact h2) (by show (f.env L).scope.names.lookup x = _; rw [f.hs]; exact h1) (loadGlobal_builtin (env := f.env L) (by rw [f.hg]; exact T.g) (mg_none_of X T.g e) (by rw [f.hb]; exact T.b) ((T.builtins x hn).trans hb) h) h3
theorem SemE.gint {e : Expr} {i : Int} {t : Tok} (h : Stands C f e (.int i t)) : SemE C n f e (rConst (.int i)) := fun A E L loc ρ mh s v mh' hr F e => by
  cases e
  exact h A E L loc ρ mh s _ F (PE.same F.sh F.st (.int _ _))
theorem SemE.call (hC : C.Ok) {x : Str} {px pos : Pos} {c : Value} {es : List Expr} {q : REs} {g : ON} (hv : Stands C f (.Name x px) c) (hk : Keepable C c) (ha : SemEs C n f es q) (hF : SemF C n c g) (hp : es.all plainE = true := by rfl) :
    SemE C n f (.Call (.Name x px) es [] pos) (rCallN q g) := fun A E L loc ρ mh s v mh' hr F e => by
  exact bd_elim e fun as m ea e => Call_ (hv A E L loc ρ mh s _ F (callWith_V hk (any_plain hp) (head_plain hp) (ha.use hr F ea fun vs s₁ ρ₁ x₁ sh₁ S₁ F₁ d₁ =>
    ⟨fun a o e => S₁.keep a o (hC.X a o e), wpAny_mono (hF A E ρ₁ m s₁ as vs v mh' hr sh₁ S₁ d₁ e) (fun _ _ q => q.trans x₁) fun _ _ x => x⟩)))
noncomputable def runBody (r : RS) (k m : Nat) : ON := fun as mh => if as.length = k then (match r (as.map some ++ List.replicate m none) mh with
  | some (.ret v mh') => some (v, mh')
  | some (.next _ mh') => some (.none, mh')
  | _ => none) else none
theorem runBody_elim {r : RS} {k m : Nat} {as : List V} (e : runBody r k m as mh = some (v, mh')) {P : Prop} (h : ∀ x, as.length = k -> r (as.map some ++ List.replicate m none) mh = some x -> (match x with | .ret v₁ mh₁ => v₁ = v /\ mh₁ = mh' | .next _ mh₁ => V.none = v /\ mh₁ = mh' | .cont .. => False) -> P) : P := by
  unfold runBody at e
  by_cases hl : as.length = k
  . rw [if_pos hl] at e
    cases ex : r (as.map some ++ List.replicate m none) mh with
    | none => rw [ex] at e; exact no_some e
    | some x => rw [ex] at e; refine h x hl ex ?_; cases x <;> first | exact no_some e | exact ⟨congrArg Prod.fst (Option.some.inj e), congrArg Prod.snd (Option.some.inj e)⟩
  . rw [if_neg hl] at e; exact no_some e
theorem lookup_rev_zip : ∀ (ps : List Str) (as : List Value) (i : Nat) (x : Str) (v : Value), ps.Nodup -> ps[i]? = some x -> as[i]? = some v -> (ps.zip as).reverse.lookup x = some v
  | [], _, _, _, _, _, h, _ => by simp at h
  | p :: ps, [], i, x, v, _, _, h => by simp at h
  | p :: ps, a :: as, i, x, v, hn, h, h' => by
    rw [List.zip_cons_cons, List.reverse_cons, List.lookup_append]
    rw [List.nodup_cons] at hn
    cases i with
    | zero =>
      simp at h h'
      subst h; subst h'
      have : (ps.zip as).reverse.lookup p = none := by
        rw [List.lookup_eq_none_iff]
        intro q hq
        rw [List.mem_reverse] at hq
        have := (List.of_mem_zip hq).1
        cases z : (p == q.1) with
        | false => first | rfl | (simp; simpa using z)
        | true => rw [<- eq_of_beq z] at this; exact absurd this hn.1
      rw [this]; simp
    | succ i =>
      simp at h h'
      rw [lookup_rev_zip ps as i x v hn.2 h h']; rfl
noncomputable def Fn.params (f : Fn) (ps : List Str) : Bool := f.scope.names.map (·.1) |>.take ps.length |> (· == ps)
theorem Room.deeper {env : Env} (h : Room (n + 1) A) : Room n (A.deeper env) := by
  obtain ⟨h1, h2, h3⟩ := h
  refine ⟨?_, ?_, h3⟩
  . show A.depth + 1 + 3 * n + 8 < recursionLimit; omega
  . show A.units + 3 + 12 * n + 100 < cLine; omega
theorem lens0 {α : Type} {P : List α -> Prop} (h : P []) : ∀ as, as.length = 0 -> P as := fun as e => by cases as with | nil => exact h | cons _ _ => cases e
theorem lens1 {α : Type} {P : List α -> Prop} (h : ∀ a, P [a]) : ∀ as, as.length = 1 -> P as := fun as e => by cases as with | nil => cases e | cons x l => exact lens0 (P := fun l => P (x :: l)) (h x) l (Nat.succ.inj e)
theorem lens2 {α : Type} {P : List α -> Prop} (h : ∀ a b, P [a, b]) : ∀ as, as.length = 2 -> P as := fun as e => by cases as with | nil => cases e | cons x l => exact lens1 (P := fun l => P (x :: l)) (h x) l (Nat.succ.inj e)
theorem lens3 {α : Type} {P : List α -> Prop} (h : ∀ a b c, P [a, b, c]) : ∀ as, as.length = 3 -> P as := fun as e => by cases as with | nil => cases e | cons x l => exact lens2 (P := fun l => P (x :: l)) (h x) l (Nat.succ.inj e)
theorem lens4 {α : Type} {P : List α -> Prop} (h : ∀ a b c d, P [a, b, c, d]) : ∀ as, as.length = 4 -> P as := fun as e => by cases as with | nil => cases e | cons x l => exact lens3 (P := fun l => P (x :: l)) (h x) l (Nat.succ.inj e)
theorem lens5 {α : Type} {P : List α -> Prop} (h : ∀ a b c d e, P [a, b, c, d, e]) : ∀ as, as.length = 5 -> P as := fun as e => by cases as with | nil => cases e | cons x l => exact lens4 (P := fun l => P (x :: l)) (h x) l (Nat.succ.inj e)
theorem def_frame {qual : Str} {scope : Scope} {fa : Addr} {cdv : Value} {ps : List Str} {as : List V} {as' : List Value} {h₁ : Heap} {m t : Nat} (sh : Sh C s) (S : SSt C ρ mh s) (hd : ValsAre ρ s.heap as' as)
    (hns : h₁.Ns s.heap.objs.size (fun x => (ps.zip as').reverse.lookup x)) (hk₁ : ∀ b o, s.heap.get? b = some o -> h₁.get? b = some o)
    (hps : (Fn.of qual scope fa cdv).params ps = true) (hnd : ps.Nodup) (hloc : ps.all (fun y => scope.names.lookup y == some .local) = true) (hlen : as.length = ps.length) (hcell : scope.names.all (fun x => x.2 != .cell) = true) :
    Fra C (Fn.of qual scope fa cdv) ⟨s.heap.objs.size, []⟩ (as.map some ++ List.replicate m none) ρ mh { s with heap := h₁, toks := t } := by
  have nL : s.heap.get? s.heap.objs.size = none := by
    cases q : s.heap.get? s.heap.objs.size with
    | none => rfl
    | some o => exact absurd (Heap.lt_size q) (Nat.lt_irrefl _)
  have g1 := S.grow hk₁
  have nB : C.B.get? s.heap.objs.size = none := by
    cases q : C.B.get? s.heap.objs.size with
    | none => rfl
    | some o => rw [S.keep _ _ q] at nL; cases nL
  have loc1 : ∀ x ∈ ps, scope.names.lookup x = some .local := fun x hx => eq_of_beq (List.all_eq_true.mp hloc x hx)
  refine ⟨sh, g1.1, ⟨_, hns, fun x i u hx hu => ?_⟩, fun y hy o => ?_, fun y hy => by rw [List.mem_singleton.mp hy]; exact nB, fun c hc => (nomatch hc), .nil, fun x hx => ?_⟩
  . by_cases lt : i < as.length
    . rw [List.getElem?_append_left (by simpa using lt), List.getElem?_map] at hu
      cases hq : as[i]? with
      | none => rw [hq] at hu; cases hu
      | some u' =>
        rw [hq] at hu
        cases hu
        obtain ⟨y, h1, h2⟩ := hd.get hq
        have hpx : ps[i]? = some x := ?_
        refine ⟨y, ?_, h2.mono (g1.2.tup S) (.refl ρ)⟩
        . unfold Holds
          rw [if_neg (by have := loc1 x (List.mem_of_getElem? hpx); show ¬ scope.names.lookup x = _; rw [this]; decide)]
          exact lookup_rev_zip ps as' i x y hnd hpx h1
        obtain ⟨hi, hb', _⟩ := List.findIdx?_eq_some_iff_getElem.mp hx
        have e1 := eq_of_beq hps
        have e2 : ((scope.names.map (·.1)).take ps.length)[i]? = ps[i]? := by rw [e1]
        rw [List.getElem?_take_of_lt (by omega), List.getElem?_map, List.getElem?_eq_getElem hi] at e2
        rw [<- e2]
        exact congrArg some (eq_of_beq hb')
    . rw [List.getElem?_append_right (by simpa using lt), List.getElem?_replicate] at hu
      split at hu <;> simp at hu
  . rw [List.mem_singleton.mp hy] at o
    obtain ⟨_, t⟩ := S.there o
    rw [nL] at t; cases t
  . have := List.all_eq_true.mp hcell (x, .cell) (lookup_mem hx)
    simp at this
theorem def_call (hC : C.Ok) {fa : Addr} {name qual : Str} {params : Arguments} {body : List Stmt} {scope : Scope} {dV kV doc pm cdv ct oc : Value} {an od : Option Addr} {osl : Array (Option Value)} {m : Nat} {ps : List Str} {as : List V} {as' : List Value} {Q : Value -> Shared -> Prop}
    (ho : C.K.lookup fa = some ⟨oc, od, .func (fnOf name qual params body scope dV kV doc pm an cdv ct), osl⟩) (hcd : codeIn C.K cdv qual = true)
    (hb : ∀ s as, as.length = ps.length -> BindsTo s (fnOf name qual params body scope dV kV doc pm an cdv ct) ⟨as, []⟩ (ps.zip as))
    (hps : (Fn.of qual scope fa cdv).params ps = true) (hnd : ps.Nodup) (hloc : ps.all (fun y => scope.names.lookup y == some .local) = true)
    (hco : scope.isCoroutine = false) (hgen : scope.isGenerator = false) (hk : scope.kind = .function) (hcell : scope.names.all (fun x => x.2 != .cell) = true)
    (hr : A.depth < recursionLimit) (sh : Sh C s) (S : SSt C ρ mh s) (hd : ValsAre ρ s.heap as' as) (hlen : as.length = ps.length)
    (h : ∀ h₁, (∀ b o, s.heap.get? b = some o -> h₁.get? b = some o) -> Fra C (Fn.of qual scope fa cdv) ⟨s.heap.objs.size, []⟩ (as.map some ++ List.replicate m none) ρ mh { s with heap := h₁, toks := s.toks + (ps.zip as').length } ->
      wpAny (model C.prog C.w) (A.deeper ((Fn.of qual scope fa cdv).env ⟨s.heap.objs.size, []⟩)) (execs body ((Fn.of qual scope fa cdv).env ⟨s.heap.objs.size, []⟩)) (fun f s' => Q (match f with | .ret v => v | _ => .none) s')
        (fun e s' => wpAny (model C.prog C.w) (A.deeper ((Fn.of qual scope fa cdv).env ⟨s.heap.objs.size, []⟩)) (leaving ((Fn.of qual scope fa cdv).env ⟨s.heap.objs.size, []⟩) e) (fun _ s'' => E e s'') (fun e' s'' => E e' s'') s') { s with heap := h₁, toks := s.toks + (ps.zip as').length }) :
    wpAny (model C.prog C.w) A (call (.ref fa) as') Q E s :=
  have X : C.K.In s.heap := fun a o e => S.keep a o (hC.X a o e)
  wpAny_call (codeAny_call_def (fd := fnOf name qual params body scope dV kV doc pm an cdv ct) (body := body) (binds := ps.zip as') hr (X _ _ ho) rfl (hC.T.keeps S.keep).nolimit (codeRec_of X hcd) rfl
    (hb s as' (by rw [hd.length, hlen])) (fun x hx => by have := List.all_eq_true.mp hcell x hx; simpa using this)
    (fun x hx => by have := List.all_eq_true.mp hloc x.1 (List.of_mem_zip hx).1; exact eq_of_beq this) (fun h₁ hns hk₁ => h h₁ hk₁ (def_frame sh S hd hns hk₁ hps hnd hloc hlen hcell)) hco hgen hk)
theorem PS.value {L : Fid} {x : SR} {fl : Flow} {h₁ : Heap} (hx : match x with | .ret v₁ mh₁ => v₁ = v /\ mh₁ = mh' | .next _ mh₁ => V.none = v /\ mh₁ = mh' | .cont .. => False) (hk₁ : ∀ b o, h.get? b = some o -> h₁.get? b = some o) (hX : ∀ y ∈ L.X, h.get? y = none)
    (p : PS C f L ρ mh h₁ x fl s') : PE C ρ mh h mh' v (match (generalizing := false) fl with | .ret v => v | _ => .none) s' := by
  cases x with
  | ret v₁ mh₁ => exact p.ret fun ρ' v' x sh S d => ⟨ρ', hx.2 ▸ Ext.drop hk₁ hX x, sh, hx.2 ▸ S, hx.1 ▸ d⟩
  | next l mh₁ => exact p.next fun ρ' x sh F => ⟨ρ', hx.2 ▸ Ext.drop hk₁ hX x, sh, hx.2 ▸ F.st, hx.1 ▸ .none⟩
  | cont => exact hx.elim
theorem size_none' (h : Heap) : h.get? h.objs.size = none := by
  cases q : h.get? h.objs.size with
  | none => rfl
  | some o => exact absurd (Heap.lt_size q) (Nat.lt_irrefl _)
theorem SemF.of_def (hC : C.Ok) {fa : Addr} {name qual : Str} {params : Arguments} {body : List Stmt} {scope : Scope} {dV kV doc pm cdv ct oc : Value} {an od : Option Addr} {osl : Array (Option Value)} {r : RS} {m : Nat} {ps : List Str}
    (ho : C.K.lookup fa = some ⟨oc, od, .func (fnOf name qual params body scope dV kV doc pm an cdv ct), osl⟩) (hcd : codeIn C.K cdv qual = true)
    (hb : ∀ s as, as.length = ps.length -> BindsTo s (fnOf name qual params body scope dV kV doc pm an cdv ct) ⟨as, []⟩ (ps.zip as))
    (hps : (Fn.of qual scope fa cdv).params ps = true) (hnd : ps.Nodup) (hloc : ps.all (fun y => scope.names.lookup y == some .local) = true)
    (h : SemS C n (Fn.of qual scope fa cdv) body r)
    (hco : scope.isCoroutine = false := by rfl) (hgen : scope.isGenerator = false := by rfl) (hk : scope.kind = .function := by rfl)
    (hcell : scope.names.all (fun x => x.2 != .cell) = true := by decide) : SemF C (n + 1) (.ref fa) (runBody r ps.length m) := fun A E ρ mh s as as' v mh' hr sh S hd e => by
  exact runBody_elim e fun x hlen ex hx => def_call hC ho hcd hb hps hnd hloc hco hgen hk hcell (by have := hr.1; omega) sh S hd hlen fun h₁ hk₁ F =>
    wpAny_mono (h _ _ _ _ ρ mh _ x hr.deeper F ex) (fun fl s' p => p.value hx hk₁ fun y hy => by rw [List.mem_singleton.mp hy]; exact size_none' _) fun _ _ x => x
end
end Mini
namespace Mini
mutual
noncomputable def V.beq : V -> V -> Bool
  | .none, .none => true
  | .bool a, .bool b => a == b
  | .int a, .int b => a == b
  | .str a, .str b => a == b
  | .tup a, .tup b => V.beqs a b
  | .ref a, .ref b => a == b
  | _, _ => false
noncomputable def V.beqs : List V -> List V -> Bool
  | [], [] => true
  | a :: r, b :: t => V.beq a b && V.beqs r t
  | _, _ => false
end
noncomputable def V.pl : Nat -> V -> Bool
  | _, .none => true
  | _, .int _ => true
  | _, .str _ => true
  | n + 1, .tup l => l.all (V.pl n)
  | _, _ => false
mutual
noncomputable def V.toP : V -> PyData
  | .none => .none
  | .bool b => .bool b
  | .int i => .int i
  | .str s => .str (Str.ofString s)
  | .tup l => .tuple (V.toPs l)
  | .ref _ => .none
noncomputable def V.toPs : List V -> List PyData
  | [] => []
  | d :: ds => V.toP d :: V.toPs ds
end
theorem V.pl_bool {n : Nat} {b : Bool} {P : Prop} (h : V.pl n (.bool b) = true) : P := by cases n <;> cases h
theorem V.pl_ref {n i : Nat} {P : Prop} (h : V.pl n (.ref i) = true) : P := by cases n <;> cases h
theorem V.pl_tupE {n : Nat} {l : List V} {P : Prop} (h : V.pl n (.tup l) = true) (k : ∀ m, n = m + 1 -> (∀ x ∈ l, V.pl m x = true) -> P) : P := by
  cases n with
  | zero => cases h
  | succ m => exact k m rfl (List.all_eq_true.mp h)
theorem V.pl_tup {n : Nat} {l : List V} (h : ∀ x ∈ l, V.pl n x = true) : V.pl (n + 1) (.tup l) = true := List.all_eq_true.mpr h
inductive RdV (h : Heap) (n : Nat) (v : Value) (x : V) : Prop
  | mk (r : ∃ as, Reads h v x.toP as) (c : x.toP.canLay0 = true) (d : x.toP.depth <= n)
inductive RdVs (h : Heap) (n : Nat) (v : List Value) (x : List V) : Prop
  | mk (r : ∃ as, ReadsAll h v (V.toPs x) as) (c : PyData.canLayAll0 (V.toPs x) = true) (d : PyData.depthAll (V.toPs x) <= n)
theorem ValsAre.reads' {ρ : Rho} {h : Heap} {n : Nat} (ih : ∀ {v x}, ValIs ρ h v x -> x.pl n = true -> RdV h n v x) {x : List V} : ∀ {v : List Value}, ValsAre ρ h v x -> (∀ y ∈ x, y.pl n = true) -> RdVs h n v x := by
  induction x with
  | nil =>
    intro v d _
    cases d
    exact ⟨⟨_, .nil⟩, rfl, Nat.zero_le _⟩
  | cons y ys hi =>
    intro v d k
    cases d with
    | cons a b =>
      obtain ⟨⟨as, q⟩, q2, q3⟩ := ih a (k _ (.head _))
      obtain ⟨⟨bs, p⟩, p2, p3⟩ := hi b fun y hy => k y (.tail _ hy)
      exact ⟨⟨as ++ bs, .cons q p⟩, by simp [V.toPs, PyData.canLayAll0, q2, p2], by simp [V.toPs, PyData.depthAll]; omega⟩
theorem ValIs.reads' {ρ : Rho} {h : Heap} {n : Nat} (ih : ∀ m, n = m + 1 -> ∀ {v x}, ValIs ρ h v x -> x.pl m = true -> RdV h m v x) {v : Value} {x : V} (d : ValIs ρ h v x) (k : x.pl n = true) : RdV h n v x := by
  cases d with
  | none => exact ⟨⟨_, .none⟩, rfl, Nat.zero_le _⟩
  | bool => exact V.pl_bool k
  | int i t => exact ⟨⟨_, .int i t⟩, rfl, Nat.zero_le _⟩
  | str s t e => exact ⟨⟨_, .str _ t⟩, e, Nat.zero_le _⟩
  | tup ht hv =>
    refine V.pl_tupE k fun m e hl => ?_
    obtain ⟨⟨as, q⟩, q2, q3⟩ := ValsAre.reads' (ih m e) hv hl
    obtain ⟨o, ho, hc, k, hd⟩ := ht
    exact ⟨⟨as, reads_tuple_at ho hc hd (by simpa using q)⟩, by simp [V.toP, PyData.canLay0, q2], by simp [V.toP, PyData.depth]; omega⟩
  | ref e => exact V.pl_ref k
theorem ValIs.reads1 {ρ : Rho} {h : Heap} (n : Nat) : ∀ {v : Value} {x : V}, ValIs ρ h v x -> x.pl n = true -> RdV h n v x := by
  induction n with
  | zero => exact fun d k => d.reads' (fun m e => by cases e) k
  | succ n ih => exact fun d k => d.reads' (fun m e => by cases e; exact ih) k
theorem ValIs.reads {ρ : Rho} {h : Heap} {v : Value} {x : V} (n : Nat) (d : ValIs ρ h v x) (k : x.pl n = true) : (∃ as, Reads h v x.toP as) /\ x.toP.canLay0 = true /\ x.toP.depth <= n := by obtain ⟨a, b, c⟩ := d.reads1 n k; exact ⟨a, b, c⟩
theorem ValsAre.reads {ρ : Rho} {h : Heap} {v : List Value} {x : List V} (n : Nat) (d : ValsAre ρ h v x) (k : ∀ y ∈ x, y.pl n = true) : (∃ as, ReadsAll h v (V.toPs x) as) /\ PyData.canLayAll0 (V.toPs x) = true /\ PyData.depthAll (V.toPs x) <= n := by obtain ⟨a, b, c⟩ := d.reads' (ValIs.reads1 n) k; exact ⟨a, b, c⟩
theorem eqv_all {p : V -> Prop} (ih : ∀ (a b : V), p a -> p b -> PyData.eqv a.toP b.toP = V.beq a b) : ∀ (ds es : List V), (∀ d ∈ ds, p d) -> (∀ d ∈ es, p d) -> PyData.eqvAll (V.toPs ds) (V.toPs es) = V.beqs ds es := by
  intro ds
  induction ds with
  | nil => intro es _ _; cases es <;> rfl
  | cons d ds hi =>
    intro es h1 h2
    cases es with
    | nil => rfl
    | cons e es =>
      show (PyData.eqv d.toP e.toP && PyData.eqvAll (V.toPs ds) (V.toPs es)) = (V.beq d e && V.beqs ds es)
      rw [ih d e (h1 d (.head _)) (h2 e (.head _)), hi es (fun x hx => h1 x (.tail _ hx)) fun x hx => h2 x (.tail _ hx)]
theorem toP_eqv1 {n : Nat} (ih : ∀ m, n = m + 1 -> ∀ (a b : V), a.pl m = true -> b.pl m = true -> PyData.eqv a.toP b.toP = V.beq a b) (a b : V) (ha : a.pl n = true) (hb : b.pl n = true) : PyData.eqv a.toP b.toP = V.beq a b := by
  have hstr : ∀ a b : String, (Str.ofString a == Str.ofString b) = (a == b) := fun a b => by
    by_cases h : a = b
    . subst h; simp
    . rw [beq_eq_false_iff_ne.mpr h, beq_eq_false_iff_ne.mpr fun e => h (ofString_inj e)]
  cases a with
  | bool => exact V.pl_bool ha
  | ref => exact V.pl_ref ha
  | tup l => cases b with
    | tup k => exact V.pl_tupE ha fun m e h1 => V.pl_tupE hb fun m' e' h2 => eqv_all (ih m e) l k h1 (by rw [Nat.succ.inj (e.symm.trans e')]; exact h2)
    | bool => exact V.pl_bool hb
    | ref => exact V.pl_ref hb
    | _ => rfl
  | str x => cases b with
    | str y => exact hstr x y
    | bool => exact V.pl_bool hb
    | ref => exact V.pl_ref hb
    | _ => rfl
  | _ => cases b with
    | bool => exact V.pl_bool hb
    | ref => exact V.pl_ref hb
    | _ => rfl
theorem toP_eqv (n : Nat) : ∀ (a b : V), a.pl n = true -> b.pl n = true -> PyData.eqv a.toP b.toP = V.beq a b := by
  induction n with
  | zero => exact toP_eqv1 fun m e => by cases e
  | succ n ih => exact toP_eqv1 fun m e => by cases e; exact ih
theorem V.beqs_self {l : List V} (h : ∀ x ∈ l, V.beq x x = true) : V.beqs l l = true := by
  induction l with
  | nil => rfl
  | cons x r ih =>
    show (V.beq x x && V.beqs r r) = true
    rw [h x (.head _), ih fun y hy => h y (.tail _ hy)]; rfl
theorem V.beq_self1 {n : Nat} (ih : ∀ m, n = m + 1 -> ∀ v : V, v.pl m = true -> V.beq v v = true) (v : V) (h : v.pl n = true) : V.beq v v = true := by
  cases v with
  | none => rfl
  | bool => exact V.pl_bool h
  | ref => exact V.pl_ref h
  | int i => exact beq_self_eq_true i
  | str s => exact beq_self_eq_true s
  | tup l => exact V.pl_tupE h fun m e hl => V.beqs_self fun x hx => ih m e x (hl x hx)
theorem V.beq_self (n : Nat) : ∀ v : V, v.pl n = true -> V.beq v v = true := by
  induction n with
  | zero => exact V.beq_self1 fun m e => by cases e
  | succ n ih => exact V.beq_self1 fun m e => by cases e; exact ih
inductive D where
  | v (x : V)
  | l (xs : List V)
noncomputable def asD (mh : MH) : V -> Option D
  | .ref i => match ob mh i with | some (.list vs) => if vs.all (V.pl 7) = true then some (.l vs) else none | _ => none
  | x => if x.pl 8 = true then some (.v x) else none
noncomputable def D.beq : D -> D -> Bool
  | .v a, .v b => V.beq a b
  | .l a, .l b => V.beqs a b
  | _, _ => false
noncomputable def D.toP : D -> PyData
  | .v a => a.toP
  | .l a => .list (V.toPs a)
noncomputable def gEq : O2 := fun a b mh => match asD mh a, asD mh b with | some x, some y => some (.bool (D.beq x y), mh) | _, _ => none
noncomputable def gNe : O2 := fun a b mh => match asD mh a, asD mh b with | some x, some y => some (.bool (!D.beq x y), mh) | _, _ => none
section
variable {C : Cx} {n : Nat} {f : Fn} {A : Around} {E : Value -> Shared -> Prop} {ρ ρ' : Rho} {mh mh' : MH} {s s' : Shared} {v : V} {v' : Value} {h h' : Heap} {L : Fid} {loc loc' : Loc}
inductive AsD (mh : MH) (a : V) : D -> Prop
  | v (h : a.pl 8 = true) : AsD mh a (.v a)
  | l (i : Nat) (vs : List V) (e : a = .ref i) (ho : ob mh i = some (.list vs)) (h : ∀ v ∈ vs, V.pl 7 v = true) : AsD mh a (.l vs)
theorem asD_inv {a : V} {x : D} (e : asD mh a = some x) : AsD mh a x := by
  have pl : ∀ {x : D}, (if a.pl 8 = true then some (D.v a) else none) = some x -> AsD mh a x := fun e => by
    by_cases h : a.pl 8 = true
    . rw [if_pos h] at e; cases e; exact .v h
    . rw [if_neg h] at e; exact no_some e
  cases a with
  | ref i =>
    cases ho : ob mh i with
    | none => unfold asD at e; dsimp only at e; rw [ho] at e; exact no_some e
    | some o =>
      cases o with
      | list vs =>
        unfold asD at e; dsimp only at e; rw [ho] at e
        dsimp only at e
        by_cases h : vs.all (V.pl 7) = true
        . rw [if_pos h] at e; cases e; exact .l i vs rfl ho (List.all_eq_true.mp h)
        . rw [if_neg h] at e; exact no_some e
      | _ => unfold asD at e; dsimp only at e; rw [ho] at e; exact no_some e
  | _ => exact pl e
theorem asD_list {i : Nat} {vs : List V} (ho : ob mh i = some (.list vs)) (h : vs.all (V.pl 7) = true) : asD mh (.ref i) = some (.l vs) := by
  unfold asD; dsimp only; rw [ho]; exact if_pos h
theorem gEq_of {a b : V} {x y : D} (hx : asD mh a = some x) (hy : asD mh b = some y) : gEq a b mh = some (.bool (D.beq x y), mh) := by delta gEq; rw [hx, hy]
theorem asD_reads {a : V} {a' : Value} {x : D} (S : SSt C ρ mh s) (d : ValIs ρ s.heap a' a) (e : asD mh a = some x) : (∃ as, Reads s.heap a' x.toP as) /\ SeqAt.shaped x.toP = true := by
  cases asD_inv e with
  | v hp =>
    obtain ⟨q1, q2, q3⟩ := d.reads 8 hp
    refine ⟨q1, ?_⟩
    unfold SeqAt.shaped
    show (a.toP.canLay0 && _) = true
    rw [q2]
    show decide _ = true
    exact decide_eq_true (by show a.toP.depth <= _; omega)
  | l i vs ea hi hp =>
    subst ea
    refine d.refE fun p ep hq => ?_
    subst ep
    obtain ⟨_, items, k, ho, hv⟩ := S.obj i p _ hq hi
    obtain ⟨⟨as, q⟩, q2, q3⟩ := hv.reads 7 hp
    refine ⟨⟨p.1 :: as, reads_list_at ho rfl rfl (by simpa using q)⟩, ?_⟩
    unfold SeqAt.shaped
    simp [D.toP, PyData.canLay0, PyData.depth, q2]; omega
theorem D.eqv {x y : D} {a b : V} (ha : asD mh a = some x) (hb : asD mh b = some y) : PyData.eqv x.toP y.toP = D.beq x y := by
  have vl : ∀ {v : V} {l : List V}, v.pl 8 = true -> PyData.eqv v.toP (.list (V.toPs l)) = false /\ PyData.eqv (.list (V.toPs l)) v.toP = false := fun {v l} h => by
    cases v with
    | bool => exact V.pl_bool h
    | ref => exact V.pl_ref h
    | _ => exact ⟨rfl, rfl⟩
  cases asD_inv ha with
  | v h1 => cases asD_inv hb with
    | v h2 => exact toP_eqv 8 _ _ h1 h2
    | l i vs e ho h2 => exact (vl h1).1
  | l i vs e ho h1 => cases asD_inv hb with
    | v h2 => exact (vl h2).2
    | l i2 vs2 e2 ho2 h2 => exact eqv_all (toP_eqv 7) _ _ h1 h2
theorem gEq_inv {a b : V} {r : V × MH} {f : D -> D -> V} (e : (match asD mh a, asD mh b with | some x, some y => some (f x y, mh) | _, _ => none) = some r) : ∃ x y, asD mh a = some x /\ asD mh b = some y /\ r = (f x y, mh) := by
  cases hx : asD mh a with
  | none => rw [hx] at e; exact no_some e
  | some x => cases hy : asD mh b with
    | none => rw [hx, hy] at e; exact no_some e
    | some y => rw [hx, hy] at e; exact ⟨x, y, rfl, rfl, (Option.some.inj e).symm⟩
theorem Op2.eq : Op2 C n (compareOp .Eq) gEq := fun A E ρ mh s a b a' b' v mh' hr sh S da db e => by
  obtain ⟨x, y, hx, hy, e⟩ := gEq_inv e
  cases e
  obtain ⟨⟨_, ra⟩, sa⟩ := asD_reads S da hx
  obtain ⟨⟨_, rb⟩, sb⟩ := asD_reads S db hy
  exact eq_dataH ra rb sa sb (by have := hr.2.1; omega) (by rw [D.eqv hx hy]; exact PE.same sh S (.bool _))
noncomputable def gI2 (g : Int -> Int -> Option V) : O2 := fun a b mh => match a, b with | .int x, .int y => (match g x y with | some v => some (v, mh) | none => none) | _, _ => none
theorem Op2.int {t : Value -> Value -> Sem Value} {g : Int -> Int -> Option V}
    (hg : ∀ A E (s : Shared) x y u u' v (Q : Value -> Shared -> Prop), Room n A -> g x y = some v -> (∀ v' tk, (∀ (ρ : Rho) h, ValIs ρ h v' v) -> Q v' { s with toks := tk }) -> wpAny (model C.prog C.w) A (t (.int x u) (.int y u')) Q E s) : Op2 C n t (gI2 g) := fun A E ρ mh s a b a' b' v mh' hr sh S da db e => by
  cases da with
  | int x u => cases db with
    | int y u' =>
      unfold gI2 at e
      dsimp only at e
      cases hg' : g x y with
      | none => rw [hg'] at e; exact no_some e
      | some v => rw [hg'] at e; cases e; exact hg A E s _ _ _ _ _ _ hr hg' fun v' tk d => PE.tok sh S (d _ _)
    | _ => exact no_some e
  | _ => exact no_some e
theorem Op2.add : Op2 C n (binaryOp .Add) (gI2 fun x y => some (.int (x + y))) := .int fun A E s x y u u' v Q hr e h => by
  cases e; exact PyProof.Rows.add_int (h _ _ fun _ _ => .int _ _)
theorem Op2.sub : Op2 C n (binaryOp .Sub) (gI2 fun x y => some (.int (x - y))) := .int fun A E s x y u u' v Q hr e h => by
  cases e; exact PyProof.Rows.sub_int (h _ _ fun _ _ => .int _ _)
theorem Op2.mul : Op2 C n (binaryOp .Mult) (gI2 fun x y => if -1000 < x /\ x < 1000 then some (.int (x * y)) else none) := .int fun A E s x y u u' v Q hr e h => by
  split at e
  . rename_i hx
    cases e; exact PyProof.Rows.mul_int (h _ _ fun _ _ => .int _ _) (IntMulOk.of_left (intBits_le_64 (by omega) (by omega)))
  . exact no_some e
theorem Op2.mod : Op2 C n (binaryOp .Mod) (gI2 fun x y => if 0 < y /\ y < 1000 then some (.int (x.fmod y)) else none) := .int fun A E s x y u u' v Q hr e h => by
  split at e
  . rename_i hx
    cases e; exact PyProof.Rows.mod_int' (by omega) (h _ _ fun _ _ => .int _ _)
  . exact no_some e
theorem Op2.fdiv : Op2 C n (binaryOp .FloorDiv) (gI2 fun x y => if 0 < y /\ y < 1000 then some (.int (x.fdiv y)) else none) := .int fun A E s x y u u' v Q hr e h => by
  split at e
  . rename_i hx
    cases e; exact PyProof.Rows.floordiv_int (by omega) (h _ _ fun _ _ => .int _ _) (.inl (PyProof.noPylong_small (by omega)))
  . exact no_some e
theorem Op2.iadd : Op2 C n (inplaceOp .Add) (gI2 fun x y => some (.int (x + y))) := .int fun A E s x y u u' v Q hr e h => by
  cases e; exact wpAny_iadd_int (h _ _ fun _ _ => .int _ _)
theorem Op2.lt : Op2 C n (compareOp .Lt) (gI2 fun x y => some (.bool (decide (x < y)))) := .int fun A E s x y u u' v Q hr e h => by
  cases e; exact PyProof.Rows.lt_int (h _ s.toks fun _ _ => .bool _)
theorem Op2.le : Op2 C n (compareOp .LtE) (gI2 fun x y => some (.bool (decide (x <= y)))) := .int fun A E s x y u u' v Q hr e h => by
  cases e; exact PyProof.Rows.le_int (h _ s.toks fun _ _ => .bool _)
theorem Op2.gt : Op2 C n (compareOp .Gt) (gI2 fun x y => some (.bool (decide (y < x)))) := .int fun A E s x y u u' v Q hr e h => by
  cases e; exact PyProof.Rows.gt_int (h _ s.toks fun _ _ => .bool _)
theorem Op2.ge : Op2 C n (compareOp .GtE) (gI2 fun x y => some (.bool (decide (y <= x)))) := .int fun A E s x y u u' v Q hr e h => by
  cases e; exact PyProof.Rows.ge_int (h _ s.toks fun _ _ => .bool _)
noncomputable def gNeg : O1 := fun a mh => match a with | .int x => some (.int (-x), mh) | _ => none
theorem Op1.neg : Op1 C n (unaryOp .USub) gNeg := fun A E ρ mh s a a' v mh' hr sh S da e => by
  cases da with
  | int => cases e; exact PyProof.Rows.neg_int (PE.tok sh S (.int _ _))
  | _ => exact no_some e
noncomputable def gIsNone : O2 := fun a b mh => match b with | .none => some (.bool (match a with | .none => true | _ => false), mh) | _ => none
theorem Op2.is : Op2 C n (compareOp .Is) gIsNone := fun A E ρ mh s a b a' b' v mh' hr sh S da db e => by
  cases db with
  | none =>
    cases e
    cases da
    . exact is_none_none (PE.same sh S (.bool _))
    all_goals exact wpAny_is_other (by rfl) (by intro x; cases x) (PE.same sh S (.bool _))
  | _ => exact no_some e
end
end Mini
namespace Mini
section
variable {C : Cx} {n : Nat} {f : Fn} {A : Around} {E : Value -> Shared -> Prop} {ρ ρ' : Rho} {mh mh' : MH} {s s' : Shared} {v : V} {v' : Value} {h h' : Heap} {L : Fid} {loc loc' : Loc}
theorem line1000 {k : Nat} (h : k <= 1000) : k <= sizeLine := Nat.le_trans h (by decide)
theorem push_keeps (h : Heap) (o : Obj) : ∀ b x, h.get? b = some x -> (h.push o).get? b = some x := fun _ _ e => Heap.get?_push_of_some _ e
theorem size_none (h : Heap) : h.get? h.objs.size = none := by
  cases q : h.get? h.objs.size with
  | none => rfl
  | some o => exact absurd (Heap.lt_size q) (Nat.lt_irrefl _)
theorem newTuple_V {vs : List Value} {xs : List V} (sh : Sh C s) (S : SSt C ρ mh s) (d : ValsAre ρ s.heap vs xs) (hz : xs.length <= 1000) : wpAny (model C.prog C.w) A (newTuple vs) (PE C ρ mh s.heap mh (.tup xs)) E s := by
  have g := S.grow (push_keeps s.heap { cls := .type "tuple", data := .seq vs.toArray })
  refine wpAny_newTuple ⟨ρ, g.2, sh, g.1, .tup ⟨_, Heap.get?_push_size _ rfl, rfl, _, rfl⟩ (d.mono (g.2.tup S) (.refl ρ))⟩ (line1000 (by rw [d.length]; exact hz))
theorem St.newObj (S : SSt C ρ mh s) {o : Obj} {m : MObj} (hf : o.isFreed = false) (ho : ∀ ρ', Pre ρ ρ' -> TupKept s.heap (s.heap.push o) -> (s.heap.push o).get? s.heap.objs.size = some o -> ObjIs C.prog C.w ρ' (s.heap.push o) (s.heap.objs.size, s.heap.objs.size) m) :
    St C.prog C.w C.B (ρ ++ [(s.heap.objs.size, s.heap.objs.size)]) (mkO mh m) (s.heap.push o) /\ Ext [] ρ mh s.heap (ρ ++ [(s.heap.objs.size, s.heap.objs.size)]) (mkO mh m) (s.heap.push o) /\ ValIs (ρ ++ [(s.heap.objs.size, s.heap.objs.size)]) (s.heap.push o) (.ref s.heap.objs.size) (.ref mh.length) := by
  have z := S.alloc (p := (s.heap.objs.size, s.heap.objs.size)) (push_keeps s.heap o) (size_none _) (size_none _) (ho _ (.append _ _) (fun b x e _ _ => push_keeps _ _ b x e) (Heap.get?_push_size _ hf))
  exact ⟨z.1, z.2.1, .ref (p := (s.heap.objs.size, s.heap.objs.size)) z.2.2⟩
theorem newList_V {vs : List Value} {xs : List V} (sh : Sh C s) (S : SSt C ρ mh s) (d : ValsAre ρ s.heap vs xs) (hz : xs.length <= 1000) : wpAny (model C.prog C.w) A (newList vs) (PE C ρ mh s.heap (mkO mh (.list xs)) (.ref mh.length)) E s := by
  obtain ⟨a, b, c⟩ := St.newObj S (o := { cls := .type "list", data := .seq vs.toArray }) (m := .list xs) rfl fun ρ' p tk e => ⟨rfl, vs, 0, e, d.mono tk p⟩
  exact wpAny_newObj_type ⟨_, b, sh, a, c⟩ (by show vs.toArray.size <= sizeLine; rw [List.size_toArray, d.length]; exact line1000 hz)
noncomputable def rTup (q : REs) : RE := fun loc mh => bd (q loc mh) fun xs m => some (.tup xs, m)
noncomputable def rList (q : REs) : RE := fun loc mh => bd (q loc mh) fun xs m => some (.ref m.length, mkO m (.list xs))
noncomputable def rNew (m : MObj) : RE := fun _ mh => some (.ref mh.length, mkO mh m)
theorem SemE.tup {es : List Expr} {k : Nat} {pos : Pos} {q : REs} (h : SemEs C n f es q) (hz : es.length <= 1000 := by decide) : SemE C n f (.Tuple es k pos) (rTup q) := fun A E L loc ρ mh s v mh' hr F e => by
  refine bd_elim e fun xs m ea w => some_elim w (Tuple_ (h.use hr F ea fun vs s₁ ρ₁ x₁ sh₁ S₁ F₁ d₁ => ?_))
  exact wpAny_mono (newTuple_V sh₁ S₁ d₁ (by rw [h.1 _ _ _ _ ea]; exact hz)) (fun _ _ q => q.trans x₁) fun _ _ x => x
theorem SemE.list {es : List Expr} {pos : Pos} {q : REs} (h : SemEs C n f es q) (hz : es.length <= 1000 := by decide) : SemE C n f (.List es pos) (rList q) := fun A E L loc ρ mh s v mh' hr F e => by
  refine bd_elim e fun xs m ea w => some_elim w (List_ (h.use hr F ea fun vs s₁ ρ₁ x₁ sh₁ S₁ F₁ d₁ => ?_))
  exact wpAny_mono (newList_V sh₁ S₁ d₁ (by rw [h.1 _ _ _ _ ea]; exact hz)) (fun _ _ q => q.trans x₁) fun _ _ x => x
theorem low_size (hC : C.Ok) (S : SSt C ρ mh s) : sysModules < s.heap.objs.size := modules_low (hC.T.nolimit.keeps S.keep)
theorem SemE.dictI (hC : C.Ok) {pos : Pos} : SemE C n f (.Dict [] [] pos) (rNew (.dictI [])) := fun A E L loc ρ mh s v mh' hr F e => by
  cases e
  obtain ⟨a, b, c⟩ := St.newObj F.st (o := { cls := .type "dict", data := .dict #[] }) (m := .dictI []) rfl fun ρ' p tk e => ⟨rfl, low_size hC F.st, [], Heap.DictOf.new _, .nil⟩
  exact wpAny_Dict_empty ⟨_, b, F.sh, a, c⟩
theorem SemE.dictS (hC : C.Ok) {pos : Pos} : SemE C n f (.Dict [] [] pos) (rNew (.dictS [])) := fun A E L loc ρ mh s v mh' hr F e => by
  cases e
  obtain ⟨a, b, c⟩ := St.newObj F.st (o := { cls := .type "dict", data := .dict #[] }) (m := .dictS []) rfl fun ρ' p tk e => ⟨rfl, low_size hC F.st, [], Heap.DictOf.new _, .nil⟩
  exact wpAny_Dict_empty ⟨_, b, F.sh, a, c⟩
theorem SemE.dictT (hC : C.Ok) {pos : Pos} : SemE C n f (.Dict [] [] pos) (rNew (.dictT [])) := fun A E L loc ρ mh s v mh' hr F e => by
  cases e
  obtain ⟨a, b, c⟩ := St.newObj F.st (o := { cls := .type "dict", data := .dict #[] }) (m := .dictT []) rfl fun ρ' p tk e => ⟨rfl, low_size hC F.st, [], Heap.DictOfH.new _, .nil⟩
  exact wpAny_Dict_empty ⟨_, b, F.sh, a, c⟩
theorem valueAt_getA {K : Type} [DecidableEq K] (ms : List (K × Value)) (k : K) : valueAt ms k = getA k ms := by
  unfold valueAt
  induction ms with
  | nil => rfl
  | cons p r ih =>
    obtain ⟨a, b⟩ := p
    unfold getA
    rw [List.find?_cons]
    by_cases h : a = k
    . simp [h]
    . simp only [h, decide_false, if_false]; exact ih
theorem putA_new {K β : Type} [DecidableEq K] {k : K} {v : β} : ∀ {l : List (K × β)}, k ∉ l.map (·.1) -> putA k v l = l ++ [(k, v)]
  | [], _ => rfl
  | (a, b) :: r, h => by
    simp only [List.map_cons, List.mem_cons, not_or] at h
    unfold putA
    rw [if_neg (Ne.symm h.1), putA_new h.2]; rfl
theorem putA_old {K β : Type} [DecidableEq K] {k : K} {v : β} : ∀ {l : List (K × β)}, (l.map (·.1)).Nodup -> k ∈ l.map (·.1) -> putA k v l = l.map fun kv => if kv.1 = k then (kv.1, v) else kv
  | [], _, h => by simp at h
  | (a, b) :: r, hn, h => by
    simp only [List.map_cons, List.nodup_cons] at hn
    unfold putA
    by_cases z : a = k
    . subst z
      rw [if_pos rfl, List.map_cons, if_pos rfl]
      congr 1
      symm
      have : r.map (fun kv => if kv.1 = a then (kv.1, v) else kv) = r.map id := List.map_congr_left fun p hp => if_neg fun e => hn.1 (List.mem_map.mpr ⟨p, hp, e⟩)
      rw [this, List.map_id]
    . have h' : k ∈ r.map (·.1) := by
        simp only [List.map_cons, List.mem_cons] at h
        exact h.resolve_left (Ne.symm z)
      rw [if_neg z, List.map_cons, if_neg z, putA_old hn.2 h']
theorem stored_putA {K : Type} [DecidableEq K] {ms : List (K × Value)} (hn : (ms.map (·.1)).Nodup) (k : K) (v : Value) : PySem.stored ms k v = putA k v ms := by
  unfold PySem.stored
  by_cases h : k ∈ ms.map (·.1)
  . rw [if_pos, putA_old hn h]
    obtain ⟨p, hp, e⟩ := List.mem_map.mp h
    exact List.any_eq_true.mpr ⟨p, hp, by simpa using e⟩
  . rw [if_neg, putA_new h]
    intro z
    obtain ⟨p, hp, e⟩ := List.any_eq_true.mp z
    exact h (List.mem_map.mpr ⟨p, hp, by simpa using e⟩)
noncomputable def tupKey : List V -> Option (List Int)
  | [] => some []
  | .int i :: r => bo (tupKey r) fun l => some (i :: l)
  | _ => none
noncomputable def gItem : O2 := fun a b mh => vint b fun k => vrt a (fun i => oLD mh i (fun vs => gd (0 <= k /\ k < 1000000) (bo vs[k.toNat]? fun v => some (v, mh))) fun kvs => bo (getA k kvs) fun v => some (v, mh)) fun l => gd (0 <= k /\ k < 1000000) (bo l[k.toNat]? fun v => some (v, mh))
theorem listAt_isList {p : Addr} {items : List Value} {k : Nat} (ho : h.get? p = some (listOf items.toArray k)) : h.IsList p items.toArray := ⟨_, ho, rfl, k, rfl⟩
theorem seqIndex_nn {k : Int} {l : Nat} (h0 : 0 <= k) (h1 : k < l) : seqIndex? k l = some k.toNat := by
  unfold seqIndex?
  obtain ⟨j, rfl⟩ := Int.eq_ofNat_of_zero_le h0
  simp
  omega
theorem item_V {a b : V} {a' b' : Value} (hr : Room n A) (sh : Sh C s) (S : SSt C ρ mh s) (da : ValIs ρ s.heap a' a) (db : ValIs ρ s.heap b' b) (e : gItem a b mh = some (v, mh')) :
    (∃ T id, s.TypeIs a' T /\ typeLookup (.type T) "__getitem__" = pure (some (.builtin id))) /\ wpAny (model C.prog C.w) A (getItem a' b') (PE C ρ mh s.heap mh' v) E s := by
  refine via fun P kP => vint_elim e fun k ek e => ?_
  subst ek
  refine db.intE fun tk et => vrt_elim e (fun i ei e => oLD_elim e (fun vs hm e => gd_elim e fun hk e => bo_elim e fun x hx w => ?_) fun kvs hm e => bo_elim e fun x hx w => ?_) fun l el e => gd_elim e fun hk e => bo_elim e fun x hx w => ?_
  . subst ei
    refine da.refE fun p ep hp => kP ?_
    clear kP; subst ep et; refine some_elim w ?_
    obtain ⟨_, items, m, ho, hv⟩ := S.obj i p _ hp hm
    obtain ⟨y, hy, dy⟩ := hv.get hx
    exact ⟨⟨_, _, (listAt_isList ho).typeIs, slot_list_getitem.lookup⟩, wpAny_getItem_list (listAt_isList ho) hk.1 (by omega) (by simpa using hy) (PE.same sh S dy)⟩
  . subst ei
    refine da.refE fun p ep hp => kP ?_
    clear kP; subst ep et; refine some_elim w ?_
    obtain ⟨_, _, ms, hd, hv⟩ := S.obj i p _ hp hm
    rcases hv.get (fun _ _ e => e) k with ⟨z, _⟩ | ⟨x', y, h1, h2, dy⟩
    . exact no_some (z.symm.trans hx)
    . rw [Option.some.inj (h1.symm.trans hx)] at dy
      exact ⟨⟨_, _, hd.typeIs, slot_dict_getitem.lookup⟩, wpAny_getItem_of (intKind_is C.prog C.w k tk) hd.mapOf (by rw [valueAt_getA]; exact h2) (PE.tok sh S dy)⟩
  . subst el
    refine da.tupE fun a items ea ht hv => kP ?_
    clear kP; subst ea et; refine some_elim w ?_
    obtain ⟨y, hy, dy⟩ := hv.get hx
    have lt := (List.getElem?_eq_some_iff.mp hy).1
    exact ⟨⟨_, _, ht.typeIs, slot_tuple_getitem.lookup⟩, PyProof.Rows.getItem_tuple ht (by omega) (by omega) (j := k.toNat) (by rw [List.size_toArray]; exact seqIndex_nn hk.1 (by omega)) (by simpa using hy) (PE.same sh S dy)⟩
theorem SemE.item {o i : Expr} {pos : Pos} {r q : RE} (h1 : SemE C n f o r) (h2 : SemE C n f i q) (hs : ∀ x y, subscripted i false x y = operate [x, y] (getItem x y) := by intro _ _; with_unfolding_all rfl) : SemE C n f (.Subscript o i pos) (rOp2 r q gItem) :=
  .op2 (t := fun x y => subscriptTail o i x y) h1 h2 (fun A E ρ mh s a b a' b' v mh' hr sh S da db e => by
    obtain ⟨⟨T, id, hT, hl⟩, hw⟩ := item_V (E := E) hr sh S da db e
    exact tail_any hT hl hw (hs _ _)) fun _ _ _ _ _ h => Subscript_ h
noncomputable def gStore (o k x : V) (mh : MH) : Option MH := vref o fun i => vkey k
  (fun k => oLD mh i (fun vs => gd (0 <= k /\ k < vs.length /\ vs.length <= 1000) (some (putO mh i (.list (vs.set k.toNat x))))) fun kvs => gd (kvs.length <= 1000) (some (putO mh i (.dictI (putA k x kvs)))))
  (fun k => oS mh i fun kvs => gd (kvs.length <= 1000) (some (putO mh i (.dictS (putA k x kvs)))))
  fun l => oT mh i fun kvs => bo (tupKey l) fun k => gd (kvs.length <= 1000) (some (putO mh i (.dictT (putA k x kvs))))
inductive PU (C : Cx) (ρ : Rho) (mh : MH) (h : Heap) (mh' : MH) (u : Unit) (s' : Shared) : Prop where
  | mk (ρ' : Rho) (x : Ext [] ρ mh h ρ' mh' s'.heap) (sh : Sh C s') (S : SSt C ρ' mh' s')
theorem tupKey_is {l : List V} : ∀ {items : List Value} {ks : List Int}, ValsAre ρ h items l -> tupKey l = some ks -> ItemsAre (intKind C.prog C.w) ks items := by
  induction l with
  | nil => intro items ks d e; cases d; cases e; exact .nil
  | cons x r ih =>
    intro items ks d e
    cases d with
    | cons a b => cases a with
      | int i t =>
        refine bo_elim (x := tupKey r) (f := fun l => some (i :: l)) e fun l' hl e2 => ?_
        cases e2
        exact .cons (intKind_is C.prog C.w _ _) (ih b hl)
      | _ => exact no_some e
theorem getA_pairsT (xs : List (List Int × Addr × Value)) (k : List Int) : getA k (pairsT xs) = (atKey xs k).map (·.2) := by
  unfold atKey pairsT
  induction xs with
  | nil => rfl
  | cons p r ih =>
    obtain ⟨a, b, c⟩ := p
    rw [List.map_cons]
    unfold getA
    rw [List.find?_cons]
    by_cases h : a = k
    . simp [h]
    . simp only [h, decide_false, if_false]; exact ih
theorem pairsT_stored {xs : List (List Int × Addr × Value)} (hn : (xs.map (·.1)).Nodup) (k : List Int) (a : Addr) (v : Value) : pairsT (storedH xs k a v) = putA k v (pairsT xs) := by
  have keys : (pairsT xs).map (·.1) = xs.map (·.1) := by unfold pairsT; rw [List.map_map]; rfl
  cases q : atKey xs k with
  | none =>
    rw [storedH_new q]
    have : k ∉ (pairsT xs).map (·.1) := by
      intro hk
      have e := getA_pairsT xs k
      rw [q] at e
      obtain ⟨p, hp, rfl⟩ := List.mem_map.mp hk
      have : ∀ {l : List (List Int × Value)} {p : List Int × Value}, p ∈ l -> getA p.1 l ≠ none := by
        intro l
        induction l with
        | nil => intro p h; cases h
        | cons x r ih =>
          intro p h
          obtain ⟨a, b⟩ := x
          unfold getA
          by_cases z : a = p.1
          . simp [z]
          . rw [if_neg z]
            rcases List.mem_cons.mp h with rfl | h
            . exact absurd rfl z
            . exact ih h
      exact this hp e
    rw [putA_new this]
    unfold pairsT; simp
  | some p =>
    rw [storedH_old q]
    have hk : k ∈ (pairsT xs).map (·.1) := by
      rw [keys]
      unfold atKey at q
      cases hf : xs.find? (fun x => decide (x.1 = k)) with
      | none => rw [hf] at q; cases q
      | some y =>
        have h1 := List.mem_of_find?_eq_some hf
        have h2 := List.find?_some hf
        exact List.mem_map.mpr ⟨y, h1, by simpa using h2⟩
    rw [putA_old (by rw [keys]; exact hn) hk]
    unfold pairsT
    rw [List.map_map, List.map_map]
    refine List.map_congr_left fun y hy => ?_
    obtain ⟨y1, y2, y3⟩ := y
    simp only [Function.comp, putAt]
    split <;> rfl
theorem DictOf.nodup {K : Type} [DecidableEq K] {knd : KeyKind C.prog C.w K} {d : Addr} {ms : List (K × Value)} (x : h.DictOf knd d ms) : (ms.map (·.1)).Nodup := x.elim fun _ x => x.elim fun _ x => x.elim fun _ x => x.2.2.2.2.2
theorem PU.use {t : Sem Unit} {m₁ : MH} (h : wpAny (model C.prog C.w) A t (PU C ρ mh s.heap m₁) E s) {Q : Unit -> Shared -> Prop}
    (k : ∀ u s₁ ρ₁, Ext [] ρ mh s.heap ρ₁ m₁ s₁.heap -> Sh C s₁ -> SSt C ρ₁ m₁ s₁ -> Q u s₁) : wpAny (model C.prog C.w) A t Q E s :=
  wpAny_mono h (fun u s₁ p => p.rec fun ρ₁ x sh S => k u s₁ ρ₁ x sh S) fun _ _ x => x
theorem PU.put {i : Nat} {p : Addr × Addr} {o : MObj} {t : Nat} (sh : Sh C s) (S : SSt C ρ mh s) (hp : ρ[i]? = some p) (k : ∀ b o, b ≠ p.1 -> b ≠ p.2 -> s.heap.get? b = some o -> h'.get? b = some o) (ho : TupKept s.heap h' -> ObjIs C.prog C.w ρ h' p o) {u : Unit} : PU C ρ mh s.heap (putO mh i o) u { s with heap := h', toks := t } :=
  have z := S.put hp k ho
  ⟨ρ, z.2, sh, z.1⟩
theorem store_V2 {o k x : V} {o' k' x' : Value} (hr : Room n A) (sh : Sh C s) (S : SSt C ρ mh s) (d1 : ValIs ρ s.heap o' o) (d2 : ValIs ρ s.heap k' k) (d3 : ValIs ρ s.heap x' x) (e : gStore o k x mh = some mh') :
    wpAny (model C.prog C.w) A (setItem o' k' x') (PU C ρ mh s.heap mh') E s := by
  refine via fun P kP => vref_elim e fun i ei e => ?_
  subst ei
  refine d1.refE fun p ep hp => vkey_elim e (fun k ek e => oLD_elim e (fun vs hm e => gd_elim e fun hk w => ?_) fun kvs hm e => gd_elim e fun hk w => ?_) (fun k ek e => oS_elim e fun kvs hm e => gd_elim e fun hk w => ?_) fun l ek e => oT_elim e fun kvs hm e => bo_elim e fun ks hks e => gd_elim e fun hk w => ?_
  . subst ek
    refine d2.intE fun tk et => kP ?_
    clear kP; subst ep et; refine one_elim w ?_
    obtain ⟨hpp, items, m, ho, hv⟩ := S.obj i p _ hp hm
    have hlen := hv.length
    refine ki_setAt ho hk.1 (by omega) (by rw [List.size_toArray, hlen]; exact hk.2.1) ?_
    refine PU.put (o := .list (vs.set k.toNat x)) (h' := s.heap.update p.1 (Obj.mapSeq (·.setIfInBounds k.toNat x'))) sh S hp (fun b o n1 n2 e => (Heap.get?_update_ne _ _ _ _ n1).trans e) fun tk' => ⟨hpp, items.set k.toNat x', m, ?_, (hv.mono tk' (.refl ρ)).set _ (d3.mono tk' (.refl ρ))⟩
    refine (Heap.get?_update_self _ ho (by unfold Obj.mapSeq; rfl)).trans ?_
    simp [Obj.mapSeq, W.listOf]
  . subst ek
    refine d2.intE fun tk et => kP ?_
    clear kP; subst ep et; refine one_elim w ?_
    obtain ⟨hpp, lo, ms, hd, hv⟩ := S.obj i p _ hp hm
    refine wpAny_setItem_pairs (intKind_is C.prog C.w k tk) hd (fun h' hd' hs => ?_) (line1000 (by rw [hv.length]; exact hk))
    exact PU.put (o := .dictI (putA k x kvs)) sh S hp (fun b o n1 n2 e => (hs.2 b n1).trans e) fun tk' => ⟨hpp, lo, _, hd', by
      rw [stored_putA (DictOf.nodup hd)]
      exact (hv.mono tk' (.refl ρ)).put (g := id) (fun _ _ e => e) k (d3.mono tk' (.refl ρ))⟩
  . subst ek
    refine d2.strE fun tk et hso => kP ?_
    clear kP; subst ep et; refine one_elim w ?_
    obtain ⟨hpp, lo, ms, hd, hv⟩ := S.obj i p _ hp hm
    refine wpAny_setItem_pairs (strKind_is C.prog C.w _ tk) hd (fun h' hd' hs => ?_) (line1000 (by rw [hv.length]; exact hk))
    exact PU.put (o := .dictS (putA k x kvs)) sh S hp (fun b o n1 n2 e => (hs.2 b n1).trans e) fun tk' => ⟨hpp, lo, _, hd', by
      rw [stored_putA (DictOf.nodup hd)]
      exact (hv.mono tk' (.refl ρ)).put (g := Str.ofString) (fun _ _ e => ofString_inj e) k (d3.mono tk' (.refl ρ))⟩
  . subst ek
    refine d2.tupE fun a items et ht hvk => kP ?_
    clear kP; subst ep et; refine one_elim w ?_
    obtain ⟨hpp, lo, xs, hd, hv⟩ := S.obj i p _ hp hm
    have key : IsTupleKey (intKind C.prog C.w) s.heap ks a := by
      obtain ⟨o, ho, hc, m, hdd⟩ := ht
      exact ⟨o, _, m, ho, hc, hdd, by simpa using tupKey_is hvk hks⟩
    have hn : (xs.map (·.1)).Nodup := hd.elim fun _ x => x.elim fun _ x => x.elim fun _ x => x.2.2.2.2.2
    refine wpAny_setItem_heap (knd := tupleKind (intKind C.prog C.w)) (k := ks) (tupleKind_room_in1 (by have := hr.2.1; omega)) key hd (fun h' hd' hs => ?_) (line1000 (by have := hv.length; unfold pairsT at this; rw [List.length_map] at this; rw [this]; exact hk))
    exact PU.put (o := .dictT (putA ks x kvs)) sh S hp (fun b o n1 n2 e => (hs.2 b n1).trans e) fun tk' => ⟨hpp, lo, _, hd', by
      rw [pairsT_stored hn]
      exact (hv.mono tk' (.refl ρ)).put (g := id) (fun _ _ e => e) ks (d3.mono tk' (.refl ρ))⟩
end
end Mini
namespace Mini
section
variable {C : Cx} {n : Nat} {f : Fn} {A : Around} {E : Value -> Shared -> Prop} {ρ ρ' : Rho} {mh mh' : MH} {s s' : Shared} {v : V} {v' : Value} {h h' : Heap} {L : Fid} {loc loc' : Loc}
noncomputable def rSetItem (r o k : RE) : RS := fun loc mh => bd (r loc mh) fun x m1 => bd (o loc m1) fun ov m2 => bd (k loc m2) fun kv m3 => bo (gStore ov kv x m3) fun m4 => some (.next loc m4)
theorem SemS1.setItem {o i e : Expr} {ps pos : Pos} {r p q : RE} (h1 : SemE C n f e r) (h2 : SemE C n f o p) (h3 : SemE C n f i q) (hs : ∀ L, swapsWith e (some (.Subscript o i ps)) pos.line (f.env L) = pure false := by intro _; rfl) :
    SemS1 C n f (.Assign [.Subscript o i ps] e pos) (rSetItem r p q) := fun A E L loc ρ mh s x hr F e => by
  obtain ⟨_, hL⟩ := F.there
  refine via fun P kP => bd_elim e fun xv m1 e1 q1 => bd_elim q1 fun ov m2 e2 q2 => bd_elim q2 fun kv m3 e3 q3 => bo_elim q3 fun m4 e4 w => kP ?_
  clear kP q1 q2 q3; refine one_elim w ?_
  refine wpAny_Assign_Subscript (h1.use hr F e1 fun x' s₁ ρ₁ x₁ sh₁ S₁ F₁ d₁ => h2.use hr F₁ e2 fun o' s₂ ρ₂ x₂ sh₂ S₂ F₂ d₂ => h3.use hr F₂ e3 fun k' s₃ ρ₃ x₃ sh₃ S₃ F₃ d₃ => ?_) (hs L)
  refine PU.use (store_V2 hr sh₃ S₃ (d₂.ext S₂ x₃) d₃ ((d₁.ext S₁ x₂).ext S₂ x₃) e4) fun _ s₄ ρ₄ x₄ sh₄ S₄ => ?_
  exact ⟨ρ₄, _, (x₁.trans (x₂.trans (x₃.trans x₄))).weaken hL, sh₄, rfl, F₃.ext x₄ sh₄ S₄⟩
noncomputable def rAugItem (o k r : RE) (g : O2) : RS := fun loc mh => bd (o loc mh) fun ov m1 => bd (k loc m1) fun kv m2 => bd (gItem ov kv m2) fun old m3 => bd (r loc m3) fun x m4 => bd (g old x m4) fun y m5 => bo (gStore ov kv y m5) fun m6 => some (.next loc m6)
theorem SemS1.augItem {o i e : Expr} {op : Operator} {ps pos : Pos} {r p q : RE} {g : O2} (h2 : SemE C n f o p) (h3 : SemE C n f i q) (h1 : SemE C n f e r) (hg : Op2 C n (inplaceOp op) g)
    (hi : ∀ ov iv new, augStore i ov iv new = (do holding [new, ov, iv] (PySem.setItem ov iv new); release [new, ov, iv] []; pure .next) := by intros; rfl) :
    SemS1 C n f (.AugAssign (.Subscript o i ps) op e pos) (rAugItem p q r g) := fun A E L loc ρ mh s x hr F e => by
  obtain ⟨_, hL⟩ := F.there
  refine via fun P kP => bd_elim e fun ov m1 e1 q1 => bd_elim q1 fun kv m2 e2 q2 => bd_elim q2 fun old m3 e3 q3 => bd_elim q3 fun xv m4 e4 q4 => bd_elim q4 fun y m5 e5 q5 => bo_elim q5 fun m6 e6 w => kP ?_
  clear kP q1 q2 q3 q4 q5; refine one_elim w ?_
  refine wpAny_AugAssign_SubscriptAny (h2.use hr F e1 fun o' s₁ ρ₁ x₁ sh₁ S₁ F₁ d₁ => h3.use hr F₁ e2 fun k' s₂ ρ₂ x₂ sh₂ S₂ F₂ d₂ => ?_) hi
  have d₁' := d₁.ext S₁ x₂
  refine PE.use (item_V (E := E) hr sh₂ S₂ d₁' d₂ e3).2 fun old' s₃ ρ₃ x₃ sh₃ S₃ d₃ => h1.use hr (F₂.ext x₃ sh₃ S₃) e4 fun v' s₄ ρ₄ x₄ sh₄ S₄ F₄ d₄ => ?_
  refine PE.use (hg A E ρ₄ m4 s₄ _ _ old' v' _ _ hr sh₄ S₄ (d₃.ext S₃ x₄) d₄ e5) fun new' s₅ ρ₅ x₅ sh₅ S₅ d₅ => ?_
  refine PU.use (store_V2 hr sh₅ S₅ (((d₁'.ext S₂ x₃).ext S₃ x₄).ext S₄ x₅) (((d₂.ext S₂ x₃).ext S₃ x₄).ext S₄ x₅) d₅ e6) fun _ s₆ ρ₆ x₆ sh₆ S₆ => ?_
  exact ⟨ρ₆, _, (x₁.trans (x₂.trans (x₃.trans (x₄.trans (x₅.trans x₆))))).weaken hL, sh₆, rfl, (F₄.ext x₅ sh₅ S₅).ext x₆ sh₆ S₆⟩
noncomputable def rAugName (i : Nat) (r : RE) (g : O2) : RS := fun loc mh => bd (rLoc i loc mh) fun old m1 => bd (r loc m1) fun x m2 => bd (g old x m2) fun y m3 => some (.next (loc.set i (some y)) m3)
theorem SemS1.augName {x : Str} {e : Expr} {op : Operator} {ps pos : Pos} {r : RE} {g : O2} (i : Nat) (hi : f.at x i = true) (h1 : SemE C n f e r) (hg : Op2 C n (inplaceOp op) g) :
    SemS1 C n f (.AugAssign (.Name x ps) op e pos) (rAugName i r g) := fun A E L loc ρ mh s x hr F e => by
  obtain ⟨_, hL⟩ := F.there
  refine via fun P kP => bd_elim e fun u m1 e1 q1 => bd_elim q1 fun xv m2 e2 q2 => bd_elim q2 fun y m3 e3 w => kP ?_
  clear kP q1 q2; refine one_elim w ?_
  have hu := rLoc_inv e1
  rw [hu.2] at e2
  refine wpAny_AugAssign_Name (load_V hi F hu.1 fun u' hd => h1.use hr F e2 fun x' s₁ ρ₁ x₁ sh₁ S₁ F₁ d₁ => ?_)
  refine PE.use (hg A E ρ₁ m2 s₁ _ _ u' x' _ _ hr sh₁ S₁ (hd.ext F.st x₁) d₁ e3) fun y' s₂ ρ₂ x₂ sh₂ S₂ d₂ => ?_
  exact wpAny_mono (store_V hi (F₁.ext x₂ sh₂ S₂) d₂) (fun _ s₃ p => ⟨ρ₂, _, ((x₁.trans x₂).weaken hL).trans p.1, p.2.sh, rfl, p.2⟩) fun _ _ x => x
noncomputable def strKeysIn (K : Frag) (N : Addr) : Bool := match K.lookup N with
  | none => false
  | some o => match o.data with | .dict es _ => es.toList.all (fun e => match e.key with | .str _ _ => true | _ => false) | _ => false
theorem ns_K {K : Frag} {N : Addr} (X : K.In h) (e : strKeysIn K N = true) : h.Ns N (fun x => (nsIn K N x).join) := by
  delta strKeysIn at e
  cases q : K.lookup N with
  | none => rw [q] at e; cases e
  | some o =>
    rw [q] at e
    obtain ⟨c, d, dt, sl⟩ := o
    cases dt with
    | dict es n =>
      refine ⟨_, es, n, X _ _ q, rfl, fun en he => ?_, fun name => ?_⟩
      . have := List.all_eq_true.mp e en (Array.mem_toList_iff.mpr he)
        cases hk : en.key with
        | str a t => exact ⟨a, t, rfl⟩
        | _ => rw [hk] at this; cases this
      . unfold nsFind findBy nsIn
        rw [q, <- Array.find?_toList]
        dsimp only
        split
        . rename_i en he; rw [he]; rfl
        . rename_i he; rw [he]; split <;> rfl
    | _ => cases e
structure ClsK (C : Cx) (c N : Addr) : Prop where
  obj : ∃ nm q bs sn sub col dd k0 k1 k2 k3 k5, C.K.lookup c = some (excClassObj nm q c N bs [.type "object"] true sn sub false col dd k0 k1 k2 k3 k5 "object.__new__")
  keys : strKeysIn C.K N = true
  ga : (nsIn C.K N "__getattribute__").join = none
  gn : (nsIn C.K N "__getattr__").join = none
  sa : (nsIn C.K N "__setattr__").join = none
noncomputable def gAttr (c : Nat) (at_ : String) : O1 := fun a mh => vref a fun i => oN mh i fun c' fs => gd (c' = c) (bo (getA at_ fs) fun v => some (v, mh))
theorem lookup_getA (ms : List (Str × Value)) (x : Str) : ms.lookup x = getA x ms := by
  induction ms with
  | nil => rfl
  | cons p r ih =>
    obtain ⟨a, b⟩ := p
    rw [List.lookup_cons]
    unfold getA
    by_cases h : a = x
    . subst h; simp
    . have : (x == a) = false := beq_eq_false_iff_ne.mpr (Ne.symm h)
      rw [this, if_neg h]; exact ih
theorem handedOut_V (d : ValIs ρ h v' v) : handedOut v' = pure v' := by cases d <;> rfl
theorem Op1.attr (hC : C.Ok) {c N : Addr} {at_ : String} (hc : ClsK C c N) (hna : (nsIn C.K N (Str.ofString at_)).join = none) (hB : typeLookup (.type "object") (Str.ofString at_) = pure none) :
    Op1 C n (fun o => getAttr o (Str.ofString at_) true) (gAttr c at_) := fun A E ρ mh s a a' v mh' hr sh S da e => by
  refine via fun P kP => vref_elim e fun i ei q1 => oN_elim q1 fun c' fs hm q2 => gd_elim q2 fun hcc q3 => bo_elim q3 fun x hx w => ?_
  clear e q1 q2 q3; subst hcc ei
  refine da.refE fun p ep hp => kP ?_
  clear kP; subst ep; refine some_elim w ?_
  obtain ⟨ms, I, hdx, hv⟩ := S.obj i p _ hp hm
  have X : C.K.In s.heap := fun a o e => S.keep a o (hC.X a o e)
  refine via fun P kP => ?_
  obtain ⟨nm, q, bs, sn, sub, col, dd, k0, k1, k2, k3, k5, ho⟩ := hc.obj
  rcases hv.get (fun _ _ e => ofString_inj e) at_ with ⟨z, _⟩ | ⟨x', y, h1, h2, dy⟩
  . exact no_some (z.symm.trans hx)
  . rw [Option.some.inj (h1.symm.trans hx)] at dy
    exact kP (load_attr (X _ _ ho) (ns_K X hc.keys) hc.ga hna hB I (by rw [lookup_getA]; exact h2) (handedOut_V dy) (PE.tok sh S dy))
theorem SemE.attr {o : Expr} {at_ : String} {pos : Pos} {r : RE} {g : O1} (h1 : SemE C n f o r) (hg : Op1 C n (fun o => getAttr o (Str.ofString at_) true) g)
    (he : ∀ L, eval (.Attribute o (Str.ofString at_) pos) (f.env L) = (do
      let x <- eval o (f.env L)
      standAt pos.atName
      let r <- holding [x] (getAttr x (Str.ofString at_) true)
      letTemporaryGo o x r
      pure r) := by intro _; with_unfolding_all rfl) : SemE C n f (.Attribute o (Str.ofString at_) pos) (rOp1 r g) :=
  .op1 h1 hg fun L _ _ _ _ h => Attribute_any_ h (he L)
noncomputable def gSetAttr (c : Nat) (at_ : String) (o x : V) (mh : MH) : Option MH := vref o fun i => oN mh i fun c' fs => gd (c' = c /\ fs.length <= 1000) (some (putO mh i (.inst c (putA at_ x fs))))
theorem mem_of_getA' {ms : List (Str × Value)} {y : Str} (h : getA y ms ≠ none) : y ∈ ms.map (·.1) := by
  induction ms with
  | nil => exact absurd rfl h
  | cons p r ih =>
    obtain ⟨a, b⟩ := p
    unfold getA at h
    by_cases z : a = y
    . subst z; simp
    . rw [if_neg z] at h; simp only [List.map_cons, List.mem_cons]; exact .inr (ih h)
theorem lookup_putA (ms : List (Str × Value)) (k : Str) (v : Value) (y : Str) : (putA k v ms).lookup y = if y = k then some v else ms.lookup y := by
  rw [lookup_getA, lookup_getA]
  induction ms with
  | nil =>
    unfold putA getA
    by_cases h : k = y
    . subst h; simp
    . rw [if_neg h, if_neg (Ne.symm h)]; rfl
  | cons p r ih =>
    obtain ⟨a, b⟩ := p
    unfold putA
    by_cases h : a = k
    . subst h
      rw [if_pos rfl]
      unfold getA
      by_cases q : a = y
      . subst q; simp
      . rw [if_neg q, if_neg (Ne.symm q), if_neg q]
    . rw [if_neg h]
      unfold getA
      by_cases q : a = y
      . subst q; rw [if_pos rfl, if_neg h, if_pos rfl]
      . rw [if_neg q, if_neg q]; exact ih
theorem setAttr_V (hC : C.Ok) {c N : Addr} {at_ : String} (hc : ClsK C c N) (hna : (nsIn C.K N (Str.ofString at_)).join = none) (hB : typeLookup (.type "object") (Str.ofString at_) = pure none)
    {o x : V} {o' x' : Value} (sh : Sh C s) (S : SSt C ρ mh s) (d1 : ValIs ρ s.heap o' o) (d2 : ValIs ρ s.heap x' x) (e : gSetAttr c at_ o x mh = some mh') :
    wpAny (model C.prog C.w) A (setAttr o' (Str.ofString at_) x') (PU C ρ mh s.heap mh') E s := by
  refine via fun P kP => vref_elim e fun i ei q1 => oN_elim q1 fun c' fs hm q2 => gd_elim q2 fun hcc w => ?_
  clear e q1 q2; obtain ⟨rfl, hz⟩ := hcc; subst ei
  refine d1.refE fun p ep hp => kP ?_
  clear kP; subst ep; refine one_elim w ?_
  refine via fun P kP => ?_
  obtain ⟨ms, I, hdx, hv⟩ := S.obj i p _ hp hm
  have X : C.K.In s.heap := fun a o e => S.keep a o (hC.X a o e)
  obtain ⟨nm, q, bs, sn, sub, col, dd, k0, k1, k2, k3, k5, ho⟩ := hc.obj
  have hxC : p.1 ≠ c' := fun z => by
    have := S.new p.1 ⟨p, List.mem_of_getElem? hp, .inl rfl⟩
    rw [z, hC.X _ _ ho] at this; exact no_some this.symm
  obtain ⟨ob, hob, hcl, hnc, hdd⟩ := id I
  have hdx' : ob.dict = some p.2 := hdx ob hob
  refine kP (store_attr (ns := ms.map (·.1)) PySem.F.store_object (X _ _ ho) (ns_K X hc.keys) hc.sa hna hB hxC I (fun h' tk' I' hk hsame => ?_) (fun y hy => ?_) (by rw [List.length_map, hv.length]; exact line1000 hz))
  . refine PU.put (o := .inst c' (putA at_ x fs)) sh S hp (fun b o n1 n2 e => hk b o n1 (fun o₀ dx a1 a2 => by rw [<- Option.some.inj (hob.symm.trans a1), hdx'] at a2; exact Option.some.inj a2 ▸ n2) e) fun tk' => ⟨putA (Str.ofString at_) x' ms, ?_, fun o₂ ho₂ => ?_, (hv.mono tk' (.refl ρ)).put (fun _ _ e => ofString_inj e) at_ (d2.mono tk' (.refl ρ))⟩
    . rw [show (fun y => List.lookup y (putA (Str.ofString at_) x' ms)) = fun y => if y = Str.ofString at_ then some x' else ms.lookup y from funext fun y => lookup_putA ms _ _ y]; exact I'
    . obtain ⟨o₁, a1, a2, a3, a4, a5⟩ := hsame ob hob
      rw [<- Option.some.inj (a1.symm.trans ho₂)]; exact a5 _ hdx'
  . rw [lookup_getA] at hy; exact mem_of_getA' hy
noncomputable def rSetAttr (c : Nat) (at_ : String) (r o : RE) : RS := fun loc mh => bd (r loc mh) fun x m1 => bd (o loc m1) fun ov m2 => bo (gSetAttr c at_ ov x m2) fun m3 => some (.next loc m3)
theorem SemS1.setAttr (hC : C.Ok) {c N : Addr} {o e : Expr} {at_ : String} {ps pos : Pos} {r q : RE} (hc : ClsK C c N) (hna : (nsIn C.K N (Str.ofString at_)).join = none) (hB : typeLookup (.type "object") (Str.ofString at_) = pure none)
    (h1 : SemE C n f e r) (h2 : SemE C n f o q) (hs : ∀ L, swapsWith e (some (.Attribute o (Str.ofString at_) ps)) pos.line (f.env L) = pure false := by intro _; rfl) :
    SemS1 C n f (.Assign [.Attribute o (Str.ofString at_) ps] e pos) (rSetAttr c at_ r q) := fun A E L loc ρ mh s x hr F e => by
  obtain ⟨_, hL⟩ := F.there
  refine via fun P kP => bd_elim e fun xv m1 e1 q1 => bd_elim q1 fun ov m2 e2 q2 => bo_elim q2 fun m3 e3 w => kP ?_
  clear kP q1 q2; refine one_elim w ?_
  refine plainObj_wpAny_Assign_Attribute (h1.use hr F e1 fun x' s₁ ρ₁ x₁ sh₁ S₁ F₁ d₁ => h2.use hr F₁ e2 fun o' s₂ ρ₂ x₂ sh₂ S₂ F₂ d₂ => ?_) (hs L)
  refine PU.use (setAttr_V hC hc hna hB sh₂ S₂ d₂ (d₁.ext S₁ x₂) e3) fun _ s₃ ρ₃ x₃ sh₃ S₃ => ?_
  exact ⟨ρ₃, _, (x₁.trans (x₂.trans x₃)).weaken hL, sh₃, rfl, F₂.ext x₃ sh₃ S₃⟩
end
end Mini
namespace Mini
section
variable {C : Cx} {n : Nat} {f : Fn} {A : Around} {E : Value -> Shared -> Prop} {ρ ρ' : Rho} {mh mh' : MH} {s s' : Shared} {v : V} {v' : Value} {h h' : Heap} {L : Fid} {loc loc' : Loc}
noncomputable def rMeth (c : Nat) (m : String) (o : RE) (q : REs) (g : ON) : RE := fun loc mh => bd (o loc mh) fun v m1 => vref v fun i => oN m1 i fun c' fs => gd (c' = c /\ (getA m fs).isNone = true) (bd (q loc m1) fun as m2 => g (.ref i :: as) m2)
theorem SemE.meth (hC : C.Ok) {c N fm : Addr} {o : Expr} {m : String} {apos pos : Pos} {es : List Expr} {r : RE} {q : REs} {g : ON} {of : Obj} (hc : ClsK C c N) (hm : (nsIn C.K N (Str.ofString m)).join = some (.ref fm))
    (hfo : C.K.lookup fm = some of) (hfc : of.cls = .type "function") (hB : ∃ y, typeLookup (.type "object") (Str.ofString m) = pure y) (hk : keepIn C.K (.ref fm) = true) (h1 : SemE C n f o r) (ha : SemEs C n f es q) (hF : SemF C n (.ref fm) g)
    (hp : es.all plainE = true := by rfl)
    (he : ∀ L, ∃ pl, eval (.Call (.Attribute o (Str.ofString m) apos) es [] pos) (f.env L) = (do
      let ov <- eval o (f.env L)
      standAt apos.atName
      let (f', first) <- holding [ov] (getMethod ov (Str.ofString m) pl)
      callWith pos f' first (backTo pos (starEach es (f.env L))) []) := by intro _; exact ⟨_, rfl⟩) :
    SemE C n f (.Call (.Attribute o (Str.ofString m) apos) es [] pos) (rMeth c m r q g) := fun A E L loc ρ mh s v mh' hr F e => by
  refine via fun P kP => bd_elim e fun w m1 e1 q1 => vref_elim q1 fun i ei q2 => oN_elim q2 fun c' fs hmi q3 => gd_elim q3 fun hcc q4 => bd_elim q4 fun as m2 e2 eg => kP ?_
  clear kP q1 q2 q3 q4; obtain ⟨rfl, hno⟩ := hcc; subst ei
  obtain ⟨pl, he⟩ := he L
  refine MethodCall_ (h1.use hr F e1 fun o' s₁ ρ₁ x₁ sh₁ S₁ F₁ d₁ => ?_) he
  refine via fun P kP => d₁.refE fun p ep hp1 => ?_
  obtain ⟨ms, I, hdx, hv⟩ := S₁.obj i p _ hp1 hmi
  have X : C.K.In s₁.heap := fun a o e => S₁.keep a o (hC.X a o e)
  obtain ⟨nm, qn, bs, sn, sub, col, dd, k0, k1, k2, k3, k5, ho⟩ := hc.obj
  obtain ⟨y, hB⟩ := hB
  refine kP ?_; clear kP; rw [ep]
  refine PySem.method_of (X _ _ ho) (ns_K X hc.keys) hc.ga hc.gn hm (X _ _ hfo) hfc hB I ?_ ?_
  . rcases hv.get (fun _ _ e => ofString_inj e) m with ⟨_, z⟩ | ⟨x', y, h1, h2, dy⟩
    . rw [lookup_getA]; exact z
    . rw [h1] at hno; cases hno
  . refine callWith_V (first := [Value.ref p.1]) (Keepable.ref hk) (any_plain hp) (head_plain hp) (ha.use hr F₁ e2 fun vs s₂ ρ₂ x₂ sh₂ S₂ F₂ d₂ => ?_)
    exact ⟨fun a o e => S₂.keep a o (hC.X a o e), wpAny_mono (hF A E ρ₂ m2 s₂ (.ref i :: as) (Value.ref p.1 :: vs) v mh' hr sh₂ S₂ (.cons (.ref (x₂.pre _ _ hp1)) d₂) eg) (fun _ _ q => q.trans (x₁.trans x₂)) fun _ _ x => x⟩
noncomputable def MObj.ty : MObj -> Option String
  | .list _ => some "list"
  | .dictI _ => some "dict"
  | .dictS _ => some "dict"
  | .dictT _ => some "dict"
  | _ => none
noncomputable def rBMeth (T : String) (o : RE) (q : REs) (g : ON) : RE := fun loc mh => bd (o loc mh) fun v m1 => vref v fun i => bo (ob m1 i) fun x => gd (x.ty = some T) (bd (q loc m1) fun as m2 => g (.ref i :: as) m2)
theorem ObjIs.ty {p : Addr × Addr} {s : Shared} {T : String} {m : MObj} (x : ObjIs C.prog C.w ρ s.heap p m) (ht : m.ty = some T) : s.TypeIs (.ref p.1) T /\ ∃ o, s.heap.get? p.1 = some o /\ o.dict = none := by
  cases m with
  | list vs =>
    obtain ⟨e, items, n, ho, hv⟩ := x
    have e : "list" = T := Option.some.inj ht
    subst e
    exact ⟨⟨_, ho, rfl⟩, _, ho, rfl⟩
  | dictI vs =>
    obtain ⟨e, lo, ms, ⟨o, es, ep, ho, r, _⟩, hv⟩ := x
    have e : "dict" = T := Option.some.inj ht
    subst e
    exact ⟨⟨_, ho, r.1⟩, _, ho, r.2.1⟩
  | dictS vs =>
    obtain ⟨e, lo, ms, ⟨o, es, ep, ho, r, _⟩, hv⟩ := x
    have e : "dict" = T := Option.some.inj ht
    subst e
    exact ⟨⟨_, ho, r.1⟩, _, ho, r.2.1⟩
  | dictT vs =>
    obtain ⟨e, lo, ms, ⟨o, es, ep, ho, r, _⟩, hv⟩ := x
    have e : "dict" = T := Option.some.inj ht
    subst e
    exact ⟨⟨_, ho, r.1⟩, _, ho, r.2.1⟩
  | inst c fs => cases ht
  | tab P k => cases ht
  | code q => cases ht
  | exc c fs r => cases ht
theorem SemE.bmeth (hC : C.Ok) {T id : String} {o : Expr} {m : Str} {apos pos : Pos} {es : List Expr} {r : RE} {q : REs} {g : ON} (pa : PlainAttrs T) (slot : Slot T m id) (hty : typeOf (.builtin id) = pure (.type "method_descriptor"))
    (h1 : SemE C n f o r) (ha : SemEs C n f es q) (hF : SemF C n (.builtin id) g)
    (hp : es.all plainE = true := by rfl)
    (he : ∀ L, ∃ pl, eval (.Call (.Attribute o m apos) es [] pos) (f.env L) = (do
      let ov <- eval o (f.env L)
      standAt apos.atName
      let (f', first) <- holding [ov] (getMethod ov m pl)
      callWith pos f' first (backTo pos (starEach es (f.env L))) []) := by intro _; exact ⟨_, rfl⟩) :
    SemE C n f (.Call (.Attribute o m apos) es [] pos) (rBMeth T r q g) := fun A E L loc ρ mh s v mh' hr F e => by
  refine via fun P kP => bd_elim e fun w m1 e1 q1 => vref_elim q1 fun i ei q2 => bo_elim q2 fun ob hmi q3 => gd_elim q3 fun hcc q4 => bd_elim q4 fun as m2 e2 eg => kP ?_
  clear kP q1 q2 q3 q4; subst ei
  obtain ⟨pl, he⟩ := he L
  refine MethodCall_ (h1.use hr F e1 fun o' s₁ ρ₁ x₁ sh₁ S₁ F₁ d₁ => d₁.refE fun p ep hp1 => ?_) he
  have t := ObjIs.ty (S₁.obj i p _ hp1 hmi) hcc
  rw [ep]
  refine getMethod_builtin t.1 pa slot hty (fun a e => by cases e; exact t.2) ?_
  refine callWith_V (first := [Value.ref p.1]) Keepable.builtin (any_plain hp) (head_plain hp) (ha.use hr F₁ e2 fun vs s₂ ρ₂ x₂ sh₂ S₂ F₂ d₂ => ?_)
  exact ⟨fun a o e => S₂.keep a o (hC.X a o e), wpAny_mono (hF A E ρ₂ m2 s₂ (.ref i :: as) (Value.ref p.1 :: vs) v mh' hr sh₂ S₂ (.cons (.ref (x₂.pre _ _ hp1)) d₂) eg) (fun _ _ q => q.trans (x₁.trans x₂)) fun _ _ x => x⟩
noncomputable def gAppend : ON := on2 fun a x mh => vref a fun i => oL mh i fun vs => gd (vs.length <= 1000) (some (.none, putO mh i (.list (vs ++ [x]))))
theorem SemF.append : SemF C n (.builtin "list.append") gAppend := fun A E ρ mh s as as' v mh' hr sh S d e => by
  refine via fun P kP => on2_elim e fun a x ea e => vref_elim e fun i ei e => oL_elim e fun vs hm e => gd_elim e fun hz w => ?_
  clear e; subst ea ei
  refine d.twoE fun a x' e1 d1 d2 => d1.refE fun p e2 hp => kP ?_
  clear kP; subst e2; subst e1
  refine some_elim w ?_
  obtain ⟨hpp, items, m, ho, hv⟩ := S.obj i p _ hp hm
  refine append_at ho (fun h' hs ho' => ?_) (by rw [List.size_toArray, hv.length]; exact line1000 hz)
  have z := S.put hp (o := .list (vs ++ [x])) (h' := h') (fun b o n1 n2 e => (hs.2 b n1).trans e) fun tk' => ⟨hpp, items ++ [x'], m + 1, by rw [ho']; simp [W.listOf], (hv.mono tk' (.refl ρ)).append (.cons (d2.mono tk' (.refl ρ)) .nil)⟩
  exact ⟨ρ, z.2, sh, z.1, .none⟩
noncomputable def gExtend : ON := on2 fun a b mh => vref a fun i => vref b fun j => oL mh i fun vs => oL mh j fun us => gd (vs.length <= 1000 /\ us.length <= 1000) (some (.none, putO mh i (.list (vs ++ us))))
theorem SemF.extend : SemF C n (.builtin "list.extend") gExtend := fun A E ρ mh s as as' v mh' hr sh S d e => by
  refine via fun P kP => on2_elim e fun a x ea e => vref_elim e fun i ei e => vref_elim e fun j ej e => oL_elim e fun vs hm e => oL_elim e fun us hm2 e => gd_elim e fun hz w => ?_
  clear e; subst ea ei ej
  refine d.twoE fun a x' e1 d1 d2 => d1.refE fun p e2 hp => d2.refE fun q e3 hq => kP ?_
  clear kP; subst e2 e3; subst e1
  refine some_elim w ?_
  obtain ⟨hpp, items, m, ho, hv⟩ := S.obj i p _ hp hm
  obtain ⟨hqq, items2, m2, ho2, hv2⟩ := S.obj j q _ hq hm2
  have l1 := hv.length
  have l2 := hv2.length
  have sl : sizeLine = 16777216 := rfl
  refine call_meetsIn PySem.F.slot_list_extend ⟨_, ho, rfl⟩ PySem.F.entry_list_extend (PySem.F.args_list_extend_2 _ _) (fun A R s hS => PySem.AutoSeq1.list_extend_list_list_0 p.1 items.toArray m q.1 items2.toArray m2 ?_ ?_ ?_ C.prog C.w A R s hS) ⟨ho, ho2, ?_⟩
  . unfold Builtin.List.listTooLong
    simp only [List.size_toArray, l1, l2]
    intro z
    simp at z
    have := z.2
    omega
  . simp only [List.size_toArray, l1]; omega
  . simp only [List.size_toArray, l1, l2]; omega
  have z := S.put hp (o := .list (vs ++ us)) (h' := s.heap.update p.1 (Obj.mapSeq fun x => x ++ items2.toArray)) (fun b o n1 n2 e => (Heap.get?_update_ne _ _ _ _ n1).trans e) fun tk' => by
    have e2 : (s.heap.update p.1 (Obj.mapSeq fun x => x ++ items2.toArray)).get? p.1 = some (Obj.mapSeq (fun x => x ++ items2.toArray) (listOf items.toArray m)) := Heap.get?_update_self _ ho (by unfold Obj.mapSeq W.listOf; rfl)
    refine ⟨hpp, items ++ items2, if (items.toArray ++ items2.toArray).size == items.toArray.size then m else m + 1, ?_, (hv.mono tk' (.refl ρ)).append (hv2.mono tk' (.refl ρ))⟩
    rw [e2]; simp [Obj.mapSeq, W.listOf]
  exact ⟨ρ, z.2, sh, z.1, .none⟩
noncomputable def gGet : ON := on3 fun a b x mh => vref a fun i => vkey b (fun k => oI mh i fun kvs => some ((getA k kvs).getD x, mh)) (fun k => oS mh i fun kvs => some ((getA k kvs).getD x, mh)) fun l => oT mh i fun kvs => bo (tupKey l) fun k => some ((getA k kvs).getD x, mh)
theorem ge_low {a b : Nat} (h : b < a) : (a == b) = false := beq_eq_false_iff_ne.mpr fun e => by omega
theorem get_end {K K' : Type} [DecidableEq K] [DecidableEq K'] {g : K' -> K} {k : K'} {kvs : List (K' × V)} {ms : List (K × Value)} (hv : PairsAre g ρ s.heap ms kvs) (hg : ∀ a b, g a = g b -> a = b) {x : V} {x' : Value} (d : ValIs ρ s.heap x' x) (sh : Sh C s) (S : SSt C ρ mh s) {t : Nat} :
    PE C ρ mh s.heap mh ((getA k kvs).getD x) ((getA (g k) ms).getD x') { s with toks := t } := by
  rcases hv.get hg k with ⟨z, z2⟩ | ⟨y, y', h1, h2, dy⟩
  . rw [z, z2]; exact PE.tok sh S d
  . rw [h1, h2]; exact PE.tok sh S dy
theorem SemF.get : SemF C n (.builtin "dict.get") gGet := fun A E ρ mh s as as' v mh' hr sh S d e => by
  refine via fun P kP => on3_elim e fun a b x ea e => vref_elim e fun i ei e => ?_
  subst ea ei
  refine d.threeE fun a b' x' e1 d1 d2 d3 => d1.refE fun p e2 hp => vkey_elim e (fun k ek e => oI_elim e fun kvs hm w => ?_) (fun k ek e => oS_elim e fun kvs hm w => ?_) fun l ek e => oT_elim e fun kvs hm e => bo_elim e fun k hk w => ?_
  . subst ek
    refine d2.intE fun tk e3 => kP ?_
    clear kP; subst e2 e3; subst e1; refine some_elim w ?_
    obtain ⟨hpp, lo, ms, hd, hv⟩ := S.obj i p _ hp hm
    refine call_meetsIn PySem.F.slot_dict_get hd.typeIs PySem.F.entry_dict_get (PySem.F.args_dict_get_3 _ _ _) (meets_dict_get_default (intKind C.prog C.w) p.1 (intKind_is _ _ k tk) (ge_low lo) x') ⟨_, hd.mapOf, ?_⟩
    rw [valueAt_getA]
    exact get_end (g := id) hv (fun _ _ e => e) d3 sh S
  . subst ek
    refine d2.strE fun tk e3 hso => kP ?_
    clear kP; subst e2 e3; subst e1; refine some_elim w ?_
    obtain ⟨hpp, lo, ms, hd, hv⟩ := S.obj i p _ hp hm
    refine call_meetsIn PySem.F.slot_dict_get hd.typeIs PySem.F.entry_dict_get (PySem.F.args_dict_get_3 _ _ _) (meets_dict_get_default (strKind C.prog C.w) p.1 (strKind_is _ _ _ tk) (ge_low lo) x') ⟨_, hd.mapOf, ?_⟩
    rw [valueAt_getA]
    exact get_end hv (fun _ _ e => ofString_inj e) d3 sh S
  . subst ek
    refine d2.tupE fun a items e3 ht hvk => kP ?_
    clear kP; subst e2 e3; subst e1; refine some_elim w ?_
    obtain ⟨hpp, lo, xs, hd, hv⟩ := S.obj i p _ hp hm
    have key : IsTupleKey (intKind C.prog C.w) s.heap k a := by
      obtain ⟨o, ho, hc, m, hdd⟩ := ht
      exact ⟨o, _, m, ho, hc, hdd, by simpa using tupKey_is hvk hk⟩
    refine call_meetsIn PySem.F.slot_dict_get hd.typeIs PySem.F.entry_dict_get (PySem.F.args_dict_get_3 _ _ _) (meetsH_dict_get_default (tupleKind (intKind C.prog C.w)) p.1 a (ge_low lo) x') ⟨tupleKind_room_in1 (by have := hr.2.1; omega), k, xs, key, hd, ?_⟩
    rw [<- getA_pairsT]
    exact get_end (g := id) hv (fun _ _ e => e) d3 sh S
noncomputable def gSetdefault : ON := on3 fun a b x mh => vref a fun i => vint b fun k => oI mh i fun kvs => gd (kvs.length <= 1000) (match getA k kvs with | some y => some (y, mh) | none => some (x, putO mh i (.dictI (putA k x kvs))))
theorem SemF.setdefault : SemF C n (.builtin "dict.setdefault") gSetdefault := fun A E ρ mh s as as' v mh' hr sh S d e => by
  refine via fun P kP => on3_elim e fun a b x ea e => vref_elim e fun i ei e => vint_elim e fun k ek e => oI_elim e fun kvs hm e => gd_elim e fun hz w => ?_
  subst ea ei ek
  refine d.threeE fun a b' x' e1 d1 d2 d3 => d1.refE fun p e2 hp => d2.intE fun tk e3 => kP ?_
  clear kP; subst e2 e3; subst e1
  obtain ⟨hpp, lo, ms, hd, hv⟩ := S.obj i p _ hp hm
  have hg := hv.get (fun _ _ e => e) k
  refine call_meetsIn PySem.F.slot_dict_setdefault hd.typeIs PySem.F.entry_dict_setdefault (PySem.F.args_dict_setdefault_3 _ _ _) (kt_meets_setdefault (intKind C.prog C.w) p.1 (intKind_is _ _ k tk) (ge_low lo) x') ⟨ms, hd, line1000 (by rw [hv.length]; exact hz), fun y hy => ?_, fun hy h' hd' hs => ?_⟩
  . rw [valueAt_getA] at hy
    rcases hg with ⟨z, z2⟩ | ⟨y, y', h1, h2, dy⟩
    . exact absurd ((show getA k ms = none from z2).symm.trans hy) (by simp)
    . rw [h1] at w
      rw [<- Option.some.inj ((show getA k ms = some y' from h2).symm.trans hy)]
      exact some_elim w (PE.tok sh S dy)
  . rw [valueAt_getA] at hy
    rcases hg with ⟨z, z2⟩ | ⟨y, y', h1, h2, dy⟩
    . rw [z] at w
      refine some_elim w ?_
      have z := S.put hp (o := .dictI (putA k x kvs)) (h' := h') (fun b o n1 n2 e => (hs.2 b n1).trans e) fun tk' => ⟨hpp, lo, _, hd', by
        rw [stored_putA (DictOf.nodup hd)]
        exact (hv.mono tk' (.refl ρ)).put (g := id) (fun _ _ e => e) k (d3.mono tk' (.refl ρ))⟩
      exact ⟨ρ, z.2, sh, z.1, d3.ext S z.2⟩
    . exact absurd ((show getA k ms = some y' from h2).symm.trans hy) (by simp)
end
end Mini
namespace Mini
section
variable {C : Cx} {n : Nat} {f : Fn} {A : Around} {E : Value -> Shared -> Prop} {ρ ρ' : Rho} {mh mh' : MH} {s s' : Shared} {v : V} {v' : Value} {h h' : Heap} {L : Fid} {loc loc' : Loc}
structure Wk (C : Cx) (n : Nat) (chk : MH -> Bool) (I : Addr) (vs : List V) (At : Rho -> MH -> Heap -> Nat -> Prop) : Prop where
  cls : ∀ {ρ mh h k}, At ρ mh h k -> ∃ o T fs, h.get? I = some o /\ o.cls = .type T /\ o.data = .fields fs /\ (["enumerate", "zip", "dict_itemiterator", "dict_reverseitemiterator", "odict_iterator", "itertools.zip_longest", "itertools.pairwise"].contains T) = false
  frame : ∀ {ρ mh h ρ' mh' h' k}, At ρ mh h k -> St C.prog C.w C.B ρ mh h -> chk mh = true -> chk mh' = true -> Pre ρ ρ' -> Stays ρ mh h mh' h' -> TupKept h h' -> (∀ o, h.get? I = some o -> h'.get? I = some o) -> At ρ' mh' h' k
  self : ∀ {A E ρ mh s k} {Q : Value -> Shared -> Prop}, At ρ mh s.heap k -> Q (.ref I) s -> wpAny (model C.prog C.w) A (pyIter (.ref I)) Q E s
  item : ∀ {A E ρ mh s k v}, Room n A -> Sh C s -> SSt C ρ mh s -> At ρ mh s.heap k -> chk mh = true -> ¬ Own ρ I -> vs[k]? = some v ->
    wpAny (model C.prog C.w) A (pyNext (.ref I)) (fun r s₁ => ∃ v', r = some v' /\ (∀ b o, b ≠ I -> s.heap.get? b = some o -> s₁.heap.get? b = some o) /\ Sh C s₁ /\ ValIs ρ s₁.heap v' v /\ At ρ mh s₁.heap (k + 1)) E s
  fin : ∀ {A E ρ mh s k}, Room n A -> Sh C s -> SSt C ρ mh s -> At ρ mh s.heap k -> chk mh = true -> ¬ Own ρ I -> vs[k]? = none ->
    wpAny (model C.prog C.w) A (pyNext (.ref I)) (fun r s₁ => r = none /\ (∀ b o, b ≠ I -> s.heap.get? b = some o -> s₁.heap.get? b = some o) /\ Sh C s₁) E s
noncomputable abbrev RI := Loc -> MH -> Option (List V × MH × (MH -> Bool))
inductive IsIt (C : Cx) (n : Nat) (ρ : Rho) (mh : MH) (h : Heap) (vs : List V) (mh' : MH) (chk : MH -> Bool) (it : Value) (s₂ : Shared) : Prop where
  | mk (I : Addr) (At : Rho -> MH -> Heap -> Nat -> Prop) (ρ' : Rho) (e : it = .ref I) (K : Wk C n chk I vs At) (a : At ρ' mh' s₂.heap 0) (x : Ext [] ρ mh h ρ' mh' s₂.heap) (sh : Sh C s₂) (S : SSt C ρ' mh' s₂) (nI : h.get? I = none) (oI : ¬ Own ρ' I) (bI : C.B.get? I = none)
noncomputable def SemIt (C : Cx) (n : Nat) (f : Fn) (e : Expr) (r : RI) : Prop :=
  ∀ A E L loc ρ mh s vs mh' chk, Room n A -> Fra C f L loc ρ mh s -> r loc mh = some (vs, mh', chk) ->
    wpAny (model C.prog C.w) A (eval e (f.env L)) (fun x s₁ => wpAny (model C.prog C.w) A (pyIter x) (IsIt C n ρ mh s.heap vs mh' chk) E s₁) E s
noncomputable def SemA (C : Cx) (n : Nat) (f : Fn) (target : Expr) (tg : Loc -> V -> Option Loc) : Prop :=
  ∀ A E L loc ρ mh s v v' loc', Room n A -> Fra C f L loc ρ mh s -> ValIs ρ s.heap v' v -> tg loc v = some loc' -> wpAny (model C.prog C.w) A (assign target (f.env L) v') (fun _ s' => Ext L.X ρ mh s.heap ρ mh s'.heap /\ Fra C f L loc' ρ mh s') E s
noncomputable def rLoop (tg : Loc -> V -> Option Loc) (q : RS) (chk : MH -> Bool) : List V -> Loc -> MH -> Option SR
  | [], loc, mh => if chk mh = true then some (.next loc mh) else none
  | v :: vs, loc, mh => if chk mh = true then (match tg loc v with
    | some loc₁ => (match q loc₁ mh with
      | some (.next loc' mh') => rLoop tg q chk vs loc' mh'
      | some (.cont loc' mh') => rLoop tg q chk vs loc' mh'
      | some (.ret v mh') => some (.ret v mh')
      | none => none)
    | none => none) else none
noncomputable def rFor (r : RI) (tg : Loc -> V -> Option Loc) (q : RS) : RS := fun loc mh => match r loc mh with
  | some (vs, mh', chk) => rLoop tg q chk vs loc mh'
  | none => none
theorem letOwned_V {M : Model} {target : Expr} {I : Addr} {o : Obj} {T : String} {fs : Array Value} {Q : Unit -> Shared -> Prop} (ho : s.heap.get? I = some o) (hc : o.cls = .type T) (hd : o.data = .fields fs)
    (hT : (["enumerate", "zip", "dict_itemiterator", "dict_reverseitemiterator", "odict_iterator", "itertools.zip_longest", "itertools.pairwise"].contains T) = false) (hQ : Q () s) : wpAny M A (letOwnedTupleGo target (.ref I) v') Q E s := by
  cases target <;> first | exact wpAny_pure hQ | (cases v' <;> first | exact wpAny_pure hQ | (refine wpAny_bind (wpAny_load ho ?_); rw [hc, hd]; dsimp only; rw [hT]; exact wpAny_pure hQ))
theorem Fra.noSeq (F : Fra C f L loc ρ mh s) {b : Addr} (hb : b ∈ L.X) {o : Obj} (e : s.heap.get? b = some o) (items : Array Value) (k : Nat) : o.data ≠ .seq items k := fun q => by
  rcases List.mem_cons.mp hb with rfl | hb
  . obtain ⟨_, ⟨o', _, _, ho', hd', _⟩, _⟩ := F.ns
    rw [e] at ho'; cases ho'; rw [q] at hd'; cases hd'
  . obtain ⟨_, _, o', ho', hd'⟩ := F.cX _ hb
    rw [e] at ho'; cases ho'; rw [q] at hd'; cases hd'
theorem Fra.tup (F : Fra C f L loc ρ mh s) (x : Ext L.X ρ mh s.heap ρ' mh' h') : TupKept s.heap h' := fun b o ho hc hd =>
  x.kept b o ho (F.st.notOwn ho hc hd) fun m => by obtain ⟨_, _, hd⟩ := hd; exact F.noSeq m ho _ _ hd
theorem Fra.turned (F : Fra C f L loc ρ mh s) {I : Addr} (nI : ¬ Own ρ I) (bI : C.B.get? I = none) (hIL : I ∉ L.X) {oI : Obj} {fs : Array Value} (hI : s.heap.get? I = some oI) (hf : oI.data = .fields fs) (k : ∀ b o, b ≠ I -> s.heap.get? b = some o -> s'.heap.get? b = some o) (sh : Sh C s') :
    Fra C f L loc ρ mh s' /\ Ext (I :: L.X) ρ mh s.heap ρ mh s'.heap := by
  have z := F.st.local (h' := s'.heap) nI bI (fun o e => .inr fun items n q => by rw [hI] at e; cases e; rw [hf] at q; cases q) k
  have kX : ∀ y ∈ L.X, ∀ o, s.heap.get? y = some o -> s'.heap.get? y = some o := fun y hy o e => k y o (fun q => hIL (q ▸ hy)) e
  obtain ⟨_, there⟩ := F.there
  obtain ⟨m, ⟨oL, es, ep, hL, r⟩, hl⟩ := F.ns
  have tk : TupKept s.heap s'.heap := fun b o ho hc hd => k b o (fun q => by subst q; rw [hI] at ho; cases ho; obtain ⟨_, _, hd⟩ := hd; rw [hf] at hd; cases hd) ho
  refine ⟨⟨sh, z.1, ⟨m, ⟨oL, es, ep, kX _ (.head _) _ hL, r⟩, fun x i v hi hv => ?_⟩, F.nX, F.bX, fun c hc => ?_, F.cN, F.cS⟩, z.2.widen (fun x hx => by simp at hx; simp [hx]) (fun y hy => ?_)⟩
  . obtain ⟨v', h1, h2⟩ := hl x i v hi hv
    exact ⟨v', h1.mono fun c hc => kX c (.tail _ hc), h2.mono tk (.refl ρ)⟩
  . obtain ⟨h1, v, o, ho, hd⟩ := F.cX c hc
    exact ⟨h1, v, o, kX c (.tail _ hc) o ho, hd⟩
  . rcases List.mem_cons.mp hy with rfl | hy
    . exact ⟨_, hI⟩
    . exact there y hy
noncomputable def SemSA (C : Cx) (f : Fn) (A : Around) (L : Fid) (st : List Stmt) (r : RS) : Prop :=
  ∀ E loc ρ mh s x, Fra C f L loc ρ mh s -> r loc mh = some x -> wpAny (model C.prog C.w) A (execs st (f.env L)) (PS C f L ρ mh s.heap x) E s
noncomputable def SemSA1 (C : Cx) (f : Fn) (A : Around) (L : Fid) (st : Stmt) (r : RS) : Prop :=
  ∀ E loc ρ mh s x, Fra C f L loc ρ mh s -> r loc mh = some x -> wpAny (model C.prog C.w) A (exec st (f.env L)) (PS C f L ρ mh s.heap x) E s
theorem SemS.on {st : List Stmt} {r : RS} (h : SemS C n f st r) (hr : Room n A) : SemSA C f A L st r := fun E loc ρ mh s x F e => h A E L loc ρ mh s x hr F e
theorem SemS1.on {st : Stmt} {r : RS} (h : SemS1 C n f st r) (hr : Room n A) : SemSA1 C f A L st r := fun E loc ρ mh s x F e => h A E L loc ρ mh s x hr F e
theorem SemSA.nil : SemSA C f A L [] rSkip := fun E loc ρ mh s x F e => by
  cases e
  exact wpAny_execs_nil ⟨ρ, mh, .refl _ _ _ _, F.sh, rfl, F⟩
theorem SemSA.cons {st : Stmt} {rest : List Stmt} {r q : RS} (h1 : SemSA1 C f A L st r) (h2 : SemSA C f A L rest q) : SemSA C f A L (st :: rest) (rSeq r q) := fun E loc ρ mh s x F e => by
  cases ea : r loc mh with
  | none => unfold rSeq at e; rw [ea] at e; cases e
  | some y =>
    unfold rSeq at e; rw [ea] at e
    refine wpAny_execs_cons (wpAny_mono (h1 E loc ρ mh s y F ea) (fun fl s₁ p => ?_) fun _ _ x => x)
    cases y with
    | next l m => exact p.next fun ρ₁ x₁ sh₁ F₁ => wpAny_mono (h2 E l ρ₁ _ s₁ x F₁ e) (fun _ _ q => q.trans x₁) fun _ _ x => x
    | cont l m => exact (Option.some.inj e : _ = x) ▸ p.cont fun ρ₁ x₁ sh₁ F₁ => ⟨ρ₁, _, x₁, sh₁, rfl, F₁⟩
    | ret l m => exact (Option.some.inj e : _ = x) ▸ p.ret fun ρ₁ v x₁ sh₁ S₁ d => ⟨ρ₁, _, x₁, sh₁, rfl, S₁, d⟩
theorem rLoop_chk {tg : Loc -> V -> Option Loc} {q : RS} {chk : MH -> Bool} {vs : List V} {loc : Loc} {mh : MH} {x : SR} (h : rLoop tg q chk vs loc mh = some x) : chk mh = true := by
  cases vs <;> (unfold rLoop at h; split at h; assumption; cases h)
theorem rLoop_nil {tg : Loc -> V -> Option Loc} {q : RS} {chk : MH -> Bool} {loc : Loc} {mh : MH} {x : SR} (h : rLoop tg q chk [] loc mh = some x) : x = .next loc mh := by
  have hc := rLoop_chk h
  unfold rLoop at h; rw [if_pos hc] at h; cases h; rfl
theorem rLoop_cons {tg : Loc -> V -> Option Loc} {q : RS} {chk : MH -> Bool} {v : V} {vs : List V} {loc : Loc} {mh : MH} {x : SR} (h : rLoop tg q chk (v :: vs) loc mh = some x) {P : Prop}
    (k : ∀ loc₁ y, tg loc v = some loc₁ -> q loc₁ mh = some y -> (match y with | .next l m => rLoop tg q chk vs l m = some x | .cont l m => rLoop tg q chk vs l m = some x | .ret v m => x = .ret v m) -> P) : P := by
  have hc := rLoop_chk h
  unfold rLoop at h; rw [if_pos hc] at h
  cases e1 : tg loc v with
  | none => rw [e1] at h; cases h
  | some loc₁ =>
    rw [e1] at h
    cases e2 : q loc₁ mh with
    | none => simp only [e2] at h; cases h
    | some y => refine k _ y e1 e2 ?_; simp only [e2] at h; cases y <;> first | exact h | (cases h; rfl)
inductive FI (C : Cx) (f : Fn) (L : Fid) (At : Rho -> MH -> Heap -> Nat -> Prop) (I : Addr) (ρ₂ : Rho) (m₂ : MH) (h₂ : Heap) (vs : List V) (tg : Loc -> V -> Option Loc) (q : RS) (chk : MH -> Bool) (x : SR) (m : Nat) (s : Shared) : Prop where
  | mk (k : Nat) (loc : Loc) (ρ : Rho) (mh : MH) (em : m = vs.length - k) (hk : k <= vs.length) (F : Fra C f L loc ρ mh s) (a : At ρ mh s.heap k) (oI : ¬ Own ρ I) (y : Ext (I :: L.X) ρ₂ m₂ h₂ ρ mh s.heap) (e : rLoop tg q chk (vs.drop k) loc mh = some x)
noncomputable def FT (C : Cx) (A : Around) (env : Env) (target : Expr) (I : Addr) (body : List Stmt) (R : Flow -> Shared -> Prop) (J : Shared -> Prop) (E : Value -> Shared -> Prop) (r : Option Value) (s₁ : Shared) : Prop := match r with
  | none => wpAny (model C.prog C.w) A (execs [] env) R E s₁
  | some v => wpAny (model C.prog C.w) A (letOwnedTupleGo target (.ref I) v) (fun _ s₁' => wpAny (model C.prog C.w) A (assign target env v) (fun _ s₂ => wpAny (model C.prog C.w) A (execs body env) (fun f s₃ => match f with
      | .next | .cont => J s₃
      | .brk => R .next s₃
      | .ret v => R (.ret v) s₃) E s₂) E s₁') E s₁
theorem for_loop {target : Expr} {I : Addr} {body : List Stmt} {env : Env} {R : Result -> Shared -> Prop} (J : Nat -> Shared -> Prop)
    (turn : ∀ (E : Value -> Shared -> Prop) n s, J n s -> wpAny (model C.prog C.w) A (pyNext (.ref I)) (FT C A env target I body (fun f s => R (.ok f) s) (fun s => ∃ m, m < n /\ J m s) E) E s) (n : Nat) (h : J n s) :
    codeAny (model C.prog C.w) A (.forLoop target (.ref I) body [] env) R s :=
  codeAny_forLoop_any J (fun n s h => wpAny_mono (turn _ n s h) (fun r s h => by cases r <;> exact h) fun _ _ x => x) n h
theorem for_back {I : Addr} {ρ₂ ρ₅ : Rho} {m₂ mh₅ : MH} {h₂ h₅ : Heap} {X : List Addr} (x : Ext X ρ mh h ρ₂ m₂ h₂) (nI : h.get? I = none) (y : Ext (I :: X) ρ₂ m₂ h₂ ρ₅ mh₅ h₅) : Ext X ρ mh h ρ₅ mh₅ h₅ := by
  refine ⟨fun i p e => y.pre i p (x.pre i p e), fun b o => ?_, fun b o e n m => ?_, x.stays.trans x.pre y.stays⟩
  . refine (y.fresh b o).elim (x.fresh b) fun o => ?_
    cases z : h.get? b with
    | none => exact .inr ⟨rfl, fun m => o.2 (.tail _ m)⟩
    | some ob =>
      by_cases w : Own ρ b
      . exact .inl w
      . have := x.kept b ob z w (fun m => o.2 (.tail _ m))
        rw [this] at o; cases o.1
  . refine y.kept b o (x.kept b o e n m) (fun z => (x.fresh b z).elim n fun z => by rw [e] at z; cases z.1) fun z => (List.mem_cons.mp z).elim (fun z => by rw [z, nI] at e; cases e) m
theorem for_turn {target : Expr} {body : List Stmt} {tg : Loc -> V -> Option Loc} {q : RS} {I : Addr} {At : Rho -> MH -> Heap -> Nat -> Prop} {ρ₂ : Rho} {m₂ : MH} {h₂ : Heap} {vs : List V} {chk : MH -> Bool} {x : SR} {m : Nat} (hr : Room n A) (W : Wk C n chk I vs At) (ht : SemA C n f target tg) (hb : SemSA C f A L body q)
    (hIL : I ∉ L.X) (bI : C.B.get? I = none) (x₂ : Ext L.X ρ mh h ρ₂ m₂ h₂) (nI : h.get? I = none) (c : FI C f L At I ρ₂ m₂ h₂ vs tg q chk x m s) :
    wpAny (model C.prog C.w) A (pyNext (.ref I)) (FT C A (f.env L) target I body (PS C f L ρ mh h x) (fun s => ∃ m', m' < m /\ FI C f L At I ρ₂ m₂ h₂ vs tg q chk x m' s) E) E s := by
  refine via fun P kP => ?_
  obtain ⟨k, loc₃, ρ₃, mh₃, em, hk, F₃, at3, oI3, x₃, e₃⟩ := c
  obtain ⟨oIt, T, fs, hoI, hcI, hdI, hTI⟩ := W.cls at3
  have hc := rLoop_chk e₃
  cases hd : vs.drop k with
  | nil =>
    rw [hd] at e₃
    have hv : vs[k]? = none := List.getElem?_eq_none_iff.mpr (List.drop_eq_nil_iff.mp hd)
    refine kP (wpAny_mono (W.fin hr F₃.sh F₃.st at3 hc oI3 hv) (fun r s₄ p => ?_) fun _ _ x => x)
    have T4 := F₃.turned oI3 bI hIL hoI hdI p.2.1 p.2.2
    rw [p.1, rLoop_nil e₃]
    exact wpAny_execs_nil ⟨ρ₃, mh₃, for_back x₂ nI (x₃.trans T4.2), p.2.2, rfl, T4.1⟩
  | cons v rest =>
    rw [hd] at e₃
    have hlt : k < vs.length := Nat.lt_of_not_le fun z => by rw [List.drop_eq_nil_of_le z] at hd; cases hd
    have hv : vs[k]? = some v := by rw [<- List.head?_drop, hd]; rfl
    have hrest : vs.drop (k + 1) = rest := by rw [<- List.tail_drop, hd]; rfl
    refine kP (wpAny_mono (W.item hr F₃.sh F₃.st at3 hc oI3 hv) (fun r s₄ p => ?_) fun _ _ x => x)
    clear kP
    refine via fun P kP => ?_
    obtain ⟨v', er, k4, sh₄, d4, at4⟩ := p
    have T4 := F₃.turned oI3 bI hIL hoI hdI k4 sh₄
    obtain ⟨oIt4, T4', fs4, hoI4, hcI4, hdI4, hTI4⟩ := W.cls at4
    obtain ⟨_, hL4⟩ := T4.1.there
    refine rLoop_cons e₃ fun loc₄ res et eq e₆ => ?_
    refine kP ?_; clear kP; rw [er]
    refine letOwned_V hoI4 hcI4 hdI4 hTI4 ?_
    refine wpAny_mono (ht A _ L loc₃ ρ₃ mh₃ s₄ v v' loc₄ hr T4.1 d4 et) (fun _ s₅ p => ?_) fun _ _ x => x
    have x₅ := p.1
    have wid : ∀ {ρ₆ : Rho} {mh₆ : MH} {h₆ : Heap}, Ext L.X ρ₃ mh₃ s₅.heap ρ₆ mh₆ h₆ -> Ext (I :: L.X) ρ₂ m₂ h₂ ρ₆ mh₆ h₆ := fun y =>
      (x₃.trans T4.2).trans ((x₅.trans y).widen (fun z hz => .tail _ hz) (fun z hz => (List.mem_cons.mp hz).elim (fun q => ⟨_, q ▸ hoI4⟩) (hL4 z)))
    have on : ∀ {ρ₆ : Rho} {mh₆ : MH} {s₆ : Shared} {loc₆ : Loc}, Ext L.X ρ₃ mh₃ s₅.heap ρ₆ mh₆ s₆.heap -> Fra C f L loc₆ ρ₆ mh₆ s₆ -> rLoop tg q chk rest loc₆ mh₆ = some x -> ∃ m', m' < m /\ FI C f L At I ρ₂ m₂ h₂ vs tg q chk x m' s₆ := fun {ρ₆ mh₆ s₆ loc₆} y F₆ e₆ => by
      have y' := x₅.trans y
      exact ⟨vs.length - (k + 1), by omega, ⟨k + 1, loc₆, ρ₆, mh₆, rfl, hlt, F₆, W.frame at4 T4.1.st hc (rLoop_chk e₆) y'.pre y'.stays (T4.1.tup y') (fun o e => y'.kept I o e oI3 hIL), fun z => (y'.fresh I z).elim oI3 (fun z => by rw [hoI4] at z; cases z.1), wid y, by rw [hrest]; exact e₆⟩⟩
    refine wpAny_mono (hb _ loc₄ ρ₃ mh₃ s₅ res p.2 eq) (fun fl s₆ p => ?_) fun _ _ x => x
    clear e₃ et eq hL4 hdI4 hcI4 hTI4 hTI hcI
    cases res with
    | next l m => exact p.next fun ρ₆ x₆ sh₆ F₆ => on x₆ F₆ e₆
    | cont l m => exact p.cont fun ρ₆ x₆ sh₆ F₆ => on x₆ F₆ e₆
    | ret u m => exact p.ret fun ρ₆ u' x₆ sh₆ S₆ d => (e₆ : x = _) ▸ ⟨ρ₆, _, for_back x₂ nI (wid x₆), sh₆, rfl, S₆, d⟩
theorem SemSA1.for {target iter : Expr} {body : List Stmt} {pos : Pos} {r : RI} {tg : Loc -> V -> Option Loc} {q : RS} (hr : Room n A) (hi : SemIt C n f iter r) (ht : SemA C n f target tg) (hb : SemSA C f A L body q)
    (hs : ∀ L x, foldedSetIterable iter (f.env L) x = pure x := by intro _ _; rfl) : SemSA1 C f A L (.For target iter body [] pos) (rFor r tg q) := fun E loc ρ mh s x F e => by
  cases er : r loc mh with
  | none => unfold rFor at e; rw [er] at e; cases e
  | some y =>
    obtain ⟨vs, mh₂, chk⟩ := y
    have e : rLoop tg q chk vs loc mh₂ = some x := by unfold rFor at e; rw [er] at e; exact e
    obtain ⟨oL, hL⟩ := F.there
    refine wpAny_For (wpAny_mono (hi A E L loc ρ mh s vs mh₂ chk hr F er) (fun xv s₁ p => wpAny_mono p (fun it s₂ p => ?_) fun _ _ x => x) fun _ _ x => x) (hs L)
    obtain ⟨I, At, ρ₂, ei, W, at0, x₂, sh₂, S₂, nI, oI, bI⟩ := p
    have hIL : I ∉ L.X := fun z => by obtain ⟨_, e⟩ := hL I z; rw [e] at nI; cases nI
    rw [ei]
    exact for_loop (FI C f L At I ρ₂ mh₂ s₂.heap vs tg q chk x) (fun E' m s₃ c => for_turn hr W ht hb hIL bI (x₂.weaken hL) nI c) vs.length ⟨0, loc, ρ₂, mh₂, rfl, Nat.zero_le _, F.ext x₂ sh₂ S₂, at0, oI, .refl _ _ _ _, e⟩
theorem SemS1.for {target iter : Expr} {body : List Stmt} {pos : Pos} {r : RI} {tg : Loc -> V -> Option Loc} {q : RS} (hi : SemIt C n f iter r) (ht : SemA C n f target tg) (hb : SemS C n f body q)
    (hs : ∀ L x, foldedSetIterable iter (f.env L) x = pure x := by intro _ _; rfl) : SemS1 C n f (.For target iter body [] pos) (rFor r tg q) := fun A E L loc ρ mh s x hr F e =>
  SemSA1.for hr hi ht (hb.on hr) hs E loc ρ mh s x F e
end
end Mini
namespace Mini
section
variable {C : Cx} {n : Nat} {f : Fn} {A : Around} {E : Value -> Shared -> Prop} {ρ ρ' : Rho} {mh mh' : MH} {s s' : Shared} {v : V} {v' : Value} {h h' : Heap} {L : Fid} {loc loc' : Loc}
noncomputable def tName (i : Nat) : Loc -> V -> Option Loc := fun loc v => some (loc.set i (some v))
noncomputable def two {α β : Type} (l : List α) (f : α -> α -> Option β) : Option β := match l with | [a, b] => f a b | _ => none
theorem two_elim {α β : Type} {P : Prop} {l : List α} {f : α -> α -> Option β} {y : β} (h : two l f = some y) (k : ∀ a b, l = [a, b] -> f a b = some y -> P) : P := by
  cases l with | nil => exact no_some h | cons a l => cases l with | nil => exact no_some h | cons b l => cases l with | nil => exact k _ _ rfl h | cons c l => exact no_some h
noncomputable def tPair (i j : Nat) : Loc -> V -> Option Loc := fun loc v => vtup v fun l => two l fun a b => some ((loc.set i (some a)).set j (some b))
theorem SemA.name {x : Str} {px : Pos} (i : Nat) (hi : f.at x i = true) : SemA C n f (.Name x px) (tName i) := fun A E L loc ρ mh s v v' loc' hr F d e => by
  cases e
  exact wpAny_assign_Name (store_V hi F d)
theorem SemA.pair {x y : Str} {px py pos : Pos} {k : Nat} (i j : Nat) (hi : f.at x i = true) (hj : f.at y j = true) : SemA C n f (.Tuple [.Name x px, .Name y py] k pos) (tPair i j) := fun A E L loc ρ mh s v v' loc' hr F d e => by
  refine via fun P kP => vtup_elim e fun l el q => two_elim q fun a b eab w => ?_
  subst el eab
  refine d.tupE fun at_ items ev ht hv => hv.twoE fun av bv ei da db => kP ?_
  clear kP; subst ev ei; refine one_elim w ?_
  obtain ⟨oL, hL⟩ := F.there
  refine assign_Tuple_tuple hr.2.2 ht rfl rfl fun h' hx => ?_
  have keep : ∀ b o, s.heap.get? b = some o -> h'.get? b = some o := fun b o e => hx b o (Nat.ne_of_lt (Heap.lt_size e)) e
  have g := F.st.grow keep
  have F' : Fra C f L loc ρ mh { s with heap := h' } := F.ext (s' := { s with heap := h' }) g.2 F.sh g.1
  refine wpAny_assignInOrder_more (wpAny_mono (wpAny_assign_Name (store_V hi F' (da.ext F.st g.2))) (fun _ s₁ p => ?_) fun _ _ x => x)
  refine wpAny_assignInOrder_more (wpAny_mono (wpAny_assign_Name (store_V hj p.2 ((db.ext F.st g.2).mono (F'.tup p.1) p.1.pre))) (fun _ s₂ q => ?_) fun _ _ x => x)
  exact wpAny_assignInOrder_none ⟨(g.2.weaken hL).trans (p.1.trans q.1), q.2⟩
noncomputable def stampIs (i st : Nat) (mh : MH) : Bool := match mh[i]? with | some x => x.2 == st | none => false
noncomputable def oSt {β : Type} (mh : MH) (i : Nat) (f : List V -> Nat -> Option β) (g : List (Int × V) -> Nat -> Option β) : Option β := match mh[i]? with | some (.list l, st) => f l st | some (.dictI l, st) => g l st | _ => none
theorem oSt_elim {β : Type} {P : Prop} {mh : MH} {i : Nat} {y : β} {f : List V -> Nat -> Option β} {g : List (Int × V) -> Nat -> Option β} (h : oSt mh i f g = some y) (k1 : ∀ l st, mh[i]? = some (.list l, st) -> f l st = some y -> P) (k2 : ∀ l st, mh[i]? = some (.dictI l, st) -> g l st = some y -> P) : P := by
  unfold oSt at h; generalize mh[i]? = o at h k1 k2
  cases o with | none => exact no_some h | some o => obtain ⟨o, st⟩ := o; cases o <;> first | exact k1 _ _ rfl h | exact k2 _ _ rfl h | exact no_some h
noncomputable def rIt (r : RE) : RI := fun loc mh => bd (r loc mh) fun v m => vrt v (fun i => oSt m i (fun vs st => some (vs, m, stampIs i st)) fun kvs st => some (kvs.map (fun p => V.int p.1), m, stampIs i st)) fun vs => some (vs, m, fun _ => true)
@[elab_as_elim] theorem three_elim {α β γ : Type} {a c : α} {b d : β} {u v : γ} {P : α -> β -> γ -> Prop} (e : some (a, b, u) = some (c, d, v)) (h : P a b u) : P c d v := by cases e; exact h
theorem stampIs_get {i st : Nat} (h : stampIs i st mh = true) : ∃ o, mh[i]? = some (o, st) := by
  unfold stampIs at h
  split at h
  . rename_i x e; exact ⟨x.1, by rw [e, <- beq_iff_eq.mp h]⟩
  . cases h
inductive AtTup (I : Addr) (vs : List V) (ρ : Rho) (mh : MH) (h : Heap) (k : Nat) : Prop where
  | mk (t : Addr) (items : List Value) (hi : h.IsTupleIter I t k) (ht : IsTup h t items.toArray) (hv : ValsAre ρ h items vs)
theorem iter_tup {I : Addr} {fs : Array Value} (hi : ∃ o, s.heap.get? I = some o /\ o.data = .fields fs) (hs : ∀ b, b ≠ I -> h'.get? b = s.heap.get? b) : TupKept s.heap h' := fun b o ho hc hd => by
  refine (hs b fun q => ?_).trans ho
  obtain ⟨o', ho', hd'⟩ := hi
  rw [q, ho'] at ho
  obtain ⟨_, _, hd⟩ := hd
  rw [<- Option.some.inj ho, hd'] at hd; cases hd
theorem Wk.tup {I : Addr} {vs : List V} : Wk C n (fun _ => true) I vs (AtTup I vs) where
  cls := fun a => a.rec fun t items hi ht hv => hi.imp fun o z => ⟨_, _, z.1, z.2.1, z.2.2, by decide⟩
  frame := fun a S _ _ q _ tk k => a.rec fun t items hi ht hv => ⟨t, items, hi.imp fun o z => ⟨k _ z.1, z.2⟩, tk.isTup ht, hv.mono tk q⟩
  self := fun a hq => a.rec fun t items hi ht hv => wpAny_pyIter_tupleiter hi hq
  item := fun {A E ρ mh s k v} hr sh S hat _ nI e => by
    obtain ⟨t, items, hi, ht, hv⟩ := hat
    obtain ⟨y, hy, dy⟩ := hv.get e
    refine wpAny_pyNext_tuple_item hi ht (by simpa using hy) fun h' hi' hs => ?_
    have tk := iter_tup (hi.imp fun o z => ⟨z.1, z.2.2⟩) hs.2
    exact ⟨y, rfl, fun b o ne e => (hs.2 b ne).trans e, sh, dy.mono tk (.refl ρ), t, items, hi', tk.isTup ht, hv.mono tk (.refl ρ)⟩
  fin := fun {A E ρ mh s k} hr sh S hat _ nI e => by
    obtain ⟨t, items, hi, ht, hv⟩ := hat
    refine wpAny_pyNext_tuple_end hr.2.2 hi ht ?_ fun h' hs => ⟨rfl, fun b o ne e => hs b o ne e, sh⟩
    have := hv.length
    have z := List.getElem?_eq_none_iff.mp e
    simp; omega
inductive AtList (i st : Nat) (I : Addr) (vs : List V) (ρ : Rho) (mh : MH) (h : Heap) (k : Nat) : Prop where
  | mk (p : Addr × Addr) (hp : ρ[i]? = some p) (hm : mh[i]? = some (.list vs, st)) (hi : h.IsListIter I p.1 k)
theorem ob_of {i : Nat} {o : MObj} {st : Nat} (e : mh[i]? = some (o, st)) : ob mh i = some o := by unfold ob; rw [e]
theorem stays_same {i st : Nat} {o : MObj} (hs : Stays ρ mh h mh' h') (e : mh[i]? = some (o, st)) (c : stampIs i st mh' = true) : mh'[i]? = some (o, st) /\ ∀ (p : Addr × Addr), ρ[i]? = some p -> (∀ x, h.get? p.1 = some x -> h'.get? p.1 = some x) /\ ∀ x, h.get? p.2 = some x -> h'.get? p.2 = some x := by
  obtain ⟨o', st', e', _, k⟩ := hs i o st e
  obtain ⟨o2, e2⟩ := stampIs_get c
  rw [e'] at e2
  cases e2
  obtain ⟨rfl, k2⟩ := k rfl
  exact ⟨e', k2⟩
theorem Wk.list {i st : Nat} {I : Addr} {vs : List V} : Wk C n (stampIs i st) I vs (AtList i st I vs) where
  cls := fun a => a.rec fun p hp hm hi => hi.imp fun o z => ⟨_, _, z.1, z.2.1, z.2.2, by decide⟩
  frame := fun a S _ c q hs tk k => a.rec fun p hp hm hi => ⟨p, q _ _ hp, (stays_same hs hm c).1, hi.imp fun o z => ⟨k _ z.1, z.2⟩⟩
  self := fun a hq => a.rec fun p hp hm hi => wpAny_pyIter_listiter hi hq
  item := fun {A E ρ mh s k v} hr sh S hat _ nI e => by
    obtain ⟨p, hp, hm, hi⟩ := hat
    obtain ⟨_, items, m, ho, hv⟩ := S.obj i p _ hp (ob_of hm)
    obtain ⟨y, hy, dy⟩ := hv.get e
    refine wpAny_pyNext_list_item hi (listAt_isList ho) (by simpa using hy) fun h' hi' hs => ?_
    have tk := iter_tup (hi.imp fun o z => ⟨z.1, z.2.2⟩) hs.2
    exact ⟨y, rfl, fun b o ne e => (hs.2 b ne).trans e, sh, dy.mono tk (.refl ρ), p, hp, hm, hi'⟩
  fin := fun {A E ρ mh s k} hr sh S hat _ nI e => by
    obtain ⟨p, hp, hm, hi⟩ := hat
    obtain ⟨_, items, m, ho, hv⟩ := S.obj i p _ hp (ob_of hm)
    refine wpAny_pyNext_list_end hr.2.2 hi (listAt_isList ho) ?_ fun h' hs => ⟨rfl, fun b o ne e => hs b o ne e, sh⟩
    have := hv.length
    have z := List.getElem?_eq_none_iff.mp e
    simp; omega
inductive AtDict (C : Cx) (i st : Nat) (I : Addr) (kvs : List (Int × V)) (ρ : Rho) (mh : MH) (h : Heap) (k : Nat) : Prop where
  | mk (p : Addr × Addr) (ms : List (Int × Value)) (ep : Nat) (hp : ρ[i]? = some p) (hm : mh[i]? = some (.dictI kvs, st)) (hd : h.DictAt (intKind C.prog C.w) p.1 ms ep) (hk : ms.map (·.1) = kvs.map (·.1)) (hi : h.IsKeyIter I p.1 k ms.length ep)
theorem PairsAre.keys {ms : List (Int × Value)} {kvs : List (Int × V)} (p : PairsAre id ρ h ms kvs) : ms.map (·.1) = kvs.map (·.1) := by
  induction p with
  | nil => rfl
  | cons _ _ ih => simp [ih]
theorem Wk.dict {i st : Nat} {I : Addr} {kvs : List (Int × V)} : Wk C n (stampIs i st) I (kvs.map (fun p => V.int p.1)) (AtDict C i st I kvs) where
  cls := fun a => a.rec fun p ms ep hp hm hd hk hi => hi.imp fun o z => ⟨_, _, z.1, z.2.1, z.2.2, by decide⟩
  frame := fun a S _ c q hs tk k => a.rec fun p ms ep hp hm hd hk hi =>
    have e' := stays_same hs hm c
    ⟨p, ms, ep, q _ _ hp, e'.1, hd.imp fun o z => z.imp fun es z => ⟨(e'.2 p hp).1 _ z.1, z.2⟩, hk, hi.imp fun o z => ⟨k _ z.1, z.2⟩⟩
  self := fun a hq => a.rec fun p ms ep hp hm hd hk hi => wpAny_pyIter_keyiter hi hq
  item := fun {A E ρ mh s k v} hr sh S hat _ nI e => by
    obtain ⟨p, ms, ep, hp, hm, hd, hk, hi⟩ := hat
    rw [List.getElem?_map] at e
    have e2 : (kvs.map (·.1))[k]? = (ms.map (·.1))[k]? := by rw [hk]
    rw [List.getElem?_map, List.getElem?_map] at e2
    cases q : kvs[k]? with
    | none => rw [q] at e; cases e
    | some kv =>
      rw [q] at e e2
      cases e
      cases q2 : ms[k]? with
      | none => rw [q2] at e2; cases e2
      | some mv =>
        rw [q2] at e2
        have e2 : kv.1 = mv.1 := Option.some.inj e2
        have hpI : p.1 ≠ I := fun z => nI ⟨p, List.mem_of_getElem? hp, .inl z.symm⟩
        refine wpAny_pyNext_dict_item hi hd (k := mv.1) (v := mv.2) q2 fun key h' hkey hi' hs => ?_
        obtain ⟨t, rfl⟩ := Value.isInt_shape hkey
        refine ⟨_, rfl, fun b o ne e => (hs.2 b ne).trans e, sh, by show ValIs ρ _ (.int mv.1 t) (.int kv.1); rw [e2]; exact .int _ _, p, ms, ep, hp, hm, ?_, hk, hi'⟩
        obtain ⟨o1, es, ho1, r⟩ := hd
        exact ⟨o1, es, (hs.2 _ hpI).trans ho1, r⟩
  fin := fun {A E ρ mh s k} hr sh S hat _ nI e => by
    obtain ⟨p, ms, ep, hp, hm, hd, hk, hi⟩ := hat
    refine wpAny_pyNext_dict_end hr.2.2 hi hd ?_ fun h' hs => ⟨rfl, fun b o ne e => hs b o ne e, sh⟩
    have z := List.getElem?_eq_none_iff.mp e
    have l := congrArg List.length hk
    simp only [List.length_map] at l z
    rw [List.getElem?_eq_none_iff]; omega
theorem fresh_back {X : List Addr} {I : Addr} (S' : St C.prog C.w C.B ρ' mh' h') (x : Ext [] ρ mh h ρ' mh' h') (e : h'.get? I = none) : h.get? I = none := by
  cases q : h.get? I with
  | none => rfl
  | some o =>
    by_cases z : Own ρ I
    . obtain ⟨_, w⟩ := S'.there (x.pre.own z); rw [e] at w; cases w
    . have := x.kept I o q z (by simp); rw [e] at this; cases this
theorem iter_fin {vs : List V} {chk : MH -> Bool} {s₁ : Shared} {ρ₁ : Rho} {o : Obj} {At : Rho -> MH -> Heap -> Nat -> Prop} (x₁ : Ext [] ρ mh h ρ₁ mh' s₁.heap) (sh₁ : Sh C s₁) (S₁ : SSt C ρ₁ mh' s₁) (W : Wk C n chk s₁.heap.objs.size vs At) (hat : At ρ₁ mh' (s₁.heap.push o) 0) :
    IsIt C n ρ mh h vs mh' chk (.ref s₁.heap.objs.size) { s₁ with heap := s₁.heap.push o } := by
  have g := S₁.grow (push_keeps s₁.heap o)
  have nI := size_none s₁.heap
  refine ⟨_, At, ρ₁, rfl, W, hat, x₁.trans g.2, sh₁, g.1, fresh_back (X := []) S₁ x₁ nI, fun z => ?_, ?_⟩
  . obtain ⟨_, w⟩ := S₁.there z; exact no_some (nI.symm.trans w)
  . cases q : C.B.get? s₁.heap.objs.size with
    | none => rfl
    | some o => exact no_some (nI.symm.trans (S₁.keep _ _ q))
theorem SemIt.of (hC : C.Ok) {e : Expr} {r : RE} (h1 : SemE C n f e r) : SemIt C n f e (rIt r) := fun A E L loc ρ mh s vs mh' chk hr F e => by
  refine via fun P kP => bd_elim e fun v m er q => vrt_elim q (fun i ei q => oSt_elim q (fun l st hm w => kP ?_) fun l st hm w => kP ?_) fun l el w => kP ?_
  . clear kP; subst ei; refine three_elim w (h1.use hr F er fun x s₁ ρ₁ x₁ sh₁ S₁ F₁ d₁ => d₁.refE fun p ep hp => ?_)
    rw [ep]
    obtain ⟨_, items, k, ho, hv⟩ := S₁.obj i p _ hp (ob_of hm)
    exact wpAny_pyIter_list (listAt_isList ho) (iter_fin x₁ sh₁ S₁ Wk.list ⟨p, hp, hm, _, Heap.get?_push_size _ rfl, rfl, rfl⟩)
  . clear kP; subst ei; refine three_elim w (h1.use hr F er fun x s₁ ρ₁ x₁ sh₁ S₁ F₁ d₁ => d₁.refE fun p ep hp => ?_)
    rw [ep]
    obtain ⟨_, lo, ms, hd, hv⟩ := S₁.obj i p _ hp (ob_of hm)
    obtain ⟨ep, hd'⟩ := hd.dictAt
    exact wpAny_pyIter_dict (ge_low lo) hd' (iter_fin x₁ sh₁ S₁ Wk.dict ⟨p, ms, ep, hp, hm, hd'.push _, hv.keys, _, Heap.get?_push_size _ rfl, rfl, rfl⟩)
  . clear kP; subst el; refine three_elim w (h1.use hr F er fun x s₁ ρ₁ x₁ sh₁ S₁ F₁ d₁ => d₁.tupE fun a items ea ht hv => ?_)
    rw [ea]
    exact wpAny_pyIter_tuple ht (iter_fin x₁ sh₁ S₁ Wk.tup ⟨a, items, ⟨_, Heap.get?_push_size _ rfl, rfl, rfl⟩, ht.imp fun o z => ⟨push_keeps _ _ _ _ z.1, z.2⟩, hv.mono (fun b o e _ _ => push_keeps _ _ _ _ e) (.refl _)⟩)
noncomputable def rWhile (t : RT) (q : RS) : Nat -> RS
  | 0 => fun _ _ => none
  | k + 1 => fun loc mh => match t loc mh with
    | some (true, m) => (match q loc m with
      | some (.next l m') => rWhile t q k l m'
      | some (.cont l m') => rWhile t q k l m'
      | some (.ret v m') => some (.ret v m')
      | none => none)
    | some (false, m) => some (.next loc m)
    | none => none
theorem rWhile_inv {t : RT} {q : RS} {k : Nat} {x : SR} (e : rWhile t q k loc mh = some x) {P : Prop} (k0 : ∀ m, t loc mh = some (false, m) -> x = .next loc m -> P)
    (k1 : ∀ j m y, k = j + 1 -> t loc mh = some (true, m) -> q loc m = some y -> (match y with | .next l m' => rWhile t q j l m' = some x | .cont l m' => rWhile t q j l m' = some x | .ret v m' => x = .ret v m') -> P) : P := by
  cases k with
  | zero => exact no_some e
  | succ k =>
    unfold rWhile at e
    cases et : t loc mh with
    | none => rw [et] at e; exact no_some e
    | some y =>
      obtain ⟨b, m⟩ := y
      rw [et] at e
      cases b with
      | false => exact k0 m et (Option.some.inj e).symm
      | true =>
        cases eq : q loc m with
        | none => simp only [eq] at e; exact no_some e
        | some y => refine k1 k m y rfl et eq ?_; simp only [eq] at e; cases y <;> first | exact e | exact (Option.some.inj e).symm
noncomputable def WT (C : Cx) (A : Around) (env : Env) (body : List Stmt) (R : Flow -> Shared -> Prop) (J : Shared -> Prop) (E : Value -> Shared -> Prop) (b : Bool) (s₂ : Shared) : Prop :=
  if b = true then wpAny (model C.prog C.w) A (execs body env) (fun f s₃ => match f with
      | .next | .cont => J s₃
      | .brk => R .next s₃
      | .ret v => R (.ret v) s₃) E s₂ else wpAny (model C.prog C.w) A (execs [] env) R E s₂
theorem while_loop {test : Expr} {body : List Stmt} {env : Env} {R : Result -> Shared -> Prop} (J : Nat -> Shared -> Prop)
    (turn : ∀ (E : Value -> Shared -> Prop) n s, J n s -> wpAny (model C.prog C.w) A (isTrue test env (eval test env)) (WT C A env body (fun f s => R (.ok f) s) (fun s => ∃ m, m < n /\ J m s) E) E s) (n : Nat) (h : J n s) :
    codeAny (model C.prog C.w) A (.whileLoop test body [] env) R s :=
  codeAny_whileLoop J (fun n s h => turn _ n s h) n h
inductive WI (C : Cx) (f : Fn) (L : Fid) (ρ : Rho) (mh : MH) (h : Heap) (t : RT) (q : RS) (x : SR) (k : Nat) (s : Shared) : Prop where
  | mk (loc : Loc) (ρ₁ : Rho) (m : MH) (F : Fra C f L loc ρ₁ m s) (y : Ext L.X ρ mh h ρ₁ m s.heap) (e : rWhile t q k loc m = some x)
theorem SemS1.while {test : Expr} {body : List Stmt} {pos : Pos} {t : RT} {q : RS} (k : Nat) (ht : SemT C n f test t) (hb : SemS C n f body q) : SemS1 C n f (.While test body [] pos) (rWhile t q k) := fun A E L loc ρ mh s x hr F e => by
  refine wpAny_While (while_loop (WI C f L ρ mh s.heap t q x) (fun E k s₁ c => ?_) k ⟨loc, ρ, mh, F, .refl _ _ _ _, e⟩)
  refine via fun P kP => c.rec fun loc₁ ρ₁ mh₁ F₁ x₁ e₁ => ?_
  obtain ⟨_, hL1⟩ := F₁.there
  refine rWhile_inv e₁ (fun m et ex => kP ?_) fun j m y ek et eq e₂ => kP ?_
  . clear kP; refine ht.use hr F₁ et fun s₂ ρ₂ x₂ sh₂ S₂ F₂ => ?_
    rw [ex]
    exact wpAny_execs_nil ⟨ρ₂, _, x₁.trans (x₂.weaken hL1), sh₂, rfl, F₂⟩
  . clear kP; refine ht.use hr F₁ et fun s₂ ρ₂ x₂ sh₂ S₂ F₂ => ?_
    refine wpAny_mono (hb A _ L loc₁ ρ₂ m s₂ _ hr F₂ eq) (fun fl s₃ p => ?_) fun _ _ x => x
    have x₁₂ := x₁.trans (x₂.weaken hL1)
    cases y with
    | next l m' => exact p.next fun ρ₃ x₃ sh₃ F₃ => ⟨j, by omega, l, ρ₃, _, F₃, x₁₂.trans x₃, e₂⟩
    | cont l m' => exact p.cont fun ρ₃ x₃ sh₃ F₃ => ⟨j, by omega, l, ρ₃, _, F₃, x₁₂.trans x₃, e₂⟩
    | ret v m' => exact p.ret fun ρ₃ v' x₃ sh₃ S₃ d => (e₂ : x = _) ▸ ⟨ρ₃, _, x₁₂.trans x₃, sh₃, rfl, S₃, d⟩
end
end Mini
namespace Mini
section
variable {C : Cx} {n : Nat} {f : Fn} {A : Around} {E : Value -> Shared -> Prop} {ρ ρ' : Rho} {mh mh' : MH} {s s' : Shared} {v : V} {v' : Value} {h h' : Heap} {L : Fid} {loc loc' : Loc}
noncomputable def small (a : Int) : Bool := decide (-1000000 < a /\ a < 1000000)
noncomputable def rangeV (a b : Int) : List V := (List.range (b - a).toNat).map fun (j : Nat) => V.int (a + (j : Int))
noncomputable def AtRange (I : Addr) (a b : Int) : Rho -> MH -> Heap -> Nat -> Prop := fun ρ mh h k => IsRangeIter h I (a + k) ((b - a).toNat - k) 1
theorem Wk.range {I : Addr} {a b : Int} : Wk C n (fun _ => true) I (rangeV a b) (AtRange I a b) where
  cls := fun h => ⟨_, _, _, h, rfl, rfl, by decide⟩
  frame := fun h _ _ _ _ _ _ k => k _ h
  self := fun h hq => wpAny_pyIter_rangeiter h hq
  item := fun {A E ρ mh s k v} hr sh S hat _ nI e => by
    unfold rangeV at e
    rw [List.getElem?_map] at e
    cases q : (List.range (b - a).toNat)[k]? with
    | none => rw [q] at e; cases e
    | some j =>
      rw [q] at e
      have lt : k < (b - a).toNat := by have := (List.getElem?_eq_some_iff.mp q).1; simpa using this
      rw [List.getElem?_range lt] at q
      cases q
      cases e
      refine wpAny_pyNext_range_item hat (by omega) fun h' hi hs => ⟨_, rfl, fun b o ne e => (hs.2 b ne).trans e, sh, .int _ _, ?_⟩
      unfold AtRange
      have e1 : (a + (k : Int) + 1) = a + ((k + 1 : Nat) : Int) := by omega
      have e2 : (((b - a).toNat : Int) - (k : Int) - 1) = ((b - a).toNat : Int) - ((k + 1 : Nat) : Int) := by omega
      rw [<- e1, <- e2]
      exact hi
  fin := fun {A E ρ mh s k} hr sh S hat _ nI e => by
    unfold rangeV at e
    rw [List.getElem?_map, Option.map_eq_none_iff, List.getElem?_eq_none_iff, List.length_range] at e
    exact wpAny_pyNext_range_end hr.2.2 hat (by omega) fun h' hs => ⟨rfl, fun b o ne e => hs b o ne e, sh⟩
theorem range_small {a b : Int} (ha : small a = true) (hb : small b = true) : Builtin.Range.small a b 1 = true := by
  unfold small at ha hb
  simp only [decide_eq_true_eq] at ha hb
  unfold Builtin.Range.small Builtin.Range.rangeFitsLong
  rw [rangeSize_one]
  split
  . simp; omega
  . simp; omega
noncomputable def rRange1 (r : RE) : RI := fun loc mh => bd (r loc mh) fun a m => vint a fun b => gd (small b = true) (some (rangeV 0 b, m, fun _ => true))
noncomputable def rRange2 (r q : RE) : RI := fun loc mh => bd (r loc mh) fun a m => vint a fun a => bd (q loc m) fun b m' => vint b fun b => gd (small a = true /\ small b = true) (some (rangeV a b, m', fun _ => true))
theorem range_fin {x : Ext [] ρ mh s.heap ρ' mh' s'.heap} {a b : Int} {t u w : Tok} {tk : Nat} (sh : Sh C s') (S : SSt C ρ' mh' s') (ha : small a = true) (hb : small b = true) :
    wpAny (model C.prog C.w) A (pyIter (.ref s'.heap.objs.size)) (IsIt C n ρ mh s.heap (rangeV a b) mh' (fun _ => true)) E { s' with heap := s'.heap.push { cls := .type "range", data := .fields #[.int a t, .int b u, .int 1 w] }, toks := tk } := by
  have g1 := S.grow (push_keeps s'.heap { cls := .type "range", data := .fields #[.int a t, .int b u, .int 1 w] })
  refine wpAny_pyIter_range (r := s'.heap.objs.size) (a := a) (b := b) (c := 1) (Heap.get?_push_size _ rfl) (range_small ha hb) ?_
  have g2 := g1.1.grow (push_keeps _ { cls := .type "range_iterator", data := .fields #[rawInt a, rawInt (Builtin.Range.rangeSize a b 1), rawInt 1] })
  have nI := size_none (s'.heap.push { cls := .type "range", data := .fields #[.int a t, .int b u, .int 1 w] })
  have x2 := x.trans g1.2
  refine ⟨_, AtRange _ a b, ρ', rfl, Wk.range, ?_, x2.trans g2.2, sh, g2.1, fresh_back (X := []) g1.1 x2 nI, fun z => ?_, ?_⟩
  . unfold AtRange
    have e1 : Builtin.Range.rangeSize a b 1 = ((b - a).toNat : Int) - ((0 : Nat) : Int) := by rw [rangeSize_one]; split <;> omega
    have e2 : a + ((0 : Nat) : Int) = a := by omega
    rw [<- e1, e2]
    exact Heap.get?_push_size _ rfl
  . obtain ⟨_, w⟩ := g1.1.there z; rw [nI] at w; cases w
  . cases q : C.B.get? (s'.heap.push { cls := .type "range", data := .fields #[.int a t, .int b u, .int 1 w] }).objs.size with
    | none => rfl
    | some o => rw [g1.1.keep _ _ q] at nI; cases nI
theorem SemIt.range1 (hC : C.Ok) {x : Str} {px pos : Pos} {e : Expr} {r : RE} (hv : Stands C f (.Name x px) (.type "range")) (h1 : SemE C n f e r) (hp : plainE e = true := by rfl) : SemIt C n f (.Call (.Name x px) [e] [] pos) (rRange1 r) := fun A E L loc ρ mh s vs mh' chk hr F e' => by
  refine via fun P kP => bd_elim e' fun bv m er e1 => vint_elim e1 fun b eb e2 => gd_elim e2 fun hb w => kP ?_
  clear kP; clear e1 e2 e'; subst eb
  refine three_elim w ?_
  have hpl : [e].all plainE = true := by simp [hp]
  refine Call_ (hv A E L loc ρ mh s _ F (callWith_V Keepable.type (any_plain hpl) (head_plain hpl) (spliced_more (h1.use hr F er fun v' s₁ ρ₁ x₁ sh₁ S₁ F₁ d₁ => ?_) (star_plain hp))))
  refine d₁.intE fun t et => ?_
  rw [et]
  refine spliced_nil ⟨fun a o e => S₁.keep a o (hC.X a o e), ?_⟩
  exact call_range_1 (range_fin (x := x₁) sh₁ S₁ (by decide) hb)
noncomputable def gNew (c : Nat) (g : ON) : ON := fun as mh => match g (.ref mh.length :: as) (mkO mh (.inst c [])) with
  | some (.none, mh') => some (.ref mh.length, mh')
  | _ => none
theorem gNew_inv {c : Nat} {g : ON} {as : List V} {v : V} (e : gNew c g as mh = some (v, mh')) : g (.ref mh.length :: as) (mkO mh (.inst c [])) = some (.none, mh') /\ v = .ref mh.length := by
  delta gNew at e
  generalize g (.ref mh.length :: as) (mkO mh (.inst c [])) = o at e ⊢
  cases o with
  | none => exact no_some e
  | some p => obtain ⟨u, m⟩ := p; cases u <;> first | exact no_some e | exact ⟨congrArg (fun z => some (V.none, z)) (Prod.mk.inj (Option.some.inj e)).2, (Prod.mk.inj (Option.some.inj e)).1.symm⟩
theorem Room.made {args : Args} (h : Room (n + 1) A) : Room n (A.under (.builtin "type.__call__" args)) := by
  obtain ⟨h1, h2, h3⟩ := h
  have w : (Code.builtin "type.__call__" args).weight <= 2 := by
    unfold Code.weight
    have a1 : (Code.builtin "type.__call__" args).frames = 0 := rfl
    have a2 : (Code.builtin "type.__call__" args).isGuard = false := by show guardIds.contains "type.__call__" = false; decide
    have a3 : (Code.builtin "type.__call__" args).isCaller = false := rfl
    rw [a1, a2, a3]
    split <;> simp
  have u : (Code.builtin "type.__call__" args).cUnits = 1 := rfl
  refine ⟨?_, ?_, h3⟩
  . show A.depth + (Code.builtin "type.__call__" args).weight + 3 * n + 8 < recursionLimit; omega
  . show A.units + (Code.builtin "type.__call__" args).cUnits + 12 * n + 100 < cLine; omega
theorem SemF.new (hC : C.Ok) {c N fI : Addr} {oI : Obj} {g : ON} (hc : ClsK C c N) (hi : (nsIn C.K N "__init__").join = some (.ref fI)) (hfI : C.K.lookup fI = some oI) (hfc : oI.cls = .type "function") (hF : SemF C n (.ref fI) g) : SemF C (n + 1) (.ref c) (gNew c g) := fun A E ρ mh s as as' v mh' hr sh S d e => by
  obtain ⟨eg, e⟩ := gNew_inv e
  subst e
  have X : C.K.In s.heap := fun a o e => S.keep a o (hC.X a o e)
  obtain ⟨nm, q, bs, sn, sub, col, dd, k0, k1, k2, k3, k5, ho⟩ := hc.obj
  refine wpAny_call_obj_init PySem.F.objNew (X _ _ ho) (ns_K X hc.keys) hi (X _ _ hfI) hfc fun h' x dx M => ?_
  obtain ⟨S', x', idx⟩ := S.alloc (p := (x, dx)) (o := .inst c []) M.keeps M.newX M.newD ⟨[], M.inst, M.dict, .nil⟩
  refine wpAny_mono (hF _ E _ _ ⟨h', s.gens, s.drawn, s.toks, s.os⟩ (.ref mh.length :: as) (.ref x :: as') _ _ hr.made sh S' (.cons (.ref (p := (x, dx)) idx) (d.ext S x')) eg) (fun r s₂ p => ?_) fun _ _ x => x
  obtain ⟨ρ₂, x₂, sh₂, S₂, d₂⟩ := p
  cases d₂
  exact ⟨rfl, ρ₂, x'.trans x₂, sh₂, S₂, .ref (p := (x, dx)) (x₂.pre _ _ idx)⟩
noncomputable def gLen : ON := on1 fun a mh => match a with | .tup l => gd (l.length <= 1000) (some (.int l.length, mh)) | a => vref a fun i => oL mh i fun vs => gd (vs.length <= 1000) (some (.int vs.length, mh))
theorem SemF.len : SemF C n (.builtin "len") gLen := fun A E ρ mh s as as' v mh' hr sh S d e => by
  refine via fun P kP => on1_elim e fun a ea e1 => ?_
  clear e; subst ea
  refine d.oneE fun a' ea da => kP ?_
  clear kP; subst ea
  have go : ∀ i, a = .ref i -> (oL mh i fun vs => gd (vs.length <= 1000) (some (V.int vs.length, mh))) = some (v, mh') -> wpAny (model C.prog C.w) A (call (.builtin "len") [a']) (PE C ρ mh s.heap mh' v) E s := fun i ei e1 => by
    refine via fun P kP => oL_elim e1 fun vs hm e2 => gd_elim e2 fun hz w => ?_
    subst ei
    refine da.refE fun p ep hp => kP ?_
    clear kP; subst ep; refine some_elim w ?_
    obtain ⟨_, items, k, ho, hv⟩ := S.obj i p _ hp hm
    have l := hv.length
    refine call_len_list (listAt_isList ho) (by rw [List.size_toArray, l]; omega) ?_
    rw [List.size_toArray, l]
    exact PE.tok sh S (.int _ _)
  cases a with
  | tup l =>
    refine via fun P kP => gd_elim e1 fun hz w => da.tupE fun a items ea ht hv => kP ?_
    clear kP; subst ea; refine some_elim w ?_
    have l := hv.length
    refine PyProof.Rows.len_tuple ht (by rw [List.size_toArray, l]; omega) ?_
    rw [List.size_toArray, l]
    exact PE.tok sh S (.int _ _)
  | ref i => exact go i rfl e1
  | _ => exact no_some e1
noncomputable def isT : V -> Option Bool
  | .tup _ => some true
  | .int _ => some false
  | .str _ => some false
  | _ => none
noncomputable def isS : V -> Option Bool
  | .tup _ => some false
  | .int _ => some false
  | .str _ => some true
  | _ => none
noncomputable def rIsi (k : V -> Option Bool) (r : RE) : RE := fun loc mh => bd (r loc mh) fun x m => bo (k x) fun b => some (.bool b, m)
theorem SemE.isi (hC : C.Ok) {x y : Str} {px py pos : Pos} {e : Expr} {r : RE} {T : String} {k : V -> Option Bool} (hv : Stands C f (.Name x px) (.builtin "isinstance")) (hy : Stands C f (.Name y py) (.type T)) (h1 : SemE C n f e r)
    (hk : ∀ A E ρ mh s v v' b, Sh C s -> SSt C ρ mh s -> ValIs ρ s.heap v' v -> k v = some b -> wpAny (model C.prog C.w) A (PySem.call (.builtin "isinstance") [v', .type T]) (PE C ρ mh s.heap mh (.bool b)) E s) (hp : plainE e = true := by rfl) :
    SemE C n f (.Call (.Name x px) [e, .Name y py] [] pos) (rIsi k r) := fun A E L loc ρ mh s v mh' hr F e' => by
  refine via fun P kP => bd_elim e' fun xv m er e1 => bo_elim e1 fun b hb w => kP ?_
  clear kP; refine some_elim w ?_
  have hn : plainE (Expr.Name y py) = true := rfl
  have hpl : [e, Expr.Name y py].all plainE = true := by simp [hp, hn]
  refine Call_ (hv A E L loc ρ mh s _ F (callWith_V Keepable.builtin (any_plain hpl) (head_plain hpl) (spliced_more (h1.use hr F er fun v' s₁ ρ₁ x₁ sh₁ S₁ F₁ d₁ => ?_) (star_plain hp))))
  refine spliced_more (hy A E L loc ρ₁ _ s₁ _ F₁ (spliced_nil ⟨fun a o e => S₁.keep a o (hC.X a o e), ?_⟩)) rfl
  exact wpAny_mono (hk A E ρ₁ _ s₁ _ _ _ sh₁ S₁ d₁ hb) (fun _ _ q => q.trans x₁) fun _ _ x => x
theorem isi_tuple (A : Around) (E : Value -> Shared -> Prop) (ρ : Rho) (mh : MH) (s : Shared) (v : V) (v' : Value) (b : Bool) (sh : Sh C s) (S : SSt C ρ mh s) (d : ValIs ρ s.heap v' v) (e : isT v = some b) :
    wpAny (model C.prog C.w) A (call (.builtin "isinstance") [v', .type "tuple"]) (PE C ρ mh s.heap mh (.bool b)) E s := by
  cases d with
  | tup ht hv =>
    cases e
    obtain ⟨o, ho, hc, _⟩ := ht
    exact IsiPair.tuple_tuple ho hc (PE.same sh S (.bool _))
  | int i t => cases e; exact IsiPair.int_tuple (PE.tok sh S (.bool _))
  | str x t hx => cases e; exact IsiPair.str_tuple (PE.tok sh S (.bool _))
  | _ => cases e
theorem isi_str (A : Around) (E : Value -> Shared -> Prop) (ρ : Rho) (mh : MH) (s : Shared) (v : V) (v' : Value) (b : Bool) (sh : Sh C s) (S : SSt C ρ mh s) (d : ValIs ρ s.heap v' v) (e : isS v = some b) :
    wpAny (model C.prog C.w) A (call (.builtin "isinstance") [v', .type "str"]) (PE C ρ mh s.heap mh (.bool b)) E s := by
  cases d with
  | tup ht hv =>
    cases e
    obtain ⟨o, ho, hc, _⟩ := ht
    exact IsiPair.tuple_str ho hc (PE.tok sh S (.bool _))
  | int i t => cases e; exact IsiPair.int_str (PE.tok sh S (.bool _))
  | str x t hx => cases e; exact IsiPair.str_str (PE.same sh S (.bool _))
  | _ => cases e
noncomputable def gMax : ON := on2 fun a b mh => vint a fun a => vint b fun b => some (.int (if b > a then b else a), mh)
noncomputable def gList : ON := on1 fun a mh => vref a fun i => oL mh i fun vs => gd (vs.length <= 1000) (some (.ref mh.length, mkO mh (.list vs)))
noncomputable def gTuple : ON := on1 fun a mh => vref a fun i => oL mh i fun vs => gd (vs.length <= 1000) (some (.tup vs, mh))
theorem SemF.tuple : SemF C n (.type "tuple") gTuple := fun A E ρ mh s as as' v mh' hr sh S d e => by
  refine via fun P kP => on1_elim e fun a ea e1 => vref_elim e1 fun i ei e2 => oL_elim e2 fun vs hm e3 => gd_elim e3 fun hz w => ?_
  clear e e1 e2 e3; subst ea ei
  refine d.oneE fun a' ea da => da.refE fun p ep hp => kP ?_
  clear kP; subst ep; subst ea; refine some_elim w ?_
  obtain ⟨_, items, k, ho, hv⟩ := S.obj i p _ hp hm
  refine call_tuple_list (listAt_isList ho) (fun h' hk => ?_) (by rw [List.size_toArray, hv.length]; exact line1000 hz)
  have g := S.grow (h' := h'.push { cls := .type "tuple", data := .seq items.toArray }) fun b o e => push_keeps _ _ b o (hk b o e)
  exact ⟨ρ, g.2, sh, g.1, .tup ⟨_, Heap.get?_push_size _ rfl, rfl, _, rfl⟩ (hv.mono (g.2.tup S) (.refl ρ))⟩
noncomputable def memD (mh : MH) (a b : V) : Option Bool := vref b fun i => match ob mh i with
    | some (.list vs) => gd (vs.all (V.pl 7) = true /\ a.pl 8 = true) (some (vs.any fun y => V.beq y a))
    | some (.dictI kvs) => vint a fun k => some (getA k kvs).isSome
    | _ => none
theorem memD_elim {mh : MH} {a b : V} {x : Bool} {P : Prop} (h : memD mh a b = some x) (k1 : ∀ i vs, b = .ref i -> ob mh i = some (.list vs) -> vs.all (V.pl 7) = true /\ a.pl 8 = true -> x = (vs.any fun y => V.beq y a) -> P) (k2 : ∀ i k kvs, b = .ref i -> ob mh i = some (.dictI kvs) -> a = .int k -> x = (getA k kvs).isSome -> P) : P := by
  refine vref_elim h fun i ei h => ?_
  cases e : ob mh i with
  | none => rw [e] at h; exact no_some h
  | some o =>
    rw [e] at h
    cases o with
    | list vs => exact gd_elim h fun hh w => k1 i vs ei e hh (Option.some.inj w).symm
    | dictI kvs => exact vint_elim h fun k ek w => k2 i k kvs ei e ek (Option.some.inj w).symm
    | _ => exact no_some h
noncomputable def gIn : O2 := fun a b mh => bo (memD mh a b) fun x => some (.bool x, mh)
noncomputable def gNotIn : O2 := fun a b mh => bo (memD mh a b) fun x => some (.bool (!x), mh)
theorem pl_up (n : Nat) : ∀ (m : Nat) (a : V), n <= m -> a.pl n = true -> a.pl m = true := by
  induction n with
  | zero =>
    intro m a h e
    cases a with
    | bool => exact V.pl_bool e
    | ref => exact V.pl_ref e
    | tup => exact V.pl_tupE e fun m e _ => by cases e
    | _ => cases m <;> rfl
  | succ n ih =>
    intro m a h e
    cases a with
    | bool => exact V.pl_bool e
    | ref => exact V.pl_ref e
    | tup l =>
      refine V.pl_tupE e fun k ek hl => ?_
      cases ek
      cases m with
      | zero => exact absurd h (Nat.not_succ_le_zero _)
      | succ m => exact V.pl_tup fun x hx => ih m x (Nat.le_of_succ_le_succ h) (hl x hx)
    | _ => cases m <;> rfl
theorem anyP {vs : List V} {a : V} (h1 : ∀ y ∈ vs, V.pl 7 y = true) (h2 : a.pl 8 = true) : ((V.toPs vs).any fun y => PyData.eqv y a.toP) = vs.any fun y => V.beq y a := by
  induction vs with
  | nil => rfl
  | cons y r ih =>
    rw [V.toPs, List.any_cons, List.any_cons, ih fun z hz => h1 z (.tail _ hz), toP_eqv 8 y a (pl_up 7 8 y (by omega) (h1 y (.head _))) h2]
theorem mem_list {a : V} {a' : Value} {i : Nat} {vs : List V} {p : Addr × Addr} (S : SSt C ρ mh s) (hp : ρ[i]? = some p) (hm : ob mh i = some (.list vs)) (d : ValIs ρ s.heap a' a) (h1 : vs.all (V.pl 7) = true) (h2 : a.pl 8 = true) :
    ∃ as bs, Reads s.heap (.ref p.1) (.list (V.toPs vs)) as /\ Reads s.heap a' a.toP bs /\ PyData.canLayAll0 (V.toPs vs) = true /\ a.toP.canLay0 = true /\ a.toP.depth <= 8 := by
  obtain ⟨_, items, k, ho, hv⟩ := S.obj i p _ hp hm
  obtain ⟨⟨as, q⟩, q2, q3⟩ := hv.reads 7 (by simpa using h1)
  obtain ⟨⟨bs, r⟩, r2, r3⟩ := d.reads 8 h2
  exact ⟨_, bs, reads_list_at ho rfl rfl (by simpa using q), r, q2, r2, r3⟩
theorem mem_some {kvs : List (Int × V)} {ms : List (Int × Value)} {k : Int} (hv : PairsAre id ρ s.heap ms kvs) : (getA k ms).isSome = (getA k kvs).isSome := by
  rcases hv.get (fun _ _ e => e) k with ⟨z, z2⟩ | ⟨y, y', h1, h2, dy⟩
  . rw [z, show getA k ms = none from z2]; rfl
  . rw [h1, show getA k ms = some y' from h2]; rfl
theorem Op2.in : Op2 C n (compareOp .In) gIn := fun A E ρ mh s a b a' b' v mh' hr sh S da db e => by
  refine via fun P kP => bo_elim e fun x hx w => memD_elim hx (fun i vs ei hm hh ex => ?_) fun i k kvs ei hm ek ex => ?_
  . subst ei
    refine db.refE fun p ep hp => kP ?_
    clear kP; subst ep; refine some_elim w ?_
    obtain ⟨as, bs, ra, rb, c1, c2, c3⟩ := mem_list S hp hm da hh.1 hh.2
    refine SeqAt.in_list_reads ra rb c1 c2 ?_ ?_
    . have := Nat.min_le_right (PyData.depthAll (V.toPs vs)) a.toP.depth
      have := hr.2.1
      omega
    . rw [anyP (by simpa using hh.1) hh.2, ex]; exact PE.same sh S (.bool _)
  . subst ei ek
    refine db.refE fun p ep hp => da.intE fun tk et => kP ?_
    clear kP; subst ep et; refine some_elim w ?_
    obtain ⟨_, lo, ms, hd, hv⟩ := S.obj i p _ hp hm
    refine wpAny_in_of (intKind_is C.prog C.w k tk) (ge_low lo) hd.mapOf ?_
    rw [valueAt_getA, mem_some hv, ex]
    exact PE.tok sh S (.bool _)
theorem Op2.notIn : Op2 C n (compareOp .NotIn) gNotIn := fun A E ρ mh s a b a' b' v mh' hr sh S da db e => by
  refine via fun P kP => bo_elim e fun x hx w => memD_elim hx (fun i vs ei hm hh ex => ?_) fun i k kvs ei hm ek ex => ?_
  . subst ei
    refine db.refE fun p ep hp => kP ?_
    clear kP; subst ep; refine some_elim w ?_
    obtain ⟨as, bs, ra, rb, c1, c2, c3⟩ := mem_list S hp hm da hh.1 hh.2
    refine SeqAt.notIn_list_reads ra rb c1 c2 ?_ ?_
    . have := Nat.min_le_right (PyData.depthAll (V.toPs vs)) a.toP.depth
      have := hr.2.1
      omega
    . rw [anyP (by simpa using hh.1) hh.2, ex]; exact PE.same sh S (.bool _)
  . subst ei ek
    refine db.refE fun p ep hp => da.intE fun tk et => kP ?_
    clear kP; subst ep et; refine some_elim w ?_
    obtain ⟨_, lo, ms, hd, hv⟩ := S.obj i p _ hp hm
    refine wpAny_notIn_of (intKind_is C.prog C.w k tk) (ge_low lo) hd.mapOf ?_
    rw [valueAt_getA, mem_some hv, ex]
    exact PE.tok sh S (.bool _)
noncomputable def rSet2 (i j : Nat) (r q : RE) : RS := fun loc mh => bd (r loc mh) fun a m1 => bd (q loc m1) fun b m2 => some (.next ((loc.set j (some b)).set i (some a)) m2)
theorem SemS1.pair {x y : Str} {px py tp vp pos : Pos} {k1 k2 : Nat} {a b : Expr} {r q : RE} (i j : Nat) (hi : f.at x i = true) (hj : f.at y j = true) (h1 : SemE C n f a r) (h2 : SemE C n f b q)
    (hpa : plainE a = true := by rfl) (hpb : plainE b = true := by rfl)
    (hs : ∀ L, swapsWithSole [.Tuple [.Name x px, .Name y py] k1 tp] (.Tuple [a, b] k2 vp) pos.line (f.env L) = pure false := by intro _; rfl)
    (hw : ∀ L, swappedStores [.Tuple [.Name x px, .Name y py] k1 tp] (.Tuple [a, b] k2 vp) (f.env L) = pure (some [x, y]) := by intro _; rfl) :
    SemS1 C n f (.Assign [.Tuple [.Name x px, .Name y py] k1 tp] (.Tuple [a, b] k2 vp) pos) (rSet2 i j r q) := fun A E L loc ρ mh s x' hr F e => by
  obtain ⟨_, hL⟩ := F.there
  refine via fun P kP => bd_elim e fun av m1 e1 e3 => bd_elim e3 fun bv m2 e2 w => kP ?_
  clear kP; clear e e3; refine one_elim w ?_
  have ht : SemE C n f (.Tuple [a, b] k2 vp) (rTup (rCons r (rCons q rNil))) := SemE.tup (SemEs.cons h1 (SemEs.cons h2 SemEs.nil fun _ => star_plain hpb) fun _ => star_plain hpa) (by show 2 <= 1000; decide)
  refine Assign_Tuple_swapped (ht.use (v := .tup [av, bv]) (m₁ := m2) hr F (by simp only [rTup, rCons, rNil, bd, e1, e2]) fun t' s₁ ρ₁ x₁ sh₁ S₁ F₁ d₁ => ?_) (hs L) (hw L)
  refine via fun P kP => d₁.tupE fun ta items et ht hv => hv.twoE fun a' b' ei da db => kP ?_
  clear kP; subst et ei
  refine wpAny_unpackItems_tuple (items := [a', b'].toArray) hr.2.2 ht fun h' hx => ?_
  have keep : ∀ b o, s₁.heap.get? b = some o -> h'.get? b = some o := fun b o e => hx b o (Nat.ne_of_lt (Heap.lt_size e)) e
  have g := S₁.grow keep
  have F' : Fra C f L loc ρ₁ m2 { s₁ with heap := h' } := F₁.ext (s' := { s₁ with heap := h' }) g.2 sh₁ g.1
  refine wpAny_assignInOrder_more (wpAny_mono (wpAny_bindName (store_V hj F' (db.ext S₁ g.2))) (fun _ s₂ p => ?_) fun _ _ x => x)
  refine wpAny_assignInOrder_more (wpAny_mono (wpAny_bindName (store_V hi p.2 ((da.ext S₁ g.2).mono (F'.tup p.1) p.1.pre))) (fun _ s₃ q => ?_) fun _ _ x => x)
  exact wpAny_assignInOrder_none ⟨ρ₁, _, ((x₁.trans g.2).weaken hL).trans (p.1.trans q.1), q.2.sh, rfl, q.2⟩
end
end Mini
namespace Mini
section
variable {C : Cx} {n : Nat} {f : Fn} {A : Around} {E : Value -> Shared -> Prop} {ρ ρ' : Rho} {mh mh' : MH} {s s' : Shared} {v : V} {v' : Value} {h h' : Heap} {L : Fid} {loc loc' : Loc}
noncomputable abbrev Fn.comp (f : Fn) (L : Fid) (scope : Scope) : Fn where
  scope := relabel scope (f.env L)
  env p := compEnvC scope p.cs p.L (f.env L)
  hs _ := rfl
  hl _ := rfl
  hg _ := f.hg L
  hb _ := f.hb L
  hc _ := rfl
noncomputable def rCompLoop (i : Nat) (t : RT) (e : RE) (chk : MH -> Bool) : List V -> Loc -> MH -> Option (List V × MH)
  | [], loc, mh => if chk mh = true then some ([], mh) else none
  | v :: vs, loc, mh => if chk mh = true then (match t (loc.set i (some v)) mh with
    | some (true, m) => (match e (loc.set i (some v)) m with
      | some (y, m') => (match rCompLoop i t e chk vs (loc.set i (some v)) m' with
        | some (ys, m'') => some (y :: ys, m'')
        | none => none)
      | none => none)
    | some (false, m) => rCompLoop i t e chk vs (loc.set i (some v)) m
    | none => none) else none
noncomputable def rComp (r : RI) (lc : Loc -> Loc) (i : Nat) (t : RT) (e : RE) : RE := fun loc mh => match r loc mh with
  | some (vs, m, chk) => if vs.length <= 1000 then (match rCompLoop i t e chk vs (lc loc) m with
    | some (ys, m') => some (.ref m'.length, mkO m' (.list ys))
    | none => none) else none
  | none => none
noncomputable def SemIfs (C : Cx) (n : Nat) (f : Fn) (ifs : List Expr) (t : RT) : Prop :=
  ∀ A E L loc ρ mh s b mh', Room n A -> Fra C f L loc ρ mh s -> t loc mh = some (b, mh') ->
    wpAny (model C.prog C.w) A (forIn ifs true fun c r => if r = true then do let ok <- isTrue c (f.env L) (eval c (f.env L)); pure (ForInStep.yield ok) else pure (ForInStep.yield r)) (PT C ρ mh s.heap mh' b) E s
theorem SemIfs.one {c : Expr} {t : RT} (h : SemT C n f c t) : SemIfs C n f [c] t := fun A E L loc ρ mh s b mh' hr F e => by
  rw [List.forIn_cons]
  rw [if_pos rfl]
  refine wpAny_bind (wpAny_bind (wpAny_mono (h A E L loc ρ mh s b mh' hr F e) (fun ok s₁ p => wpAny_pure ?_) fun _ _ x => x))
  show wpAny _ A (forIn [] ok _) _ E s₁
  exact wpAny_pure p
theorem St.adopt (S : St C.prog C.w C.B ρ mh h) {D : Addr} {o : MObj} (n1 : ¬ Own ρ D) (nB : C.B.get? D = none) (ho : ObjIs C.prog C.w (ρ ++ [(D, D)]) h (D, D) o) :
    St C.prog C.w C.B (ρ ++ [(D, D)]) (mkO mh o) h /\ (ρ ++ [(D, D)])[mh.length]? = some (D, D) := by
  have own' : ∀ b, Own (ρ ++ [(D, D)]) b -> Own ρ b \/ b = D := by
    rintro b ⟨q, hq, e⟩
    rcases List.mem_append.mp hq with z | z
    . exact .inl ⟨q, z, e⟩
    . rw [List.mem_singleton.mp z] at e; exact .inr (e.elim id id)
  have notold : ∀ (i : Nat) (q : Addr × Addr), ρ[i]? = some q -> q.1 ≠ D /\ q.2 ≠ D := fun i q e =>
    ⟨fun z => n1 ⟨q, List.mem_of_getElem? e, .inl z.symm⟩, fun z => n1 ⟨q, List.mem_of_getElem? e, .inr z.symm⟩⟩
  have idx : ∀ (i : Nat) (q : Addr × Addr), (ρ ++ [(D, D)])[i]? = some q -> ρ[i]? = some q \/ (i = ρ.length /\ q = (D, D)) := fun i q e => by
    by_cases z : i < ρ.length
    . rw [List.getElem?_append_left z] at e; exact .inl e
    . rw [List.getElem?_append_right (by omega)] at e
      have : i - ρ.length = 0 := by
        have := (List.getElem?_eq_some_iff.mp e).1
        simp at this; omega
      rw [this] at e
      simp at e
      exact .inr ⟨by omega, e.symm⟩
  refine ⟨⟨S.keep, by simp [mkO, S.len], fun i j q r hi hj ne => ?_, fun b o => ?_, fun i q m hi hm => ?_⟩, ?_⟩
  . rcases idx i q hi with hi' | ⟨hi', rfl⟩
    . rcases idx j r hj with hj' | ⟨hj', rfl⟩
      . exact S.apart i j q r hi' hj' ne
      . have := notold i q hi'; exact ⟨this.1, this.1, this.2, this.2⟩
    . rcases idx j r hj with hj' | ⟨hj', rfl⟩
      . have := notold j r hj'; exact ⟨Ne.symm this.1, Ne.symm this.2, Ne.symm this.1, Ne.symm this.2⟩
      . omega
  . rcases own' b o with z | z
    . exact S.new b z
    . rw [z]; exact nB
  . rcases idx i q hi with hi' | ⟨hi', rfl⟩
    . obtain ⟨m', hm'⟩ := S.mh_of hi'
      have : m' = m := by rw [ob_mk o hm'] at hm; exact Option.some.inj hm
      subst this
      exact (S.obj i q m' hi' hm').mono (fun _ _ e _ _ => e) (.append _ _) (fun _ e => e) fun _ e => e
    . subst hi'
      rw [S.len, ob_mk_new] at hm
      cases hm; exact ho
  . rw [List.getElem?_append_right (by rw [S.len]; exact Nat.le_refl _), S.len]; simp
inductive CI (C : Cx) (g : Fn) (p : Fid) (At : Rho -> MH -> Heap -> Nat -> Prop) (I D : Addr) (ρ₂ : Rho) (m₂ : MH) (h₂ : Heap) (vs : List V) (i : Nat) (t : RT) (e : RE) (chk : MH -> Bool) (m' : MH) (ys : List V) (k : Nat) (s : Shared) : Prop where
  | mk (j : Nat) (loc : Loc) (ρ : Rho) (mh : MH) (ys₁ : List V) (ys' : List Value) (zs : List V) (kk : Nat) (ek : k = vs.length - j) (hj : j <= vs.length) (F : Fra C g p loc ρ mh s) (a : At ρ mh s.heap j) (oI : ¬ Own ρ I) (oD : ¬ Own ρ D)
      (hD : s.heap.get? D = some (W.listOf ys'.toArray kk)) (dv : ValsAre ρ s.heap ys' ys₁) (hl : ys₁.length <= j) (x : Ext [p.L, I, D] ρ₂ m₂ h₂ ρ mh s.heap) (el : rCompLoop i t e chk (vs.drop j) loc mh = some (zs, m')) (ez : ys = ys₁ ++ zs)
theorem rCompLoop_chk {i : Nat} {t : RT} {e : RE} {chk : MH -> Bool} {vs : List V} {loc : Loc} {mh : MH} {y : List V × MH} (h : rCompLoop i t e chk vs loc mh = some y) : chk mh = true := by
  cases vs <;> (unfold rCompLoop at h; split at h; assumption; cases h)
theorem rCompLoop_nil {i : Nat} {t : RT} {e : RE} {chk : MH -> Bool} {loc : Loc} {mh m' : MH} {zs : List V} (h : rCompLoop i t e chk [] loc mh = some (zs, m')) : zs = [] /\ m' = mh := by
  have hc := rCompLoop_chk h
  unfold rCompLoop at h; rw [if_pos hc] at h; cases h; exact ⟨rfl, rfl⟩
theorem rCompLoop_cons {i : Nat} {t : RT} {e : RE} {chk : MH -> Bool} {v : V} {vs : List V} {loc : Loc} {mh m' : MH} {zs : List V} (h : rCompLoop i t e chk (v :: vs) loc mh = some (zs, m')) {P : Prop}
    (k1 : ∀ m5 yv m6 zs2, t (loc.set i (some v)) mh = some (true, m5) -> e (loc.set i (some v)) m5 = some (yv, m6) -> rCompLoop i t e chk vs (loc.set i (some v)) m6 = some (zs2, m') -> zs = yv :: zs2 -> P)
    (k2 : ∀ m5, t (loc.set i (some v)) mh = some (false, m5) -> rCompLoop i t e chk vs (loc.set i (some v)) m5 = some (zs, m') -> P) : P := by
  have hc := rCompLoop_chk h
  unfold rCompLoop at h; rw [if_pos hc] at h
  split at h
  . rename_i m5 et
    split at h
    . rename_i yv m6 ee
      split at h
      . rename_i zs2 m7 elr
        cases h; exact k1 _ _ _ _ et ee elr rfl
      . exact no_some h
    . exact no_some h
  . rename_i m5 et; exact k2 _ et h
  . exact no_some h
noncomputable def CT (C : Cx) (A : Around) (env : Env) (elt : Expr) (x : Str) (px : Pos) (ifs : List Expr) (D : Addr) (R0 J : Shared -> Prop) (E : Value -> Shared -> Prop) (r : Option Value) (s₁ : Shared) : Prop := match r with
  | none => R0 s₁
  | some v => wpAny (model C.prog C.w) A (assign (.Name x px) env v) (fun _ s₂ =>
      wpAny (model C.prog C.w) A (forIn ifs true fun c r => if r = true then do let ok <- isTrue c env (eval c env); pure (ForInStep.yield ok) else pure (ForInStep.yield r)) (fun ok s₃ =>
        if ok = true then wpAny (model C.prog C.w) A (eval elt env) (fun x s₄ => wpAny (model C.prog C.w) A (call (.builtin "list.append") [.ref D, x]) (fun _ s₅ => J s₅) E s₄) E s₃ else J s₃) E s₂) E s₁
theorem comp_loop {g : Env} {elt iter : Expr} {x : Str} {px pos : Pos} {ifs : List Expr} {scope : Scope} {it : Value} {D : Addr} {R : Result -> Shared -> Prop} (I : Nat -> Shared -> Prop)
    (turn : ∀ (E : Value -> Shared -> Prop) n s, I n s -> wpAny (model C.prog C.w) A (pyNext it) (CT C A g elt x px ifs D (R (.ok .next)) (fun s => ∃ m, m < n /\ I m s) E) E s) (n : Nat) (h : I n s) :
    codeAny (model C.prog C.w) A (.compLoop (.ListComp elt [⟨.Name x px, iter, ifs, 0⟩] scope pos) 0 it (.ref D) g) R s :=
  codeAny_compLoop_tests I (fun n s h => wpAny_mono (turn _ n s h) (fun r s h => by cases r <;> exact h) fun _ _ x => x) n h (by intro v; rfl)
section
variable {g : Fn} {p : Fid} {At : Rho -> MH -> Heap -> Nat -> Prop} {I D : Addr} {ρ₂ : Rho} {m₂ : MH} {h₂ : Heap} {vs : List V} {i : Nat} {t : RT} {e : RE} {chk : MH -> Bool} {m' : MH} {ys : List V} {k : Nat} {elt : Expr} {x : Str} {px : Pos} {ifs : List Expr} {R0 : Shared -> Prop}
theorem comp_kept (oI : ¬ Own ρ I) (oD : ¬ Own ρ D) (x : Ext [p.L, I, D] ρ₂ m₂ h₂ ρ mh h) (hI : ∃ o, h.get? I = some o) (hD : ∃ o, h.get? D = some o) (hL : ∃ o, h.get? p.L = some o) (nC : h₂.get? p.L = none) (nD : h₂.get? D = none)
    (y : Ext [D] ρ mh h ρ' mh' h') : Ext [p.L, I, D] ρ₂ m₂ h₂ ρ' mh' h' := by
  have x3 : ∀ b, b ∉ [p.L, I, D] -> b ∉ [D] := fun b m z => m (by simp at z; simp [z])
  refine ⟨fun i q e => y.pre i q (x.pre i q e), fun b o => ?_, fun b o e no nm => ?_, x.stays.trans x.pre y.stays⟩
  . refine (y.fresh b o).elim (fun z => x.fresh b z) fun z => ?_
    have old : ∀ {c : Addr}, (∃ o, h.get? c = some o) -> b ≠ c := fun ⟨_, w⟩ q => by rw [<- q, z.1] at w; cases w
    have nm : b ∉ [p.L, I, D] := by simp [old hI, old hD, old hL]
    cases q : h₂.get? b with
    | none => exact .inr ⟨rfl, nm⟩
    | some ob =>
      by_cases w : Own ρ₂ b
      . exact .inl w
      . have := x.kept b ob q w nm
        rw [this] at z; cases z.1
  . refine y.kept b o (x.kept b o e no nm) (fun z => ?_) (x3 b nm)
    rcases x.fresh b z with z | z
    . exact no z
    . rw [e] at z; cases z.1
theorem comp_turn (KW : Wk C n chk I vs At) (hr : Room n A) (hx : g.at x i = true) (hxl : g.scope.names.lookup x = some .local) (ht : SemIfs C n g ifs t) (he : SemE C n g elt e) (hvs : vs.length <= 1000)
    (hD : h₂.get? D = none) (nC : h₂.get? p.L = none) (bD : C.B.get? D = none) (bI : C.B.get? I = none) (hID : I ≠ D) (hIX : I ∉ p.X) (hDX : D ∉ p.X)
    (fin : ∀ loc ρ s ys' kk, Fra C g p loc ρ m' s -> ¬ Own ρ D -> s.heap.get? D = some (W.listOf ys'.toArray kk) -> ValsAre ρ s.heap ys' ys -> Ext [p.L, I, D] ρ₂ m₂ h₂ ρ m' s.heap -> R0 s)
    (c : CI C g p At I D ρ₂ m₂ h₂ vs i t e chk m' ys k s) : wpAny (model C.prog C.w) A (pyNext (.ref I)) (CT C A (g.env p) elt x px ifs D R0 (fun s => ∃ m, m < k /\ CI C g p At I D ρ₂ m₂ h₂ vs i t e chk m' ys m s) E) E s := by
  refine via fun P kP => ?_
  obtain ⟨j, loc₃, ρ₃, mh₃, ys₁, ys₁', zs, kk, ek, hj, F₃, at3, oI3, oD3, hD3, dv3, hl3, x₃, el3, ez⟩ := c
  obtain ⟨oIt, T, fs, hoI, hcI, hdI, hTI⟩ := KW.cls at3
  have hc := rCompLoop_chk el3
  have there : ∃ o, s.heap.get? p.L = some o := F₃.there.elim fun _ z => z _ (.head _)
  have tk34 : ∀ {s₄ : Shared}, (∀ b o, b ≠ I -> s.heap.get? b = some o -> s₄.heap.get? b = some o) -> TupKept s.heap s₄.heap := fun k4 b o ho hc hd => k4 b o (fun q => by subst q; rw [hoI] at ho; cases ho; obtain ⟨_, _, hd⟩ := hd; rw [hdI] at hd; cases hd) ho
  have ext34 : ∀ {s₄ : Shared}, (∀ b o, b ≠ I -> s.heap.get? b = some o -> s₄.heap.get? b = some o) -> Ext [p.L, I, D] ρ₂ m₂ h₂ ρ₃ mh₃ s₄.heap := fun k4 =>
    x₃.trans ⟨.refl _, fun b o => .inl o, fun b o e no nm => k4 b o (fun z => nm (by simp [z])) e, .grow fun b o z e => k4 b o (fun q => oI3 (q ▸ z)) e⟩
  cases hd : vs.drop j with
  | nil =>
    rw [hd] at el3
    have hv : vs[j]? = none := List.getElem?_eq_none_iff.mpr (List.drop_eq_nil_iff.mp hd)
    obtain ⟨z1, z2⟩ := rCompLoop_nil el3
    refine kP (wpAny_mono (KW.fin hr F₃.sh F₃.st at3 hc oI3 hv) (fun r s₄ q => ?_) fun _ _ x => x)
    obtain ⟨q, k4, sh₄⟩ := q
    have T4 := F₃.turned oI3 bI hIX hoI hdI k4 sh₄
    rw [q]
    refine fin loc₃ ρ₃ s₄ ys₁' kk (z2 ▸ T4.1) oD3 (k4 D _ (Ne.symm hID) hD3) ?_ (z2 ▸ ext34 k4)
    rw [ez, z1, List.append_nil]; exact dv3.mono (tk34 k4) (.refl _)
  | cons v rest =>
    rw [hd] at el3
    have hlt : j < vs.length := Nat.lt_of_not_le fun z => by rw [List.drop_eq_nil_of_le z] at hd; cases hd
    have hv : vs[j]? = some v := by rw [<- List.head?_drop, hd]; rfl
    have hrest : vs.drop (j + 1) = rest := by rw [<- List.tail_drop, hd]; rfl
    refine kP (wpAny_mono (KW.item hr F₃.sh F₃.st at3 hc oI3 hv) (fun r s₄ q => ?_) fun _ _ x => x)
    clear kP
    refine via fun P kP => ?_
    obtain ⟨v', er, k4, sh₄, d4, at4⟩ := q
    have T4 := F₃.turned oI3 bI hIX hoI hdI k4 sh₄
    have tk34 := tk34 k4
    have ext34 := ext34 k4
    have I4 := KW.cls at4
    have hD4 := k4 D _ (Ne.symm hID) hD3
    obtain ⟨_, there4⟩ := T4.1.there
    refine kP ?_; clear kP; rw [er]
    refine wpAny_mono (wpAny_assign_Name (store_L hx hxl T4.1 d4)) (fun _ s₅ q => ?_) fun _ _ x => x
    have x₅ := q.1
    have F₅ := q.2
    have tk45 := T4.1.tup (x₅.widen (fun z hz => by rw [List.mem_singleton.mp hz]; exact .head _) there4)
    have tk35 : TupKept s.heap s₅.heap := fun b o ho hc hd => tk45 b o (tk34 b o ho hc hd) hc hd
    have I5 : ∀ o, s₄.heap.get? I = some o -> s₅.heap.get? I = some o := fun o e => x₅.kept I o e oI3 fun z => hIX (by rw [List.mem_singleton.mp z]; exact .head _)
    have hD5 : s₅.heap.get? D = some (W.listOf ys₁'.toArray kk) := x₅.kept D _ hD4 oD3 fun z => hDX (by rw [List.mem_singleton.mp z]; exact .head _)
    have ext35 : Ext [p.L, I, D] ρ₂ m₂ h₂ ρ₃ mh₃ s₅.heap := ext34.trans ⟨.refl _, fun b o => .inl o, fun b o e no nm => x₅.kept b o e no fun z => nm (by rw [List.mem_singleton.mp z]; exact .head _), x₅.stays⟩
    have dv5 := dv3.mono tk35 (.refl _)
    have hI5 : ∃ o, s₅.heap.get? I = some o := I4.imp fun o z => I5 o (z.elim fun _ z => z.elim fun _ z => z.1)
    have hL5 : ∃ o, s₅.heap.get? p.L = some o := F₅.there.elim fun _ z => z _ (.head _)
    have on : ∀ {ρ₆ : Rho} {mh₆ : MH} {s₆ : Shared} {ys₂ : List V} {ys₂' : List Value} {kk₂ : Nat} {zs₂ : List V}, Ext [D] ρ₃ mh₃ s₅.heap ρ₆ mh₆ s₆.heap -> Fra C g p (loc₃.set i (some v)) ρ₆ mh₆ s₆ -> TupKept s₅.heap s₆.heap ->
        s₆.heap.get? D = some (W.listOf ys₂'.toArray kk₂) -> ValsAre ρ₆ s₆.heap ys₂' ys₂ -> ys₂.length <= j + 1 -> rCompLoop i t e chk rest (loc₃.set i (some v)) mh₆ = some (zs₂, m') -> ys = ys₂ ++ zs₂ ->
        ∃ m, m < k /\ CI C g p At I D ρ₂ m₂ h₂ vs i t e chk m' ys m s₆ := fun {ρ₆ mh₆ s₆ ys₂ ys₂' kk₂ zs₂} y F₆ tk hD6 dv6 hl6 e₆ hz => by
      have oI6 : ¬ Own ρ₆ I := fun z => (y.fresh I z).elim oI3 fun z => by obtain ⟨_, w⟩ := hI5; rw [z.1] at w; cases w
      have oD6 : ¬ Own ρ₆ D := fun z => (y.fresh D z).elim oD3 fun z => z.2 (by simp)
      exact ⟨vs.length - (j + 1), by omega, ⟨j + 1, _, ρ₆, mh₆, ys₂, ys₂', zs₂, kk₂, rfl, hlt, F₆, KW.frame at4 T4.1.st hc (rCompLoop_chk e₆) y.pre (x₅.stays.trans x₅.pre y.stays) (fun b o ho hc hd => tk b o (tk45 b o ho hc hd) hc hd) (fun o e => y.kept I o (I5 o e) oI3 (by simpa using hID)), oI6, oD6, hD6, dv6, hl6,
        comp_kept oI3 oD3 ext35 hI5 ⟨_, hD5⟩ hL5 nC hD y, by rw [hrest]; exact e₆, hz⟩⟩
    clear ext34 ext35 there4 there at3 dv3 hD3 hoI hD4 T4
    refine rCompLoop_cons el3 (fun m5 yv m6 zs2 et ee elr hz => ?_) fun m5 et elr => ?_
    . refine wpAny_mono (ht A _ p _ ρ₃ mh₃ s₅ _ _ hr F₅ et) (fun ok s₆ q => ?_) fun _ _ x => x
      obtain ⟨ρ₆, x₆, sh₆, S₆, q⟩ := q
      rw [q, if_pos rfl]
      refine he.use hr (F₅.ext x₆ sh₆ S₆) ee fun y' s₇ ρ₇ x₇ sh₇ S₇ F₇ d₇ => ?_
      have x57 := x₆.trans x₇
      have nD7 : ¬ Own ρ₇ D := fun z => (x57.fresh D z).elim oD3 fun z => by rw [hD5] at z; cases z.1
      have hD7 := x57.kept D _ hD5 oD3 (by simp)
      have dv7 : ValsAre ρ₇ s₇.heap ys₁' ys₁ := dv5.ext F₅.st x57
      refine append_at hD7 (fun h₈ hs₈ ho₈ => ?_) (by rw [List.size_toArray, dv7.length]; exact line1000 (by omega))
      have keep8 : ∀ b o, b ≠ D -> s₇.heap.get? b = some o -> h₈.get? b = some o := fun b o ne e => (hs₈.2 b ne).trans e
      have tk78 : TupKept s₇.heap h₈ := fun b o ho hc hd => keep8 b o (fun q => by subst q; rw [hD7] at ho; cases ho; have hc : Value.type "list" = Value.type "tuple" := hc; exact absurd hc (by decide)) ho
      have loc8 := F₇.st.local (h' := h₈) nD7 bD (fun o e => .inl (by rw [hD7] at e; cases e; show Value.type "list" ≠ Value.type "tuple"; decide)) keep8
      have F₈ : Fra C g p (loc₃.set i (some v)) ρ₇ m6 { s₇ with heap := h₈ } := by
        have kX : ∀ y ∈ p.X, ∀ o, s₇.heap.get? y = some o -> h₈.get? y = some o := fun y hy o e => keep8 y o (fun q => hDX (q ▸ hy)) e
        refine ⟨sh₇, loc8.1, ?_, F₇.nX, F₇.bX, fun c hc => ?_, F₇.cN, F₇.cS⟩
        . obtain ⟨mo, ⟨oL, es, ep, hoL, rL⟩, hlo⟩ := F₇.ns
          exact ⟨mo, ⟨oL, es, ep, kX _ (.head _) _ hoL, rL⟩, fun y j u hy hu => (hlo y j u hy hu).imp fun u' z => ⟨z.1.mono fun c hc => kX c (.tail _ hc), z.2.mono tk78 (.refl _)⟩⟩
        . obtain ⟨k1, w, o, ho, hd⟩ := F₇.cX c hc
          exact ⟨k1, w, o, kX c (.tail _ hc) o ho, hd⟩
      refine on (ys₂ := ys₁ ++ [yv]) (ys₂' := ys₁' ++ [y']) (kk₂ := kk + 1) (zs₂ := zs2) (x57.weaken (X := [D]) (fun z hz => by rw [List.mem_singleton.mp hz]; exact ⟨_, hD5⟩) |>.trans loc8.2) F₈ (fun b o ho hc hd => tk78 b o ((x57.tup F₅.st) b o ho hc hd) hc hd) (by rw [ho₈]; simp [W.listOf]) ((dv7.mono tk78 (.refl _)).append (.cons (d₇.mono tk78 (.refl _)) .nil)) (by simp; omega) elr (by rw [ez, hz]; simp)
    . refine wpAny_mono (ht A _ p _ ρ₃ mh₃ s₅ _ _ hr F₅ et) (fun ok s₆ q => ?_) fun _ _ x => x
      obtain ⟨ρ₆, x₆, sh₆, S₆, q⟩ := q
      rw [q, if_neg (by decide)]
      exact on (x₆.weaken (X := [D]) (fun z hz => by rw [List.mem_singleton.mp hz]; exact ⟨_, hD5⟩)) (F₅.ext x₆ sh₆ S₆) (x₆.tup F₅.st) (x₆.kept D _ hD5 oD3 (by simp)) (dv5.ext F₅.st x₆) (Nat.le_trans hl3 (Nat.le_succ _)) elr ez
theorem comp_end {s₂ s₄ : Shared} (S₂ : SSt C ρ₂ m₂ s₂) (x₂ : Ext [] ρ mh h ρ₂ m₂ s₂.heap) (hD : s₂.heap.get? D = none) (nC : s₂.heap.get? p.L = none) (hI : h.get? I = none) (bD : C.B.get? D = none) (hDC : D ≠ p.L) {ys' : List Value} {kk : Nat}
    (F : Fra C g p loc ρ' m' s₄) (oD : ¬ Own ρ' D) (hD4 : s₄.heap.get? D = some (W.listOf ys'.toArray kk)) (dv : ValsAre ρ' s₄.heap ys' ys) (x : Ext [p.L, I, D] ρ₂ m₂ s₂.heap ρ' m' s₄.heap) {h₅ : Heap} (hs₅ : Heap.SameBut p.L s₄.heap h₅) :
    PE C ρ mh h (mkO m' (.list ys)) (.ref m'.length) (.ref D) { s₄ with heap := h₅ } := by
  have keep5 : ∀ b o, b ≠ p.L -> s₄.heap.get? b = some o -> h₅.get? b = some o := fun b o ne e => (hs₅.2 b ne).trans e
  have loc5 := F.st.local (h' := h₅) (F.nX _ (.head _)) (F.bX _ (.head _)) (fun o e => .inr fun items q => F.noSeq (.head _) e items q) keep5
  have tk45 : TupKept s₄.heap h₅ := fun b o ho hc hd => keep5 b o (fun q => by subst q; obtain ⟨_, _, hd⟩ := hd; exact F.noSeq (.head _) ho _ _ hd) ho
  have ad := St.adopt loc5.1 (D := D) (o := .list ys) oD bD ⟨rfl, ys', kk, keep5 D _ hDC hD4, (dv.mono tk45 (.refl _)).mono (fun _ _ e _ _ => e) (.append _ _)⟩
  have none0 : ∀ {b : Addr}, s₂.heap.get? b = none -> h.get? b = none := fun {b} e => fresh_back (X := []) S₂ x₂ e
  refine ⟨ρ' ++ [(D, D)], ⟨fun i q e => Pre.append _ _ i q (x.pre i q (x₂.pre i q e)), fun b o => ?_, fun b o e no _ => ?_, ?_⟩, F.sh, ad.1, .ref (p := (D, D)) ad.2⟩
  . have : Own ρ' b \/ b = D := by
      obtain ⟨q, hq, e⟩ := o
      rcases List.mem_append.mp hq with z | z
      . exact .inl ⟨q, z, e⟩
      . rw [List.mem_singleton.mp z] at e; exact .inr (e.elim id id)
    rcases this with z | z
    . rcases x.fresh b z with z | z
      . exact x₂.fresh b z
      . exact .inr ⟨none0 z.1, by simp⟩
    . rw [z]; exact .inr ⟨none0 hD, by simp⟩
  . have e2 := x₂.kept b o e no (by simp)
    have ne : ∀ {c : Addr}, s₂.heap.get? c = none -> b ≠ c := fun w z => by rw [z, w] at e2; cases e2
    have nI : b ≠ I := fun z => by rw [z, hI] at e; cases e
    refine keep5 b o (ne nC) (x.kept b o e2 (fun z => ?_) (by simp [nI, ne hD, ne nC]))
    rcases x₂.fresh b z with z | z
    . exact no z
    . rw [e] at z; cases z.1
  . have st0 := x₂.stays.trans x₂.pre (x.stays.trans x.pre (.grow fun b o z e => keep5 b o (fun q => F.nX _ (.head _) (q ▸ z)) e))
    intro i o st e
    obtain ⟨o', st', e', le, k⟩ := st0 i o st e
    exact ⟨o', st', mk_get _ e', le, k⟩
end
@[elab_as_elim] theorem rComp_inv {r : RI} {lc : Loc -> Loc} {i : Nat} {t : RT} {e : RE} {loc : Loc} {mh : MH} {v : V} {mh' : MH} {P : V -> MH -> Prop} (er : rComp r lc i t e loc mh = some (v, mh'))
    (k : ∀ vs m₂ chk ys m', r loc mh = some (vs, m₂, chk) -> vs.length <= 1000 -> rCompLoop i t e chk vs (lc loc) m₂ = some (ys, m') -> P (.ref m'.length) (mkO m' (.list ys))) : P v mh' := by
  unfold rComp at er
  split at er
  . rename_i vs m₂ chk er1
    split at er
    . rename_i hlen
      split at er
      . rename_i ys m' el
        cases er; exact k _ _ _ _ _ er1 hlen el
      . exact no_some er
    . exact no_some er
  . exact no_some er
theorem comp_V {elt iter : Expr} {x : Str} {px pos : Pos} {ifs : List Expr} {scope : Scope} {r : RI} {lc : Loc -> Loc} {t : RT} {e : RE} (i : Nat) (clo : Fid -> List (Str × Addr))
    (hclos : ∀ L, (∀ y, f.scope.names.lookup y = some .cell -> ∃ c, L.cs.lookup y = some c) -> closureFor scope (f.env L) = pure (clo L))
    (hcell : scope.names.all (fun y => y.2 != .cell) = true) (hkind : scope.kind = .function) (hnames : scope.names.all (fun y => y.2 != .local || scope.names.lookup y.1 == some .local) = true)
    (hclo : ∀ L, (∀ y, f.scope.names.lookup y = some .cell -> ∃ c, L.cs.lookup y = some c) -> (L.cs.map (·.2)).Nodup -> (∀ c ∈ (clo L).map (·.2), c ∈ L.cs.map (·.2)) /\ ((clo L).map (·.2)).Nodup /\ ∀ y, (f.comp L scope).scope.names.lookup y = some .cell -> ∃ c, (clo L).lookup y = some c)
    (hlc : ∀ L loc y j v, (∀ y, f.scope.names.lookup y = some .cell -> ∃ c, L.cs.lookup y = some c) -> (f.comp L scope).ix y = some j -> (lc loc)[j]? = some (some v) -> (f.comp L scope).scope.names.lookup y = some .cell /\ f.scope.names.lookup y = some .cell /\ ∃ k, f.ix y = some k /\ loc[k]? = some (some v) /\ ∀ c, L.cs.lookup y = some c -> (clo L).lookup y = some c)
    (hi : SemIt C n f iter r) (hx : ∀ L, (f.comp L scope).at x i = true) (hxl : ∀ L, (f.comp L scope).scope.names.lookup x = some .local) (ht : ∀ L, SemIfs C n (f.comp L scope) ifs t) (he : ∀ L, SemE C n (f.comp L scope) elt e)
    (hs : ∀ L x, foldedSetIterable iter (f.env L) x = pure x := by intro _ _; rfl) :
    SemE C n f (.ListComp elt [⟨.Name x px, iter, ifs, 0⟩] scope pos) (rComp r lc i t e) := fun A E L loc ρ mh s v mh' hr F er => by
  refine rComp_inv er fun vs m₂ chk ys m' er1 hlen el => ?_
  rw [eval_ListComp]
  have hcl := hclos L F.cS
  obtain ⟨hc1, hc2, hc3⟩ := hclo L F.cS F.cN
  refine wpAny_comprehension_free (use := none) rfl (hs L) hcl hkind (fun y hy hl => by
    have := List.all_eq_true.mp hnames y hy
    rw [hl] at this
    simpa using this) (wpAny_mono (hi A E L loc ρ mh s vs m₂ chk hr F er1) (fun xv s₁ p => wpAny_mono p (fun it s₂ p => ?_) fun _ _ x => x) fun _ _ x => x)
  obtain ⟨I, At, ρ₂, rfl, KW, at0, x₂, sh₂, S₂, nI, oI, bI⟩ := p
  have F₂ := F.ext x₂ sh₂ S₂
  obtain ⟨_, there⟩ := F₂.there
  have hD := size_none s₂.heap
  refine wpAny_newObj_type (wpAny_newFunctionEnv (fun y hy => by have := List.all_eq_true.mp hcell y hy; simpa using this) (by intro y hy; simp at hy) (fun h₁ hns₁ hsb₁ => ?_) hkind)
  dsimp only at hns₁ hsb₁ ⊢
  generalize hH2 : s₂.heap.push { cls := .type "list", dict := none, data := .seq ([] : List Value).toArray } = H2 at hns₁ hsb₁ ⊢
  have hCs : H2.objs.size = s₂.heap.objs.size + 1 := by rw [<- hH2, Heap.size_push]
  have old : ∀ b o, s₂.heap.get? b = some o -> h₁.get? b = some o := fun b o e => hsb₁.extBut b o (fun q => by have lt := Heap.lt_size e; rw [q, hCs] at lt; exact absurd lt (Nat.not_lt.mpr (Nat.le_succ _))) (Heap.get?_push_of_some _ (hH2 ▸ Heap.get?_push_of_some _ e))
  have hDo : h₁.get? s₂.heap.objs.size = some (W.listOf ([] : List Value).toArray 0) := hsb₁.extBut _ _ (fun q => by have q : s₂.heap.objs.size = H2.objs.size := q; rw [hCs] at q; exact absurd q (by omega)) (Heap.get?_push_of_some _ (hH2 ▸ Heap.get?_push_size _ rfl))
  have nC : s₂.heap.get? H2.objs.size = none := by
    cases q : s₂.heap.get? H2.objs.size with
    | none => rfl
    | some o => have lt := Heap.lt_size q; rw [hCs] at lt; exact absurd lt (Nat.not_lt.mpr (Nat.le_succ _))
  generalize hDe : s₂.heap.objs.size = D at hD hDo hCs
  generalize hCe : H2.objs.size = Cx' at hns₁ hsb₁ nC hCs
  have hDC : D ≠ Cx' := by omega
  have g := S₂.grow old
  have notOwn : ∀ {b : Addr}, s₂.heap.get? b = none -> ¬ Own ρ₂ b := fun {b} e z => by obtain ⟨_, w⟩ := S₂.there z; rw [e] at w; cases w
  have notB : ∀ {b : Addr}, s₂.heap.get? b = none -> C.B.get? b = none := fun {b} e => by
    cases q : C.B.get? b with
    | none => rfl
    | some o => rw [S₂.keep _ _ q] at e; cases e
  obtain ⟨oI0, T0, fs0, hI0, _, hf0, _⟩ := KW.cls at0
  have hID : I ≠ D := fun z => by rw [z, hD] at hI0; cases hI0
  have hIC : I ≠ Cx' := fun z => by rw [z, nC] at hI0; cases hI0
  have F₁ : Fra C (f.comp L scope) ⟨Cx', clo L⟩ (lc loc) ρ₂ m₂ { s₂ with heap := h₁, toks := s₂.toks + ([] : List (Str × Value)).length } := by
    obtain ⟨mo, hno, hlo⟩ := F₂.ns
    refine ⟨sh₂, g.1, ⟨_, hns₁, fun y j u hy hu => ?_⟩, fun y hy => ?_, fun y hy => ?_, fun c hc => ?_, hc2, hc3⟩
    . obtain ⟨k1, k2, k, k3, k4, k5⟩ := hlc L loc y j u F.cS hy hu
      obtain ⟨u', H, d⟩ := hlo y k u k3 k4
      unfold Holds at H
      rw [if_pos k2] at H
      obtain ⟨c, hc, o, ho, hd⟩ := H
      refine ⟨u', ?_, d.ext S₂ g.2⟩
      unfold Holds
      rw [if_pos k1]
      exact ⟨c, k5 c hc, o, old _ _ ho, hd⟩
    . rcases List.mem_cons.mp hy with rfl | hy
      . exact notOwn nC
      . exact F₂.nX y (.tail _ (hc1 y hy))
    . rcases List.mem_cons.mp hy with rfl | hy
      . exact notB nC
      . exact F₂.bX y (.tail _ (hc1 y hy))
    . obtain ⟨_, w, o, ho, hd⟩ := F₂.cX c (hc1 c hc)
      exact ⟨(fun z => by rw [show c = Cx' from z, nC] at ho; cases ho), w, o, old _ _ ho, hd⟩
  have cellsD : D ∉ (clo L).map (·.2) := fun z => by
    obtain ⟨_, w, o, ho, hd⟩ := F₂.cX D (hc1 D z)
    rw [hD] at ho; cases ho
  have cellsI : I ∉ (clo L).map (·.2) := fun z => by
    obtain ⟨_, w, o, ho, hd⟩ := F₂.cX I (hc1 I z)
    rw [hI0] at ho; cases ho; rw [hf0] at hd; cases hd
  have at1 : At ρ₂ m₂ h₁ 0 := KW.frame at0 S₂ (rCompLoop_chk el) (rCompLoop_chk el) (.refl _) (.grow fun b o _ e => old b o e) (fun b o e _ _ => old b o e) (fun o e => old _ _ e)
  have loop : codeAny (model C.prog C.w) A (.compLoop (.ListComp elt [⟨.Name x px, iter, ifs, 0⟩] scope pos) 0 (.ref I) (.ref D) ((f.comp L scope).env ⟨Cx', clo L⟩))
      (compPost (model C.prog C.w) A E none (PE C ρ mh s.heap (mkO m' (.list ys)) (.ref m'.length)) (.ref D) Cx') { s₂ with heap := h₁, toks := s₂.toks + ([] : List (Str × Value)).length } :=
    comp_loop (CI C (f.comp L scope) ⟨Cx', clo L⟩ At I D ρ₂ m₂ s₂.heap vs i t e chk m' ys) (fun E' k s₃ c => comp_turn KW hr (hx L) (hxl L) (ht L) (he L) hlen hD nC (notB hD) bI hID
      (fun z => (List.mem_cons.mp z).elim hIC cellsI) (fun z => (List.mem_cons.mp z).elim hDC cellsD)
      (fun loc' ρ' s₄ ys' kk F oD hD4 dv x => F.ns.elim fun m z => ⟨m, z.1, fun h₅ hs₅ => comp_end (I := I) S₂ x₂ hD nC nI (notB hD) hDC F oD hD4 dv x hs₅⟩) c) vs.length
    ⟨0, lc loc, ρ₂, m₂, [], [], ys, 0, rfl, Nat.zero_le _, F₁, at1, oI, notOwn hD, hDo, .nil, Nat.le_refl _, ⟨.refl _, fun b o => .inl o, fun b o e n m => old b o e, .grow fun b o _ e => old b o e⟩, el, rfl⟩
  exact codeAny_compStart_list loop (KW.self (s := { s₂ with heap := h₁, toks := s₂.toks + ([] : List (Str × Value)).length }) at1 loop)
end
end Mini
namespace Mini
section
variable {C : Cx} {n : Nat} {f : Fn} {A : Around} {E : Value -> Shared -> Prop} {ρ ρ' : Rho} {mh mh' : MH} {s s' : Shared} {v : V} {v' : Value} {h h' : Heap} {L : Fid} {loc loc' : Loc}
theorem SemS1.continue {pos : Pos} : SemS1 C n f (.Continue pos) rCont := fun A E L loc ρ mh s x hr F e => by
  cases e
  exact wpAny_Continue ⟨ρ, mh, .refl _ _ _ _, F.sh, rfl, F⟩
noncomputable def gTail : O1 := fun a mh => vtup a fun l => gd (1 <= l.length /\ l.length <= 1000) (some (.tup (l.drop 1), mh))
theorem SemE.tail {o : Expr} {k : Nat} {pk p pos : Pos} {r : RE} (h1 : SemE C n f o r)
    (hs : ∀ x y, subscripted (.Slice (some (.Constant (.int 1) k pk)) Option.none Option.none p) false x y = operate [y, x] (getItem x y) := by intro _ _; with_unfolding_all rfl) :
    SemE C n f (.Subscript o (.Slice (some (.Constant (.int 1) k pk)) Option.none Option.none p) pos) (rOp1 r gTail) := fun A E L loc ρ mh s v mh' hr F e => by
  refine via fun P kP => bd_elim e fun a m ea q1 => vtup_elim q1 fun l el q2 => gd_elim q2 fun hl w => kP ?_
  clear kP q1 q2; subst el; refine some_elim w (Subscript_ (h1.use hr F ea fun a' s₁ ρ₁ x₁ sh₁ S₁ F₁ d₁ => d₁.tupE fun t items et hti hv => ?_))
  rw [et]
  refine wpAny_Slice ?_
  show wpAny _ _ (eval _ _) _ _ _
  refine wpAny_mkInt ?_
  show wpAny _ _ (pure Value.none) _ _ _
  refine wpAny_pure ?_
  show wpAny _ _ (pure Value.none) _ _ _
  refine wpAny_pure ?_
  generalize hs' : ({ s₁ with toks := _ } : Shared) = s₂
  have hh : s₂.heap = s₁.heap := by rw [<- hs']
  have hg : Sh C s₂ := by rw [<- hs']; exact sh₁
  have g1 := S₁.grow (push_keeps s₁.heap { cls := .type "slice", data := .fields #[.int 1 s₁.toks, .none, .none] })
  have ht1 : IsTup (s₁.heap.push { cls := .type "slice", data := .fields #[.int 1 s₁.toks, .none, .none] }) t items.toArray := hti.keeps (push_keeps _ _)
  have g2 := g1.1.grow (push_keeps (s₁.heap.push { cls := .type "slice", data := .fields #[.int 1 s₁.toks, .none, .none] }) { cls := .type "tuple", data := .seq (items.drop 1).toArray })
  have lens := hv.length
  rw [hh]
  refine tail_any ht1.typeIs slot_tuple_getitem.lookup (getItem_tuple_from (a := 1) ht1 (Heap.IsSliceOf.new ..) (by omega) (by rw [List.size_toArray]; omega) ⟨ρ₁, x₁.trans (g1.2.trans g2.2), hg, g2.1, ?_⟩ (by rw [List.size_toArray]; exact line1000 (by omega))) (hs _ _)
  exact .tup ⟨_, Heap.get?_push_size _ rfl, rfl, _, rfl⟩ ((hv.drop 1).mono ((g1.2.trans g2.2).tup S₁) (.refl _))
noncomputable def gCat : O2 := fun a b mh => vref a fun i => vref b fun j => oL mh i fun xs => oL mh j fun ys => gd (xs.length + ys.length <= 1000) (some (.ref mh.length, mkO mh (.list (xs ++ ys))))
theorem Op2.cat : Op2 C n (binaryOp .Add) gCat := fun A E ρ mh s a b a' b' v mh' hr sh S da db e => by
  refine via fun P kP => vref_elim e fun i ei q1 => vref_elim q1 fun j ej q2 => oL_elim q2 fun xs h1 q3 => oL_elim q3 fun ys h2 q4 => gd_elim q4 fun hl w => ?_
  clear e q1 q2 q3 q4; subst ei ej
  refine da.refE fun p ep hp => db.refE fun q eq hq => kP ?_
  clear kP; subst ep eq; refine some_elim w ?_
  obtain ⟨_, it1, m1, ho1, hv1⟩ := S.obj i p _ hp h1
  obtain ⟨_, it2, m2, ho2, hv2⟩ := S.obj j q _ hq h2
  have e1 : it1.toArray ++ it2.toArray = (it1 ++ it2).toArray := by simp
  have z := hv1.length
  have z2 := hv2.length
  obtain ⟨a1, b1, c1⟩ := St.newObj S (o := { cls := .type "list", data := .seq (it1 ++ it2).toArray }) (m := .list (xs ++ ys)) rfl fun ρ' p tk e => ⟨rfl, _, 0, e, (hv1.append hv2).mono tk p⟩
  refine concat_meets ⟨_, ho1, rfl⟩ ⟨_, ho2, rfl⟩ noFill_list_add seq_list_add PySem.F.slot_list_add PySem.F.entry_list_add (PySem.F.args_list_add_2 _ _) (list_addW p.1 q.1 it1.toArray it2.toArray m1 m2 none none _ _ (by simp only [List.size_toArray]; exact line1000 (by omega))) ⟨ho1, ho2, ?_⟩
  rw [e1]
  exact ⟨_, b1, sh, a1, c1⟩
end
end Mini
namespace Mini
noncomputable abbrev gLt : O2 := gI2 fun x y => some (.bool (decide (x < y)))
noncomputable abbrev gLe : O2 := gI2 fun x y => some (.bool (decide (x <= y)))
noncomputable abbrev gGt : O2 := gI2 fun x y => some (.bool (decide (y < x)))
noncomputable abbrev gGe : O2 := gI2 fun x y => some (.bool (decide (y <= x)))
noncomputable abbrev gAdd : O2 := gI2 fun x y => some (.int (x + y))
noncomputable abbrev gSub : O2 := gI2 fun x y => some (.int (x - y))
noncomputable abbrev gMul : O2 := gI2 fun x y => if -1000 < x /\ x < 1000 then some (.int (x * y)) else none
noncomputable abbrev gMod : O2 := gI2 fun x y => if 0 < y /\ y < 1000 then some (.int (x.fmod y)) else none
noncomputable abbrev gFdiv : O2 := gI2 fun x y => if 0 < y /\ y < 1000 then some (.int (x.fdiv y)) else none
noncomputable def rNever : RS := fun _ _ => none
section
variable {C : Cx} {n m : Nat} {f : Fn} {A : Around} {E : Value -> Shared -> Prop} {ρ ρ' : Rho} {mh mh' : MH} {s s' : Shared} {v : V} {v' : Value} {h h' : Heap} {L : Fid} {loc loc' : Loc}
theorem Room.up (h : Room m A) (hm : n <= m) : Room n A := by
  obtain ⟨h1, h2, h3⟩ := h
  exact ⟨by omega, by omega, h3⟩
theorem SemF.up {c : Value} {g : ON} (h : SemF C n c g) (hm : n <= m) : SemF C m c g := fun A E ρ mh s as as' v mh' hr sh S d e => h A E ρ mh s as as' v mh' (hr.up hm) sh S d e
theorem SemS1.never {st : Stmt} : SemS1 C n f st rNever := fun A E L loc ρ mh s x hr F e => by cases e
theorem SemEs.cP {e : Expr} {es : List Expr} {r : RE} {q : REs} (h1 : SemE C n f e r) (h2 : SemEs C n f es q) (hp : plainE e = true := by rfl) : SemEs C n f (e :: es) (rCons r q) :=
  SemEs.cons h1 h2 fun _ => star_plain hp
theorem SemE.neg {e : Expr} {pos : Pos} {r : RE} (h1 : SemE C n f e r) : SemE C n f (.UnaryOp .USub e pos) (rOp1 r gNeg) :=
  SemE.op1 h1 Op1.neg fun _ _ _ _ _ h => wpAny_UnaryOp h
theorem SemF.newF (hC : C.Ok) {c N fI : Addr} {g : ON} (hc : ClsK C c N) (hi : (nsIn C.K N (Str.ofString "__init__")).join = some (.ref fI)) (hf : (C.K.lookup fI).map (fun o => o.cls) = some (.type "function")) (hF : SemF C n (.ref fI) g) : SemF C (n + 1) (.ref c) (gNew c g) := by
  cases q : C.K.lookup fI with
  | none => rw [q] at hf; cases hf
  | some o => rw [q] at hf; exact SemF.new hC hc hi q (Option.some.inj hf) hF
theorem SemE.methF (hC : C.Ok) {c N fm : Addr} {o : Expr} {m : String} {apos pos : Pos} {es : List Expr} {r : RE} {q : REs} {g : ON} (hc : ClsK C c N) (hm : (nsIn C.K N (Str.ofString m)).join = some (.ref fm))
    (hf : (C.K.lookup fm).map (fun o => o.cls) = some (.type "function")) (hB : ∃ y, typeLookup (.type "object") (Str.ofString m) = pure y) (hk : keepIn C.K (.ref fm) = true) (h1 : SemE C n f o r) (ha : SemEs C n f es q) (hF : SemF C n (.ref fm) g)
    (hp : es.all plainE = true := by rfl)
    (he : ∀ L, ∃ pl, eval (.Call (.Attribute o (Str.ofString m) apos) es [] pos) (f.env L) = (do
      let ov <- eval o (f.env L)
      standAt apos.atName
      let (f', first) <- holding [ov] (getMethod ov (Str.ofString m) pl)
      callWith pos f' first (backTo pos (starEach es (f.env L))) []) := by intro _; exact ⟨_, rfl⟩) :
    SemE C n f (.Call (.Attribute o (Str.ofString m) apos) es [] pos) (rMeth c m r q g) := by
  cases q : C.K.lookup fm with
  | none => rw [q] at hf; cases hf
  | some o' => rw [q] at hf; exact SemE.meth hC hc hm q (Option.some.inj hf) hB hk h1 ha hF hp he
noncomputable def lcNone : Loc -> Loc := fun _ => [none, none]
theorem clos_none : ∀ {names : List (Str × NameKind)} {env : Env} {cs : List (Str × Addr)}, names.all (fun y => y.2 != .free) = true ->
    (forIn names cs fun x cs => (do if x.2 == .free then (do let a <- cellOf env x.1; pure (ForInStep.yield ((x.1, a) :: cs))) else pure (ForInStep.yield cs) : Sem _)) = pure cs
  | [], _, _, _ => rfl
  | (a, k) :: r, env, cs, h => by
    rw [List.all_cons, Bool.and_eq_true] at h
    rw [List.forIn_cons]
    have : (k == NameKind.free) = false := by have := h.1; simpa using this
    simp only [this, Bool.false_eq_true, if_false, pure_bind]
    exact clos_none h.2
theorem closureFor_none {scope : Scope} {env : Env} (h : scope.names.all (fun y => y.2 != .free) = true) : closureFor scope env = pure [] := by
  have := clos_none (env := env) (cs := []) h
  unfold closureFor
  simp only [bind_pure_comp] at this ⊢
  exact (bind_pure _).trans this
theorem comp_none {elt iter : Expr} {x : Str} {px pos : Pos} {ifs : List Expr} {scope : Scope} {r : RI} {t : RT} {e : RE}
    (hf : scope.names.all (fun y => y.2 != .free) = true) (hcell : scope.names.all (fun y => y.2 != .cell) = true)
    (hnames : scope.names.all (fun y => y.2 != .local || scope.names.lookup y.1 == some .local) = true) (hkind : scope.kind = .function)
    (hi : SemIt C n f iter r) (hx : ∀ L, (f.comp L scope).at x 1 = true) (hxl : ∀ L, (f.comp L scope).scope.names.lookup x = some .local) (ht : ∀ L, SemIfs C n (f.comp L scope) ifs t) (he : ∀ L, SemE C n (f.comp L scope) elt e)
    (hs : ∀ L x, foldedSetIterable iter (f.env L) x = pure x := by intro _ _; rfl) :
    SemE C n f (.ListComp elt [⟨.Name x px, iter, ifs, 0⟩] scope pos) (rComp r lcNone 1 t e) := by
  refine comp_V 1 (fun _ => []) (fun L _ => closureFor_none hf) hcell hkind hnames (fun L _ _ => ⟨fun c hc => (nomatch hc), .nil, fun y hy => ?_⟩) (fun L loc y j v _ hy hv => ?_) hi hx hxl ht he hs
  . have h1 : ∀ p ∈ (relabel scope (f.env L)).names, p.2 ≠ .cell := by
      intro p hp
      unfold relabel at hp
      obtain ⟨q, hq, rfl⟩ := List.mem_map.mp hp
      have a1 := List.all_eq_true.mp hf q hq
      have a2 := List.all_eq_true.mp hcell q hq
      have a1' : (q.2 == NameKind.free) = false := by simpa using a1
      simp only [a1', Bool.false_and, Bool.false_eq_true, if_false]
      simpa using a2
    exact absurd rfl (h1 _ (lookup_mem hy))
  . unfold lcNone at hv
    match j with
    | 0 => cases hv
    | 1 => cases hv
    | j + 2 => simp at hv
end
end Mini
namespace Mini
noncomputable def occKey (c : Nat) (mh : MH) (v : V) : Option (Int × Int) := vref v fun i => oN mh i fun c' fs => gd (c' = c) (bo (getA "start" fs) fun a => vint a fun a => bo (getA "number" fs) fun b => vint b fun b => some (a, b))
theorem occKey_of {c i : Nat} {mh : MH} {fs : List (String × V)} {a b : Int} (h : ob mh i = some (.inst c fs)) (g1 : getA "start" fs = some (.int a)) (g2 : getA "number" fs = some (.int b)) : occKey c mh (.ref i) = some (a, b) := by
  show oN mh i _ = _
  delta oN; rw [h]
  show gd (c = c) _ = _
  delta gd; rw [if_pos rfl, g1]
  show bo (getA "number" fs) _ = _
  rw [g2]; rfl
theorem occKey_elim {c : Nat} {mh : MH} {v : V} {k : Int × Int} {P : Prop} (h : occKey c mh v = some k) (q : ∀ i fs, v = .ref i -> ob mh i = some (.inst c fs) -> getA "start" fs = some (.int k.1) -> getA "number" fs = some (.int k.2) -> P) : P :=
  vref_elim h fun i ei h => oN_elim h fun c' fs hm h => gd_elim h fun hc h => bo_elim h fun a ha h => vint_elim h fun a' ea h => bo_elim h fun b hb h => vint_elim h fun b' eb h => by
    cases h; subst hc ea eb; exact q i fs ei hm ha hb
noncomputable def ltK (a b : Int × Int) : Bool := decide (a.1 < b.1) || (decide (a.1 = b.1) && decide (a.2 < b.2))
noncomputable def insK (x : (Int × Int) × V) : List ((Int × Int) × V) -> List ((Int × Int) × V)
  | [] => [x]
  | y :: r => if ltK x.1 y.1 then x :: y :: r else y :: insK x r
noncomputable def sortK (l : List ((Int × Int) × V)) : List ((Int × Int) × V) := l.foldr insK []
noncomputable def keysOf (c : Nat) (mh : MH) : List V -> Option (List ((Int × Int) × V))
  | [] => some []
  | v :: r => bo (occKey c mh v) fun k => bo (keysOf c mh r) fun q => some ((k, v) :: q)
theorem keysOf_cons {c : Nat} {mh : MH} {v : V} {r : List V} {k : Int × Int} {q : List ((Int × Int) × V)} (h1 : occKey c mh v = some k) (h2 : keysOf c mh r = some q) : keysOf c mh (v :: r) = some ((k, v) :: q) := by
  show bo (occKey c mh v) _ = _
  rw [h1]
  show bo (keysOf c mh r) _ = _
  rw [h2]; rfl
noncomputable def tabNext (P : Nat) (l c : Int) (q : String) (mh : MH) : Option MH := match ob mh 0 with
  | some (.tab P' none) => if P' = P then some (putO (mkO mh (.code q)) 0 (.tab P (some (mh.length, l, c)))) else none
  | some (.tab P' (some (j, l', c'))) => if P' = P /\ l' = l /\ c' = c then (match ob mh j with | some (.code q') => if q' = q then some mh else none | _ => none) else none
  | _ => none
noncomputable def gByStart (P : Nat) (cls : Nat) (l c : Int) (q : String) : ON := on1 fun a mh => vref a fun i => oL mh i fun vs => gd (vs.length < 64) (bo (keysOf cls mh vs) fun kvs => bo (tabNext P l c q mh) fun m => gd ((kvs.map (·.1)).Nodup) (some (.ref m.length, mkO m (.list ((sortK kvs).map (·.2))))))
inductive TabN (P : Nat) (l c : Int) (q : String) (mh : MH) : MH -> Prop
  | new (hm : ob mh 0 = some (.tab P none)) : TabN P l c q mh (putO (mkO mh (.code q)) 0 (.tab P (some (mh.length, l, c))))
  | old (j : Nat) (hm : ob mh 0 = some (.tab P (some (j, l, c)))) (hq : ob mh j = some (.code q)) : TabN P l c q mh mh
theorem tab_inv {P : Nat} {l c : Int} {q : String} {mh m : MH} (e : tabNext P l c q mh = some m) : TabN P l c q mh m := by
  delta tabNext at e
  cases h0 : ob mh 0 with
  | none => rw [h0] at e; exact no_some e
  | some o => cases o with
    | tab P' k =>
      rw [h0] at e
      cases k with
      | none =>
        refine gd_elim (c := P' = P) e fun hP e2 => ?_
        subst hP; cases e2; exact .new h0
      | some z =>
        obtain ⟨j, l', c'⟩ := z
        refine gd_elim (c := P' = P /\ l' = l /\ c' = c) e fun hP e2 => ?_
        obtain ⟨rfl, rfl, rfl⟩ := hP
        cases hj : ob mh j with
        | none => rw [hj] at e2; exact no_some e2
        | some o => cases o with
          | code q' =>
            rw [hj] at e2
            refine gd_elim (c := q' = q) e2 fun hq e3 => ?_
            subst hq; cases e3; exact .old j h0 hj
          | _ => rw [hj] at e2; exact no_some e2
    | _ => rw [h0] at e; exact no_some e
section
variable {C : Cx} {n m : Nat} {f : Fn} {A : Around} {E : Value -> Shared -> Prop} {ρ ρ' : Rho} {mh mh' : MH} {s s' : Shared} {v : V} {v' : Value} {h h' : Heap} {L : Fid} {loc loc' : Loc}
end
end Mini
namespace Mini
noncomputable def Tw {α : Type} (n : Nat) (lt : Nat -> Nat -> Bool) : KasT α -> (α -> Prop) -> Prop
  | .ret a, Q => Q a
  | .ask i j k, Q => i < n /\ j < n /\ Tw n lt (k (lt i j)) Q
theorem Tw.bind {α β : Type} {n : Nat} {lt : Nat -> Nat -> Bool} {f : α -> KasT β} {Q : β -> Prop} : ∀ {t : KasT α}, Tw n lt t (fun a => Tw n lt (f a) Q) -> Tw n lt (t.bind f) Q
  | .ret _, h => h
  | .ask i j k, ⟨h1, h2, h3⟩ => ⟨h1, h2, Tw.bind h3⟩
theorem ltK_spec (a b : Int × Int) : ltK a b = true ↔ a.1 < b.1 \/ (a.1 = b.1 /\ a.2 < b.2) := by
  unfold ltK; simp
theorem ltK_trans {a b c : Int × Int} (h1 : ltK a b = true) (h2 : ltK b c = true) : ltK a c = true := by
  rw [ltK_spec] at *; omega
theorem ltK_total {a b : Int × Int} (h : a ≠ b) (h1 : ¬ ltK a b = true) : ltK b a = true := by
  rw [ltK_spec] at *
  have : a.1 ≠ b.1 \/ a.2 ≠ b.2 := by
    by_cases q : a.1 = b.1
    . exact .inr fun z => h (Prod.ext q z)
    . exact .inl q
  omega
theorem ltK_irr (a : Int × Int) : ltK a a = false := by
  cases h : ltK a a with
  | false => rfl
  | true => rw [ltK_spec] at h; omega
section
variable {n : Nat} {κ : Nat -> Int × Int}
noncomputable abbrev lti (κ : Nat -> Int × Int) (i j : Nat) : Bool := ltK (κ i) (κ j)
structure Pm (n : Nat) (p : Array Nat) : Prop where
  size : p.size = n
  perm : p.toList.Perm (List.range n)
theorem Pm.lt {p : Array Nat} (h : Pm n p) {i : Nat} (hi : i < n) : p.getD i 0 < n := by
  have hs : i < p.size := by rw [h.size]; exact hi
  have : p.getD i 0 ∈ p.toList := by
    rw [Array.getD_eq_getD_getElem?, Array.getElem?_eq_getElem hs]
    exact Array.mem_toList_iff.mpr (Array.getElem_mem hs)
  exact List.mem_range.mp (h.perm.mem_iff.mp this)
theorem Pm.ne {p : Array Nat} (h : Pm n p) {i j : Nat} (hi : i < n) (hj : j < n) (hne : i ≠ j) : p.getD i 0 ≠ p.getD j 0 := fun e => by
  have hsi : i < p.size := by rw [h.size]; exact hi
  have hsj : j < p.size := by rw [h.size]; exact hj
  rw [Array.getD_eq_getD_getElem?, Array.getElem?_eq_getElem hsi, Array.getD_eq_getD_getElem?, Array.getElem?_eq_getElem hsj] at e
  have nd : p.toList.Nodup := h.perm.nodup_iff.mpr List.nodup_range
  have e' : p.toList[i]'(by simpa using hsi) = p.toList[j]'(by simpa using hsj) := by simpa using e
  have pw := List.pairwise_iff_getElem.mp nd
  rcases Nat.lt_or_gt_of_ne hne with q | q
  . exact pw i j (by simpa using hsi) (by simpa using hsj) q e'
  . exact pw j i (by simpa using hsj) (by simpa using hsi) q e'.symm
theorem Pm.of_perm {p q : Array Nat} (h : Pm n p) (hq : q.Perm p) : Pm n q := by
  have := hq.toList
  refine ⟨?_, this.trans h.perm⟩
  have := this.length_eq
  simp at this
  rw [this, h.size]
theorem getD_opt (p : Array Nat) (i : Nat) : p.getD i 0 = (p[i]?).getD 0 := by rw [Array.getD_eq_getD_getElem?]
noncomputable def Srt (κ : Nat -> Int × Int) (p : Array Nat) (m : Nat) : Prop := ∀ i j, i < j -> j < m -> lti κ (p.getD i 0) (p.getD j 0) = true
noncomputable def Dsc (κ : Nat -> Int × Int) (p : Array Nat) (m : Nat) : Prop := ∀ i j, i < j -> j < m -> lti κ (p.getD j 0) (p.getD i 0) = true
variable (hinj : ∀ i j, i < n -> j < n -> κ i = κ j -> i = j)
include hinj
theorem tri {p : Array Nat} (h : Pm n p) {i j : Nat} (hi : i < n) (hj : j < n) (hne : i ≠ j) (hl : ¬ lti κ (p.getD i 0) (p.getD j 0) = true) : lti κ (p.getD j 0) (p.getD i 0) = true :=
  ltK_total (fun e => h.ne hi hj hne (hinj _ _ (h.lt hi) (h.lt hj) e)) hl
theorem tw_asc {p : Array Nat} (hp : Pm n p) : ∀ (f m : Nat) {Q : Nat -> Prop}, 1 <= m -> m + f <= n -> Srt κ p m ->
    (∀ r, m <= r -> r <= m + f -> Srt κ p r -> (r < m + f -> lti κ (p.getD r 0) (p.getD (r - 1) 0) = true) -> Q r) -> Tw n (lti κ) (kas_asc p f m) Q
  | 0, m, Q, h1, h2, hs, hq => hq m (Nat.le_refl _) (Nat.le_refl _) hs fun h => absurd h (by omega)
  | f + 1, m, Q, h1, h2, hs, hq => by
    refine ⟨hp.lt (by omega), hp.lt (by omega), ?_⟩
    dsimp only
    by_cases c : lti κ (p.getD m 0) (p.getD (m - 1) 0) = true
    . rw [if_pos c]
      exact hq m (Nat.le_refl _) (by omega) hs fun _ => c
    . rw [if_neg c]
      have t := tri hinj hp (i := m) (j := m - 1) (by omega) (by omega) (by omega) c
      refine tw_asc hp f (m + 1) (by omega) (by omega) (fun i j hij hj => ?_) fun r a b c d => hq r (by omega) (by omega) c fun h => d (by omega)
      by_cases e : j = m
      . subst e
        by_cases e2 : i = j - 1
        . rw [e2]; exact t
        . exact ltK_trans (hs i (j - 1) (by omega) (by omega)) t
      . exact hs i j hij (by omega)
theorem tw_desc {p : Array Nat} (hp : Pm n p) : ∀ (f m : Nat) {Q : Array Nat × Nat × Nat -> Prop}, 1 <= m -> m + f <= n -> Dsc κ p m ->
    (∀ r, m <= r -> r <= m + f -> Dsc κ p r -> Q (p, r, 0)) -> Tw n (lti κ) (kas_desc f p m 0) Q
  | 0, m, Q, h1, h2, hs, hq => hq m (Nat.le_refl _) (Nat.le_refl _) hs
  | f + 1, m, Q, h1, h2, hs, hq => by
    unfold kas_desc
    refine ⟨hp.lt (by omega), hp.lt (by omega), ?_⟩
    dsimp only
    by_cases c : lti κ (p.getD m 0) (p.getD (m - 1) 0) = true
    . rw [if_pos c, if_neg (by omega)]
      refine tw_desc hp f (m + 1) (by omega) (by omega) (fun i j hij hj => ?_) fun r a b c => hq r (by omega) (by omega) c
      by_cases e : j = m
      . subst e
        by_cases e2 : i = j - 1
        . rw [e2]; exact c
        . exact ltK_trans c (hs i (j - 1) (by omega) (by omega))
      . exact hs i j hij (by omega)
    . rw [if_neg c]
      refine ⟨hp.lt (by omega), hp.lt (by omega), ?_⟩
      dsimp only
      have t := tri hinj hp (i := m) (j := m - 1) (by omega) (by omega) (by omega) c
      rw [if_pos t]
      exact hq m (Nat.le_refl _) (by omega) hs
theorem rev_srt {p : Array Nat} (hp : Pm n p) {m : Nat} (hm : m <= n) (h : Dsc κ p m) : Srt κ (kas_rev p 0 m) m := fun i j hij hj => by
  unfold kas_rev
  rw [getD_opt, getD_opt, getElem?_mirror_all (by rw [hp.size]; exact hm), getElem?_mirror_all (by rw [hp.size]; exact hm), if_pos (by omega), if_pos (by omega), <- getD_opt, <- getD_opt]
  exact h _ _ (by omega) (by omega)
theorem rev_pm {p : Array Nat} (hp : Pm n p) (i j : Nat) : Pm n (kas_rev p i j) := hp.of_perm (mirror_perm ..)
theorem tw_tail3 {p : Array Nat} (hp : Pm n p) {m : Nat} {Q : Nat × Array Nat -> Prop} (h1 : 1 <= m) (hm : m <= n) (h : Dsc κ p m) (hq : ∀ r p', 1 <= r -> r <= n -> Pm n p' -> Srt κ p' r -> Q (r, p')) : Tw n (lti κ) (kas_tail3 m n p) Q := by
  unfold kas_tail3
  refine Tw.bind (tw_asc hinj (rev_pm hinj hp 0 m) _ _ h1 (by omega) (rev_srt hinj hp hm h) fun r a b c d => ?_)
  exact hq r _ (by omega) (by omega) (rev_pm hinj hp 0 m) c
theorem tw_count {p : Array Nat} (hp : Pm n p) (h1 : 1 <= n) {Q : Nat × Array Nat -> Prop} (hq : ∀ r p', 1 <= r -> r <= n -> Pm n p' -> Srt κ p' r -> Q (r, p')) : Tw n (lti κ) (kas_count n p) Q := by
  unfold kas_count
  refine Tw.bind (tw_asc hinj hp _ _ (Nat.le_refl _) (by omega) (fun i j a b => absurd b (by omega)) fun r a b c d => ?_)
  by_cases e : r = n
  . rw [if_pos (by simp [e])]
    exact hq r p (by omega) (by omega) hp c
  . rw [if_neg (by simp [e])]
    by_cases e2 : 1 < r
    . rw [if_pos e2]
      refine ⟨hp.lt (by omega), hp.lt (by omega), ?_⟩
      dsimp only
      rw [if_pos (c 0 (r - 1) (by omega) (by omega))]
      exact hq r p (by omega) (by omega) hp c
    . rw [if_neg e2]
      have : r = 1 := by omega
      subst this
      unfold kas_descPart
      have dd := d (by omega)
      refine Tw.bind (tw_desc hinj hp _ _ (by omega) (by omega) (fun i j hij hj => ?_) fun r a b c => ?_)
      . have : i = 0 := by omega
        have : j = 1 := by omega
        subst i; subst j; exact dd
      . rw [if_neg (by show ¬ 0 > 0; omega)]
        exact tw_tail3 hinj hp (m := r) (by omega) (by omega) c hq
theorem tw_place {p : Array Nat} (hp : Pm n p) {k : Nat} (hk : k < n) (hs : Srt κ p k) : ∀ (f l r : Nat) {Q : Nat -> Prop}, l <= r -> r <= k -> r - l <= f ->
    (∀ i, i < l -> lti κ (p.getD i 0) (p.getD k 0) = true) -> (∀ i, r <= i -> i < k -> lti κ (p.getD k 0) (p.getD i 0) = true) ->
    (∀ l, l <= k -> (∀ i, i < l -> lti κ (p.getD i 0) (p.getD k 0) = true) -> (∀ i, l <= i -> i < k -> lti κ (p.getD k 0) (p.getD i 0) = true) -> Q l) -> Tw n (lti κ) (kas_place p k f l r) Q
  | 0, l, r, Q, h1, h2, h3, a, b, hq => by
    have : r = l := by omega
    subst this
    exact hq r h2 a b
  | f + 1, l, r, Q, h1, h2, h3, a, b, hq => by
    unfold kas_place
    by_cases e : l ≥ r
    . rw [if_pos e]
      have : r = l := by omega
      subst this
      exact hq r h2 a b
    . rw [if_neg e]
      refine ⟨hp.lt hk, hp.lt (by omega), ?_⟩
      dsimp only
      by_cases c : lti κ (p.getD k 0) (p.getD ((l + r) / 2) 0) = true
      . rw [if_pos c]
        refine tw_place hp hk hs f l _ (by omega) (by omega) (by omega) a (fun i h4 h5 => ?_) hq
        by_cases e3 : i = (l + r) / 2
        . rw [e3]; exact c
        . exact ltK_trans c (hs _ _ (by omega) h5)
      . rw [if_neg c]
        have t := tri hinj hp (i := k) (j := (l + r) / 2) hk (by omega) (by omega) c
        refine tw_place hp hk hs f _ r (by omega) (by omega) (by omega) (fun i h4 => ?_) b hq
        by_cases e3 : i = (l + r) / 2
        . rw [e3]; exact t
        . exact ltK_trans (hs i _ (by omega) (by omega)) t
theorem tw_bin : ∀ (f : Nat) (p : Array Nat) (k : Nat) {Q : Array Nat -> Prop}, Pm n p -> k + f = n -> Srt κ p k -> (∀ p', Pm n p' -> Srt κ p' n -> Q p') -> Tw n (lti κ) (kas_bin f p k) Q
  | 0, p, k, Q, hp, h1, hs, hq => hq p hp (by have : k = n := by omega
                                              subst this; exact hs)
  | f + 1, p, k, Q, hp, h1, hs, hq => by
    unfold kas_bin
    refine Tw.bind (tw_place hinj hp (by omega) hs k 0 k (by omega) (Nat.le_refl _) (by omega) (fun i h => absurd h (by omega)) (fun i h h' => absurd h (by omega)) fun l hl a b => ?_)
    refine tw_bin f _ (k + 1) (hp.of_perm (bubble_perm ..)) (by omega) (fun i j hij hj => ?_) hq
    have sz : k < p.size := by rw [hp.size]; omega
    have at' : ∀ i, (bubble p k (k - l)).getD i 0 = if i = l then p.getD k 0 else if l < i /\ i <= k then p.getD (i - 1) 0 else p.getD i 0 := fun i => by
      have e : k - (k - l) = l := by omega
      rw [getD_opt, getElem?_bubble sz _ (by omega), e]
      by_cases z1 : i = l
      . rw [if_pos z1, if_pos z1]; exact (getD_opt p k).symm
      . rw [if_neg z1, if_neg z1]
        by_cases z2 : l < i /\ i <= k
        . rw [if_pos z2, if_pos z2]; exact (getD_opt p _).symm
        . rw [if_neg z2, if_neg z2]; exact (getD_opt p _).symm
    rw [at', at']
    by_cases e1 : i = l
    . rw [if_pos e1, if_neg (by omega), if_pos (by omega)]
      exact b _ (by omega) (by omega)
    . rw [if_neg e1]
      by_cases e2 : j = l
      . rw [if_pos e2, if_neg (by omega)]
        exact a _ (by omega)
      . rw [if_neg e2]
        by_cases e3 : l < i
        . rw [if_pos ⟨e3, by omega⟩, if_pos ⟨by omega, by omega⟩]
          exact hs _ _ (by omega) (by omega)
        . rw [if_neg (by omega)]
          by_cases e4 : l < j
          . rw [if_pos ⟨e4, by omega⟩]; exact hs _ _ (by omega) (by omega)
          . rw [if_neg (by omega)]; exact hs _ _ (by omega) (by omega)
theorem tw_sort (h1 : 1 <= n) {Q : Array Nat -> Prop} (hq : ∀ p', Pm n p' -> Srt κ p' n -> Q p') : Tw n (lti κ) (kas_sort n) Q := by
  unfold kas_sort
  have h0 : Pm n (List.toArray (List.range n)) := ⟨by simp, by simp⟩
  refine Tw.bind (tw_count hinj h0 h1 fun r p' a b c d => ?_)
  by_cases e : r < n
  . rw [if_pos e]
    have : max r 1 = r := by omega
    show Tw n (lti κ) (kas_bin (n - max r 1) p' (max r 1)) Q
    rw [this]
    exact tw_bin hinj _ _ _ c (by omega) d hq
  . rw [if_neg e]
    have : r = n := by omega
    subst this
    exact hq p' c d
end
end Mini
namespace Mini
noncomputable abbrev KV := (Int × Int) × V
noncomputable abbrev LtP (a b : KV) : Prop := ltK a.1 b.1 = true
theorem uniqP : ∀ {a b : List KV}, a.Perm b -> a.Pairwise LtP -> b.Pairwise LtP -> a = b
  | [], b, p, _, _ => (List.nil_perm.mp p).symm
  | x :: a, [], p, _, _ => absurd p.symm (by intro h; exact absurd (List.nil_perm.mp h) (by simp))
  | x :: a, y :: b, p, h1, h2 => by
    rw [List.pairwise_cons] at h1 h2
    have exy : x = y := by
      have hx : x ∈ y :: b := p.mem_iff.mp (.head _)
      have hy : y ∈ x :: a := p.mem_iff.mpr (.head _)
      rcases List.mem_cons.mp hx with e | hx
      . exact e
      . rcases List.mem_cons.mp hy with e | hy
        . exact e.symm
        . have := ltK_trans (h1.1 y hy) (h2.1 x hx)
          rw [ltK_irr] at this; cases this
    subst exy
    rw [uniqP ((List.perm_cons x).mp p) h1.2 h2.2]
theorem insK_perm (x : KV) : ∀ l : List KV, (insK x l).Perm (x :: l)
  | [] => .refl _
  | y :: r => by
    unfold insK
    split
    . exact .refl _
    . exact ((insK_perm x r).cons y).trans (List.Perm.swap x y r)
theorem sortK_perm : ∀ l : List KV, (sortK l).Perm l
  | [] => .refl _
  | x :: r => (insK_perm x (sortK r)).trans ((sortK_perm r).cons x)
theorem insK_sorted {x : KV} : ∀ {l : List KV}, l.Pairwise LtP -> (∀ y ∈ l, x.1 ≠ y.1) -> (insK x l).Pairwise LtP
  | [], _, _ => by unfold insK; simp
  | y :: r, h, hx => by
    rw [List.pairwise_cons] at h
    unfold insK
    split
    . rename_i c
      exact List.pairwise_cons.mpr ⟨fun z hz => by
        rcases List.mem_cons.mp hz with rfl | hz
        . exact c
        . exact ltK_trans c (h.1 z hz), List.pairwise_cons.mpr h⟩
    . rename_i c
      refine List.pairwise_cons.mpr ⟨fun z hz => ?_, insK_sorted h.2 fun z hz => hx z (.tail _ hz)⟩
      rcases List.mem_cons.mp ((insK_perm x r).mem_iff.mp hz) with rfl | hz
      . exact ltK_total (hx y (.head _)) c
      . exact h.1 z hz
theorem sortK_sorted : ∀ {l : List KV}, (l.map (·.1)).Nodup -> (sortK l).Pairwise LtP
  | [], _ => .nil
  | x :: r, h => by
    rw [List.map_cons, List.nodup_cons] at h
    exact insK_sorted (sortK_sorted h.2) fun y hy e => h.1 (List.mem_map.mpr ⟨y, (sortK_perm r).mem_iff.mp hy, e.symm⟩)
theorem range_getD {α : Type} (l : List α) (d : α) : (List.range l.length).map (fun i => l.getD i d) = l := by
  apply List.ext_getElem?
  intro i
  rw [List.getElem?_map]
  by_cases h : i < l.length
  . rw [List.getElem?_range h]
    simp [List.getD_eq_getElem?_getD, h]
  . rw [List.getElem?_eq_none (by simpa using h), List.getElem?_eq_none (by omega)]; rfl
theorem sort_out {kvs : List KV} {p : Array Nat} {d : KV} (hn : (kvs.map (·.1)).Nodup) (hp : Pm kvs.length p) (hs : Srt (fun i => (kvs.getD i d).1) p kvs.length) : p.toList.map (fun i => kvs.getD i d) = sortK kvs := by
  refine uniqP ?_ ?_ (sortK_sorted hn)
  . have := hp.perm.map (fun i => kvs.getD i d)
    rw [range_getD] at this
    exact this.trans (sortK_perm kvs).symm
  . rw [List.pairwise_map, List.pairwise_iff_getElem]
    intro i j hi hj hij
    have hj' : j < kvs.length := by have := hp.size; simp at hj; omega
    have := hs i j hij hj'
    have hsi : i < p.size := by simpa using hi
    have hsj : j < p.size := by simpa using hj
    rw [getD_opt, getD_opt, Array.getElem?_eq_getElem hsi, Array.getElem?_eq_getElem hsj] at this
    exact this
theorem keys_inj {kvs : List KV} {d : KV} (hn : (kvs.map (·.1)).Nodup) : ∀ i j, i < kvs.length -> j < kvs.length -> (kvs.getD i d).1 = (kvs.getD j d).1 -> i = j := fun i j hi hj e => by
  have pw := List.pairwise_iff_getElem.mp hn
  rw [List.getD_eq_getElem?_getD, List.getD_eq_getElem?_getD, List.getElem?_eq_getElem hi, List.getElem?_eq_getElem hj] at e
  rcases Nat.lt_trichotomy i j with q | q | q
  . exact absurd (by rw [List.getElem_map, List.getElem_map]; simpa using e) (pw i j (by simpa using hi) (by simpa using hj) q)
  . exact q
  . exact absurd (by rw [List.getElem_map, List.getElem_map]; simpa using e.symm) (pw j i (by simpa using hj) (by simpa using hi) q)
section
variable {prog : Program} {w : World} {A : Around} {κ : SortKind} {ks : List Value} {n : Nat} {lt : Nat -> Nat -> Bool}
theorem kasWp_of_Tw {α : Type} {g : Array GenState} {d : Drawn} {os : OsState} {h : Heap}
    (ask : ∀ i j (Cn : Bool -> Shared -> Prop) tk, i < n -> j < n -> (∀ tk', Cn (lt i j) ⟨h, g, d, tk', os⟩) -> kas_ask prog w A κ ks i j Cn ⟨h, g, d, tk, os⟩) {Q : α -> Shared -> Prop} :
    ∀ {t : KasT α} {tk : Tok}, Tw n lt t (fun a => ∀ tk', Q a ⟨h, g, d, tk', os⟩) -> t.kasWp (kas_ask prog w A κ ks) Q ⟨h, g, d, tk, os⟩
  | .ret a, tk, hq => hq tk
  | .ask i j k, tk, ⟨h1, h2, h3⟩ => ask i j _ tk h1 h2 fun tk' => kasWp_of_Tw ask h3
noncomputable def KeyAt (h : Heap) (v : Value) (k : Int × Int) : Prop := ∃ t o m t1 t2, v = .ref t /\ h.get? t = some o /\ o.cls = .type "tuple" /\ o.data = .seq #[.int k.1 t1, .int k.2 t2] m
theorem ask_keys {g : Array GenState} {d : Drawn} {os : OsState} {h : Heap} {x y : Value} {a b : Int × Int} {tk : Tok} {Q : Bool -> Shared -> Prop} {E : Value -> Shared -> Prop} (hx : KeyAt h x a) (hy : KeyAt h y b) (hq : ∀ tk', Q (ltK a b) ⟨h, g, d, tk', os⟩) :
    wpAny (model prog w) A (keyLt' (tuples' true) x y) Q E ⟨h, g, d, tk, os⟩ := by
  obtain ⟨x, ox, n1, t1, t2, rfl, hx, cx, dx⟩ := hx
  obtain ⟨y, oy, n2, u1, u2, rfl, hy, cy, dy⟩ := hy
  refine kat_lt hx dx hy dy ?_
  show KatLex prog w A true _ Q [(.int a.1 t1, .int b.1 u1), (.int a.2 t2, .int b.2 u2)] 0 _
  refine kat_cons (wpAny_eqBool_int ?_)
  by_cases e1 : a.1 = b.1
  . have : (a.1 == b.1) = true := beq_iff_eq.mpr e1
    rw [this]
    refine kat_yes (kat_cons (wpAny_eqBool_int ?_))
    by_cases e2 : a.2 = b.2
    . have : (a.2 == b.2) = true := beq_iff_eq.mpr e2
      rw [this]
      refine kat_yes (kat_nil ?_)
      have : ltK a b = false := by cases q : ltK a b with
        | false => rfl
        | true => rw [ltK_spec] at q; omega
      have q := hq tk
      rw [this] at q
      exact q
    . have : (a.2 == b.2) = false := beq_eq_false_iff_ne.mpr e2
      rw [this]
      refine kat_no (kat_one _ _ (PyProof.Rows.lt_int ?_))
      have : ltK a b = decide (a.2 < b.2) := by unfold ltK; simp [e1]
      have q := hq tk
      rw [this] at q
      exact q
  . have : (a.1 == b.1) = false := beq_eq_false_iff_ne.mpr e1
    rw [this]
    refine kat_no (oneLt_int ?_)
    have : ltK a b = decide (a.1 < b.1) := by unfold ltK; simp [e1]
    have q := hq tk
    rw [this] at q
    exact q
theorem kasWp_keys {g : Array GenState} {d : Drawn} {os : OsState} {h : Heap} {tk : Tok} {kvs : List KV} {dd : KV} (hk : ∀ i, i < kvs.length -> KeyAt h (ks.getD i Value.none) (kvs.getD i dd).1) (hn : (kvs.map (·.1)).Nodup) (h1 : 1 <= kvs.length)
    {Q : Array Nat -> Shared -> Prop} (hq : ∀ p, Pm kvs.length p -> p.toList.map (fun i => kvs.getD i dd) = sortK kvs -> ∀ tk', Q p ⟨h, g, d, tk', os⟩) : (kas_sort kvs.length).kasWp (kas_ask prog w A (tuples' true) ks) Q ⟨h, g, d, tk, os⟩ :=
  kasWp_of_Tw (n := kvs.length) (lt := lti (fun i => (kvs.getD i dd).1)) (fun i j Cn tk hi hj hc => ask_keys (hk i hi) (hk j hj) hc) (tw_sort (keys_inj hn) h1 fun p hp hs => hq p hp (sort_out hn hp hs))
end
end Mini
namespace Mini
noncomputable def Keeps (h h' : Heap) : Prop := ∀ b o, h.get? b = some o -> h'.get? b = some o
section
variable {prog : Program} {w : World} {A : Around} {E : Value -> Shared -> Prop} {g : Array GenState} {d : Drawn} {os : OsState}
structure KI (hb : Heap) (kS : Addr) (kvs : List KV) (dd : KV) (ks : List Value) (e : Nat) (h : Heap) : Prop where
  keep : ∀ b o, b ≠ kS -> hb.get? b = some o -> h.get? b = some o
  st : h.get? kS = some (seqObj "list" ks.toArray e)
  keys : ∀ i, i < ks.length -> KeyAt h (ks.getD i Value.none) (kvs.getD i dd).1
theorem KeyAt.mono {h h' : Heap} {v : Value} {k : Int × Int} {kS : Addr} {ks : Array Value} {e : Nat} (x : KeyAt h v k) (hk : h.get? kS = some (seqObj "list" ks e)) (keep : ∀ b o, b ≠ kS -> h.get? b = some o -> h'.get? b = some o) : KeyAt h' v k := by
  obtain ⟨t, o, m, t1, t2, rfl, ho, hc, hd⟩ := x
  refine ⟨t, o, m, t1, t2, rfl, keep t o (fun z => ?_) ho, hc, hd⟩
  subst z; rw [hk] at ho; cases ho
  have hc : Value.type "list" = Value.type "tuple" := hc
  exact absurd hc (by decide)
theorem KeyAt.keeps {h h' : Heap} {v : Value} {k : Int × Int} (x : KeyAt h v k) (keep : Keeps h h') : KeyAt h' v k := by
  obtain ⟨t, o, m, t1, t2, rfl, ho, hc, hd⟩ := x
  exact ⟨t, o, m, t1, t2, rfl, keep _ _ ho, hc, hd⟩
noncomputable def KBack (g : Array GenState) (d : Drawn) (os : OsState) (kS : Addr) (ks : List Value) (e : Nat) (R : Value -> Heap -> Nat -> Tok -> Prop) (k : Value) (s' : Shared) : Prop :=
  ∃ h tk, s' = ⟨h, g, d, tk, os⟩ /\ h.get? kS = some (seqObj "list" ks.toArray e) /\ ∀ h3 c, h3.get? kS = some (seqObj "list" (ks ++ [k]).toArray c) -> (∀ b o, b ≠ kS -> h.get? b = some o -> h3.get? b = some o) -> R k h3 c tk
theorem keys_loop {hb : Heap} {kS : Addr} {kvs : List KV} {dd : KV} {f : Value} {items : List Value} {body : Value -> PUnit -> Sem (ForInStep PUnit)} (h64 : items.length < 64)
    (hf : ∀ i v h tk, items[i]? = some v -> (∀ b o, b ≠ kS -> hb.get? b = some o -> h.get? b = some o) ->
      wpAny (model prog w) A (call f [v]) (fun r s'' => ∃ h'' tk'', s'' = ⟨h'', g, d, tk'', os⟩ /\ Keeps h h'' /\ KeyAt h'' r (kvs.getD i dd).1) (fun _ _ => False) ⟨h, g, d, tk, os⟩)
    (hbody : ∀ x ks e (s : Shared) (R : Value -> Heap -> Nat -> Tok -> Prop), ks.length < 64 -> wpAny (model prog w) A (call f [x]) (KBack g d os kS ks e R) (fun _ _ => False) s ->
      wpAny (model prog w) A (body x ⟨⟩) (fun r s' => r = .yield ⟨⟩ /\ ∃ k h c tk, s' = ⟨h, g, d, tk, os⟩ /\ h.get? kS = some (seqObj "list" (ks ++ [k]).toArray c) /\ R k h c tk) E s) :
    ∀ (r pre ks : List Value) (e : Nat) (h : Heap) (tk : Tok), items = pre ++ r -> ks.length = pre.length -> KI hb kS kvs dd ks e h ->
      wpAny (model prog w) A (forIn r PUnit.unit body) (fun _ s' => ∃ ks e h tk, s' = ⟨h, g, d, tk, os⟩ /\ ks.length = items.length /\ KI hb kS kvs dd ks e h) E ⟨h, g, d, tk, os⟩
  | [], pre, ks, e, h, tk, hi, hl, K => by
    rw [List.forIn_nil]
    exact wpAny_pure ⟨ks, e, h, tk, rfl, by rw [hi, hl]; simp, K⟩
  | x :: r, pre, ks, e, h, tk, hi, hl, K => by
    rw [List.forIn_cons]
    have hx : items[ks.length]? = some x := by rw [hi, hl]; simp
    have hlen : ks.length < 64 := by have := (List.getElem?_eq_some_iff.mp hx).1; omega
    refine wpAny_bind (wpAny_mono (hbody x ks e _ (fun k h3 c tk3 => KI hb kS kvs dd (ks ++ [k]) c h3) hlen (wpAny_mono (hf _ _ h tk hx K.keep) (fun k s'' q => ?_) fun _ _ x => x)) (fun q s' hq => ?_) fun _ _ x => x)
    . obtain ⟨h2, tk2, rfl, kp, ka⟩ := q
      refine ⟨h2, tk2, rfl, kp _ _ K.st, fun h3 c h4 h5 => ⟨fun b o ne ho => h5 b o ne (kp _ _ (K.keep b o ne ho)), h4, fun i hi => ?_⟩⟩
      by_cases e1 : i < ks.length
      . rw [List.getD_eq_getElem?_getD, List.getElem?_append_left e1, <- List.getD_eq_getElem?_getD]
        exact ((K.keys i e1).keeps kp).mono (kp _ _ K.st) h5
      . have : i = ks.length := by simp at hi; omega
        subst this
        rw [List.getD_eq_getElem?_getD, List.getElem?_append_right (Nat.le_refl _)]
        simp only [Nat.sub_self, List.getElem?_cons_zero, Option.getD_some]
        exact ka.mono (kp _ _ K.st) h5
    . obtain ⟨rfl, k, h3, c, tk3, rfl, hk3, KI3⟩ := hq
      show wpAny (model prog w) A (forIn r PUnit.unit body) _ E _
      exact keys_loop h64 hf hbody r (pre ++ [x]) (ks ++ [k]) c h3 tk3 (by rw [hi]; simp) (by simp [hl]) KI3
theorem end_tail {a kS : Addr} {ks out : List Value} {e e1 : Nat} {st : SortSt} {h : Heap} {tk : Tok} {P : PySem.Fin -> Shared -> Prop} (hout : (arrOf st).map (·.2) = out.toArray) (hz : out.length < 64) (hkz : ks.length < 64) (hfd : failedOf st = none)
    (hk : h.get? kS = some (seqObj "list" ks.toArray e)) (ha : h.get? a = some (seqObj "list" #[] e1)) (hne : a ≠ kS)
    (hP : ∀ h' tk' c, (∀ b o, b ≠ kS -> b ≠ a -> h.get? b = some o -> h'.get? b = some o) -> h'.get? a = some (seqObj "list" out.toArray c) -> P (.done (.ret .none)) ⟨h', g, d, tk', os⟩) :
    wpAny (model prog w) A (ksk_tail a false e1 (.ref kS) st) P E ⟨h, g, d, tk, os⟩ := by
  have s1 := Heap.SameBut.update h kS (Obj.mapSeq fun _ => (#[] : Array Value))
  have na : (h.update kS (Obj.mapSeq fun _ => (#[] : Array Value))).get? a = some (seqObj "list" #[] e1) := (s1.2 a hne).trans ha
  have s2 := Heap.SameBut.update (h.update kS (Obj.mapSeq fun _ => (#[] : Array Value))) a (Obj.mapSeq fun _ => out.toArray)
  obtain ⟨c2, hc2⟩ : ∃ c2, ((h.update kS (Obj.mapSeq fun _ => (#[] : Array Value))).update a (Obj.mapSeq fun _ => out.toArray)).get? a = some (seqObj "list" out.toArray c2) := ⟨_, get?_update_seq na fun _ => out.toArray⟩
  unfold ksk_tail
  try dsimp only
  rw [hout]
  refine wpAny_bind (listUpdate_at hk rfl ?_ (by rw [List.size_toArray, sizeLine_eq]; omega) (Nat.zero_le _))
  refine wpAny_bind (wpAny_letGo ?_)
  refine wpAny_bind (seqEpoch_at na rfl ?_)
  simp only [Bool.false_eq_true, if_false]
  refine wpAny_bind (listUpdate_at na rfl ?_ (Nat.zero_le _) (by rw [List.size_toArray, sizeLine_eq]; omega))
  rw [hfd]
  simp only [bne_self_eq_false, Bool.false_eq_true, if_false]
  exact wpAny_pure (hP _ _ c2 (fun b o n1 n2 ho => (s2.2 b n2).trans ((s1.2 b n1).trans ho)) hc2)
theorem tups_of {h : Heap} : ∀ {ks : List Value} {l : List (Int × Int)}, ks.length = l.length -> (∀ i, i < ks.length -> KeyAt h (ks.getD i Value.none) (l.getD i (0, 0))) -> ∃ fs, KatTups h ks fs /\ fs.length = ks.length /\ ∀ v ∈ fs, ∃ i t, v = Value.int i t
  | [], [], _, _ => ⟨[], trivial, rfl, fun _ h => nomatch h⟩
  | [], _ :: _, hl, _ => nomatch hl
  | _ :: _, [], hl, _ => nomatch hl
  | k :: ks, x :: l, hl, hk => by
    obtain ⟨t, o, m, t1, t2, e, ho, hc, hd⟩ := hk 0 (by simp)
    obtain ⟨fs, h1, h2, h3⟩ := tups_of (ks := ks) (l := l) (by simpa using hl) fun i hi => by
      have := hk (i + 1) (by simpa using hi)
      simpa using this
    have e : k = .ref t := by simpa using e
    subst e
    refine ⟨.int x.1 t1 :: fs, ⟨⟨t, o, _, m, rfl, ho, hc, hd, rfl⟩, h1⟩, by simp [h2], fun v hv => ?_⟩
    rcases List.mem_cons.mp hv with rfl | hv
    . exact ⟨_, _, rfl⟩
    . exact h3 v hv
end
end Mini
namespace Mini
section
variable {prog : Program} {w : World} {A : Around} {E : Value -> Shared -> Prop} {g : Array GenState} {d : Drawn} {os : OsState}
theorem sortK_short {kvs : List KV} (h : kvs.length < 2) : sortK kvs = kvs := by
  cases kvs with
  | nil => rfl
  | cons x r => cases r with
    | nil => rfl
    | cons y r => exact absurd h (by simp)
theorem zipSnd {ks : List Value} : ∀ {items : List Value}, ks.length = items.length -> List.zipWith (fun x y => y) ks items = items := by
  induction ks with
  | nil => intro items h; cases items with
    | nil => rfl
    | cons => cases h
  | cons k ks ih => intro items h; cases items with
    | nil => cases h
    | cons y items => rw [List.zipWith_cons_cons, ih (Nat.succ.inj h)]
theorem end_keys {a kS : Addr} {items ks : List Value} {kvs : List KV} {dd : KV} {e e1 : Nat} {hb h : Heap} {tk : Tok} {P : PySem.Fin -> Shared -> Prop} (h64 : items.length < 64) (hl : ks.length = items.length) (hv : kvs.length = items.length) (hn : (kvs.map (·.1)).Nodup)
    (K : KI hb kS kvs dd ks e h) (ha : h.get? a = some (seqObj "list" #[] e1)) (hne : a ≠ kS) (hdd : dd.1 = (0, 0))
    (hP : ∀ (p : List Nat) h' tk' c, p.map (fun i => kvs.getD i dd) = sortK kvs -> (∀ b o, b ≠ kS -> b ≠ a -> h.get? b = some o -> h'.get? b = some o) -> h'.get? a = some (seqObj "list" (p.map fun i => items.getD i Value.none).toArray c) -> P (.done (.ret .none)) ⟨h', g, d, tk', os⟩) :
    wpAny (model prog w) A (ksk_end a false items.toArray e1 (.ref kS) ks.toArray) P E ⟨h, g, d, tk, os⟩ := by
  unfold ksk_end
  dsimp only
  by_cases h2 : items.length < 2
  . have hn2 : items.toArray.size < 2 := by rw [List.size_toArray]; exact h2
    rw [if_pos hn2, if_pos hn2]
    refine wpAny_bind (wpAny_pure ?_)
    refine wpAny_bind (wpAny_pure ?_)
    refine end_tail (out := items) ?_ h64 (by omega) rfl K.st ha hne fun h' tk' c k hc => ?_
    . show (arrOf (SortSt.mk' _ _ _ _ _)).map (·.2) = _
      show (ks.toArray.zip items.toArray).map (·.2) = _
      apply Array.toList_inj.mp
      rw [Array.toList_map, ksk_zip]
      simp only [List.zip, List.map_zipWith]
      exact zipSnd hl
    . have := hP (List.range kvs.length) h' tk' c (by rw [range_getD, sortK_short (by omega)]) k
      rw [hv, range_getD] at this
      exact this hc
  . have hn2 : ¬ items.toArray.size < 2 := by rw [List.size_toArray]; exact h2
    rw [if_neg hn2, if_neg hn2]
    obtain ⟨fs, t1, t2, t3⟩ := tups_of (ks := ks) (l := kvs.map (·.1)) (by simp; omega) fun i hi => by
      have := K.keys i hi
      have e : (kvs.map (·.1)).getD i (0, 0) = (kvs.getD i dd).1 := by
        rw [List.getD_eq_getElem?_getD, List.getElem?_map, List.getD_eq_getElem?_getD]
        cases kvs[i]? with
        | none => exact hdd.symm
        | some x => rfl
      rw [e]; exact this
    refine wpAny_bind (kat_kind (T := .type "int") t1 (by omega) (fun v hv => ?_) rfl ?_)
    . obtain ⟨i, t, rfl⟩ := t3 v hv
      exact Looks.of_pure rfl
    . simp only [Bool.false_eq_true, if_false]
      have hlt : (Value.type "int" != Value.type "tuple") = true := rfl
      rw [hlt]
      refine wpAny_bind (wpAny_mono (kat_run (Q := fun st' s' => ∃ p : Array Nat, p.size = items.length /\ arrOf st' = p.map (kas_item (ks.toArray.zip items.toArray)) /\ failedOf st' = none /\
          p.toList.map (fun i => kvs.getD i dd) = sortK kvs /\ ∃ tk', s' = ⟨h, g, d, tk', os⟩) (G := fun p s' => p.toList.map (fun i => kvs.getD i dd) = sortK kvs /\ ∃ tk', s' = ⟨h, g, d, tk', os⟩) hl (by omega) h64 (fun p st' s' a1 a2 a3 a4 => ⟨p, a1, a2, a3, a4⟩) ?_) ?_ fun _ _ x => x)
      . rw [<- hv]
        refine kasWp_keys (kvs := kvs) (dd := dd) (fun i hi => K.keys i (by omega)) hn (by omega) fun p hp ho tk' => ⟨ho, tk', rfl⟩
      rintro ⟨⟨⟩, st'⟩ s' ⟨p, hp, har, hf, ho, tk', rfl⟩
      dsimp only
      exact end_tail (kat_snds hl har) (by rw [List.length_map, Array.length_toList, hp]; exact h64) (by omega) hf K.st ha hne fun h' tk'' c k hc => hP p.toList h' tk'' c ho k hc
theorem sorted_keys {l : Addr} {items : List Value} {kvs : List KV} {dd : KV} {f : Addr} {h : Heap} {tk : Tok} {Q : Value -> Shared -> Prop} (hl : h.IsList l items.toArray) (h64 : items.length < 64) (hv : kvs.length = items.length) (hn : (kvs.map (·.1)).Nodup) (hdd : dd.1 = (0, 0))
    (hf : ∀ i v h' tk', items[i]? = some v -> Keeps h h' ->
      wpAny (model prog w) A.in1.in1 (call (.ref f) [v]) (fun r s'' => ∃ h'' tk'', s'' = ⟨h'', g, d, tk'', os⟩ /\ Keeps h' h'' /\ KeyAt h'' r (kvs.getD i dd).1) (fun _ _ => False) ⟨h', g, d, tk', os⟩)
    (hQ : ∀ D (p : List Nat) h' tk' c, p.map (fun i => kvs.getD i dd) = sortK kvs -> Keeps h h' -> h.get? D = none -> h'.get? D = some (seqObj "list" (p.map fun i => items.getD i Value.none).toArray c) -> Q (.ref D) ⟨h', g, d, tk', os⟩) :
    wpAny (model prog w) A (call (.builtin "sorted") [.ref l] [(Str.ofString "key", .ref f)]) Q E ⟨h, g, d, tk, os⟩ := by
  refine call_function_entry_kw kind_sorted plain_sorted entry_sorted (ksk_s1 _ _) ?_
  unfold Builtin.«sorted»
  refine wpAny_bind (m := checkCount "sorted" 1 1 _) (wpAny_pure ?_)
  refine wpAny_bind (collect_list hl ?_ (by rw [sizeLine_eq]; omega))
  refine wpAny_bind (wpAny_newList ?_ (by rw [sizeLine_eq]; omega))
  have hsz : ((h.push (seqObj "list" #[] 0)).update h.objs.size (Obj.mapSeq (· ++ items.toArray))).objs.size = h.objs.size + 1 := by
    rw [Heap.size_update, size_push']
  have hoL : (((h.push (seqObj "list" #[] 0)).update h.objs.size (Obj.mapSeq (· ++ items.toArray))).push (seqObj "list" items.toArray 0)).get? (h.objs.size + 1) = some (seqObj "list" items.toArray 0) := by
    rw [<- hsz]; exact Heap.get?_push_size _ rfl
  have keep : Keeps h (((h.push (seqObj "list" #[] 0)).update h.objs.size (Obj.mapSeq (· ++ items.toArray))).push (seqObj "list" items.toArray 0)) := fun b o q => by
    have hlt : b < h.objs.size := Heap.lt_size q
    rw [Heap.get?_push_ne _ _ _ (by rw [hsz]; exact Nat.ne_of_lt (Nat.lt_succ_of_lt hlt)), Heap.get?_update_ne _ _ _ _ (Nat.ne_of_lt hlt), Heap.get?_push_ne _ _ _ (Nat.ne_of_lt hlt)]
    exact q
  show wpAny _ _ _ _ _ (Shared.mk (((h.push (seqObj "list" #[] 0)).update h.objs.size (Obj.mapSeq (· ++ items.toArray))).push (seqObj "list" items.toArray 0)) g d tk os)
  rw [hsz]
  have fresh : ∀ {b : Addr}, h.objs.size <= b -> h.get? b = none := fun {b} hb => by
    cases q : h.get? b with
    | none => rfl
    | some o => exact absurd (Heap.lt_size q) (Nat.not_lt.mpr hb)
  generalize hH : ((h.push (seqObj "list" #[] 0)).update h.objs.size (Obj.mapSeq (· ++ items.toArray))).push (seqObj "list" items.toArray 0) = H at hoL keep ⊢
  generalize hD : h.objs.size + 1 = D at hoL ⊢
  have nD : h.get? D = none := fresh (by omega)
  refine wpAny_bind (wpAny_holding (wpAny_call_entry_kw slot_list_sort ⟨_, hoL, rfl⟩ entry_list_sort ?body (ksk_l1 _ _)))
  case body =>
    show wpAny (model prog w) A.in1.in1 (Builtin.«list.sort» ⟨[.ref D], [(Str.ofString "key", .ref f)]⟩) _ _ _
    rw [ksk_t1]
    unfold ksk_tree
    have s1 := Heap.SameBut.update H D (Obj.mapSeq fun _ => (#[] : Array Value))
    obtain ⟨e1, ho1⟩ : ∃ e1, (H.update D (Obj.mapSeq fun _ => (#[] : Array Value))).get? D = some (seqObj "list" #[] e1) := ⟨_, get?_update_seq hoL fun _ => #[]⟩
    refine wpAny_bind (listItems_at hoL rfl ?_)
    refine wpAny_bind (listUpdate_at hoL rfl ?_ (by rw [List.size_toArray, sizeLine_eq]; omega) (Nat.zero_le _))
    refine wpAny_bind (seqEpoch_at ho1 rfl ?_)
    refine wpAny_bind (wpAny_newTuple ?_ (by show items.length <= _; rw [sizeLine_eq]; omega))
    refine wpAny_bind (wpAny_newList ?_ (Nat.zero_le _))
    refine wpAny_holding ?_
    dsimp only at ho1 ⊢
    have kp1 : Keeps h (H.update D (Obj.mapSeq fun _ => (#[] : Array Value))) := fun b o ho => (s1.2 b (fun z => by rw [z, nD] at ho; cases ho)).trans (keep b o ho)
    generalize H.update D (Obj.mapSeq fun _ => (#[] : Array Value)) = H1 at ho1 kp1 ⊢
    have hsk : (H1.push (seqObj "tuple" items.toArray 0)).get? (H1.push (seqObj "tuple" items.toArray 0)).objs.size = none := size_none _
    have kp2 : Keeps H1 (H1.push (seqObj "tuple" items.toArray 0)) := fun b o ho => Heap.get?_push_of_some _ ho
    show wpAny _ _ (ksk_rest D (.ref f) false items.toArray e1 (.ref (H1.push (seqObj "tuple" items.toArray 0)).objs.size)) _ _ (Shared.mk ((H1.push (seqObj "tuple" items.toArray 0)).push (seqObj "list" #[] 0)) g d tk os)
    generalize H1.push (seqObj "tuple" items.toArray 0) = H2 at hsk kp2 ⊢
    have hkS : (H2.push (seqObj "list" #[] 0)).get? H2.objs.size = some (seqObj "list" #[] 0) := Heap.get?_push_size _ rfl
    have kp3 : Keeps H2 (H2.push (seqObj "list" #[] 0)) := fun b o ho => Heap.get?_push_of_some _ ho
    generalize hHb : H2.push (seqObj "list" #[] 0) = Hb at hkS kp3 ⊢
    generalize H2.objs.size = kS at hsk hkS ⊢
    have ho3 : Hb.get? D = some (seqObj "list" #[] e1) := kp3 _ _ (kp2 _ _ ho1)
    have kpb : Keeps h Hb := fun b o ho => kp3 _ _ (kp2 _ _ (kp1 _ _ ho))
    have hDk : D ≠ kS := fun z => by have := kp2 _ _ ho1; rw [z, hsk] at this; cases this
    have hnk : h.get? kS = none := by
      cases q : h.get? kS with
      | none => rfl
      | some o => have := kp2 _ _ (kp1 _ _ q); rw [hsk] at this; cases this
    unfold ksk_rest
    refine wpAny_bind (wpAny_rule ?_)
    rw [<- Array.forIn_toList]
    refine wpAny_bind (wpAny_mono (keys_loop (hb := Hb) (kS := kS) (kvs := kvs) (dd := dd) (f := .ref f) (items := items) h64 (fun i v h' tk' hi hk' => hf i v h' tk' hi fun b o ho => hk' b o (fun z => by rw [z, hnk] at ho; cases ho) (kpb b o ho)) (fun x ks e s' R hz hx => ?_) items [] [] 0 Hb tk rfl rfl ⟨fun b o _ ho => ho, hkS, fun i hi => absurd hi (by simp)⟩) (fun _ s' hd => ?_) fun _ _ x => x)
    . refine wpAny_bind (wpAny_attempt (wpAny_mono hx (fun k s'' hk => ?_) fun _ _ hF => hF.elim))
      obtain ⟨h', tk', rfl, hk', c⟩ := hk
      have s2 := Heap.SameBut.update h' kS (Obj.mapSeq (·.push k))
      have ea : ks.toArray.push k = (ks ++ [k]).toArray := by simp
      obtain ⟨c2, hc2⟩ : ∃ c2, (h'.update kS (Obj.mapSeq (·.push k))).get? kS = some (seqObj "list" (ks ++ [k]).toArray c2) := ⟨_, by rw [<- ea]; exact get?_update_seq hk' (·.push k)⟩
      dsimp only
      refine wpAny_bind (listUpdate_at hk' rfl ?_ (by rw [List.size_toArray, sizeLine_eq]; omega) (Nat.le_trans (Nat.le_of_eq (Array.size_push ..)) (by rw [List.size_toArray, sizeLine_eq]; omega)))
      exact wpAny_pure ⟨rfl, k, _, c2, tk', rfl, hc2, c _ c2 hc2 fun b o ne ho => (s2.2 b ne).trans ho⟩
    . obtain ⟨ks, e, h', tk', rfl, hlk, KI'⟩ := hd
      refine wpAny_bind (listItems_at KI'.st rfl ?_)
      refine end_keys h64 hlk hv hn KI' (KI'.keep _ _ hDk ho3) hDk hdd fun p h2 tk2 c hp hk2 hc2 => ?_
      refine ⟨_, rfl, wpAny_pure ⟨_, rfl, hQ D p h2 tk2 c hp (fun b o ho => hk2 b o (fun z => by rw [z, hnk] at ho; cases ho) (fun z => by rw [z, nD] at ho; cases ho) (KI'.keep b o (fun z => by rw [z, hnk] at ho; cases ho) (kpb b o ho))) nD hc2⟩⟩
end
end Mini
namespace Mini
structure Lam (C : Cx) (P c : Addr) : Prop where
  hd : CodeHd C.B c P
  no : C.B.get? P = none
  bm : ∃ bm ob, C.mg "__builtins__" = some (.ref bm) /\ bm ≠ builtinsNs /\ C.B.get? bm = some ob /\ ob.cls = .type "module" /\ ob.dict = some builtinsNs /\ ob.data = .plain
section
variable {C : Cx} {n m : Nat} {f : Fn} {A : Around} {E : Value -> Shared -> Prop} {ρ ρ' : Rho} {mh mh' : MH} {s s' : Shared} {v : V} {v' : Value} {h h' : Heap} {L : Fid} {loc loc' : Loc}
theorem Lam.at {P c : Addr} (La : Lam C P c) (hC : C.Ok) (S : SSt C ρ mh s) {oP : Obj} (hP : s.heap.get? P = some oP) : mainGlobals ≠ P /\ s.heap.BuiltinsAt C.mg P := by
  obtain ⟨bm, ob, b1, b2, b3, b4, b5, b6⟩ := La.bm
  have gP : mainGlobals ≠ P := fun q => by
    obtain ⟨o, es, ep, e, hd, _⟩ := hC.T.g
    rw [q, La.no] at e; cases e
  refine ⟨gP, bm, ob, b1, b2, fun q => ?_, fun q => ?_, S.keep _ _ b3, b4, b5, b6⟩
  . obtain ⟨o, es, ep, e, hd, _⟩ := hC.T.g
    rw [q, e] at b3; cases b3; rw [hd] at b6; cases b6
  . rw [q, La.no] at b3; cases b3
theorem mid_heap {P : Addr} {oP oP' : Obj} (h' : Heap) (e : h'.get? P = some oP') (nf : oP.isFreed = false) : ∃ H : Heap, H.get? P = some oP /\ ∀ b, b ≠ P -> H.get? b = h'.get? b :=
  ⟨h'.update P (fun _ => oP), Heap.get?_update_self _ e nf, fun b ne => (Heap.SameBut.update h' P (fun _ => oP)).2 b ne⟩
theorem lam_make (hC : C.Ok) {P c : Addr} (La : Lam C P c) (sh : Sh C s) (S : SSt C ρ mh s) {pos : Pos} {q : String} {m : MH} (e : tabNext P (pos.line : Int) (pos.col : Int) q mh = some m) {env : Env} {params : Arguments} {body : Expr} {lscope : Scope}
    (hcode : env.code = .ref c) (hge0 : env.globals = mainGlobals) (hcl : closureFor lscope env = pure []) :
    wpAny (model C.prog C.w) A (makeFunction "<lambda>" (Str.ofString q) params (.expr body) lscope env [] [] [] pos pos.line)
      (fun v s' => ∃ fl ρ' c' ctv pm, v = .ref fl /\ Ext [] ρ mh s.heap ρ' m s'.heap /\ Sh C s' /\ SSt C ρ' m s' /\ s'.heap.get? fl = some (kla_obj "<lambda>" (Str.ofString q) params body lscope [] pm c' ctv) /\ s'.heap.CodeRec (.ref c') (Str.ofString q)) E s := by
  have hg := hC.T.g.keeps S.keep
  have CH := La.hd.keeps S.keep
  cases tab_inv e with
  | new hm =>
    obtain ⟨p, hp⟩ := S.rho_of hm
    obtain ⟨e2, e1, hP⟩ := S.obj 0 p _ hp hm
    rw [e1] at hP
    obtain ⟨gP, hb⟩ := La.at hC S hP
    refine kla_makeFunction (ps := #[]) hcl hge0 hg hcode CH hP trivial rfl gP hb fun c' ctv h' tk hx hge hlt hrec htb => ?_
    have fr : s.heap.get? c' = none := by
      cases z : s.heap.get? c' with
      | none => rfl
      | some o => exact absurd (Heap.lt_size z) (Nat.not_lt.mpr hge)
    have cP : c' ≠ P := fun z => by rw [z, hP] at fr; cases fr
    obtain ⟨H, hHP, hHb⟩ := mid_heap h' htb (oP := tabObj #[]) rfl
    have recH : H.CodeRec (.ref c') (Str.ofString q) := by
      obtain ⟨c2, oc, vs, t, hc, ho, r⟩ := hrec
      cases hc
      exact ⟨_, oc, vs, t, rfl, (hHb _ cP).trans ho, r⟩
    have kH : ∀ b o, s.heap.get? b = some o -> H.get? b = some o := fun b o ho => by
      by_cases z : b = P
      . subst z; rw [hP] at ho; cases ho; exact hHP
      . exact (hHb b z).trans (hx b o z ho)
    obtain ⟨S1, x1, i1⟩ := S.alloc (h' := H) (p := (c', c')) (o := .code q) kH fr fr ⟨rfl, recH⟩
    have len := S.len
    have hp' : (ρ ++ [(c', c')])[0]? = some p := x1.pre _ _ hp
    obtain ⟨S2, x2⟩ := S1.put (h' := h') (i := 0) (p := p) (o := .tab P (some (mh.length, (pos.line : Int), (pos.col : Int)))) hp' (fun b o n1 n2 ho => by
      rw [e1] at n1
      exact (hHb b n1).symm.trans ho) fun _ => ⟨e2, e1, c', i1, by rw [e1]; exact htb⟩
    have g3 := S2.grow (push_keeps h' (kla_obj "<lambda>" (Str.ofString q) params body lscope [] ((C.mg "__name__").getD .none) c' ctv))
    refine ⟨_, _, c', ctv, _, rfl, x1.trans (x2.trans g3.2), sh, g3.1, Heap.get?_push_size _ rfl, ?_⟩
    obtain ⟨c2, oc, vs, t, hc, ho, r⟩ := hrec
    exact ⟨c2, oc, vs, t, hc, Heap.get?_push_of_some _ ho, r⟩
  | old j hm hq =>
    obtain ⟨p, hp⟩ := S.rho_of hm
    obtain ⟨e2, e1, c', hj, hP⟩ := S.obj 0 p _ hp hm
    rw [e1] at hP
    obtain ⟨gP, hb⟩ := La.at hC S hP
    obtain ⟨_, hrec⟩ := S.obj j _ _ hj hq
    have hrec : s.heap.CodeRec (.ref c') (Str.ofString q) := hrec
    refine kla_makeFunctionHit (cv := .ref c') hcl hge0 hg hcode CH hP (by trivial) (by unfold codeAmong; simp [rawInt]) hb fun ctv h' tk hk hsz => ?_
    have g3 := S.grow (h' := h'.push { cls := .type "function", data := .func (kla_fn "<lambda>" (Str.ofString q) params body lscope [] ((C.mg "__name__").getD .none) (.ref c') ctv) }) fun b o ho => Heap.get?_push_of_some _ (hk b o ho)
    refine ⟨_, _, c', ctv, _, rfl, g3.2, sh, g3.1, Heap.get?_push_size _ rfl, ?_⟩
    obtain ⟨c2, oc, vs, t, hc, ho, r⟩ := hrec
    exact ⟨c2, oc, vs, t, hc, Heap.get?_push_of_some _ (hk _ _ ho), r⟩
end
end Mini
namespace Mini
section
variable {C : Cx} {n m : Nat} {f : Fn} {A : Around} {E : Value -> Shared -> Prop} {ρ ρ' : Rho} {mh mh' : MH} {s s' : Shared} {v : V} {v' : Value} {h h' : Heap} {L : Fid} {loc loc' : Loc}
theorem Ext.keeps {X : List Addr} (S : St C.prog C.w C.B ρ mh h) (x : Ext X ρ mh h ρ' mh h') (hX : ∀ b ∈ X, h.get? b = none) : Keeps h h' := fun b o ho => by
  by_cases w : Own ρ b
  . obtain ⟨p, hp, hb⟩ := w
    obtain ⟨i, hi⟩ := List.getElem?_of_mem hp
    obtain ⟨m, hm⟩ := S.mh_of hi
    obtain ⟨st, e⟩ := ob_some hm
    obtain ⟨o', st', e', _, k⟩ := x.stays i m st e
    rw [e] at e'
    cases e'
    obtain ⟨_, k⟩ := k rfl
    rcases hb with rfl | rfl
    . exact (k p hi).1 o ho
    . exact (k p hi).2 o ho
  . exact x.kept b o ho w fun z => by rw [hX b z] at ho; cases ho
noncomputable abbrev lamScope : Scope := { kind := .function, names := [(Str.ofString "taken", .local)], isGenerator := false, isCoroutine := false }
theorem lam_run (hC : C.Ok) {cls N : Addr} (hc : ClsK C cls N) (h1 : (nsIn C.K N (Str.ofString "start")).join = none) (h2 : (nsIn C.K N (Str.ofString "number")).join = none)
    {fl c' x : Addr} {q : String} {params : Arguments} {pm ctv : Value} {p1 p2 p3 p4 p5 : Pos} {k : Nat} {i : Nat} {kk : Int × Int} (hr : Room 1 A) (sh : Sh C s) (S : SSt C ρ mh s)
    (hfl : s.heap.get? fl = some (kla_obj "<lambda>" (Str.ofString q) params (.Tuple [.Attribute (.Name (Str.ofString "taken") p1) (Str.ofString "start") p2, .Attribute (.Name (Str.ofString "taken") p3) (Str.ofString "number") p4] k p5) lamScope [] pm c' ctv))
    (hrec : s.heap.CodeRec (.ref c') (Str.ofString q)) (hb : bindArgs (kla_fn "<lambda>" (Str.ofString q) params (.Tuple [.Attribute (.Name (Str.ofString "taken") p1) (Str.ofString "start") p2, .Attribute (.Name (Str.ofString "taken") p3) (Str.ofString "number") p4] k p5) lamScope [] pm (.ref c') ctv) ⟨[.ref x], []⟩ = pure [(Str.ofString "taken", .ref x)])
    (dx : ValIs ρ s.heap (.ref x) (.ref i)) (hk : occKey cls mh (.ref i) = some kk) :
    wpAny (model C.prog C.w) A (call (.ref fl) [.ref x]) (fun r s'' => ∃ h'' tk'', s'' = ⟨h'', s.gens, s.drawn, tk'', s.os⟩ /\ Keeps s.heap h'' /\ KeyAt h'' r kk) E s := by
  have T := hC.T.keeps S.keep
  refine wpAny_call (kla_callFunE (by obtain ⟨h1, _⟩ := hr; omega) hfl rfl rfl rfl rfl hrec ?_)
  rw [hb]
  refine wpAny_pure (wpAny_newFunctionEnv (by intro y hy; rw [List.mem_singleton.mp hy]; show NameKind.local ≠ NameKind.cell; decide) (by intro y hy; rw [List.mem_singleton.mp hy]; show List.lookup (Str.ofString "taken") lamScope.names = some .local; decide +kernel) (fun h₁ hns hsb => ⟨T.nolimit.fresh _ hsb, ?_⟩) rfl)
  show codeAny _ _ (.expr _ ((Fn.of (Str.ofString q) lamScope fl (.ref c')).env ⟨s.heap.objs.size, []⟩)) _ _
  have hk₁ : ∀ b o, s.heap.get? b = some o -> h₁.get? b = some o := fun b o e => hsb.extBut b o (Nat.ne_of_lt (Heap.lt_size e)) (Heap.get?_push_of_some _ e)
  have nL := size_none s.heap
  have g1 := S.grow hk₁
  have nB : C.B.get? s.heap.objs.size = none := by
    cases z : C.B.get? s.heap.objs.size with
    | none => rfl
    | some o => have := S.keep _ _ z; rw [nL] at this; cases this
  have F : Fra C (Fn.of (Str.ofString q) lamScope fl (.ref c')) ⟨s.heap.objs.size, []⟩ [some (.ref i)] ρ mh { s with heap := h₁, toks := s.toks + 1 } := by
    refine ⟨sh, g1.1, ⟨_, hns, fun y j u hy hu => ?_⟩, fun y hy o => ?_, fun y hy => by rw [List.mem_singleton.mp hy]; exact nB, fun c hc => (nomatch hc), .nil, fun y hy => ?_⟩
    . have hj : j = 0 := by
        have := (List.getElem?_eq_some_iff.mp hu).1
        simpa using this
      subst hj
      have hu : u = .ref i := by simpa using hu.symm
      subst hu
      obtain ⟨_, hb', _⟩ := List.findIdx?_eq_some_iff_getElem.mp hy
      have hy' : Str.ofString "taken" = y := eq_of_beq hb'
      subst hy'
      refine ⟨.ref x, ?_, dx.mono (g1.2.tup S) (.refl ρ)⟩
      unfold Holds
      rw [if_neg (by show ¬ List.lookup (Str.ofString "taken") lamScope.names = some .cell; decide +kernel)]
      show List.lookup _ [_] = _
      rw [List.lookup_cons]
      simp
    . rw [List.mem_singleton.mp hy] at o
      obtain ⟨_, t⟩ := S.there o
      rw [nL] at t; cases t
    . have := lookup_mem hy
      simp at this
  have se : SemE C 0 (Fn.of (Str.ofString q) lamScope fl (.ref c')) (.Tuple [.Attribute (.Name (Str.ofString "taken") p1) (Str.ofString "start") p2, .Attribute (.Name (Str.ofString "taken") p3) (Str.ofString "number") p4] k p5) (rTup (rCons (rOp1 (rLoc 0) (gAttr cls "start")) (rCons (rOp1 (rLoc 0) (gAttr cls "number")) rNil))) := by
    refine' SemE.tup (SemEs.cP ?a (SemEs.cP ?b SemEs.nil ?z) ?z2) ?z3
    case z3 => show 2 <= 1000; decide
    case z => rfl
    case z2 => rfl
    case a => exact SemE.attr (SemE.loc 0 (by kernel_rfl)) (Op1.attr hC hc h1 (by rfl))
    case b => exact SemE.attr (SemE.loc 0 (by kernel_rfl)) (Op1.attr hC hc h2 (by rfl))
  have val : (rTup (rCons (rOp1 (rLoc 0) (gAttr cls "start")) (rCons (rOp1 (rLoc 0) (gAttr cls "number")) rNil))) [some (.ref i)] mh = some (.tup [.int kk.1, .int kk.2], mh) := by
    refine occKey_elim hk fun i' fs ei hm ha hb => ?_
    cases ei
    simp [rTup, rCons, rOp1, rLoc, rNil, gAttr, bd, vref, oN, gd, bo, hm, ha, hb]
  refine kla_codeExpr (wpAny_mono (se _ _ ⟨s.heap.objs.size, []⟩ _ ρ mh { s with heap := h₁, toks := s.toks + 1 } _ mh (Room.deeper hr) F val) (fun r s' pp => ?_) fun _ _ x => x)
  obtain ⟨ρ₂, x₂, sh₂, S₂, d₂⟩ := pp
  have kp : Keeps h₁ s'.heap := Ext.keeps g1.1 x₂ (fun b hb => (nomatch hb))
  cases d₂
  rename_i a items ht hv
  cases hv with
  | cons d1 hv =>
    cases hv with
    | cons d2 hv =>
      cases hv
      cases d1
      cases d2
      obtain ⟨o, ho, hc', mm, hd⟩ := ht
      obtain ⟨h5, g5, dr5, tk5, os5⟩ := s'
      obtain ⟨e1, e2, e3⟩ := sh₂
      obtain ⟨e4, e5, e6⟩ := sh
      exact ⟨h5, tk5, by rw [e4, e5, e6, <- e1, <- e2, <- e3], fun b o ho => kp _ _ (hk₁ _ _ ho), a, o, mm, _, _, rfl, ho, hc', hd⟩
end
end Mini
namespace Mini
noncomputable def rBS (P cls : Nat) (l c : Int) (q : String) : RE := fun loc mh => bo (loc[0]?).join fun v => gByStart P cls l c q [v] mh
section
variable {C : Cx} {n m : Nat} {f : Fn} {A : Around} {E : Value -> Shared -> Prop} {ρ ρ' : Rho} {mh mh' : MH} {s s' : Shared} {v : V} {v' : Value} {h h' : Heap} {L : Fid} {loc loc' : Loc}
theorem tabNext_ob {P : Nat} {l c : Int} {q : String} {mh m : MH} (e : tabNext P l c q mh = some m) {j : Nat} {o : MObj} (hj : ob mh j = some o) (ht : ∀ P k, o ≠ .tab P k) : ob m j = some o := by
  cases tab_inv e with
  | new hm =>
    have : j ≠ 0 := fun z => by subst z; rw [hm] at hj; cases hj; exact ht _ _ rfl
    rw [ob_put_ne _ _ (Ne.symm this)]
    exact ob_mk _ hj
  | old j hm hq => exact hj
theorem occKey_next {P cls : Nat} {l c : Int} {q : String} {mh m : MH} (e : tabNext P l c q mh = some m) {v : V} {k : Int × Int} (hk : occKey cls mh v = some k) : occKey cls m v = some k /\ ∃ j, v = .ref j := by
  exact occKey_elim hk fun i fs ei hm ha hb => by
    subst ei
    exact ⟨occKey_of (tabNext_ob e hm (by intro P k z; cases z)) ha hb, i, rfl⟩
theorem keysOf_spec {cls : Nat} {mh : MH} {vs : List V} : ∀ {kvs : List KV}, keysOf cls mh vs = some kvs -> kvs.map (·.2) = vs /\ ∀ i v, vs[i]? = some v -> ∀ dd, occKey cls mh v = some (kvs.getD i dd).1 := by
  induction vs with
  | nil => intro kvs h; cases h; exact ⟨rfl, fun i v h => by simp at h⟩
  | cons x r ih =>
    intro kvs h
    refine bo_elim h fun k h1 h => bo_elim h fun q h2 h => ?_
    cases h
    obtain ⟨e1, e2⟩ := ih h2
    refine ⟨by simp [e1], fun i v hv dd => ?_⟩
    cases i with
    | zero => simp at hv; subst hv; simpa using h1
    | succ i => simpa using e2 i v (by simpa using hv) dd
theorem vals_getD {ρ : Rho} {h : Heap} {items : List Value} {vs : List V} (d : ValsAre ρ h items vs) (i : Nat) : ValIs ρ h (items.getD i Value.none) (vs.getD i V.none) := by
  rw [List.getD_eq_getElem?_getD, List.getD_eq_getElem?_getD]
  have len := d.length
  cases q : vs[i]? with
  | none =>
    have : items[i]? = none := by
      rw [List.getElem?_eq_none_iff] at q ⊢; omega
    rw [this]; exact .none
  | some x =>
    obtain ⟨y, h1, h2⟩ := d.get q
    rw [h1]; exact h2
theorem vals_mapD {ρ : Rho} {h : Heap} {items : List Value} {vs : List V} (d : ValsAre ρ h items vs) : ∀ (p : List Nat), ValsAre ρ h (p.map fun i => items.getD i Value.none) (p.map fun i => vs.getD i V.none)
  | [] => .nil
  | i :: p => .cons (vals_getD d i) (vals_mapD d p)
inductive BSI (P cls : Nat) (l c : Int) (q : String) (loc : Loc) (mh : MH) : V -> MH -> Prop
  | mk (i : Nat) (vs : List V) (kvs : List KV) (m : MH) (hv0 : loc[0]? = some (some (.ref i))) (hm : ob mh i = some (.list vs)) (hlen : vs.length < 64) (hkv : keysOf cls mh vs = some kvs) (htn : tabNext P l c q mh = some m)
    (hnd : (kvs.map (·.1)).Nodup) : BSI P cls l c q loc mh (.ref m.length) (mkO m (.list ((sortK kvs).map (·.2))))
theorem BS_inv {P cls : Nat} {l c : Int} {q : String} {loc : Loc} {mh mh' : MH} {v : V} (e : rBS P cls l c q loc mh = some (v, mh')) : BSI P cls l c q loc mh v mh' :=
  bo_elim e fun v0 hv e => on1_elim e fun a ea e => vref_elim e fun i ei e => oL_elim e fun vs hm e => gd_elim e fun hlen e => bo_elim e fun kvs hkv e => bo_elim e fun m htn e => gd_elim e fun hnd e => by
    cases e; cases ea; subst ei
    cases hx : loc[0]? with
    | none => rw [hx] at hv; cases hv
    | some x => rw [hx] at hv; exact ⟨i, vs, kvs, m, by rw [hx]; exact congrArg some hv, hm, hlen, hkv, htn, hnd⟩
theorem byStart_call (hC : C.Ok) {P c : Addr} (La : Lam C P c) {cls N : Addr} (hc : ClsK C cls N) (h1 : (nsIn C.K N (Str.ofString "start")).join = none) (h2 : (nsIn C.K N (Str.ofString "number")).join = none)
    {scope : Scope} {fa : Addr} {q qf : String} {pS pO kp ka lpos pos p1 p2 p3 p4 p5 : Pos} {k : Nat} {params : Arguments} {xo : Str}
    (hS : Stands C (Fn.of (Str.ofString qf) scope fa (.ref c)) (.Name (Str.ofString "sorted") pS) (.builtin "sorted")) (hat : (Fn.of (Str.ofString qf) scope fa (.ref c)).at xo 0 = true)
    (hq : Str.ofString qf ++ ".<locals>." ++ "<lambda>" = Str.ofString q)
    (hpar : params = { posonlyargs := [], args := [{ arg := Str.ofString "taken", annotation := Option.none, pos := ka }], vararg := none, kwonlyargs := [], kw_defaults := [], kwarg := none, defaults := [] }) :
    SemE C 3 (Fn.of (Str.ofString qf) scope fa (.ref c)) (.Call (.Name (Str.ofString "sorted") pS) [.Name xo pO]
      [⟨some (Str.ofString "key"), .Lambda params (.Tuple [.Attribute (.Name (Str.ofString "taken") p1) (Str.ofString "start") p2, .Attribute (.Name (Str.ofString "taken") p3) (Str.ofString "number") p4] k p5) lamScope lpos, kp⟩] pos)
      (rBS P cls (lpos.line : Int) (lpos.col : Int) q) := fun A E L loc ρ mh s v mh' hr F e => by
  obtain ⟨i, vs, kvs, m, hv0, hm, hlen, hkv, htn, hnd⟩ := BS_inv e
  obtain ⟨kv1, kv2⟩ := keysOf_spec hkv
  rw [arm_eval_Call_Name']
  refine wpAny_bind (hS A E L loc ρ mh s _ F ?_)
  refine callWith_of (P := C.K.In) rfl Keepable.builtin (evalArgs_kw2 rfl (spliced_more (wpAny_mono (SemE.loc (n := 3) 0 hat A E L loc ρ mh s (.ref i) mh hr F (by unfold rLoc; rw [hv0])) (fun v0' s₁ pp => ?_) fun _ _ x => x) rfl))
  obtain ⟨ρ₁, x₁, sh₁, S₁, d₁⟩ := pp
  refine spliced_nil (kwAll_cons (kla_eval (by subst hpar; rfl) ?_))
  have hqual : ((Fn.of (Str.ofString qf) scope fa (.ref c)).env L).qual ++ "<lambda>" = Str.ofString q := hq
  rw [hqual]
  refine wpAny_mono (lam_make hC La sh₁ S₁ htn rfl rfl (closureFor_none (by rfl))) (fun fv s₂ pp => ?_) fun _ _ x => x
  obtain ⟨fl, ρ₂, c', ctv, pm, rfl, x₂, sh₂, S₂, hfl, hrec⟩ := pp
  refine kwAll_nil ⟨fun a o e => S₂.keep a o (hC.X a o e), ?_⟩
  cases d₁
  rename_i p hp
  have hm2 := tabNext_ob htn hm (by intro P k z; cases z)
  have hp2 := x₂.pre _ _ hp
  obtain ⟨_, items, kst, ho, hvs⟩ := S₂.obj i p _ hp2 hm2
  have len := hvs.length
  have lkv : kvs.length = vs.length := by rw [<- kv1]; simp
  obtain ⟨hh, gg, dd, tt, oo⟩ := s₂
  show wpAny _ A (call (.builtin "sorted") [.ref p.1] [(Str.ofString "key", .ref fl)]) _ E _
  refine sorted_keys (kvs := kvs) (dd := ((0, 0), .none)) (listAt_isList ho) (by omega) (by omega) hnd rfl (fun j w h' tk' hj kh => ?_) fun D p' h' tk' cc hp' kh hD hD' => ?_
  . have hj2 : ∃ y, vs[j]? = some y := by
      have := (List.getElem?_eq_some_iff.mp hj).1
      exact ⟨_, List.getElem?_eq_getElem (by omega)⟩
    obtain ⟨y, hy⟩ := hj2
    obtain ⟨ok, jj, rfl⟩ := occKey_next htn (kv2 j y hy ((0, 0), .none))
    obtain ⟨w', hw', dw⟩ := hvs.get hy
    rw [hj] at hw'
    cases hw'
    have S3 := S₂.grow kh
    have dw' := dw.ext S₂ S3.2
    cases dw'
    rename_i px hpx
    exact wpAny_mono (lam_run (s := ⟨h', gg, dd, tk', oo⟩) hC hc h1 h2 (Room.up (n := 1) (m := 2) ⟨by obtain ⟨a, _⟩ := hr; show A.depth + _ < _; omega, by obtain ⟨_, a, _⟩ := hr; show A.units + 1 + 1 + _ < _; omega, hr.2.2⟩ (by decide)) sh₂ S3.1 (kh _ _ hfl)
      (by obtain ⟨c2, oc, us, t, hcc, ho, r⟩ := hrec; exact ⟨c2, oc, us, t, hcc, kh _ _ ho, r⟩) (by subst hpar; rfl) (.ref hpx) ok) (fun _ _ z => z) fun _ _ z => z
  . obtain ⟨S4, x4, i4⟩ := S₂.alloc (h' := h') (p := (D, D)) (o := .list ((sortK kvs).map (·.2))) kh hD hD ⟨rfl, _, cc, hD', by
      have e1 : (sortK kvs).map (·.2) = p'.map fun i => vs.getD i V.none := by
        rw [<- hp', List.map_map]
        refine List.map_congr_left fun a _ => ?_
        show (kvs.getD a ((0, 0), .none)).2 = vs.getD a V.none
        rw [<- kv1, List.getD_eq_getElem?_getD, List.getD_eq_getElem?_getD, List.getElem?_map]
        cases kvs[a]? <;> rfl
      rw [e1]
      exact (vals_mapD hvs p').mono ((S₂.grow kh).2.tup S₂) (.append _ _)⟩
    exact ⟨_, x₁.trans (x₂.trans x4), sh₂, S4, .ref (p := (D, D)) i4⟩
end
end Mini
namespace Mini
section
variable {C : Cx} {n m : Nat} {f : Fn} {A : Around} {E : Value -> Shared -> Prop} {ρ ρ' : Rho} {mh mh' : MH} {s s' : Shared} {v : V} {v' : Value} {h h' : Heap} {L : Fid} {loc loc' : Loc}
theorem SemS1.tryOk {body : List Stmt} {h₀ : ExceptHandler} {hs : List ExceptHandler} {pos : Pos} {r : RS} (hb : SemS C n f body r) : SemS1 C n f (.Try body (h₀ :: hs) [] [] pos) r := fun A E L loc ρ mh s x hr F e => by
  refine wpAny_Try_except (wpAny_mono (hb A _ L loc ρ mh s x hr F e) (fun fl s₁ p => ?_) fun _ _ z => z)
  cases fl with
  | next => exact wpAny_execs_nil p
  | _ => exact p
end
end Mini
namespace Mini
section
variable {prog : Program} {w : World} {A : Around} {E : Value -> Shared -> Prop} {h : Heap} {g : Array GenState} {d : Drawn} {t : Nat} {os : OsState}
variable {nm q : Str} {C N : Addr} {bs bm bmB : List Value} {hdct : Bool} {sn : List Str} {sub : List Value} {ab : Bool} {col : Option Bool} {dd : Option Addr} {k0 k1 k2 k3 k5 : Option Value} {B newId initId : String}
theorem exc_type_call (F : ExcBaseFacts B newId initId bmB) (T : OwnTail h bmB bm) {mN : Str -> Option Value} {rest : List Value} {fI : Addr} {oI : Obj} {Q : PySem.Fin -> Shared -> Prop}
    (hC : h.get? C = some (excClassObj nm q C N bs bm hdct sn sub ab col dd k0 k1 k2 k3 k5 newId)) (hn : h.Ns N mN) (hi : mN "__init__" = some (.ref fI))
    (hfI : h.get? fI = some oI) (hfc : oI.cls = .type "function")
    (hq : ∀ h' e, Heap.MadeExcOf h h' e (.ref C) rest ->
      wpAny (model prog w) A (call (.ref fI) (.ref e :: rest)) (fun r s' => r = .none /\ Q (.done (.ret (.ref e))) s') E ⟨h', g, d, t, os⟩) (hrest : rest.length <= sizeLine := by size_fits) :
    wpAny (model prog w) A (Builtin.«type.__call__» ⟨.ref C :: rest, []⟩) Q E ⟨h, g, d, t, os⟩ := by
  repeat (first | with_reducible refine wpAny_loadPart_at hC ?_ | with_reducible refine wpAny_madeBy_exc hC ?_ | wp_step)
  refine codeAny_call_builtin_code (Code.quiet_builtin _ F.quiet) (wpAny_check_new_subT F T hC ?_)
  refine codeAny_exc_new_subT F T hC ?_ hrest
  show wpAny _ _ _ _ _ _
  have hC₁ := Heap.get?_push_of_some { cls := .ref C, data := .fields #[.ref h.objs.size, .none, .none, .none, .bool false, .none] }
    (Heap.get?_push_of_some { cls := .type "tuple", data := .seq rest.toArray } hC)
  have hfI₁ := Heap.get?_push_of_some { cls := .ref C, data := .fields #[.ref h.objs.size, .none, .none, .none, .bool false, .none] }
    (Heap.get?_push_of_some { cls := .type "tuple", data := .seq rest.toArray } hfI)
  have hn₁ : ((h.push { cls := .type "tuple", data := .seq rest.toArray }).push { cls := .ref C, data := .fields #[.ref h.objs.size, .none, .none, .none, .bool false, .none] }).Ns N mN :=
    let ⟨o, es, ep, e, r⟩ := hn; ⟨o, es, ep, Heap.get?_push_of_some _ (Heap.get?_push_of_some _ e), r⟩
  have hget : ((h.push { cls := .type "tuple", data := .seq rest.toArray }).push
      { cls := .ref C, data := .fields #[.ref h.objs.size, .none, .none, .none, .bool false, .none] }).get? (h.objs.size + 1) = some
      { cls := .ref C, data := .fields #[.ref h.objs.size, .none, .none, .none, .bool false, .none] } := by heap_get
  have hcC : (Value.ref C :: bm).contains (.ref C) = true := by simp
  have T₁ := T.keeps (h' := (h.push { cls := .type "tuple", data := .seq rest.toArray }).push { cls := .ref C, data := .fields #[.ref h.objs.size, .none, .none, .none, .bool false, .none] })
    fun b o e => Heap.get?_push_of_some _ (Heap.get?_push_of_some _ e)
  unfold isInstance
  repeat (first | with_reducible refine wpAny_loadPart_at hget ?_ | (with_reducible refine wpAny_isSubtype_exc hC₁ ?_; rw [hcC]) | wp_step)
  show wpAny _ _ (typeLookup (.ref C) _) _ _ _
  refine wpAny_typeLookup_tail hC₁ hn₁ T₁ F.mroIs F.init.lookup ?_
  rw [hi]
  refine wpAny_holding (wpAny_bind ?_)
  unfold bindSpecial
  refine wpAny_bind (wpAny_typeOf (T := "function") ⟨_, hfI₁, hfc⟩ ?_)
  rw [if_pos (by decide)]
  refine wpAny_pure (wpAny_bind (wpAny_mono (hq _ (h.objs.size + 1) ⟨fun b o hb => Heap.get?_push_of_some _ (Heap.get?_push_of_some _ hb), Heap.get?_none_of_le (Nat.le_succ _), h.objs.size, hget, Heap.get?_none_of_le (Nat.le_refl _), ?_⟩) (fun r s' hr => ?_) fun _ _ x => x))
  . exact Heap.get?_push_of_some _ (Heap.get?_push_at rfl rfl)
  . obtain ⟨rfl, hQ⟩ := hr
    wp_walk
    exact hQ
theorem exc_call (F : ExcBaseFacts B newId initId bmB) (T : OwnTail h bmB bm) {mN : Str -> Option Value} {rest : List Value} {fI : Addr} {oI : Obj} {Q : Value -> Shared -> Prop}
    (hC : h.get? C = some (excClassObj nm q C N bs bm hdct sn sub ab col dd k0 k1 k2 k3 k5 newId)) (hn : h.Ns N mN) (hi : mN "__init__" = some (.ref fI))
    (hfI : h.get? fI = some oI) (hfc : oI.cls = .type "function")
    (hq : ∀ h' e, Heap.MadeExcOf h h' e (.ref C) rest ->
      wpAny (model prog w) (A.under (.builtin "type.__call__" ⟨.ref C :: rest, []⟩)) (call (.ref fI) (.ref e :: rest)) (fun r s' => r = .none /\ Q (.ref e) s') E ⟨h', g, d, t, os⟩) (hrest : rest.length <= sizeLine := by size_fits) :
    wpAny (model prog w) A (call (.ref C) rest) Q E ⟨h, g, d, t, os⟩ := by
  have f1 := tc_lookup
  have f2 := tc_bind (.ref C)
  have hT : (⟨h, g, d, t, os⟩ : Shared).TypeIs (.ref C) "type" := ⟨_, hC, rfl⟩
  refine wpAny_call (codeAny_of_tree ?_)
  show wpAny _ _ (callAny (.ref C) _) _ _ _
  repeat (any_goals (first | assumption | with_reducible refine wpAny_loadPart_at hC ?_ | wp_step))
  refine ⟨rfl, ?_⟩
  refine codeAny_call_builtin_at (Code.quiet_builtin _ (by decide +kernel)) entry_typeCall (wpAny_check_type_call_sub hC (exc_type_call (hrest := hrest) F T hC hn hi hfI hfc fun h' e hm => ?_))
  exact hq h' e hm
end
end Mini
namespace Mini
section
variable {prog : Program} {w : World} {A : Around} {E : Value -> Shared -> Prop} {h : Heap} {g : Array GenState} {d : Drawn} {t : Nat} {os : OsState}
variable {nm q : Str} {C N x A' : Addr} {bs bmB : List Value} {sn : List Str} {sub : List Value} {ab : Bool} {col : Option Bool} {dd : Option Addr} {k0 k1 k2 k3 k5 : Option Value} {B newId sa owner : String}
  {mN mP : Str -> Option Value} {name : Str} {v : Value} {c0 : Value} {ddA : Option Addr} {cd : ClassData} {sl : Array (Option Value)}
noncomputable abbrev excObj2 (nm q : Str) (C N A' : Addr) (bs bmB : List Value) (sn : List Str) (sub : List Value) (ab : Bool) (col : Option Bool) (dd : Option Addr) (k0 k1 k2 k3 k5 : Option Value) (newId : String) : Obj :=
  excClassObj nm q C N bs (.ref A' :: bmB) true sn sub ab col dd k0 k1 k2 k3 k5 newId
theorem lookup2 {M : Model} {y : Option Value} {Q : Option Value -> Shared -> Prop} (hC : h.get? C = some (excObj2 nm q C N A' bs bmB sn sub ab col dd k0 k1 k2 k3 k5 newId)) (hn : h.Ns N mN)
    (hA : h.get? A' = some { cls := c0, dict := ddA, data := .cls cd, slots := sl }) (hP : h.Ns cd.ns mP) (hbm : mroOf (.type B) = pure bmB) (hB : typeLookup (.type B) name = pure y)
    (hq : Q (match mN name with | some v => some v | none => match mP name with | some v => some v | none => y) ⟨h, g, d, t, os⟩) : wpAny M A (typeLookup (.ref C) name) Q E ⟨h, g, d, t, os⟩ := by
  have hrest : lookupAlong bmB name = pure y := by rw [typeLookup_eq, hbm] at hB; exact hB
  rw [typeLookup_eq]
  refine wpAny_bind (wpAny_mroOf_exc hC ?_)
  rw [lookupAlong_cons]
  refine wpAny_bind (wpAny_classOwn_exc hC hn ?_)
  cases hv : mN name with
  | some v => rw [hv] at hq; exact wpAny_pure hq
  | none =>
    rw [hv] at hq
    dsimp only at hq ⊢
    rw [lookupAlong_cons]
    refine wpAny_bind (wpAny_classOwn_cls hA hP ?_)
    cases hv2 : mP name with
    | some v => rw [hv2] at hq; exact wpAny_pure hq
    | none => rw [hv2] at hq; rw [hrest]; exact wpAny_pure hq
theorem check2 {M : Model} {o : Obj} {nameV : Value} {Q : Unit -> Shared -> Prop} (SF : StoreFacts B bmB sa owner)
    (hC : h.get? C = some (excObj2 nm q C N A' bs bmB sn sub ab col dd k0 k1 k2 k3 k5 newId)) (hx : h.get? x = some o) (hc : o.cls = .ref C) (hq : Q () ⟨h, g, d, t, os⟩) :
    wpAny M A (checkBuiltinCall sa ⟨[.ref x, nameV, v], []⟩) Q E ⟨h, g, d, t, os⟩ := by
  have hcB : (Value.ref C :: .ref A' :: bmB).contains (.type owner) = true := by rw [List.contains_cons, List.contains_cons, SF.hasOwner, Bool.or_true, Bool.or_true]
  have ha := SF.args (.ref x) nameV v
  simp only [checkBuiltinCall, SF.kind, SF.split]
  refine wpAny_bind ?_
  . unfold isInstance
    repeat (first | (with_reducible refine wpAny_loadPart_at hx ?_; rw [hc]) | (with_reducible refine wpAny_isSubtype_exc hC ?_; rw [hcB]) | wp_step)
    cases hsig : Manifest.signature? sa with
    | none => exact wpAny_pure hq
    | some sig =>
      simp only [argsOk, hsig] at ha
      have h2 : Bind.checkArgs sa sig ⟨[.ref x, nameV, v], []⟩ = pure () := ha
      show wpAny M A (Bind.checkArgs sa sig ⟨[.ref x, nameV, v], []⟩) Q E _
      rw [h2]; exact wpAny_pure hq
theorem entry2 {tk : Tok} {o : Obj} {Q : PySem.Fin -> Shared -> Prop} (SF : StoreFacts B bmB sa owner)
    (hC : h.get? C = some (excObj2 nm q C N A' bs bmB sn sub ab col dd k0 k1 k2 k3 k5 newId)) (hn : h.Ns N mN)
    (hA : h.get? A' = some { cls := c0, dict := ddA, data := .cls cd, slots := sl }) (hP : h.Ns cd.ns mP) (hna : mN name = none) (hpa : mP name = none)
    (hB : typeLookup (.type B) name = pure none) (hx : h.get? x = some o) (hc : o.cls = .ref C) (hnc : ∀ c, o.data ≠ .cls c) (hdn : o.dict = none)
    (hq : ∀ h' tk' dx, dx ≠ x -> h.get? dx = none -> h'.get? x = some { o with dict := some dx } -> h'.Ns1 dx (fun y => if y = name then some v else none) ->
      (∀ b ob, b ≠ x -> h.get? b = some ob -> h'.get? b = some ob) -> Q (.done (.ret .none)) ⟨h', g, d, tk', os⟩) :
    wpAny (model prog w) A (Builtin.«object.__setattr__» ⟨[.ref x, .str name tk, v], []⟩) Q E ⟨h, g, d, t, os⟩ := by
  have hpass := SF.passes (.ref x)
  unfold Builtin.«object.__setattr__»
  repeat (first | rw [refuse_eq] | (rw [refuseLoop_ref, refuseLoop_ref, hpass]) | (with_reducible refine wpAny_loadPart_at hx ?_; rw [hc]) | with_reducible refine wpAny_mroOf_exc hC ?_ | (with_reducible refine lookup2 hC hn hA hP SF.mro hB ?_; rw [hna, hpa]) | wp_step)
  rw [hdn, if_neg (by simp [typeHasDict])]
  split
  . rename_i hcd
    cases hcd
  split
  . rename_i c hcd
    exact absurd hcd (hnc c)
  . have hx₁ : (h.push { cls := .type "dict", data := .dict #[] }).get? x = some o := Heap.get?_push_of_some _ hx
    have hxs : x ≠ h.objs.size := Nat.ne_of_lt (Heap.lt_size hx)
    refine wpAny_bind (wpAny_alloc' ?_)
    refine wpAny_bind (wpAny_update' hx₁ ?_)
    refine wpAny_pure ?_
    have hgd : ((h.push { cls := .type "dict", data := .dict #[] }).update x fun o => { cls := o.cls, dict := some h.objs.size, data := o.data, slots := o.slots }).get? h.objs.size
        = some { cls := .type "dict", data := .dict #[] } :=
      (Heap.get?_update_ne _ _ _ _ hxs.symm).trans (Heap.get?_push_at rfl rfl)
    have hnd : ((h.push { cls := .type "dict", data := .dict #[] }).update x fun o => { cls := o.cls, dict := some h.objs.size, data := o.data, slots := o.slots }).Ns h.objs.size (fun _ => none) :=
      ⟨_, #[], _, hgd, rfl, fun e he => absurd he (by simp), fun _ => rfl⟩
    show wpAny _ _ (Builtin.ObjectAttr.storeInDict h.objs.size (.str name tk) name v) _ _ _
    unfold Builtin.ObjectAttr.storeInDict Builtin.ObjectAttr.newKeyGuard
    refine wpAny_bind (wpAny_pure (wpAny_bind (wpAny_nsSet1 (Heap.Ns1.of_empty hnd) fun h' hn' hs => ?_)))
    obtain ⟨oD, esD, epD, hoD, hdD, hcD⟩ := hn'.count (Within.cons name v Within.nil)
    refine wpAny_bind (wpAny_lookBehind hoD (by rw [hdD]; exact pastItsLine_dict (Nat.le_trans hcD (by rw [List.length_cons, List.length_nil, sizeLine_eq]; omega))) ?_)
    wp_walk
    refine hq h' _ h.objs.size hxs.symm (size_none h) ?_ ?_ fun b ob hbx hb => ?_
    . refine (hs.2 x hxs).trans (Heap.get?_update_self _ hx₁ ?_)
      have hfr := (Heap.get?_some_iff.mp hx).2
      obtain ⟨oc, od, odt, osl⟩ := o
      cases odt <;> first | rfl | exact hfr
    . exact hn'
    . exact (hs.2 b (Nat.ne_of_lt (Heap.lt_size hb))).trans ((Heap.get?_update_ne _ _ _ _ hbx).trans (Heap.get?_push_of_some _ hb))
theorem store2 {o : Obj} {Q : Unit -> Shared -> Prop} (SF : StoreFacts B bmB sa owner)
    (hC : h.get? C = some (excObj2 nm q C N A' bs bmB sn sub ab col dd k0 k1 k2 k3 k5 newId)) (hn : h.Ns N mN)
    (hA : h.get? A' = some { cls := c0, dict := ddA, data := .cls cd, slots := sl }) (hP : h.Ns cd.ns mP) (hns : mN "__setattr__" = none) (hps : mP "__setattr__" = none) (hna : mN name = none) (hpa : mP name = none)
    (hB : typeLookup (.type B) name = pure none) (hx : h.get? x = some o) (hc : o.cls = .ref C) (hnc : ∀ c, o.data ≠ .cls c) (hdn : o.dict = none)
    (hq : ∀ h' tk' dx, dx ≠ x -> h.get? dx = none -> h'.get? x = some { o with dict := some dx } -> h'.Ns1 dx (fun y => if y = name then some v else none) ->
      (∀ b ob, b ≠ x -> h.get? b = some ob -> h'.get? b = some ob) -> Q () ⟨h', g, d, tk', os⟩) :
    wpAny (model prog w) A (setAttr (.ref x) name v) Q E ⟨h, g, d, t, os⟩ := by
  have f3 := SF.slot.bind (.ref x)
  unfold setAttr callSpecial? specialOf
  repeat (any_goals (first | assumption | (with_reducible refine wpAny_loadPart_at hx ?_; rw [hc]) | (with_reducible refine lookup2 hC hn hA hP SF.mro SF.slot.lookup ?_; rw [hns, hps]) | wp_step))
  refine codeAny_call_builtin SF.slot.plain SF.entry (check2 SF hC hx hc (entry2 SF hC hn hA hP hna hpa hB hx hc hnc hdn fun h' tk' dx a1 a2 a3 a4 a5 => ?_))
  repeat (any_goals (first | assumption | wp_step))
  exact hq h' tk' dx a1 a2 a3 a4 a5
end
end Mini
namespace Mini
theorem lk_Exc_ball : typeLookup (.type "Exception") (Str.ofString "ball") = pure none := by rw [typeLookup_type, builtinLookup_eq_fast]; kernel_rfl
section
variable {prog : Program} {w : World} {A : Around} {E : Value -> Shared -> Prop} {h : Heap} {g : Array GenState} {d : Drawn} {t : Nat} {os : OsState}
variable {nm q : Str} {C N x A' : Addr} {bs : List Value} {sn : List Str} {sub : List Value} {ab : Bool} {col : Option Bool} {dd : Option Addr} {k0 k1 k2 k3 k5 : Option Value} {newId sa owner : String}
  {mN mP : Str -> Option Value} {name : Str} {v : Value} {c0 : Value} {ddA : Option Addr} {cd : ClassData} {sl : Array (Option Value)}
noncomputable abbrev bmE : List Value := [.type "Exception", .type "BaseException", .type "object"]
end
end Mini
namespace Mini
section
variable {M : Model} {A : Around} {E : Value -> Shared -> Prop} {s : Shared} {env : Env}
variable {nm q : Str} {C N A' : Addr} {bs bmB : List Value} {sn : List Str} {sub : List Value} {ab : Bool} {col : Option Bool} {dd : Option Addr} {k0 k1 k2 k3 k5 : Option Value} {newId : String}
theorem raise2 {x : Sem Value} {Q : Flow -> Shared -> Prop} (hbase : bmB.contains (.type "BaseException") = true) (hh : A.handled = none)
    (h : wpAny M A x (fun v s₁ => ∃ e o vs, v = .ref e /\ s₁.heap.get? C = some (excObj2 nm q C N A' bs bmB sn sub ab col dd k0 k1 k2 k3 k5 newId) /\
      s₁.heap.get? e = some o /\ o.cls = .ref C /\ o.data = .fields vs /\ vs[1]? = some .none /\ E (.ref e) s₁) E s) :
    wpAny M A (raiseStmt env (some x) none) Q E s := by
  have hcB : (Value.ref C :: .ref A' :: bmB).contains (.type "BaseException") = true := by rw [List.contains_cons, List.contains_cons, hbase, Bool.or_true, Bool.or_true]
  unfold raiseStmt
  refine wpAny_bind (wpAny_mono h (fun v s₁ h₁ => ?_) fun _ _ x => x)
  obtain ⟨e, o, vs, rfl, hC, he, hcls, hd, h1, hE⟩ := h₁
  obtain ⟨hp, g, d, tk, os⟩ := s₁
  repeat (first | with_reducible refine wpAny_field he hd h1 ?_ | (with_reducible refine wpAny_loadPart_at he ?_; rw [hcls]) | with_reducible refine wpAny_loadPart_at hC ?_ | (with_reducible refine wpAny_isSubtype_exc hC ?_; rw [hcB]) | wp_step)
  exact wpAny_raiseNew_none hh hE
structure Flies (h : Heap) (e : Addr) (cls : Value) (dx : Option Addr) (fl : Value) (T : Addr) : Prop where
  at' : ∃ oe vs, h.get? e = some oe /\ oe.cls = cls /\ oe.dict = dx /\ oe.data = .fields vs /\ vs[1]? = some (.ref T)
  ne : T ≠ e
  tb : ∃ oT ts, h.get? T = some oT /\ oT.data = .fields ts /\ ts[3]? = some fl
noncomputable def SlotsBut (fr : List Addr) (e T : Addr) (h h' : Heap) : Prop :=
  (∀ b o, b ≠ e -> b ≠ T -> b ∉ fr -> h.get? b = some o -> h'.get? b = some o) /\ ∀ b ∈ fr, ∀ o, h.get? b = some o -> ∃ sl, h'.get? b = some { o with slots := sl }
theorem newEntry2 {base : Heap} {env : Env} {outer : List Env} {L e : Addr} {oe : Obj} {vs : Array Value} {head : Value} {hadNext : Bool} {Q : Unit -> Shared -> Prop}
    (hfr : A.frames = some (env :: outer)) (hl : s.heap.FunFrames base (env :: outer)) (hf : env.frame = some L)
    (he : s.heap.get? e = some oe) (hd : oe.data = .fields vs) (hsz : 1 < vs.size)
    (h : ∀ h' T, s.heap.get? T = none -> Flies h' e oe.cls oe.dict (rawInt L) T -> SlotsBut ((env :: outer).filterMap (·.frame)) e T s.heap h' -> h'.FunFrames base (env :: outer) -> Q () { s with heap := h' }) :
    wpAny M A (do let a <- frameOf env; let pl <- entryPlaceOf L hadNext; let b <- EntryCells.newEntry head a .none (rawInt L) .none pl; setField (.ref e) 1 b) Q E s := by
  have hene : e ∉ (env :: outer).filterMap (·.frame) := fun hm => by
    obtain ⟨_, o, ho, hnf⟩ := hl.mem hm
    rw [he] at ho; injection ho with ho; subst ho; exact hnf vs hd
  refine wpAny_bind (wpAny_frameOf_fun hfr hl hf fun h₁ hs₁ => ?_)
  refine wpAny_bind (wpAny_entryPlaceOf fun pl hpl => ?_)
  unfold EntryCells.newEntry newFields
  refine wpAny_bind (wpAny_newObj_type ?_ (hpl.sizeOk5 _ _ _ _ _))
  have he₁ : h₁.get? e = some oe := (hs₁.2.1 e hene).trans he
  have he₂ := Heap.get?_push_of_some (h := h₁) { cls := .type "traceback", dict := none, data := .fields ([head, .ref L, .none, rawInt L, .none] ++ (if pl.isEmpty then List.replicate 6 Value.none else pl)).toArray } he₁
  refine wpAny_setField he₂ hd hsz ?_
  have hTe : h₁.objs.size ≠ e := Nat.ne_of_gt (Heap.lt_size he₁)
  have hd₃ := Obj.data_mapFields hd (·.setIfInBounds 1 (Value.ref h₁.objs.size))
  have he₃ := Heap.get?_update_self (Obj.mapFields (·.setIfInBounds 1 (Value.ref h₁.objs.size))) he₂ (Obj.isFreed_of_fields hd₃)
  have hT₃ := (Heap.get?_update_other (h₁.push { cls := .type "traceback", dict := none, data := .fields ([head, .ref L, .none, rawInt L, .none] ++ (if pl.isEmpty then List.replicate 6 Value.none else pl)).toArray })
    (Obj.mapFields (·.setIfInBounds 1 (Value.ref h₁.objs.size))) (Ne.symm hTe)).trans (Heap.get?_push_size h₁ rfl)
  have keep : ∀ b o, b ≠ e -> h₁.get? b = some o ->
      ((h₁.push { cls := .type "traceback", dict := none, data := .fields ([head, .ref L, .none, rawInt L, .none] ++ (if pl.isEmpty then List.replicate 6 Value.none else pl)).toArray }).update e (Obj.mapFields (·.setIfInBounds 1 (Value.ref h₁.objs.size)))).get? b = some o := fun b o hbe hb => by
    rw [Heap.get?_update_other _ _ (Ne.symm hbe)]
    exact Heap.get?_push_of_some _ hb
  have nT₁ : h₁.get? h₁.objs.size = none := size_none h₁
  have nT : s.heap.get? h₁.objs.size = none := by
    cases z : s.heap.get? h₁.objs.size with
    | none => rfl
    | some o => obtain ⟨sl, hs⟩ := hs₁.2.2 _ o z; rw [nT₁] at hs; cases hs
  refine h _ h₁.objs.size nT ⟨⟨_, _, he₃, Obj.cls_mapFields _ _, ?_, hd₃, by simp [hsz]⟩, hTe, _, _, hT₃, rfl, by rfl⟩ ⟨fun b o n1 n2 n3 hb => keep b o n1 ((hs₁.2.1 b n3).trans hb), fun b hb o ho => ?_⟩ (hl.of_keeps fun b o hb hnf => ?_)
  . obtain ⟨c, d, dt, sl⟩ := oe; cases dt <;> rfl
  . obtain ⟨sl, hs⟩ := hs₁.2.2 b o ho
    exact ⟨sl, keep b _ (fun z => hene (z ▸ hb)) hs⟩
  . obtain ⟨sl, hs⟩ := hs₁.2.2 b o hb
    exact ⟨_, keep b _ (fun z => by subst z; rw [he] at hb; cases hb; exact hnf vs hd) hs, rfl⟩
end
end Mini
namespace Mini
section
variable {M : Model} {A : Around} {E : Value -> Shared -> Prop} {s : Shared} {env : Env} {outer : List Env} {L e : Addr} {base : Heap}
theorem flight2 {cls fl : Value} {dx : Option Addr} {T : Addr} {Q : Unit -> Shared -> Prop} (F : Flies s.heap e cls dx fl T)
    (h : ∀ h', Flies h' e cls dx .none T -> (∀ b, b ≠ T -> h'.get? b = s.heap.get? b) -> Q () { s with heap := h' }) : wpAny M A (setFlight (.ref e) none) Q E s := by
  obtain ⟨⟨oe, vs, he, hc, hdx, hd, h1⟩, ne, oT, ts, hT, hdT, h3⟩ := F
  unfold setFlight
  refine wpAny_bind (wpAny_field he hd h1 ?_)
  rw [if_pos (show (Value.ref T != Value.none) = true from by simp)]
  refine wpAny_setField hT hdT (Array.getElem?_eq_some_iff.mp h3).1 (h _ ⟨⟨oe, vs, (Heap.get?_update_other _ _ ne).trans he, hc, hdx, hd, h1⟩, ne, ?_⟩ fun b hb => Heap.get?_update_other _ _ (Ne.symm hb))
  refine ⟨_, _, Heap.get?_update_self _ hT (Obj.isFreed_of_fields (Obj.data_mapFields hdT _)), Obj.data_mapFields hdT _, ?_⟩
  have := (Array.getElem?_eq_some_iff.mp h3).1
  show (ts.setIfInBounds 3 _)[3]? = _
  rw [Array.getElem?_setIfInBounds_self_of_lt this]
  rfl
theorem noteFirst2 {oe : Obj} {vs : Array Value} {Q : Unit -> Shared -> Prop} (hfr : A.frames = some (env :: outer)) (hl : s.heap.FunFrames base (env :: outer)) (hf : env.frame = some L)
    (he : s.heap.get? e = some oe) (hd : oe.data = .fields vs) (h1 : vs[1]? = some .none)
    (h : ∀ h' T, s.heap.get? T = none -> Flies h' e oe.cls oe.dict (rawInt L) T -> SlotsBut ((env :: outer).filterMap (·.frame)) e T s.heap h' -> h'.FunFrames base (env :: outer) -> Q () { s with heap := h' }) :
    wpAny M A (noteFrame (.ref e) env) Q E s := by
  unfold noteFrame
  simp only [hf]
  refine wpAny_bind (wpAny_field he hd h1 ?_)
  rw [if_neg (by decide)]
  exact newEntry2 hfr hl hf he hd (Array.getElem?_eq_some_iff.mp h1).1 h
theorem noteNext2 {cls : Value} {dx : Option Addr} {T : Addr} {Q : Unit -> Shared -> Prop} (hfr : A.frames = some (env :: outer)) (hl : s.heap.FunFrames base (env :: outer)) (hf : env.frame = some L)
    (F : Flies s.heap e cls dx .none T)
    (h : ∀ h' T', s.heap.get? T' = none -> Flies h' e cls dx (rawInt L) T' -> (∀ b o, b ≠ e -> b ≠ T -> b ≠ T' -> b ∉ (env :: outer).filterMap (·.frame) -> s.heap.get? b = some o -> h'.get? b = some o) ->
      (∀ b ∈ (env :: outer).filterMap (·.frame), ∀ o, s.heap.get? b = some o -> ∃ sl, h'.get? b = some { o with slots := sl }) -> h'.FunFrames base (env :: outer) -> Q () { s with heap := h' }) :
    wpAny M A (noteFrame (.ref e) env) Q E s := by
  obtain ⟨⟨oe, vs, he, hc, hdx, hd, h1⟩, ne, oT, ts, hT, hdT, h3⟩ := F
  unfold noteFrame
  simp only [hf]
  refine wpAny_bind (wpAny_field he hd h1 ?_)
  rw [if_pos (show (Value.ref T != Value.none) = true from by simp)]
  refine wpAny_bind (wpAny_field hT hdT h3 ?_)
  rw [if_neg (show ¬ ((Value.none == rawInt L) = true) from by simp [rawInt])]
  refine wpAny_bind (wpAny_setField hT hdT (Array.getElem?_eq_some_iff.mp h3).1 ?_)
  have other : ∀ b, b ≠ T -> (s.heap.update T (Obj.mapFields (·.setIfInBounds 3 Value.none))).get? b = s.heap.get? b := fun b hb => Heap.get?_update_other _ _ (Ne.symm hb)
  have noRecord : ∀ b o, s.heap.get? b = some o -> (∀ vs, o.data ≠ .fields vs) -> b ≠ T := fun b o hb hnf q => by
    rw [q, hT] at hb; injection hb with hb; subst hb; exact hnf ts hdT
  refine newEntry2 hfr (hl.of_keeps fun b o hb hnf => ⟨o, (other b (noRecord b o hb hnf)).trans hb, rfl⟩) hf ((other e (Ne.symm ne)).trans he) hd (Array.getElem?_eq_some_iff.mp h1).1 fun h' T' nT Fl SB FF => ?_
  subst hc hdx
  have hself := Heap.get?_update_self (Obj.mapFields (·.setIfInBounds 3 Value.none)) hT (Obj.isFreed_of_fields (Obj.data_mapFields hdT _))
  have nT' : s.heap.get? T' = none := by
    by_cases z : T' = T
    . subst z; rw [hself] at nT; cases nT
    . exact (other T' z).symm.trans nT
  refine h h' T' nT' Fl (fun b o n1 n2 n3 n4 hb => SB.1 b o n1 n3 n4 ((other b n2).trans hb)) (fun b hb o ho => SB.2 b hb o ((other b fun z => ?_).trans ho)) FF
  subst z
  obtain ⟨_, o', ho', hnf⟩ := hl.mem hb
  rw [hT] at ho'; cases ho'; exact hnf ts hdT
end
end Mini
namespace Mini
structure ExcK (C : Cx) (c N c' N' fI : Addr) : Prop where
  obj : ∃ nm q bs sn sub ab col dd k0 k1 k2 k3 k5, C.K.lookup c = some (excObj2 nm q c N c' bs bmE sn sub ab col dd k0 k1 k2 k3 k5 "Exception.__new__")
  par : ∃ c0 ddA cd sl, C.K.lookup c' = some { cls := c0, dict := ddA, data := .cls cd, slots := sl } /\ cd.ns = N'
  keys : strKeysIn C.K N = true
  keys' : strKeysIn C.K N' = true
  init : (nsIn C.K N (Str.ofString "__init__")).join = some (.ref fI)
  init' : (nsIn C.K N' (Str.ofString "__init__")).join = none
  no : ∀ x ∈ [Str.ofString "__setattr__", Str.ofString "__getattribute__", Str.ofString "__getattr__", Str.ofString "ball"], (nsIn C.K N x).join = none /\ (nsIn C.K N' x).join = none
  fn : (C.K.lookup fI).map (fun o => o.cls) = some (.type "function")
noncomputable def gExcNew (c : Nat) : ON := on1 fun b mh => some (.ref mh.length, mkO mh (.exc c [("ball", b)] false))
noncomputable abbrev initScope : Scope := { kind := .function, names := [(Str.ofString "self", .local), (Str.ofString "ball", .local)], isGenerator := false, isCoroutine := false }
section
variable {C : Cx} {n m : Nat} {f : Fn} {A : Around} {E : Value -> Shared -> Prop} {ρ ρ' : Rho} {mh mh' : MH} {s s' : Shared} {v : V} {v' : Value} {h h' : Heap} {L : Fid} {loc loc' : Loc}
theorem SemF.excNew (hC : C.Ok) {c N c' N' fI : Addr} (K : ExcK C c N c' N' fI) {params : Arguments} {dV kV doc pm cdv ct oc : Value} {an od : Option Addr} {osl : Array (Option Value)} {qual : Str} {p1 p2 p3 p4 : Pos}
    (ho : C.K.lookup fI = some ⟨oc, od, .func (fnOf (Str.ofString "__init__") qual params [.Assign [.Attribute (.Name (Str.ofString "self") p1) (Str.ofString "ball") p2] (.Name (Str.ofString "ball") p3) p4] initScope dV kV doc pm an cdv ct), osl⟩) (hcd : codeIn C.K cdv qual = true)
    (hb : ∀ s a b, BindsTo s (fnOf (Str.ofString "__init__") qual params [.Assign [.Attribute (.Name (Str.ofString "self") p1) (Str.ofString "ball") p2] (.Name (Str.ofString "ball") p3) p4] initScope dV kV doc pm an cdv ct) ⟨[a, b], []⟩ [(Str.ofString "self", a), (Str.ofString "ball", b)]) :
    SemF C 2 (.ref c) (gExcNew c) := fun A E ρ mh s as as' v mh' hr sh S d e => by
  refine on1_elim e fun b ea e => ?_
  subst ea
  cases e
  cases d with
  | cons db d =>
    rename_i b' as'
    cases d
    have X : C.K.In s.heap := fun a o e => S.keep a o (hC.X a o e)
    obtain ⟨nm, q, bs, sn, sub, ab, col, dd, k0, k1, k2, k3, k5, hobj⟩ := K.obj
    obtain ⟨c0, ddA, cd, sl, hpar, hcdN⟩ := K.par
    subst hcdN
    obtain ⟨oI, hoI, hfc⟩ : ∃ oI, C.K.lookup fI = some oI /\ oI.cls = .type "function" := by
      have := K.fn
      rw [ho] at this
      exact ⟨_, ho, Option.some.inj this⟩
    have T : OwnTail s.heap bmE (.ref c' :: bmE) := .own (X _ _ hpar) (ns_K X K.keys') K.init' .base
    obtain ⟨hh, gg, dr, tk, os⟩ := s
    refine exc_call PySem.F.excBase_Exception T (X _ _ hobj) (ns_K X K.keys) K.init (X _ _ hoI) hfc (fun h₁ x Mx => ?_) (by show 1 <= sizeLine; decide)
    have X₁ : C.K.In h₁ := fun a o e => Mx.keeps _ _ (X a o e)
    have T₁ := hC.T.keeps fun b o e => Mx.keeps _ _ (S.keep b o e)
    obtain ⟨tt, hx, htt, htup⟩ := Mx.there
    have nx := Mx.new
    refine wpAny_call (codeAny_call_def (s := ⟨h₁, gg, dr, tk, os⟩) (fd := fnOf (Str.ofString "__init__") qual params [.Assign [.Attribute (.Name (Str.ofString "self") p1) (Str.ofString "ball") p2] (.Name (Str.ofString "ball") p3) p4] initScope dV kV doc pm an cdv ct) (binds := [(Str.ofString "self", .ref x), (Str.ofString "ball", b')])
      (by have hr' : Room 1 _ := hr.made (args := ⟨.ref c :: [b'], []⟩); obtain ⟨a, _⟩ := hr'; omega) (X₁ _ _ ho) rfl T₁.nolimit (codeRec_of X₁ hcd) rfl (hb _ _ _) (fun y hy => by have hy : y ∈ initScope.names := hy; simp only [List.mem_cons, List.not_mem_nil, or_false] at hy; rcases hy with rfl | rfl <;> (show NameKind.local ≠ NameKind.cell; decide)) (fun y hy => by simp only [List.mem_cons, List.not_mem_nil, or_false] at hy; rcases hy with rfl | rfl; (show List.lookup (Str.ofString "self") initScope.names = some .local; decide +kernel); (show List.lookup (Str.ofString "ball") initScope.names = some .local; decide +kernel)) (fun h₂ hns k₂ => ?_) rfl rfl rfl)
    refine wpAny_execs_cons ?_
    have X₂ : C.K.In h₂ := fun a o e => k₂ _ _ (X₁ a o e)
    have hx₂ := k₂ _ _ hx
    refine plainObj_wpAny_Assign_Attribute ?_ rfl
    refine wpAny_Name (wpAny_loadName_local (v := b') rfl (by show List.lookup (Str.ofString "ball") initScope.names = some .local; decide +kernel) hns (by show List.lookup (Str.ofString "ball") [(Str.ofString "ball", b'), (Str.ofString "self", .ref x)] = some b'; rw [List.lookup_cons]; simp) ?_) (by decide +kernel)
    refine wpAny_Name (wpAny_loadName_local (v := .ref x) rfl (by show List.lookup (Str.ofString "self") initScope.names = some .local; decide +kernel) hns (by show List.lookup (Str.ofString "self") [(Str.ofString "ball", b'), (Str.ofString "self", .ref x)] = some (.ref x); rw [List.lookup_cons, show (Str.ofString "self" == Str.ofString "ball") = false from by decide +kernel]; simp) ?_) (by decide +kernel)
    have nb := K.no (Str.ofString "ball") (by simp)
    have nsa := K.no (Str.ofString "__setattr__") (by simp)
    refine store2 PySem.F.store_Exception (X₂ _ _ hobj) (ns_K X₂ K.keys) (X₂ _ _ hpar) (ns_K X₂ K.keys') nsa.1 nsa.2 nb.1 nb.2 lk_Exc_ball hx₂ rfl (fun cc z => by cases z) rfl fun h₃ tk₃ dx a1 a2 a3 a4 a5 => ?_
    have nd : hh.get? dx = none := by
      cases z : hh.get? dx with
      | none => rfl
      | some o => have := k₂ _ _ (Mx.keeps _ _ z); rw [a2] at this; cases this
    have kp : ∀ b o, hh.get? b = some o -> h₃.get? b = some o := fun b o z => a5 b o (fun w => by rw [w, nx] at z; cases z) (k₂ _ _ (Mx.keeps _ _ z))
    have tkp : TupKept hh h₃ := fun b o z _ _ => kp b o z
    obtain ⟨S₄, x₄, i₄⟩ := S.alloc (h' := h₃) (p := (x, dx)) (o := .exc c [("ball", b)] false) kp nx nd ⟨[(Str.ofString "ball", b')], _, _, a3, rfl, rfl, rfl, fun _ => rfl, by
      obtain ⟨o2, es, ep, z1, z2, z3, z4, z5⟩ := a4
      refine ⟨o2, es, ep, z1, z2, z3, z4, fun y => ?_⟩
      rw [z5 y]
      show (if y = Str.ofString "ball" then some b' else none) = List.lookup y [(Str.ofString "ball", b')]
      rw [List.lookup_cons]
      by_cases w : y = Str.ofString "ball"
      . rw [if_pos w, w]; simp
      . rw [if_neg w, beq_eq_false_iff_ne.mpr w]; rfl, .cons (db.mono tkp (.append _ _)) .nil⟩
    refine wpAny_execs_nil ⟨rfl, _, x₄, sh, S₄, .ref (p := (x, dx)) i₄⟩
end
end Mini
namespace Mini
section
variable {C : Cx} {n m : Nat} {f : Fn} {A : Around} {E : Value -> Shared -> Prop} {ρ ρ' : Rho} {mh mh' : MH} {s s' : Shared} {v : V} {v' : Value} {h h' : Heap} {L : Fid} {loc loc' : Loc}
theorem St.putF {prog : Program} {w : World} {B : Heap} (S : St prog w B ρ mh h) {i : Nat} {p : Addr × Addr} {o : MObj} {F : List Addr} (hi : ρ[i]? = some p)
    (hF : ∀ b ∈ F, ¬ Own ρ b /\ B.get? b = none /\ ∀ o, h.get? b = some o -> ∀ items k, o.data ≠ .seq items k)
    (k : ∀ b o, b ≠ p.1 -> b ≠ p.2 -> b ∉ F -> h.get? b = some o -> h'.get? b = some o) (ho : TupKept h h' -> ObjIs prog w ρ h' p o) :
    St prog w B ρ (putO mh i o) h' /\ Ext F ρ mh h ρ (putO mh i o) h' := by
  have op1 : Own ρ p.1 := ⟨p, List.mem_of_getElem? hi, .inl rfl⟩
  have op2 : Own ρ p.2 := ⟨p, List.mem_of_getElem? hi, .inr rfl⟩
  have tk : TupKept h h' := fun b o e hc hd => k b o (fun q => S.notOwn e hc hd (q ▸ op1)) (fun q => S.notOwn e hc hd (q ▸ op2)) (fun q => by obtain ⟨_, _, hd⟩ := hd; exact (hF b q).2.2 o e _ _ hd) e
  have nF : ∀ {b : Addr}, Own ρ b -> b ∉ F := fun {b} ob q => (hF b q).1 ob
  refine ⟨⟨fun b o e => k b o (fun q => ?_) (fun q => ?_) (fun q => ?_) (S.keep b o e), by rw [put_length]; exact S.len, S.apart, S.new, fun j q m hj hm => ?_⟩, ⟨.refl ρ, fun _ o => .inl o, fun b o e n nf => k b o (fun q => n (q ▸ op1)) (fun q => n (q ▸ op2)) nf e, fun j m st e => ?_⟩⟩
  . subst q; rw [S.new _ op1] at e; cases e
  . subst q; rw [S.new _ op2] at e; cases e
  . rw [(hF b q).2.1] at e; cases e
  . by_cases z : i = j
    . subst z
      rw [hi] at hj; cases hj
      obtain ⟨m', hm'⟩ := S.mh_of hi
      rw [ob_put_self hm'] at hm
      cases hm; exact ho tk
    . rw [ob_put_ne _ _ z] at hm
      have ap := S.apart i j p q hi hj z
      have oq1 : Own ρ q.1 := ⟨q, List.mem_of_getElem? hj, .inl rfl⟩
      have oq2 : Own ρ q.2 := ⟨q, List.mem_of_getElem? hj, .inr rfl⟩
      exact (S.obj j q m hj hm).mono tk (.refl ρ) (fun o e => k _ o (Ne.symm ap.1) (Ne.symm ap.2.2.1) (nF oq1) e) fun o e => k _ o (Ne.symm ap.2.1) (Ne.symm ap.2.2.2) (nF oq2) e
  . by_cases z : i = j
    . subst z
      refine ⟨o, st + 1, ?_, by omega, fun z => by omega⟩
      rw [put_at e, List.getElem?_set_self (List.getElem?_eq_some_iff.mp e).1]
    . refine ⟨m, st, by rw [put_get_ne _ _ z]; exact e, Nat.le_refl _, fun _ => ⟨rfl, fun q hj => ?_⟩⟩
      have ap := S.apart i j p q hi hj z
      have oq1 : Own ρ q.1 := ⟨q, List.mem_of_getElem? hj, .inl rfl⟩
      have oq2 : Own ρ q.2 := ⟨q, List.mem_of_getElem? hj, .inr rfl⟩
      exact ⟨fun x ex => k _ x (Ne.symm ap.1) (Ne.symm ap.2.2.1) (nF oq1) ex, fun x ex => k _ x (Ne.symm ap.2.1) (Ne.symm ap.2.2.2) (nF oq2) ex⟩
inductive PR (C : Cx) (L : Fid) (c : Nat) (ρ : Rho) (mh : MH) (h : Heap) (mh' : MH) (j : Nat) (e : Value) (s' : Shared) : Prop where
  | mk (ρ' : Rho) (p : Addr × Addr) (hp : ρ'[j]? = some p) (ee : e = .ref p.1) (x : Ext L.X ρ mh h ρ' mh' s'.heap) (sh : Sh C s') (S : SSt C ρ' mh' s') (hob : ∃ fs, ob mh' j = some (.exc c fs false)) (ns : ∃ m, s'.heap.Ns L.L m) (nX : ∀ x ∈ L.X, ¬ Own ρ' x)
noncomputable abbrev RX := Loc -> MH -> Option (Nat × MH)
noncomputable def SemSX (C : Cx) (n : Nat) (f : Fn) (c : Nat) (st : List Stmt) (rx : RX) : Prop :=
  ∀ A E L loc ρ mh s j mh', Room n A -> A.handled = none -> Fra C f L loc ρ mh s -> rx loc mh = some (j, mh') -> (∀ e s', PR C L c ρ mh s.heap mh' j e s' -> E e s') -> wpAny (model C.prog C.w) A (execs st (f.env L)) (fun _ _ => False) E s
noncomputable def rSeqX (r : RS) (q : RX) : RX := fun loc mh => match r loc mh with | some (.next loc' m) => q loc' m | _ => none
theorem PR.trans {c j : Nat} {mh₁ : MH} {e : Value} (x : Ext L.X ρ mh h ρ' mh₁ h') (p : PR C L c ρ' mh₁ h' mh' j e s') : PR C L c ρ mh h mh' j e s' :=
  p.rec fun r p a b d e f g k l => ⟨r, p, a, b, x.trans d, e, f, g, k, l⟩
theorem SemSX.cons {st : Stmt} {rest : List Stmt} {r : RS} {q : RX} {c : Nat} (h1 : SemS1 C n f st r) (h2 : SemSX C n f c rest q) : SemSX C n f c (st :: rest) (rSeqX r q) := fun A E L loc ρ mh s j mh' hr hhd F e hE => by
  cases ea : r loc mh with
  | none => unfold rSeqX at e; rw [ea] at e; exact no_some e
  | some y =>
    unfold rSeqX at e; rw [ea] at e
    cases y with
    | next l m => exact wpAny_execs_cons (wpAny_mono (h1 A E L loc ρ mh s _ hr F ea) (fun fl s₁ p => p.next fun ρ₁ x₁ sh₁ F₁ => h2 A E L l ρ₁ _ s₁ j mh' hr hhd F₁ e fun e s' q => hE e s' (q.trans x₁)) fun _ _ x => x)
    | _ => exact no_some e
noncomputable def oEx {β : Type} (mh : MH) (j : Nat) (f : Nat -> List (String × V) -> Bool -> Option β) : Option β := match ob mh j with | some (.exc c fs b) => f c fs b | _ => none
theorem oEx_elim {β : Type} {P : Prop} {mh : MH} {i : Nat} {y : β} {f : Nat -> List (String × V) -> Bool -> Option β} (h : oEx mh i f = some y) (k : ∀ c l b, ob mh i = some (.exc c l b) -> f c l b = some y -> P) : P := by unfold oEx at h; generalize ob mh i = o at h k; cases o with | none => exact no_some h | some o => cases o <;> first | exact k _ _ _ rfl h | exact no_some h
noncomputable def exF (mh : MH) (j : Nat) : Option Nat := oEx mh j fun c _ b => cd b none (some c)
theorem exF_some {mh : MH} {j c : Nat} (h : exF mh j = some c) : ∃ fs, ob mh j = some (.exc c fs false) :=
  oEx_elim h fun c fs b hm h => cd_elim h (fun _ z => no_some z) fun eb h => by cases h; rw [hm, eb]; exact ⟨fs, rfl⟩
noncomputable def rIfX (c : Nat) (t : RT) (r : RE) : RX := fun loc mh => bd (t loc mh) fun b m => cd b (bd (r loc m) fun v m' => vref v fun j => bo (exF m' j) fun c' => gd (c' = c) (some (j, m'))) none
theorem SemSX.ifRaise (hC : C.Ok) {c N c' N' fI : Addr} (K : ExcK C c N c' N' fI) {t e : Expr} {rp pos : Pos} {orelse rest : List Stmt} {rt : RT} {r : RE} (h1 : SemT C n f t rt) (h2 : SemE C n f e r) :
    SemSX C n f c (.If t [.Raise (some e) none rp] orelse pos :: rest) (rIfX c rt r) := fun A E L loc ρ mh s j mh' hr hhd F ee hE => by
  obtain ⟨_, hL⟩ := F.there
  refine via fun P kP => bd_elim ee fun b m et q1 => cd_elim q1 (fun eb q2 => bd_elim q2 fun v m' er q3 => vref_elim q3 fun j' ej q4 => bo_elim q4 fun c2 hx q5 => gd_elim q5 fun hcc w => kP ?_) fun _ q2 => no_some q2
  clear kP q1 q2 q3 q4 q5; subst hcc eb ej
  obtain ⟨fs, hob⟩ := exF_some hx
  obtain ⟨e1, e2⟩ := Prod.mk.inj (Option.some.inj w)
  rw [<- e1, <- e2] at hE
  refine wpAny_execs_cons (wpAny_If (h1.use hr F et fun s₁ ρ₁ x₁ sh₁ S₁ F₁ => ?_))
  rw [if_pos rfl]
  refine wpAny_execs_cons ?_
  rw [arm_exec_Raise]
  refine via fun P kP => ?_
  obtain ⟨nm, q, bs, sn, sub, ab, col, dd, k0, k1, k2, k3, k5, hobj⟩ := K.obj
  refine kP ?_; clear kP
  refine wpAny_bind (wpAny_standAt (raise2 (C := c2) (N := N) (A' := c') (bmB := bmE) (nm := nm) (q := q) (bs := bs) (sn := sn) (sub := sub) (ab := ab) (col := col) (dd := dd) (k0 := k0) (k1 := k1) (k2 := k2) (k3 := k3) (k5 := k5) (newId := "Exception.__new__") rfl hhd (wpAny_bind (h2.use hr F₁ er fun e' s₂ ρ₂ x₂ sh₂ S₂ F₂ d₂ => wpAny_bind (wpAny_standAt (wpAny_pure (d₂.refE fun p ep hp => ?_)))))))
  obtain ⟨ms, o, vs, ho, hoc, hod, hodd, hraised, hns, hpairs⟩ := S₂.obj _ p _ hp hob
  exact ⟨p.1, o, vs, ep, S₂.keep _ _ (hC.X _ _ hobj), ho, hoc, hodd, hraised rfl, hE _ _ ⟨ρ₂, p, hp, rfl, (x₁.trans x₂).weaken hL, sh₂, S₂, ⟨fs, hob⟩, F₂.ns.imp fun m z => z.1, F₂.nX⟩⟩
end
end Mini
namespace Mini
inductive PX (C : Cx) (cls : Nat) (fr : List Addr) (ρ : Rho) (mh : MH) (h : Heap) (mh' : MH) (j : Nat) (e : Value) (s' : Shared) : Prop where
  | mk (ρ' : Rho) (p : Addr × Addr) (T : Addr) (hp : ρ'[j]? = some p) (ee : e = .ref p.1) (x : Ext fr ρ mh h ρ' mh' s'.heap) (sh : Sh C s') (S : SSt C ρ' mh' s') (Fl : Flies s'.heap p.1 (.ref cls) (some p.2) .none T) (nT : h.get? T = none) (oT : ¬ Own ρ' T)
    (sl : ∀ b ∈ fr, ∀ o, h.get? b = some o -> ∃ sl, s'.heap.get? b = some { o with slots := sl }) (hob : ∃ fs, ob mh' j = some (.exc cls fs true))
noncomputable def runX (cls : Nat) (rx : RX) (k m : Nat) : List V -> MH -> Option (Nat × MH) := fun as mh => gd (as.length = k) (bo (rx (as.map some ++ List.replicate m none) mh) fun p => oEx p.2 p.1 fun c fs b => cd b none (gd (c = cls) (some (p.1, putO p.2 p.1 (.exc c fs true)))))
noncomputable def SemFX (C : Cx) (n : Nat) (cls : Nat) (v : Value) (gx : List V -> MH -> Option (Nat × MH)) : Prop :=
  ∀ A E ρ mh s as as' j mh' envs, Room n A -> A.handled = none -> A.frames = some envs -> s.heap.FunFrames {} envs -> (∀ b ∈ envs.filterMap (·.frame), ¬ Own ρ b /\ C.B.get? b = none /\ ∀ o, s.heap.get? b = some o -> ∀ items k, o.data ≠ .seq items k) -> Sh C s -> SSt C ρ mh s -> ValsAre ρ s.heap as' as ->
    gx as mh = some (j, mh') -> (∀ e s', PX C cls (envs.filterMap (·.frame)) ρ mh s.heap mh' j e s' -> E e s') -> wpAny (model C.prog C.w) A (call v as') (fun _ _ => False) E s
theorem frames_keep {h h' : Heap} : ∀ {l : List Env}, h.FunFrames {} l -> (∀ b ∈ l.filterMap (·.frame), ∀ o, h.get? b = some o -> ∃ o', h'.get? b = some o' /\ o'.data = o.data) -> h'.FunFrames {} l
  | [], _, _ => trivial
  | env :: rest, ⟨h1, ⟨L, o, hf, hn, ho, hd⟩, hr⟩, k => by
    obtain ⟨o', ho', hd'⟩ := k L (by simp [hf]) o ho
    exact ⟨h1, ⟨L, o', hf, hn, ho', fun vs z => hd vs (hd' ▸ z)⟩, frames_keep hr fun b hb => k b (by
      obtain ⟨e, he, hfe⟩ := List.mem_filterMap.mp hb
      exact List.mem_filterMap.mpr ⟨e, .tail _ he, hfe⟩)⟩
section
variable {C : Cx} {n m : Nat} {f : Fn} {A : Around} {E : Value -> Shared -> Prop} {ρ ρ' : Rho} {mh mh' : MH} {s s' : Shared} {v : V} {v' : Value} {h h' : Heap} {L : Fid} {loc loc' : Loc}
theorem px_leave {env : Env} {envs : List Env} {jx cls : Nat} {s₂ : Shared} {ρ₂ : Rho} {p : Addr × Addr} {h₁ : Heap} {fs : List (String × V)} {m1 : MH} {mn : Str -> Option Value} (hmod : env.scope.kind ≠ .module) (hfe : env.frame = some s.heap.objs.size) (hfrm : A.frames = some envs) (hFF : s.heap.FunFrames {} envs)
    (hfr : ∀ b ∈ envs.filterMap (·.frame), ¬ Own ρ b /\ C.B.get? b = none /\ ∀ o, s.heap.get? b = some o -> ∀ items k, o.data ≠ .seq items k) (S : SSt C ρ mh s) (nL : s.heap.get? s.heap.objs.size = none) (nB : C.B.get? s.heap.objs.size = none) (hk₁ : ∀ b o, s.heap.get? b = some o -> h₁.get? b = some o)
    (hp : ρ₂[jx]? = some p) (x₂ : Ext [s.heap.objs.size] ρ mh h₁ ρ₂ m1 s₂.heap) (sh₂ : Sh C s₂) (S₂ : SSt C ρ₂ m1 s₂) (hns₂ : s₂.heap.Ns s.heap.objs.size mn) (nX₂ : ¬ Own ρ₂ s.heap.objs.size) (hob : ob m1 jx = some (.exc cls fs false))
    (hE : ∀ e s', PX C cls (envs.filterMap (·.frame)) ρ mh s.heap (putO m1 jx (.exc cls fs true)) jx e s' -> E e s') : wpAny (model C.prog C.w) (A.deeper env) (leaving env (.ref p.1)) (fun _ s'' => E (.ref p.1) s'') (fun e' s'' => E e' s'') s₂ := by
  obtain ⟨ms, o, vs, ho, hoc, hod, hodd, hraised, hnsx, hpairs⟩ := S₂.obj jx p _ hp hob
  have x'' := Ext.drop hk₁ (fun y hy => by rw [List.mem_singleton.mp hy]; exact nL) x₂
  have kpf : ∀ b ∈ envs.filterMap (·.frame), ∀ o, s.heap.get? b = some o -> s₂.heap.get? b = some o := fun b hb o ho => x''.kept b o ho (hfr b hb).1 (by simp)
  have FF₂ : s₂.heap.FunFrames {} (env :: envs) := by
    refine ⟨hmod, ?_, ?_⟩
    . obtain ⟨oL, es, ep, hoL, hdL, _⟩ := hns₂
      exact ⟨_, oL, hfe, rfl, hoL, fun vs z => by rw [hdL] at z; cases z⟩
    . exact frames_keep hFF fun b hb o ho => ⟨o, kpf b hb o ho, rfl⟩
  have inF : ∀ b, b ∈ (env :: envs).filterMap (·.frame) ↔ b = s.heap.objs.size \/ b ∈ envs.filterMap (·.frame) := fun b => by
    rw [List.filterMap_cons_some hfe]
    exact List.mem_cons
  have frThere : ∀ b ∈ envs.filterMap (·.frame), ∃ o, s.heap.get? b = some o := fun b hb => let ⟨_, o, ho, _⟩ := hFF.mem hb; ⟨o, ho⟩
  have notOwn₂ : ∀ b ∈ envs.filterMap (·.frame), ¬ Own ρ₂ b := fun b hb z => by
    obtain ⟨o, ho⟩ := frThere b hb
    rcases x''.fresh b z with w | w
    . exact (hfr b hb).1 w
    . rw [ho] at w; cases w.1
  have op1 : Own ρ₂ p.1 := ⟨p, List.mem_of_getElem? hp, .inl rfl⟩
  unfold leaving
  refine wpAny_bind (noteFirst2 (base := {}) (outer := envs) (L := s.heap.objs.size) (Around.frames_deeper hfrm) FF₂ hfe ho hodd (hraised rfl) fun h₃ T nT Fl SB FF₃ => ?_)
  refine flight2 Fl fun h₄ Fl' k₄ => hE _ _ ?_
  have ne12 : p.2 ≠ p.1 := fun z => by
    obtain ⟨o2, es, ep, z1, z2, _⟩ := hnsx
    rw [z, ho] at z1; cases z1; rw [hodd] at z2; cases z2
  have step : ∀ b o, b ≠ p.1 -> b ∉ (env :: envs).filterMap (·.frame) -> s₂.heap.get? b = some o -> h₄.get? b = some o := fun b o n1 n2 hb => by
    have nb : b ≠ T := fun z => by rw [z, nT] at hb; cases hb
    exact (k₄ b nb).trans (SB.1 b o n1 nb n2 hb)
  have hFs : ∀ b ∈ (env :: envs).filterMap (·.frame), ¬ Own ρ₂ b /\ C.B.get? b = none /\ ∀ o, s₂.heap.get? b = some o -> ∀ items k, o.data ≠ .seq items k := fun b hb => by
    rcases (inF b).mp hb with rfl | hb
    . refine ⟨nX₂, nB, fun o ho items k z => ?_⟩
      obtain ⟨oL, es, ep, hoL, hdL, _⟩ := hns₂
      rw [show s₂.heap.get? s.heap.objs.size = some oL from hoL] at ho; cases ho; rw [z] at hdL; cases hdL
    . obtain ⟨o', ho'⟩ := frThere b hb
      refine ⟨notOwn₂ b hb, (hfr b hb).2.1, fun o ho => ?_⟩
      rw [kpf b hb o' ho'] at ho; cases ho
      exact (hfr b hb).2.2 o' ho'
  obtain ⟨oe, vs', g1, g2, g3, g4, g5⟩ := Fl'.at'
  obtain ⟨S₄, y⟩ := S₂.putF (h' := h₄) (i := jx) (p := p) (o := .exc cls fs true) hp hFs (fun b o n1 _ n3 hb => step b o n1 n3 hb) fun tkp => ⟨ms, oe, vs', g1, g2.trans hoc, g3.trans hod, g4, (fun z => by cases z), by
    obtain ⟨o2, es, ep, z1, z2⟩ := hnsx
    exact ⟨o2, es, ep, step _ _ ne12 (fun z => (hFs _ z).1 ⟨p, List.mem_of_getElem? hp, .inr rfl⟩) z1, z2⟩, hpairs.mono tkp (.refl _)⟩
  have nTs : s.heap.get? T = none := by
    cases z : s.heap.get? T with
    | none => rfl
    | some o =>
      by_cases w : Own ρ T
      . obtain ⟨_, w2⟩ := S₂.there (Pre.own x''.pre w)
        rw [nT] at w2; cases w2
      . have := x''.kept T o z w (by simp)
        rw [nT] at this; cases this
  refine ⟨ρ₂, p, T, hp, rfl, ⟨fun i q z => y.pre i q (x''.pre i q z), fun b o => ?_, fun b o hb n1 n2 => ?_, x''.stays.trans x''.pre y.stays⟩, sh₂, S₄, ⟨⟨oe, vs', g1, g2.trans hoc, g3.trans hod, g4, g5⟩, Fl'.ne, Fl'.tb⟩, nTs, fun z => ?_, fun b hb o ho => ?_, fs, ob_put_self hob⟩
  . rcases x''.fresh b o with w | w
    . exact .inl w
    . exact .inr ⟨w.1, fun z => by obtain ⟨o', ho'⟩ := frThere b z; rw [ho'] at w; cases w.1⟩
  . refine step b o (fun z => ?_) (fun z => ?_) (x''.kept b o hb n1 (by simp))
    . rcases x''.fresh p.1 op1 with w | w
      . exact n1 (z ▸ w)
      . rw [<- z, hb] at w; cases w.1
    . rcases (inF b).mp z with rfl | z
      . rw [nL] at hb; cases hb
      . exact n2 z
  . obtain ⟨_, w2⟩ := S₂.there z
    rw [nT] at w2; cases w2
  . obtain ⟨sl, hs⟩ := SB.2 b ((inF b).mpr (.inr hb)) o (kpf b hb o ho)
    exact ⟨sl, (k₄ b (fun z => by rw [z, nTs] at ho; cases ho)).trans hs⟩
theorem runX_elim {cls : Nat} {rx : RX} {k m jx : Nat} {as : List V} (e : runX cls rx k m as mh = some (jx, mh')) {P : Prop} (h : ∀ m1 fs, as.length = k -> rx (as.map some ++ List.replicate m none) mh = some (jx, m1) -> ob m1 jx = some (.exc cls fs false) -> mh' = putO m1 jx (.exc cls fs true) -> P) : P := by
  exact gd_elim e fun hl e => bo_elim e fun p ex e => oEx_elim e fun c fs b hob e => cd_elim e (fun _ z => no_some z) fun eb e => gd_elim e fun hc e => by
    cases e; subst hc eb; exact h p.2 fs hl ex hob rfl
theorem SemFX.of_def (hC : C.Ok) {fa : Addr} {name qual : Str} {params : Arguments} {body : List Stmt} {scope : Scope} {dV kV doc pm cdv ct oc : Value} {an od : Option Addr} {osl : Array (Option Value)} {rx : RX} {m : Nat} {cls : Nat} {ps : List Str}
    (ho : C.K.lookup fa = some ⟨oc, od, .func (fnOf name qual params body scope dV kV doc pm an cdv ct), osl⟩) (hcd : codeIn C.K cdv qual = true)
    (hb : ∀ s as, as.length = ps.length -> BindsTo s (fnOf name qual params body scope dV kV doc pm an cdv ct) ⟨as, []⟩ (ps.zip as))
    (hps : (Fn.of qual scope fa cdv).params ps = true) (hnd : ps.Nodup) (hloc : ps.all (fun y => scope.names.lookup y == some .local) = true)
    (h : SemSX C n (Fn.of qual scope fa cdv) cls body rx)
    (hco : scope.isCoroutine = false := by rfl) (hgen : scope.isGenerator = false := by rfl) (hk : scope.kind = .function := by rfl)
    (hcell : scope.names.all (fun x => x.2 != .cell) = true := by decide) : SemFX C (n + 1) cls (.ref fa) (runX cls rx ps.length m) := fun A E ρ mh s as as' jx mh' envs hr hhd hfrm hFF hfr sh S hd e hE => by
  exact runX_elim e fun m1 fs hlen ex hob em => def_call hC ho hcd hb hps hnd hloc hco hgen hk hcell (by have := hr.1; omega) sh S hd hlen fun h₁ hk₁ F => h _ _ _ _ ρ mh _ jx m1 hr.deeper hhd F ex fun e s₂ q => by
    obtain ⟨ρ₂, p, hp, ee, x₂, sh₂, S₂, _, hns₂, nX₂⟩ := q
    have nL := size_none' s.heap
    rw [ee]
    refine hns₂.elim fun mn hns₂ => px_leave (by show scope.kind ≠ .module; rw [hk]; decide) rfl hfrm hFF hfr S nL ?_ hk₁ hp x₂ sh₂ S₂ hns₂ (nX₂ _ (.head _)) hob (em ▸ hE)
    cases q : C.B.get? s.heap.objs.size with
    | none => rfl
    | some o => exact no_some (nL.symm.trans (S.keep _ _ q))
end
end Mini
namespace Mini
section
variable {C : Cx} {n m : Nat} {f : Fn} {A : Around} {E : Value -> Shared -> Prop} {ρ ρ' : Rho} {mh mh' : MH} {s s' : Shared} {v : V} {v' : Value} {h h' : Heap} {L : Fid} {loc loc' : Loc}
theorem Fra.noted {j c : Nat} {fs : List (String × V)} {p : Addr × Addr} {F : List Addr} (Fr0 : Fra C f L loc ρ mh s) (hcs : L.cs = []) (hp : ρ[j]? = some p) (hob : ob mh j = some (.exc c fs true)) (hLF : L.L ∈ F)
    (hF : ∀ b ∈ F, ¬ Own ρ b /\ C.B.get? b = none /\ ∀ o, s.heap.get? b = some o -> ∀ items k, o.data ≠ .seq items k)
    (k : ∀ b o, b ≠ p.1 -> b ∉ F -> s.heap.get? b = some o -> h'.get? b = some o) (hL : ∀ o, s.heap.get? L.L = some o -> ∃ sl, h'.get? L.L = some { o with slots := sl })
    (he : ∃ oe vs, h'.get? p.1 = some oe /\ oe.cls = .ref c /\ oe.dict = some p.2 /\ oe.data = .fields vs) {tk : Tok} :
    Fra C f L loc ρ (putO mh j (.exc c fs true)) { s with heap := h', toks := tk } /\ Ext F ρ mh s.heap ρ (putO mh j (.exc c fs true)) h' := by
  obtain ⟨ms, o, vs, ho, hoc, hod, hodd, hraised, hnsx, hpairs⟩ := Fr0.st.obj j p _ hp hob
  have ne12 : p.2 ≠ p.1 := fun z => by
    obtain ⟨o2, es, ep, z1, z2, _⟩ := hnsx
    rw [z, ho] at z1; cases z1; rw [hodd] at z2; cases z2
  obtain ⟨oe, vs', g1, g2, g3, g4⟩ := he
  obtain ⟨S', x'⟩ := Fr0.st.putF (h' := h') (i := j) (p := p) (o := .exc c fs true) hp hF (fun b o n1 _ n3 hb => k b o n1 n3 hb) fun tkp => ⟨ms, oe, vs', g1, g2, g3, g4, (fun z => by cases z), by
    obtain ⟨o2, es, ep, z1, z2⟩ := hnsx
    exact ⟨o2, es, ep, k _ _ ne12 (fun z => (hF _ z).1 ⟨p, List.mem_of_getElem? hp, .inr rfl⟩) z1, z2⟩, hpairs.mono tkp (.refl _)⟩
  refine ⟨⟨Fr0.sh, S', ?_, Fr0.nX, Fr0.bX, fun c hc => (by rw [hcs] at hc; cases hc), Fr0.cN, Fr0.cS⟩, x'⟩
  obtain ⟨m, ⟨oL, es, ep, hoL, hdL, r⟩, hl⟩ := Fr0.ns
  obtain ⟨sl, hs⟩ := hL oL hoL
  have tk : TupKept s.heap h' := fun b o ho hc hd => k b o (fun z => Fr0.st.notOwn ho hc hd (z ▸ ⟨p, List.mem_of_getElem? hp, .inl rfl⟩)) (fun z => by obtain ⟨_, _, hd⟩ := hd; exact (hF b z).2.2 o ho _ _ hd) ho
  refine ⟨m, ⟨_, es, ep, hs, hdL, r⟩, fun y i u hy hu => ?_⟩
  obtain ⟨u', H, d⟩ := hl y i u hy hu
  refine ⟨u', ?_, d.mono tk (.refl _)⟩
  unfold Holds at H ⊢
  split
  . rename_i e
    obtain ⟨c, hc⟩ := Fr0.cS y e
    rw [hcs] at hc; cases hc
  . rename_i e; rw [if_neg e] at H; exact H
end
end Mini
namespace Mini
theorem Ext.over {fr G : List Addr} {ρ ρ' : Rho} {mh mh' mh'' : MH} {h h₁ h₂ : Heap} (a : Ext fr ρ mh h ρ' mh' h₁) (b : Ext G ρ' mh' h₁ ρ' mh'' h₂) (hG : ∀ x ∈ G, x ∈ fr \/ h.get? x = none) : Ext fr ρ mh h ρ' mh'' h₂ := by
  refine ⟨a.pre, a.fresh, fun b' o e n m => b.kept b' o (a.kept b' o e n m) (fun z => ?_) fun z => ?_, a.stays.trans a.pre b.stays⟩
  . rcases a.fresh b' z with z | z
    . exact n z
    . rw [e] at z; cases z.1
  . rcases hG b' z with z | z
    . exact m z
    . rw [e] at z; cases z
noncomputable def noteO (mh : MH) (j : Nat) : MH := match ob mh j with
  | some (.exc c fs true) => putO mh j (.exc c fs true)
  | _ => mh
section
variable {C : Cx} {n m : Nat} {f : Fn} {A : Around} {E : Value -> Shared -> Prop} {ρ ρ' : Rho} {mh mh' : MH} {s s' : Shared} {v : V} {v' : Value} {h h' : Heap} {L : Fid} {loc loc' : Loc}
noncomputable def FrOk (C : Cx) (ρ : Rho) (h : Heap) (fr : List Addr) : Prop := ∀ b ∈ fr, ¬ Own ρ b /\ C.B.get? b = none /\ ∀ o, h.get? b = some o -> ∀ items k, o.data ≠ .seq items k
theorem Fra.raised {fr : List Addr} (F : Fra C f L loc ρ mh s) (hcs : L.cs = []) (hfr : FrOk C ρ s.heap fr)
    (x : Ext fr ρ mh s.heap ρ' mh' s'.heap) (sh : Sh C s') (S' : SSt C ρ' mh' s') (hsl : ∀ o, s.heap.get? L.L = some o -> ∃ sl, s'.heap.get? L.L = some { o with slots := sl }) : Fra C f L loc ρ' mh' s' := by
  have tk : TupKept s.heap s'.heap := fun b o ho hc hd => x.kept b o ho (F.st.notOwn ho hc hd) (fun m => by obtain ⟨_, _, hd⟩ := hd; exact (hfr b m).2.2 o ho _ _ hd)
  obtain ⟨m, ⟨oL, es, ep, hoL, hdL, r⟩, hl⟩ := F.ns
  obtain ⟨sl, hs⟩ := hsl oL hoL
  refine ⟨sh, S', ⟨m, ⟨_, es, ep, hs, hdL, r⟩, fun y i u hy hu => ?_⟩, fun y hy z => ?_, F.bX, fun c hc => (by rw [hcs] at hc; cases hc), F.cN, F.cS⟩
  . obtain ⟨u', H, d⟩ := hl y i u hy hu
    refine ⟨u', ?_, d.mono tk x.pre⟩
    unfold Holds at H ⊢
    split
    . rename_i e
      obtain ⟨c, hc⟩ := F.cS y e
      rw [hcs] at hc; cases hc
    . rename_i e; rw [if_neg e] at H; exact H
  . rcases x.fresh y z with z | z
    . exact F.nX y hy z
    . obtain ⟨_, t⟩ := F.there
      obtain ⟨_, t⟩ := t y hy
      rw [t] at z; cases z.1
theorem PX.trans {cls : Nat} {fr : List Addr} {mh₁ : MH} {h₁ : Heap} {j : Nat} {e : Value} (x : Ext [] ρ mh h ρ' mh₁ h₁) (S : SSt C ρ mh s) (hs : s.heap = h) (hfr : FrOk C ρ h fr) (there : ∀ b ∈ fr, ∃ o, h.get? b = some o) (p : PX C cls fr ρ' mh₁ h₁ mh' j e s') : PX C cls fr ρ mh h mh' j e s' := by
  subst hs
  obtain ⟨ρ₂, q, T, h1, h2, h3, h4, h5, h6, h7, h8, h9, h10⟩ := p
  have kp : ∀ b ∈ fr, ∀ o, s.heap.get? b = some o -> h₁.get? b = some o := fun b hb o ho => x.kept b o ho (hfr b hb).1 (by simp)
  have nT : s.heap.get? T = none := by
    cases z : s.heap.get? T with
    | none => rfl
    | some o =>
      by_cases w : Own ρ T
      . exact absurd (Pre.own h3.pre (Pre.own x.pre w)) h8
      . have := x.kept T o z w (by simp)
        rw [h7] at this; cases this
  exact ⟨ρ₂, q, T, h1, h2, (x.weaken there).trans h3, h4, h5, h6, nT, h8, fun b hb o ho => h9 b hb o (kp b hb o ho), h10⟩
theorem FrOk.ext {fr : List Addr} (x : Ext [] ρ mh h ρ' mh' h') (hfr : FrOk C ρ h fr) (there : ∀ b ∈ fr, ∃ o, h.get? b = some o) : FrOk C ρ' h' fr := fun b hb => by
  obtain ⟨h1, h2, h3⟩ := hfr b hb
  obtain ⟨o, ho⟩ := there b hb
  have := x.kept b o ho h1 (by simp)
  refine ⟨fun z => ?_, h2, fun o' ho' => ?_⟩
  . rcases x.fresh b z with z | z
    . exact h1 z
    . rw [ho] at z; cases z.1
  . rw [this] at ho'; cases ho'; exact h3 o ho
theorem callX (hC : C.Ok) {x : Str} {px pos : Pos} {c : Value} {es : List Expr} {q : REs} {gx : List V -> MH -> Option (Nat × MH)} {cls : Nat} {envs : List Env} {as : List V} {mh₁ : MH} {j : Nat} {Q : Value -> Shared -> Prop} (hv : Stands C f (.Name x px) c) (hk : Keepable C c) (ha : SemEs C n f es q) (hX : SemFX C n cls c gx)
    (hr : Room n A) (hfrm : A.frames = some envs) (hFF : s.heap.FunFrames {} envs) (hfr : FrOk C ρ s.heap (envs.filterMap (·.frame))) (F : Fra C f L loc ρ mh s) (e : q loc mh = some (as, mh₁)) (e' : gx as mh₁ = some (j, mh'))
    (hE : ∀ e s', PX C cls (envs.filterMap (·.frame)) ρ mh s.heap mh' j e s' -> E e s') (hp : es.all plainE = true := by rfl) : wpAny (model C.prog C.w) A (eval (.Call (.Name x px) es [] pos) (f.env L)) Q E s := by
  have there : ∀ b ∈ envs.filterMap (·.frame), ∃ o, s.heap.get? b = some o := fun b hb => let ⟨_, o, ho, _⟩ := hFF.mem hb; ⟨o, ho⟩
  refine Call_ (hv A E L loc ρ mh s _ F (callWith_V hk (any_plain hp) (head_plain hp) (wpAny_mono (ha.2 A E L loc ρ mh s as mh₁ pos hr F e) (fun vs s₁ p => ?_) fun _ _ x => x)))
  obtain ⟨ρ₁, x₁, sh₁, S₁, d₁⟩ := p
  refine ⟨fun a o e => S₁.keep a o (hC.X a o e), wpAny_mono (hX A E ρ₁ mh₁ s₁ as vs j mh' envs hr hr.2.2 hfrm (frames_keep hFF fun b hb o ho => ⟨o, x₁.kept b o ho (hfr b hb).1 (by simp), rfl⟩) (hfr.ext x₁ there) sh₁ S₁ d₁ e' fun e s' p => hE e s' (p.trans x₁ F.st rfl hfr there)) (fun _ _ z => z.elim) fun _ _ x => x⟩
theorem landed {cls j : Nat} {outer : List Env} {e : Value} {Q : Unit -> Shared -> Prop} (F : Fra C f L loc ρ mh s) (hcs : L.cs = []) (hfL : (f.env L).frame = some L.L) (hfrm : A.frames = some (f.env L :: outer))
    (hFF : s.heap.FunFrames {} (f.env L :: outer)) (hfr : FrOk C ρ s.heap ((f.env L :: outer).filterMap (·.frame))) (P : PX C cls ((f.env L :: outer).filterMap (·.frame)) ρ mh s.heap mh' j e s')
    (hq : ∀ p ρ' s'' T', e = .ref p.1 -> ρ'[j]? = some p -> Fra C f L loc ρ' (noteO mh' j) s'' -> Ext ((f.env L :: outer).filterMap (·.frame)) ρ mh s.heap ρ' (noteO mh' j) s''.heap -> Flies s''.heap p.1 (.ref cls) (some p.2) .none T' -> ¬ Own ρ' T' -> C.B.get? T' = none -> s.heap.get? T' = none ->
      (∀ b ∈ (f.env L :: outer).filterMap (·.frame), ∀ o, s.heap.get? b = some o -> ∃ sl, s''.heap.get? b = some { o with slots := sl }) -> (∃ fs, ob mh' j = some (.exc cls fs true)) -> Q () s'') :
    wpAny (model C.prog C.w) A (noteFrame e (f.env L)) (fun _ s₂ => wpAny (model C.prog C.w) A (setFlight e none) Q E s₂) E s' := by
  obtain ⟨ρ₁, p, T, hp, rfl, x₁, sh₁, S₁, Fl, nT, oT, sls, fs, hob⟩ := P
  have inL : L.L ∈ (f.env L :: outer).filterMap (·.frame) := List.mem_filterMap.mpr ⟨_, .head _, hfL⟩
  generalize hfrs : (f.env L :: outer).filterMap (·.frame) = fr at *
  have there : ∀ b ∈ fr, ∃ o, s.heap.get? b = some o := fun b hb => let ⟨_, o, ho, _⟩ := hFF.mem (hfrs ▸ hb); ⟨o, ho⟩
  have F₁ : Fra C f L loc ρ₁ mh' s' := F.raised hcs hfr x₁ sh₁ S₁ (sls _ inL)
  have FF₁ : s'.heap.FunFrames {} (f.env L :: outer) := frames_keep hFF fun b hb o ho => by
    obtain ⟨sl, z⟩ := sls b (hfrs ▸ hb) o ho
    exact ⟨_, z, rfl⟩
  refine noteNext2 (base := {}) hfrm FF₁ hfL Fl fun h₂ T' nT' Fl₂ k₂ sl₂ FF₂ => ?_
  rw [hfrs] at k₂ sl₂
  refine flight2 Fl₂ fun h₃ Fl₃ k₃ => ?_
  have thereF : ∀ b ∈ fr, ∃ o sl, s.heap.get? b = some o /\ s'.heap.get? b = some { o with slots := sl } := fun b hb => by
    obtain ⟨o, ho⟩ := there b hb
    obtain ⟨sl, z⟩ := sls b hb o ho
    exact ⟨o, sl, ho, z⟩
  have nT'fr : T' ∉ fr := fun z => by
    obtain ⟨_, _, _, w⟩ := thereF T' z
    rw [nT'] at w; cases w
  have oT' : ¬ Own ρ₁ T' := fun z => by
    obtain ⟨_, w⟩ := S₁.there z
    rw [nT'] at w; cases w
  have nTs' : s.heap.get? T' = none := by
    cases z : s.heap.get? T' with
    | none => rfl
    | some o =>
      by_cases w : Own ρ T'
      . exact absurd (Pre.own x₁.pre w) oT'
      . have := x₁.kept T' o z w nT'fr
        rw [nT'] at this; cases this
  have nB : ∀ {b : Addr}, s.heap.get? b = none -> C.B.get? b = none := fun {b} e => by
    cases q : C.B.get? b with
    | none => rfl
    | some o => rw [F.st.keep _ _ q] at e; cases e
  have hF : ∀ b ∈ fr ++ [T, T'], ¬ Own ρ₁ b /\ C.B.get? b = none /\ ∀ o, s'.heap.get? b = some o -> ∀ items k, o.data ≠ .seq items k := fun b hb => by
    rcases List.mem_append.mp hb with hb | hb
    . obtain ⟨o, sl, ho, z⟩ := thereF b hb
      refine ⟨fun w => ?_, (hfr b hb).2.1, fun o' ho' => ?_⟩
      . rcases x₁.fresh b w with w | w
        . exact (hfr b hb).1 w
        . rw [ho] at w; cases w.1
      . rw [z] at ho'; cases ho'; exact (hfr b hb).2.2 o ho
    . simp only [List.mem_cons, List.not_mem_nil, or_false] at hb
      rcases hb with rfl | rfl
      . refine ⟨oT, nB nT, fun o ho items k w => ?_⟩
        obtain ⟨oT, ts, z1, z2, _⟩ := Fl.tb
        rw [ho] at z1; cases z1; rw [w] at z2; cases z2
      . exact ⟨oT', nB nTs', fun o ho => by rw [nT'] at ho; cases ho⟩
  have kk : ∀ b o, b ≠ p.1 -> b ∉ fr ++ [T, T'] -> s'.heap.get? b = some o -> h₃.get? b = some o := fun b o n1 n2 hb => by
    simp only [List.mem_append, List.mem_cons, List.not_mem_nil, or_false, not_or] at n2
    exact (k₃ b n2.2.2).trans (k₂ b o n1 n2.2.1 n2.2.2 n2.1 hb)
  have slk : ∀ b ∈ fr, ∀ o, s'.heap.get? b = some o -> ∃ sl, h₃.get? b = some { o with slots := sl } := fun b hb o ho => by
    obtain ⟨sl, z⟩ := sl₂ b hb o ho
    exact ⟨sl, (k₃ b (fun w => nT'fr (w ▸ hb))).trans z⟩
  obtain ⟨oe, vs, e1, e2, e3, e4, e5⟩ := Fl₃.at'
  have N := Fra.noted (h' := h₃) (tk := s'.toks) F₁ hcs hp hob (List.mem_append_left _ inL) hF kk (slk _ inL) ⟨oe, vs, e1, e2, e3, e4⟩
  have hn : noteO mh' j = putO mh' j (.exc cls fs true) := by unfold noteO; rw [hob]
  refine hq p ρ₁ _ T' rfl hp (hn ▸ N.1) (hn ▸ x₁.over N.2 fun b hb => ?_) Fl₃ oT' (nB nTs') nTs' (fun b hb o ho => ?_) ⟨fs, hob⟩
  . rcases List.mem_append.mp hb with hb | hb
    . exact .inl hb
    . simp only [List.mem_cons, List.not_mem_nil, or_false] at hb
      rcases hb with rfl | rfl
      . exact .inr nT
      . exact .inr nTs'
  . obtain ⟨sl, z⟩ := sls b hb o ho
    obtain ⟨sl', z'⟩ := slk b hb _ z
    exact ⟨sl', z'⟩
end
end Mini
namespace Mini
section
variable {C : Cx} {n m : Nat} {f : Fn} {A : Around} {E : Value -> Shared -> Prop} {ρ ρ' : Rho} {mh mh' : MH} {s s' : Shared} {v : V} {v' : Value} {h h' : Heap} {L : Fid} {loc loc' : Loc}
theorem Fra.landed {p : Addr × Addr} {T : Addr} {cls : Value} {fr : List Addr} {s₂ : Shared} (x : Ext fr ρ' mh' h ρ mh s.heap) (F : Fra C f L loc ρ mh s) (Fl : Flies s.heap p.1 cls (some p.2) .none T) (oT : ¬ Own ρ T) (bT : C.B.get? T = none) (nT : h.get? T = none) (hLT : T ∉ L.X)
    (k : ∀ b, b ≠ T -> s₂.heap.get? b = s.heap.get? b) (sh : Sh C s₂) : Fra C f L loc ρ mh s₂ /\ Ext fr ρ' mh' h ρ mh s₂.heap := by
  obtain ⟨oI, ts, z1, z2, _⟩ := Fl.tb
  have z := F.turned (s' := s₂) oT bT hLT z1 z2 (fun b o n e => (k b n).trans e) sh
  refine ⟨z.1, ?_⟩
  have st := F.st.local (h' := s₂.heap) (L := T) oT bT (fun o e => .inr fun items n q => by rw [z1] at e; cases e; rw [z2] at q; cases q) (fun b o n e => (k b n).trans e)
  exact x.over st.2 fun b hb => by rw [List.mem_singleton.mp hb]; exact .inr nT
theorem excMatches2 {M : Model} (hC : C.Ok) {c N c' N' fI : Addr} (K : ExcK C c N c' N' fI) (S : SSt C ρ mh s) {e : Addr} {oe : Obj} {Q : Bool -> Shared -> Prop} (he : s.heap.get? e = some oe) (hc : oe.cls = .ref c) (hq : Q true s) : wpAny M A (excMatches (.ref e) (.ref c)) Q E s := by
  obtain ⟨nm, q, bs, sn, sub, ab, col, dd, k0, k1, k2, k3, k5, hobj⟩ := K.obj
  exact wpAny_excMatches_sub_self (bm := .ref c' :: bmE) (S.keep _ _ (hC.X _ _ hobj)) he hc rfl hq
theorem caught0 (hC : C.Ok) {cls N c' N' fI : Addr} (K : ExcK C cls N c' N' fI) {j : Nat} {outer : List Env} {e : Value} {t : Expr} {b₀ : Stmt} {suite : List Stmt} {pos : Pos} {rest : List ExceptHandler} {Q : Flow -> Shared -> Prop} (ht : Stands C f t (.ref cls))
    (F : Fra C f L loc ρ mh s) (hcs : L.cs = []) (hfL : (f.env L).frame = some L.L) (hfrm : A.frames = some (f.env L :: outer))
    (hFF : s.heap.FunFrames {} (f.env L :: outer)) (hfr : FrOk C ρ s.heap ((f.env L :: outer).filterMap (·.frame))) (P : PX C cls ((f.env L :: outer).filterMap (·.frame)) ρ mh s.heap mh' j e s')
    (hq : ∀ ρ' s'' E', Fra C f L loc ρ' (noteO mh' j) s'' -> Ext ((f.env L :: outer).filterMap (·.frame)) ρ mh s.heap ρ' (noteO mh' j) s''.heap ->
      (∀ b ∈ (f.env L :: outer).filterMap (·.frame), ∀ o, s.heap.get? b = some o -> ∃ sl, s''.heap.get? b = some { o with slots := sl }) ->
      wpAny (model C.prog C.w) (A.mark (some e)) (execs (b₀ :: suite) (f.env L)) Q E' s'') :
    wpAny (model C.prog C.w) A (noteFrame e (f.env L)) (fun _ s₂ => wpAny (model C.prog C.w) A (setFlight e none) (fun _ s₃ => wpAny (model C.prog C.w) A (handleBy e (f.env L) (.ExceptHandler (some t) none (b₀ :: suite) pos :: rest)) Q E s₃) E s₂) E s' := by
  have inL : L.L ∈ (f.env L :: outer).filterMap (·.frame) := List.mem_filterMap.mpr ⟨_, .head _, hfL⟩
  have thereL : ∃ o, s.heap.get? L.L = some o := let ⟨_, o, ho, _⟩ := hFF.mem inL; ⟨o, ho⟩
  refine landed F hcs hfL hfrm hFF hfr P fun p ρ₁ s₁ T he hp F₁ x₁ Fl oT bT nT sl hob => ?_
  subst he
  refine wpAny_handleBy_cons (codeAny_handlers_test (ht _ _ L loc ρ₁ _ s₁ _ F₁ ?_)) (by intro q; cases q)
  obtain ⟨oe, vs, e1, e2, e3, e4, e5⟩ := Fl.at'
  refine excMatches2 hC K F₁.st e1 e2 ?_
  show codeAny _ _ _ _ _
  refine codeAny_handlers_suite (flight2 Fl fun h₂ Fl₂ k₂ => ?_)
  have hLT : T ∉ L.X := fun z => by
    unfold Fid.X at z
    rw [hcs] at z
    rw [List.mem_singleton.mp z] at nT
    obtain ⟨o, ho⟩ := thereL
    rw [nT] at ho; cases ho
  have G := F₁.landed (s₂ := { s₁ with heap := h₂ }) x₁ Fl oT bT nT hLT k₂ F₁.sh
  exact hq ρ₁ _ _ G.1 G.2 fun b hb o ho => by
    obtain ⟨sl', z⟩ := sl b hb o ho
    exact ⟨sl', (k₂ b fun w => by rw [w, nT] at ho; cases ho).trans z⟩
end
end Mini
namespace Mini
section
variable {C : Cx} {n m : Nat} {f : Fn} {A : Around} {E : Value -> Shared -> Prop} {ρ ρ' : Rho} {mh mh' : MH} {s s' : Shared} {v : V} {v' : Value} {h h' : Heap} {L : Fid} {loc loc' : Loc}
end
end Mini
namespace Mini
noncomputable def SemG (C : Cx) (n : Nat) (c : Value) (g : ON) : Prop :=
  ∀ A E ρ mh s as as' v mh' envs, Room n A -> A.frames = some envs -> s.heap.FunFrames {} envs -> FrOk C ρ s.heap (envs.filterMap (·.frame)) -> Sh C s -> SSt C ρ mh s -> ValsAre ρ s.heap as' as -> g as mh = some (v, mh') ->
    wpAny (model C.prog C.w) A (call c as') (fun v' s' => ∃ ρ', Ext (envs.filterMap (·.frame)) ρ mh s.heap ρ' mh' s'.heap /\ Sh C s' /\ SSt C ρ' mh' s' /\ ValIs ρ' s'.heap v' v /\
      ∀ b ∈ envs.filterMap (·.frame), ∀ o, s.heap.get? b = some o -> ∃ sl, s'.heap.get? b = some { o with slots := sl }) E s
noncomputable def gCatch (q : REs) (g : ON) (gx : List V -> MH -> Option (Nat × MH)) (k m : Nat) : ON := fun as mh => if as.length = k then (match q (as.map some ++ List.replicate m none) mh with
  | some (bs, mh₁) => (match g bs mh₁ with
    | some x => some x
    | none => (match gx bs mh₁ with | some (j, mh₂) => some (.none, noteO mh₂ j) | none => none))
  | none => none) else none
section
variable {C : Cx} {n m : Nat} {f : Fn} {A : Around} {E : Value -> Shared -> Prop} {ρ ρ' : Rho} {mh mh' : MH} {s s' : Shared} {v : V} {v' : Value} {h h' : Heap} {L : Fid} {loc loc' : Loc}
theorem SemF.toG {c : Value} {g : ON} (h : SemF C n c g) : SemG C n c g := fun A E ρ mh s as as' v mh' envs hr hfrm hFF hfr sh S d e => by
  have there : ∀ b ∈ envs.filterMap (·.frame), ∃ o, s.heap.get? b = some o := fun b hb => let ⟨_, o, ho, _⟩ := hFF.mem hb; ⟨o, ho⟩
  refine wpAny_mono (h A E ρ mh s as as' v mh' hr sh S d e) (fun v' s' p => ?_) fun _ _ x => x
  obtain ⟨ρ', x, sh', S', d'⟩ := p
  exact ⟨ρ', x.weaken there, sh', S', d', fun b hb o ho => ⟨o.slots, x.kept b o ho (hfr b hb).1 (by simp)⟩⟩
theorem def_enter (hC : C.Ok) {fa : Addr} {name qual : Str} {params : Arguments} {body : List Stmt} {scope : Scope} {dV kV doc pm cdv ct oc : Value} {an od : Option Addr} {osl : Array (Option Value)} {m : Nat} {ps : List Str} {as : List V} {as' : List Value} {Q : Value -> Shared -> Prop}
    (ho : C.K.lookup fa = some ⟨oc, od, .func (fnOf name qual params body scope dV kV doc pm an cdv ct), osl⟩) (hcd : codeIn C.K cdv qual = true)
    (hb : ∀ s as, as.length = ps.length -> BindsTo s (fnOf name qual params body scope dV kV doc pm an cdv ct) ⟨as, []⟩ (ps.zip as))
    (hps : (Fn.of qual scope fa cdv).params ps = true) (hnd : ps.Nodup) (hloc : ps.all (fun y => scope.names.lookup y == some .local) = true)
    (hco : scope.isCoroutine = false) (hgen : scope.isGenerator = false) (hk : scope.kind = .function)
    (hcell : scope.names.all (fun x => x.2 != .cell) = true) (hr : Room (n + 1) A) (sh : Sh C s) (S : SSt C ρ mh s) (hd : ValsAre ρ s.heap as' as) (hlen : as.length = ps.length)
    (hq : ∀ h₁ L E' tk, L = s.heap.objs.size -> s.heap.get? L = none -> C.B.get? L = none -> (∀ b o, s.heap.get? b = some o -> h₁.get? b = some o) -> Fra C (Fn.of qual scope fa cdv) ⟨L, []⟩ (as.map some ++ List.replicate m none) ρ mh { s with heap := h₁, toks := tk } ->
      Room n (A.deeper ((Fn.of qual scope fa cdv).env ⟨L, []⟩)) ->
      wpAny (model C.prog C.w) (A.deeper ((Fn.of qual scope fa cdv).env ⟨L, []⟩)) (execs body ((Fn.of qual scope fa cdv).env ⟨L, []⟩)) (fun fl s' => Q (match fl with | .ret v => v | _ => .none) s') E' { s with heap := h₁, toks := tk }) :
    wpAny (model C.prog C.w) A (call (.ref fa) as') Q E s := by
  have nL := size_none' s.heap
  refine def_call hC ho hcd hb hps hnd hloc hco hgen hk hcell (by have := hr.1; omega) sh S hd hlen fun h₁ hk₁ F => hq h₁ _ _ _ rfl nL ?_ hk₁ F hr.deeper
  cases q : C.B.get? s.heap.objs.size with
  | none => rfl
  | some o => exact no_some (nL.symm.trans (S.keep _ _ q))
theorem SemG.of_def (hC : C.Ok) {cls N c' N' fI : Addr} (K : ExcK C cls N c' N' fI) {fa : Addr} {name qual : Str} {params : Arguments} {x : Str} {es : List Expr} {px p1 p2 p3 p4 p5 pos : Pos} {k1 : Nat} {t : Expr} {c : Value} {q : REs} {g : ON} {gx : List V -> MH -> Option (Nat × MH)} {scope : Scope} {dV kV doc pm cdv ct oc : Value} {an od : Option Addr} {osl : Array (Option Value)} {m : Nat} {ps : List Str}
    (ho : C.K.lookup fa = some ⟨oc, od, .func (fnOf name qual params [.Try [.Return (some (.Call (.Name x px) es [] p1)) p2] [.ExceptHandler (some t) none [.Return (some (.Constant .none k1 p3)) p4] p5] [] [] pos] scope dV kV doc pm an cdv ct), osl⟩) (hcd : codeIn C.K cdv qual = true)
    (hb : ∀ s as, as.length = ps.length -> BindsTo s (fnOf name qual params [.Try [.Return (some (.Call (.Name x px) es [] p1)) p2] [.ExceptHandler (some t) none [.Return (some (.Constant .none k1 p3)) p4] p5] [] [] pos] scope dV kV doc pm an cdv ct) ⟨as, []⟩ (ps.zip as))
    (hps : (Fn.of qual scope fa cdv).params ps = true) (hnd : ps.Nodup) (hloc : ps.all (fun y => scope.names.lookup y == some .local) = true)
    (hv : Stands C (Fn.of qual scope fa cdv) (.Name x px) c) (hkp : Keepable C c) (ha : SemEs C n (Fn.of qual scope fa cdv) es q) (hS : SemF C n c g) (hX : SemFX C n cls c gx) (ht : Stands C (Fn.of qual scope fa cdv) t (.ref cls)) (hp : es.all plainE = true)
    (hco : scope.isCoroutine = false := by rfl) (hgen : scope.isGenerator = false := by rfl) (hk : scope.kind = .function := by rfl)
    (hcell : scope.names.all (fun x => x.2 != .cell) = true := by decide) : SemG C (n + 1) (.ref fa) (gCatch q g gx ps.length m) := fun A E ρ mh s as as' v mh' envs hr hfrm hFF hfr sh S hd e => by
  unfold gCatch at e
  split at e
  . rename_i hlen
    split at e
    . rename_i bs mh₁ eq
      split at e
      . rename_i y eg
        obtain ⟨v₁, mh₂⟩ := y
        cases e
        refine (SemF.of_def (n := n) hC (r := rSeq (rSeq (rRet (rCallN q g)) rSkip) rSkip) (m := m) ho hcd hb hps hnd hloc (.cons (.tryOk (.cons (.ret (.call hC hv hkp ha hS hp)) .nil)) .nil) hco hgen hk hcell).toG A E ρ mh s as as' v mh' envs hr hfrm hFF hfr sh S hd ?_
        unfold runBody
        rw [if_pos hlen]
        simp only [rSeq, rRet, rCallN, bd, eq, eg]
      . split at e
        . rename_i j mh₂ eg
          cases e
          refine def_enter (m := m) hC ho hcd hb hps hnd hloc hco hgen hk hcell hr sh S hd hlen fun h₁ L E' tk hL nL nB k₁ F hr' => ?_
          have there : ∀ b ∈ envs.filterMap (·.frame), ∃ o, s.heap.get? b = some o := fun b hb => let ⟨_, o, ho, _⟩ := hFF.mem hb; ⟨o, ho⟩
          obtain ⟨mm, ⟨oL, es', ep, hoL, hdL, rL⟩, hl⟩ := F.ns
          have hFF' : h₁.FunFrames {} ((Fn.of qual scope fa cdv).env ⟨L, []⟩ :: envs) := ⟨by show scope.kind ≠ .module; rw [hk]; decide, ⟨L, oL, rfl, rfl, hoL, fun vs z => by rw [hdL] at z; cases z⟩, frames_keep hFF fun b hb o ho => ⟨o, k₁ b o ho, rfl⟩⟩
          have frs : ((Fn.of qual scope fa cdv).env ⟨L, []⟩ :: envs).filterMap (·.frame) = L :: envs.filterMap (·.frame) := rfl
          have hfr' : FrOk C ρ h₁ (((Fn.of qual scope fa cdv).env ⟨L, []⟩ :: envs).filterMap (·.frame)) := by
            rw [frs]
            intro b hb
            rcases List.mem_cons.mp hb with rfl | hb
            . exact ⟨F.nX _ (.head _), F.bX _ (.head _), fun o ho items k => F.noSeq (.head _) ho items k⟩
            . obtain ⟨o, ho⟩ := there b hb
              refine ⟨(hfr b hb).1, (hfr b hb).2.1, fun o' ho' => ?_⟩
              rw [k₁ b o ho] at ho'; cases ho'; exact (hfr b hb).2.2 o ho
          refine wpAny_execs_cons (wpAny_Try_except (wpAny_execs_cons (wpAny_Return_some (callX hC hv hkp ha hX hr' (Around.frames_deeper hfrm) hFF' hfr' F eq eg (fun ex s' P => ?_) hp))))
          refine caught0 hC K ht F rfl rfl (Around.frames_deeper hfrm) hFF' hfr' P fun ρ₂ s₂ E₂ F₂ x₂ sl₂ => ?_
          refine wpAny_execs_cons (wpAny_Return_some (Constant_none ?_))
          refine ⟨ρ₂, ⟨x₂.pre, fun b o => ?_, fun b o hb n1 n2 => ?_, (Stays.grow (fun b o _ e => k₁ b o e)).trans (.refl ρ) x₂.stays⟩, F₂.sh, F₂.st, .none, fun b hb o ho => sl₂ b (by rw [frs]; exact .tail _ hb) o (k₁ b o ho)⟩
          . rcases x₂.fresh b o with w | w
            . exact .inl w
            . refine .inr ⟨?_, fun z => w.2 (by rw [frs]; exact .tail _ z)⟩
              cases q : s.heap.get? b with
              | none => rfl
              | some y => rw [k₁ _ _ q] at w; cases w.1
          . refine x₂.kept b o (k₁ b o hb) n1 fun z => ?_
            rw [frs] at z
            rcases List.mem_cons.mp z with rfl | z
            . rw [nL] at hb; cases hb
            . exact n2 z
        . exact no_some e
    . exact no_some e
  . exact no_some e
theorem callG (hC : C.Ok) {x : Str} {px pos : Pos} {c : Value} {es : List Expr} {q : REs} {g : ON} {as : List V} {mh₁ : MH} {Q : Value -> Shared -> Prop} (hv : Stands C f (.Name x px) c) (hk : Keepable C c) (ha : SemEs C n f es q) (hG : SemG C n c g)
    (hr : Room n A) (hfrm : A.frames = some [f.env L]) (hcs : L.cs = []) (hfL : (f.env L).frame = some L.L) (hkind : (f.env L).scope.kind ≠ .module) (F : Fra C f L loc ρ mh s) (e : q loc mh = some (as, mh₁)) (e' : g as mh₁ = some (v, mh'))
    (hq : ∀ v' ρ' s', Fra C f L loc ρ' mh' s' -> Ext L.X ρ mh s.heap ρ' mh' s'.heap -> ValIs ρ' s'.heap v' v -> Q v' s') (hp : es.all plainE = true := by rfl) : wpAny (model C.prog C.w) A (eval (.Call (.Name x px) es [] pos) (f.env L)) Q E s := by
  refine Call_ (hv A E L loc ρ mh s _ F (callWith_V hk (any_plain hp) (head_plain hp) (wpAny_mono (ha.2 A E L loc ρ mh s as mh₁ pos hr F e) (fun vs s₁ p => ?_) fun _ _ x => x)))
  obtain ⟨ρ₁, x₁, sh₁, S₁, d₁⟩ := p
  have F₁ := F.ext x₁ sh₁ S₁
  have hX1 : L.X = [L.L] := by unfold Fid.X; rw [hcs]; rfl
  obtain ⟨mm, ⟨oL, es', ep, hoL, hdL, rL⟩, hl⟩ := F₁.ns
  have hFF : s₁.heap.FunFrames {} [f.env L] := ⟨hkind, ⟨L.L, oL, hfL, rfl, hoL, fun vs z => by rw [hdL] at z; cases z⟩, trivial⟩
  have frs : [f.env L].filterMap (·.frame) = [L.L] := by simp [hfL]
  have hfr : FrOk C ρ₁ s₁.heap ([f.env L].filterMap (·.frame)) := by
    rw [frs]
    intro b hb
    rw [List.mem_singleton.mp hb]
    exact ⟨F₁.nX _ (.head _), F₁.bX _ (.head _), fun o ho items k => F₁.noSeq (.head _) ho items k⟩
  refine ⟨fun a o e => S₁.keep a o (hC.X a o e), wpAny_mono (hG A E ρ₁ mh₁ s₁ as vs v mh' _ hr hfrm hFF hfr sh₁ S₁ d₁ e') (fun v' s' p => ?_) fun _ _ x => x⟩
  obtain ⟨ρ₂, x₂, sh₂, S₂, d₂, sl⟩ := p
  rw [frs] at x₂ sl hfr
  obtain ⟨_, hL⟩ := F.there
  refine hq v' ρ₂ s' (F₁.raised hcs hfr x₂ sh₂ S₂ (sl _ (.head _))) ?_ d₂
  rw [hX1] at hL ⊢
  exact (x₁.weaken hL).trans x₂
theorem SemSA1.assignG (hC : C.Ok) {y x : Str} {py px p1 pos : Pos} {c : Value} {es : List Expr} {q : REs} {g : ON} (i : Nat) (hi : f.at y i = true) (hv : Stands C f (.Name x px) c) (hk : Keepable C c) (ha : SemEs C n f es q) (hG : SemG C n c g)
    (hr : Room n A) (hfrm : A.frames = some [f.env L]) (hcs : L.cs = []) (hfL : (f.env L).frame = some L.L) (hkind : (f.env L).scope.kind ≠ .module) (hs : swapsWith (.Call (.Name x px) es [] p1) (some (.Name y py)) pos.line (f.env L) = pure false) (hp : es.all plainE = true := by rfl) :
    SemSA1 C f A L (.Assign [.Name y py] (.Call (.Name x px) es [] p1) pos) (rSet i (rCallN q g)) := fun E loc ρ mh s r F e => by
  exact bd_elim e fun v m ea w => one_elim w (bd_elim ea fun as mh₁ eq eg => wpAny_Assign_Name (callG hC hv hk ha hG hr hfrm hcs hfL hkind F eq eg (fun v' ρ' s' F' x' d' =>
    wpAny_mono (store_V hi F' d') (fun _ s₂ p => ⟨ρ', _, x'.trans p.1, p.2.sh, rfl, p.2⟩) fun _ _ x => x) hp) hs)
theorem SemSA1.retG (hC : C.Ok) {x : Str} {px p1 p2 p3 : Pos} {c : Value} {es : List Expr} {q : REs} {g : ON} {d : Expr} {rd : RE} {go : O2} (hv : Stands C f (.Name x px) c) (hk : Keepable C c) (ha : SemEs C n f es q) (hG : SemG C n c g) (hd : SemE C n f d rd) (ho : Op2 C n (compareOp .Eq) go)
    (hr : Room n A) (hfrm : A.frames = some [f.env L]) (hcs : L.cs = []) (hfL : (f.env L).frame = some L.L) (hkind : (f.env L).scope.kind ≠ .module) (hm : behindInMarks .Eq d = false := by with_unfolding_all rfl) (hp : es.all plainE = true := by rfl) :
    SemSA1 C f A L (.Return (some (.Compare (.Call (.Name x px) es [] p1) [.Eq] [d] p2)) p3) (rRet (rOp2 (rCallN q g) rd go)) := fun E loc ρ mh s r F e => by
  refine bd_elim e fun v m ea w => one_elim w (bd_elim ea fun a mh₁ ec q1 => bd_elim q1 fun b mh₂ eb ea => bd_elim ec fun as mh₀ eq ec => ?_)
  refine wpAny_Return_some (wpAny_Compare1 (callG hC hv hk ha hG hr hfrm hcs hfL hkind F eq ec (fun v' ρ' s' F' x' d' => hd.use hr F' eb fun b' s₂ ρ₂ x₂ sh₂ S₂ F₂ d₂ => ?_) hp) hm)
  refine PE.use (ho A E ρ₂ mh₂ s₂ a b v' b' _ _ hr sh₂ S₂ (d'.ext F'.st x₂) d₂ ea) fun r' s₃ ρ₃ x₃ sh₃ S₃ d₃ => ?_
  obtain ⟨_, hL'⟩ := F'.there
  exact ⟨ρ₃, _, x'.trans ((x₂.trans x₃).weaken hL'), sh₃, rfl, S₃, d₃⟩
end
end Mini
namespace Mini
noncomputable def mh0 (nn : List Int) : MH := [(.tab 284 none, 0), (.list (nn.map .int), 0), (.list [.ref 1, .int 0, .int 0], 0)]
noncomputable def loc0 (k : Nat) : Loc := (List.replicate k none).set 1 (some (.ref 2))
section
variable {C : Cx} {n m : Nat} {f : Fn} {A : Around} {E : Value -> Shared -> Prop} {ρ ρ' : Rho} {mh mh' : MH} {s s' : Shared} {v : V} {v' : Value} {h h' : Heap} {L : Fid} {loc loc' : Loc}
theorem ints_V {ρ : Rho} {h : Heap} : ∀ {items : List Value} {nn : List Int}, IntsAre items nn -> ValsAre ρ h items (nn.map .int)
  | _, _, .nil => .nil
  | _, _, .cons n t r => .cons (.int n t) (ints_V r)
theorem ints_len : ∀ {items : List Value} {nn : List Int}, IntsAre items nn -> items.length = nn.length
  | _, _, .nil => rfl
  | _, _, .cons n t r => congrArg Nat.succ (ints_len r)
theorem law_final (hC : C.Ok) {name : Str} {scope : Scope} {fa L a : Addr} {cd : Value} {m : Str -> Option Value} {items : List Value} {nn : List Int} {rest : List Stmt} {p1 p2 p3 p4 p5 p6 p7 p8 p9 : Pos} {k1 k2 k3 k : Nat} {r : RS} {Q : Flow -> Shared -> Prop}
    (F' : Fr C.B L s.heap m) (hm : m (Str.ofString "script") = some (.ref a)) (N' : News C.B L s.heap [(284, tabObj #[])]) (lifted : C.B.IsList a items.toArray) (hI : IntsAre items nn) (hlen : nn.length <= 63) (sh : Sh C s)
    (hat : (Fn.of name scope fa cd).at (Str.ofString "tape") 1 = true) (hsc : scope.names.lookup (Str.ofString "script") = some .local) (hk : scope.kind = .function) (hcell : scope.names.all (fun x => x.2 != .cell) = true) (hkl : 2 <= k)
    (hrest : SemSA C (Fn.of name scope fa cd) A ⟨L, []⟩ rest r)
    (hplain : ∃ mh' kk, r (loc0 k) (mh0 (nn.take 60)) = some (.ret (.bool true) mh') /\ ob mh' 0 = some (.tab 284 kk))
    (hq : ∀ s', (∀ b o, C.B.get? b = some o -> s'.heap.get? b = some o) -> GrownAt 284 s'.heap -> Sh C s' -> Q (.ret (.bool true)) s') :
    wpAny (model C.prog C.w) A (execs (.Assign [.Name (Str.ofString "tape") p1] (.List [.Subscript (.Name (Str.ofString "script") p2) (.Slice none (some (.Constant (.int 60) k1 p3)) none p4) p5, .Constant (.int 0) k2 p6, .Constant (.int 0) k3 p7] p8) p9 :: rest)
      ((Fn.of name scope fa cd).env ⟨L, []⟩)) Q E s := by
  obtain ⟨g284, nL, n284⟩ := N' _ (.head _)
  have S : SSt C [(284, 284)] [(.tab 284 none, 0)] s := by
    refine ⟨F'.keep, rfl, fun i j p q hi hj ne => ?_, fun b o => ?_, fun i p o hi ho => ?_⟩
    . cases i with
      | zero => cases j with
        | zero => exact absurd rfl ne
        | succ j => simp at hj
      | succ i => simp at hi
    . obtain ⟨p, hp, e⟩ := o
      rw [List.mem_singleton.mp hp] at e
      rcases e with rfl | rfl <;> exact n284
    . cases i with
      | zero =>
        simp at hi
        subst hi
        have : ob [((MObj.tab 284 none), 0)] 0 = some (.tab 284 none) := rfl
        rw [this] at ho; cases ho
        exact ⟨rfl, rfl, g284⟩
      | succ i => simp at hi
  have bL : C.B.get? L = none := by
    cases q : C.B.get? L with
    | none => rfl
    | some o => exact absurd (Nat.lt_of_lt_of_le (Heap.lt_size q) F'.above) (Nat.lt_irrefl _)
  have F : Fra C (Fn.of name scope fa cd) ⟨L, []⟩ (List.replicate k none) [(284, 284)] [(.tab 284 none, 0)] s := by
    refine ⟨sh, S, ⟨m, F'.ns, fun x i v hx hv => ?_⟩, fun x hx o => ?_, fun x hx => ?_, fun c hc => (nomatch hc), .nil, fun x hx => ?_⟩
    . rw [List.getElem?_replicate] at hv
      split at hv <;> simp at hv
    . rw [List.mem_singleton.mp hx] at o
      obtain ⟨p, hp, e⟩ := o
      rw [List.mem_singleton.mp hp] at e
      rcases e with e | e <;> exact nL e.symm
    . rw [List.mem_singleton.mp hx]; exact bL
    . have := List.all_eq_true.mp hcell (x, .cell) (lookup_mem hx)
      simp at this
  have lenI := ints_len hI
  refine wpAny_execs_cons (wpAny_Assign_Name (List_ (spliced_more (wpAny_Subscript_list_slice (wpAny_Name (wpAny_loadName_local (v := .ref a) (by show scope.kind = _; exact hk) (by show scope.names.lookup _ = _; exact hsc) F'.ns hm ?_) (by decide +kernel))))) (by rfl))
  refine wpAny_pure ?_
  show wpAny _ _ (eval _ _) _ _ _
  refine wpAny_mkInt ?_
  have ls : s.heap.IsList a items.toArray := let ⟨o, ho, r⟩ := lifted; ⟨o, F'.keep _ _ ho, r⟩
  refine ⟨a, items.toArray, none, some 60, rfl, ls, by rw [List.size_toArray]; exact line1000 (by omega), .none, .int _ _, ?_⟩
  have g1 := S.grow (push_keeps s.heap { cls := .type "slice", data := .fields #[.none, .int 60 s.toks, .none] })
  have e60 : slicePick items.toArray none (some 60) none = (items.take 60).toArray := slicePick_upto' items.toArray 60
  rw [e60]
  obtain ⟨a1, a2, a3⟩ := St.newObj (s := { s with heap := s.heap.push { cls := .type "slice", data := .fields #[.none, .int 60 s.toks, .none] } }) (ρ := [(284, 284)]) (mh := [(.tab 284 none, 0)]) (C := C) g1.1 (o := { cls := .type "list", data := .seq (items.take 60).toArray }) (m := .list ((nn.take 60).map .int)) rfl fun ρ' p tk e => ⟨rfl, items.take 60, 0, e, by
    have := (ints_V (ρ := ρ') (h := (s.heap.push { cls := .type "slice", data := .fields #[.none, .int 60 s.toks, .none] }).push { cls := .type "list", data := .seq (items.take 60).toArray }) hI).take 60
    rw [List.map_take]; exact this⟩
  refine spliced_more (wpAny_mkInt (spliced_more (wpAny_mkInt (spliced_nil ?_))))
  have x01 := g1.2.trans a2
  refine wpAny_mono (newList_V (C := C) (xs := [.ref 1, .int 0, .int 0]) sh a1 (.cons (by
    have e := Heap.size_push s.heap { cls := .type "slice", data := .fields #[.none, .int 60 s.toks, .none] }
    show ValIs _ _ (.ref (s.heap.objs.size + 1)) _
    rw [<- e]; exact a3) (.cons (.int _ _) (.cons (.int _ _) .nil))) (by show 3 <= 1000; omega)) (fun v' s₁ p => ?_) fun _ _ x => x
  obtain ⟨ρ₁, x₁, sh₁, S₁, d₁⟩ := p
  have F₁ := F.ext (x01.trans x₁) sh₁ S₁
  refine wpAny_mono (store_V hat F₁ d₁) (fun _ s₂ p => ?_) fun _ _ x => x
  obtain ⟨x₂, F₂⟩ := p
  obtain ⟨mh', kk, hr, hob⟩ := hplain
  refine wpAny_mono (hrest E (loc0 k) ρ₁ (mh0 (nn.take 60)) s₂ _ F₂ hr) (fun fl s₃ p => ?_) fun _ _ x => x
  obtain ⟨ρ₃, m₃, x₃, sh₃, p⟩ := p
  cases fl with
  | ret v₃ =>
    simp only at p
    obtain ⟨rfl, S₃, d₃⟩ := p
    cases d₃
    refine hq s₃ S₃.keep ?_ sh₃
    have h0 : ρ₃[0]? = some (284, 284) := x₃.pre 0 _ (x₁.pre 0 _ (a2.pre 0 _ rfl))
    have := S₃.obj 0 _ _ h0 hob
    cases kk with
    | none => exact ⟨_, this.2.2⟩
    | some q =>
      obtain ⟨j, l, c⟩ := q
      obtain ⟨_, _, c', _, e⟩ := this
      exact ⟨_, e⟩
  | _ => simp only at p
theorem SemG.up {c : Value} {g : ON} (h : SemG C n c g) (hm : n <= m) : SemG C m c g := fun A E ρ mh s as as' v mh' envs hr => h A E ρ mh s as as' v mh' envs (hr.up hm)
end
end Mini
namespace Mini
section
variable {E : Value -> Shared -> Prop}
theorem law_go {prog : Program} {w : World} {B : Heap} {K : Frag} {tp : Program} {lo : List Str} {mean : ExcName -> Option Value} {mg mb : Str -> Option Value} {name : Str} {scope : Scope} {fa L a : Addr} {cd : Value} {m : Str -> Option Value} {s : Shared}
    {items : List Value} {nn : List Int} {rest : List Stmt} {p1 p2 p3 p4 p5 p6 p7 p8 p9 : Pos} {k1 k2 k3 k : Nat} {r : RS} {Q : Flow -> Shared -> Prop}
    (X' : K.In B) (T' : Top tp lo mean mg mb B) (codeHd : CodeHd B 288 284) (F' : Fr B L s.heap m) (hm : m (Str.ofString "script") = some (.ref a)) (N' : News B L s.heap [(284, tabObj #[])]) (lifted : B.IsList a items.toArray) (hI : IntsAre items nn) (hlen : nn.length <= 63)
    (hat : (Fn.of name scope fa cd).at (Str.ofString "tape") 1 = true) (hsc : scope.names.lookup (Str.ofString "script") = some .local) (hk : scope.kind = .function) (hcell : scope.names.all (fun x => x.2 != .cell) = true) (hkl : 2 <= k)
    (hrest : ∀ (par : Params) (C : Cx) (A : Around), C.Ok -> C.K = K -> Lam C 284 288 -> Room 7 A -> A.frames = some [(Fn.of name scope fa cd).env ⟨L, []⟩] -> SemSA C (Fn.of name scope fa cd) A ⟨L, []⟩ rest r)
    (hplain : ∃ mh' kk, r (loc0 k) (mh0 (nn.take 60)) = some (.ret (.bool true) mh') /\ ob mh' 0 = some (.tab 284 kk))
    (hq : ∀ s', (∀ b o, B.get? b = some o -> s'.heap.get? b = some o) -> GrownAt 284 s'.heap -> s'.gens = s.gens -> s'.os = s.os -> Q (.ret (.bool true)) s') :
    wpAny (model prog w) (callerA.deeper (envOf name scope L fa cd)) (execs (.Assign [.Name (Str.ofString "tape") p1] (.List [.Subscript (.Name (Str.ofString "script") p2) (.Slice none (some (.Constant (.int 60) k1 p3)) none p4) p5, .Constant (.int 0) k2 p6, .Constant (.int 0) k3 p7] p8) p9 :: rest)
      (envOf name scope L fa cd)) Q E s := by
  have hC : (Cx.mk prog w B K s.gens s.drawn s.os tp lo mg mb).Ok := ⟨X', topRead_of T'⟩
  have La : Lam (Cx.mk prog w B K s.gens s.drawn s.os tp lo mg mb) 284 288 := ⟨codeHd, (N' _ (.head _)).2.2, T'.bmain⟩
  have hr : Room 7 (callerA.deeper ((Fn.of name scope fa cd).env ⟨L, []⟩)) := by
    refine ⟨?_, ?_, rfl⟩
    . show callerA.depth + 1 + 3 * 7 + 8 < recursionLimit
      decide
    . show callerA.units + 3 + 12 * 7 + 100 < cLine
      decide
  exact law_final (C := Cx.mk prog w B K s.gens s.drawn s.os tp lo mg mb) (fa := fa) (cd := cd) (k := k) hC F' hm N' lifted hI hlen ⟨rfl, rfl, rfl⟩ hat hsc hk hcell hkl (hrest w.params _ _ hC rfl La hr (Around.frames_deeper rfl)) hplain fun s' h1 h2 h3 => hq s' h1 h2 h3.1 h3.2.2
end
end Mini
namespace Mini.L2
noncomputable def r_fixed_atoms_0 : RS := (rRet (rTup (rCons (rConst (.str "[]")) (rCons (rConst (.str ".")) (rCons (rConst (.str "{}")) (rCons (rConst (.str "-")) (rCons (rConst (.str "+")) (rCons (rConst (.str "*")) (rCons (rConst (.str "/")) (rCons (rConst (.str ",")) (rCons (rConst (.str "|")) (rCons (rConst (.str ";")) (rCons (rConst (.str "->")) (rCons (rConst (.str "\\+")) (rCons (rConst (.str ":-")) (rCons (rConst (.str "?-")) (rCons (rConst (.str "-->")) (rCons (rConst (.str "!")) (rCons (rConst (.str "true")) (rCons (rConst (.str "fail")) (rCons (rConst (.str "false")) (rCons (rConst (.str "call")) (rCons (rConst (.str "=")) (rCons (rConst (.str "^")) (rCons (rConst (.str "error")) (rCons (rConst (.str "")) (rCons (rConst (.str "end_of_file")) (rCons (rConst (.str "system")) (rCons (rConst (.str "$VAR")) (rCons (rConst (.str "catch")) (rCons (rConst (.str "throw")) rNil)))))))))))))))))))))))))))))))
noncomputable def r_fixed_atoms : RS := (rSeq r_fixed_atoms_0 rSkip)
noncomputable def g_fixed_atoms : ON := runBody r_fixed_atoms 0 0
noncomputable def r_fixed_functors_0 : RS := (rRet (rTup (rCons (rTup (rCons (rConst (.str ".")) (rCons (rConst (.int 2)) rNil))) (rCons (rTup (rCons (rConst (.str ",")) (rCons (rConst (.int 2)) rNil))) (rCons (rTup (rCons (rConst (.str ";")) (rCons (rConst (.int 2)) rNil))) (rCons (rTup (rCons (rConst (.str "->")) (rCons (rConst (.int 2)) rNil))) (rCons (rTup (rCons (rConst (.str "\\+")) (rCons (rConst (.int 1)) rNil))) (rCons (rTup (rCons (rConst (.str ":-")) (rCons (rConst (.int 2)) rNil))) (rCons (rTup (rCons (rConst (.str ":-")) (rCons (rConst (.int 1)) rNil))) (rCons (rTup (rCons (rConst (.str "?-")) (rCons (rConst (.int 1)) rNil))) (rCons (rTup (rCons (rConst (.str "-->")) (rCons (rConst (.int 2)) rNil))) (rCons (rTup (rCons (rConst (.str "{}")) (rCons (rConst (.int 1)) rNil))) (rCons (rTup (rCons (rConst (.str "=")) (rCons (rConst (.int 2)) rNil))) (rCons (rTup (rCons (rConst (.str "^")) (rCons (rConst (.int 2)) rNil))) (rCons (rTup (rCons (rConst (.str "-")) (rCons (rConst (.int 1)) rNil))) (rCons (rTup (rCons (rConst (.str "-")) (rCons (rConst (.int 2)) rNil))) (rCons (rTup (rCons (rConst (.str "+")) (rCons (rConst (.int 2)) rNil))) (rCons (rTup (rCons (rConst (.str "/")) (rCons (rConst (.int 2)) rNil))) (rCons (rTup (rCons (rConst (.str "error")) (rCons (rConst (.int 2)) rNil))) (rCons (rTup (rCons (rConst (.str "$VAR")) (rCons (rConst (.int 1)) rNil))) (rCons (rTup (rCons (rConst (.str "catch")) (rCons (rConst (.int 3)) rNil))) (rCons (rTup (rCons (rConst (.str "throw")) (rCons (rConst (.int 1)) rNil))) (rCons (rTup (rCons (rConst (.str "!")) (rCons (rConst (.int 0)) rNil))) (rCons (rTup (rCons (rConst (.str "true")) (rCons (rConst (.int 0)) rNil))) (rCons (rTup (rCons (rConst (.str "fail")) (rCons (rConst (.int 0)) rNil))) (rCons (rTup (rCons (rConst (.str "false")) (rCons (rConst (.int 0)) rNil))) (rCons (rTup (rCons (rConst (.str "call")) (rCons (rConst (.int 1)) rNil))) (rCons (rTup (rCons (rConst (.str "call")) (rCons (rConst (.int 2)) rNil))) (rCons (rTup (rCons (rConst (.str "call")) (rCons (rConst (.int 3)) rNil))) (rCons (rTup (rCons (rConst (.str "call")) (rCons (rConst (.int 4)) rNil))) (rCons (rTup (rCons (rConst (.str "call")) (rCons (rConst (.int 5)) rNil))) (rCons (rTup (rCons (rConst (.str "call")) (rCons (rConst (.int 6)) rNil))) (rCons (rTup (rCons (rConst (.str "call")) (rCons (rConst (.int 7)) rNil))) (rCons (rTup (rCons (rConst (.str "call")) (rCons (rConst (.int 8)) rNil))) rNil))))))))))))))))))))))))))))))))))
noncomputable def r_fixed_functors : RS := (rSeq r_fixed_functors_0 rSkip)
noncomputable def g_fixed_functors : ON := runBody r_fixed_functors 0 0
noncomputable def r_Symbols_atom_0 : RS := (rSet 2 (rBMeth "dict" (rOp1 (rLoc 0) (gAttr 154 "atom_numbers")) (rCons (rLoc 1) (rCons (rOp1 (rConst (.int 1)) gNeg) rNil)) gGet))
noncomputable def r_Symbols_atom_1 : RS := (rIf (rT (rOp2 (rLoc 2) (rConst (.int 0)) gGe)) (rSeq (rRet (rLoc 2)) rSkip) rSkip)
noncomputable def r_Symbols_atom_2 : RS := (rSet 3 (rCallN (rCons (rOp1 (rLoc 0) (gAttr 154 "texts")) rNil) gLen))
noncomputable def r_Symbols_atom_3 : RS := (rExpr (rBMeth "list" (rOp1 (rLoc 0) (gAttr 154 "texts")) (rCons (rLoc 1) rNil) gAppend))
noncomputable def r_Symbols_atom_4 : RS := (rSetItem (rLoc 3) (rOp1 (rLoc 0) (gAttr 154 "atom_numbers")) (rLoc 1))
noncomputable def r_Symbols_atom_5 : RS := (rRet (rLoc 3))
noncomputable def r_Symbols_atom : RS := (rSeq r_Symbols_atom_0 (rSeq r_Symbols_atom_1 (rSeq r_Symbols_atom_2 (rSeq r_Symbols_atom_3 (rSeq r_Symbols_atom_4 (rSeq r_Symbols_atom_5 rSkip))))))
noncomputable def g_Symbols_atom : ON := runBody r_Symbols_atom 2 2
noncomputable def r_Symbols_functor_0 : RS := (rSet 3 (rTup (rCons (rLoc 1) (rCons (rLoc 2) rNil))))
noncomputable def r_Symbols_functor_1 : RS := (rSet 4 (rBMeth "dict" (rOp1 (rLoc 0) (gAttr 154 "functor_numbers")) (rCons (rLoc 3) (rCons (rOp1 (rConst (.int 1)) gNeg) rNil)) gGet))
noncomputable def r_Symbols_functor_2 : RS := (rIf (rT (rOp2 (rLoc 4) (rConst (.int 0)) gGe)) (rSeq (rRet (rLoc 4)) rSkip) rSkip)
noncomputable def r_Symbols_functor_3 : RS := (rSet 5 (rCallN (rCons (rOp1 (rLoc 0) (gAttr 154 "functors")) rNil) gLen))
noncomputable def r_Symbols_functor_4 : RS := (rExpr (rBMeth "list" (rOp1 (rLoc 0) (gAttr 154 "functors")) (rCons (rLoc 3) rNil) gAppend))
noncomputable def r_Symbols_functor_5 : RS := (rSetItem (rLoc 5) (rOp1 (rLoc 0) (gAttr 154 "functor_numbers")) (rLoc 3))
noncomputable def r_Symbols_functor_6 : RS := (rRet (rLoc 5))
noncomputable def r_Symbols_functor : RS := (rSeq r_Symbols_functor_0 (rSeq r_Symbols_functor_1 (rSeq r_Symbols_functor_2 (rSeq r_Symbols_functor_3 (rSeq r_Symbols_functor_4 (rSeq r_Symbols_functor_5 (rSeq r_Symbols_functor_6 rSkip)))))))
noncomputable def g_Symbols_functor : ON := runBody r_Symbols_functor 3 3
noncomputable def r_Symbols_func_0 : RS := (rRet (rMeth 154 "functor" (rLoc 0) (rCons (rMeth 154 "atom" (rLoc 0) (rCons (rLoc 1) rNil) g_Symbols_atom) (rCons (rLoc 2) rNil)) g_Symbols_functor))
noncomputable def r_Symbols_func : RS := (rSeq r_Symbols_func_0 rSkip)
noncomputable def g_Symbols_func : ON := runBody r_Symbols_func 3 0
noncomputable def r_Symbols___init_0 : RS := (rSetAttr 154 "texts" (rList rNil) (rLoc 0))
noncomputable def r_Symbols___init_1 : RS := (rSetAttr 154 "atom_numbers" (rNew (.dictS [])) (rLoc 0))
noncomputable def r_Symbols___init_2 : RS := (rSetAttr 154 "functors" (rList rNil) (rLoc 0))
noncomputable def r_Symbols___init_3 : RS := (rSetAttr 154 "functor_numbers" (rNew (.dictT [])) (rLoc 0))
noncomputable def r_Symbols___init_4 : RS := (rFor (rIt (rCallN rNil g_fixed_atoms)) (tName 1) (rSeq (rExpr (rMeth 154 "atom" (rLoc 0) (rCons (rLoc 1) rNil) g_Symbols_atom)) rSkip))
noncomputable def r_Symbols___init_5 : RS := (rFor (rIt (rCallN rNil g_fixed_functors)) (tName 2) (rSeq (rExpr (rMeth 154 "func" (rLoc 0) (rCons (rOp2 (rLoc 2) (rConst (.int 0)) gItem) (rCons (rOp2 (rLoc 2) (rConst (.int 1)) gItem) rNil)) g_Symbols_func)) rSkip))
noncomputable def r_Symbols___init : RS := (rSeq r_Symbols___init_0 (rSeq r_Symbols___init_1 (rSeq r_Symbols___init_2 (rSeq r_Symbols___init_3 (rSeq r_Symbols___init_4 (rSeq r_Symbols___init_5 rSkip))))))
noncomputable def g_Symbols___init : ON := runBody r_Symbols___init 1 2
noncomputable def r_formal_of_0 : RS := (rSet 3 (rList rNil))
noncomputable def r_formal_of_1 : RS := (rFor (rIt (rLoc 2)) (tName 4) (rSeq (rExpr (rBMeth "list" (rLoc 3) (rCons (rIfE (rT (rIsi isS (rLoc 4))) (rTup (rCons (rConst (.str "a")) (rCons (rMeth 154 "atom" (rLoc 0) (rCons (rLoc 4) rNil) g_Symbols_atom) rNil))) (rLoc 4)) rNil) gAppend)) rSkip))
noncomputable def r_formal_of_2 : RS := (rRet (rTup (rCons (rConst (.str "s")) (rCons (rMeth 154 "func" (rLoc 0) (rCons (rLoc 1) (rCons (rCallN (rCons (rLoc 3) rNil) gLen) rNil)) g_Symbols_func) (rCons (rCallN (rCons (rLoc 3) rNil) gTuple) rNil)))))
noncomputable def r_formal_of : RS := (rSeq r_formal_of_0 (rSeq r_formal_of_1 (rSeq r_formal_of_2 rSkip)))
noncomputable def g_formal_of : ON := runBody r_formal_of 3 2
noncomputable def r_system_error_0 : RS := (rRet (rCallN (rCons (rTup (rCons (rConst (.str "s")) (rCons (rConst (.int 16)) (rCons (rTup (rCons (rLoc 0) (rCons (rTup (rCons (rConst (.str "a")) (rCons (rConst (.int 25)) rNil))) rNil))) rNil)))) rNil) (gExcNew 51)))
noncomputable def r_system_error : RS := (rSeq r_system_error_0 rSkip)
noncomputable def g_system_error : ON := runBody r_system_error 1 0
noncomputable def r_representation_error_0 : RS := (rRet (rCallN (rCons (rCallN (rCons (rLoc 0) (rCons (rConst (.str "representation_error")) (rCons (rTup (rCons (rLoc 1) rNil)) rNil))) g_formal_of) rNil) g_system_error))
noncomputable def r_representation_error : RS := (rSeq r_representation_error_0 rSkip)
noncomputable def g_representation_error : ON := runBody r_representation_error 2 0
noncomputable def r_operand_roles_0 : RS := (rSet 1 (rOp2 (rLoc 0) (rConst (.int 0)) gItem))
noncomputable def r_operand_roles_1 : RS := (rIf (rT (rOp2 (rLoc 1) (rConst (.str "get_variable")) gEq)) (rSeq (rRet (rList (rCons (rTup (rCons (rConst (.int 1)) (rCons (rOp2 (rLoc 0) (rConst (.int 2)) gItem) rNil))) (rCons (rTup (rCons (rConst (.int 2)) (rCons (rOp2 (rLoc 0) (rConst (.int 1)) gItem) rNil))) rNil)))) rSkip) rSkip)
noncomputable def r_operand_roles_2 : RS := (rIf (rT (rOp2 (rLoc 1) (rConst (.str "get_value")) gEq)) (rSeq (rRet (rList (rCons (rTup (rCons (rConst (.int 1)) (rCons (rOp2 (rLoc 0) (rConst (.int 1)) gItem) rNil))) (rCons (rTup (rCons (rConst (.int 1)) (rCons (rOp2 (rLoc 0) (rConst (.int 2)) gItem) rNil))) rNil)))) rSkip) rSkip)
noncomputable def r_operand_roles_3 : RS := (rIf (rTOr (rT (rOp2 (rLoc 1) (rConst (.str "get_constant")) gEq)) (rTOr (rT (rOp2 (rLoc 1) (rConst (.str "get_structure")) gEq)) (rTC false))) (rSeq (rRet (rList (rCons (rTup (rCons (rConst (.int 1)) (rCons (rOp2 (rLoc 0) (rConst (.int 2)) gItem) rNil))) rNil))) rSkip) rSkip)
noncomputable def r_operand_roles_4 : RS := (rIf (rT (rOp2 (rLoc 1) (rConst (.str "get_list")) gEq)) (rSeq (rRet (rList (rCons (rTup (rCons (rConst (.int 1)) (rCons (rOp2 (rLoc 0) (rConst (.int 1)) gItem) rNil))) rNil))) rSkip) rSkip)
noncomputable def r_operand_roles_5 : RS := (rIf (rTOr (rT (rOp2 (rLoc 1) (rConst (.str "unify_variable")) gEq)) (rTOr (rT (rOp2 (rLoc 1) (rConst (.str "set_variable")) gEq)) (rTC false))) (rSeq (rRet (rList (rCons (rTup (rCons (rConst (.int 2)) (rCons (rOp2 (rLoc 0) (rConst (.int 1)) gItem) rNil))) rNil))) rSkip) rSkip)
noncomputable def r_operand_roles_6 : RS := (rIf (rTOr (rT (rOp2 (rLoc 1) (rConst (.str "unify_value")) gEq)) (rTOr (rT (rOp2 (rLoc 1) (rConst (.str "set_value")) gEq)) (rTC false))) (rSeq (rRet (rList (rCons (rTup (rCons (rConst (.int 1)) (rCons (rOp2 (rLoc 0) (rConst (.int 1)) gItem) rNil))) rNil))) rSkip) rSkip)
noncomputable def r_operand_roles_7 : RS := (rIf (rTOr (rT (rOp2 (rLoc 1) (rConst (.str "unify_local_value")) gEq)) (rTOr (rT (rOp2 (rLoc 1) (rConst (.str "set_local_value")) gEq)) (rTC false))) (rSeq (rRet (rList (rCons (rTup (rCons (rConst (.int 3)) (rCons (rOp2 (rLoc 0) (rConst (.int 1)) gItem) rNil))) rNil))) rSkip) rSkip)
noncomputable def r_operand_roles_8 : RS := (rIf (rT (rOp2 (rLoc 1) (rConst (.str "put_variable")) gEq)) (rSeq (rRet (rList (rCons (rTup (rCons (rConst (.int 2)) (rCons (rOp2 (rLoc 0) (rConst (.int 1)) gItem) rNil))) (rCons (rTup (rCons (rConst (.int 2)) (rCons (rOp2 (rLoc 0) (rConst (.int 2)) gItem) rNil))) rNil)))) rSkip) rSkip)
noncomputable def r_operand_roles_9 : RS := (rIf (rTOr (rT (rOp2 (rLoc 1) (rConst (.str "put_value")) gEq)) (rTOr (rT (rOp2 (rLoc 1) (rConst (.str "put_unsafe_value")) gEq)) (rTC false))) (rSeq (rRet (rList (rCons (rTup (rCons (rConst (.int 1)) (rCons (rOp2 (rLoc 0) (rConst (.int 1)) gItem) rNil))) (rCons (rTup (rCons (rConst (.int 2)) (rCons (rOp2 (rLoc 0) (rConst (.int 2)) gItem) rNil))) rNil)))) rSkip) rSkip)
noncomputable def r_operand_roles_10 : RS := (rIf (rTOr (rT (rOp2 (rLoc 1) (rConst (.str "put_constant")) gEq)) (rTOr (rT (rOp2 (rLoc 1) (rConst (.str "put_structure")) gEq)) (rTC false))) (rSeq (rRet (rList (rCons (rTup (rCons (rConst (.int 2)) (rCons (rOp2 (rLoc 0) (rConst (.int 2)) gItem) rNil))) rNil))) rSkip) rSkip)
noncomputable def r_operand_roles_11 : RS := (rIf (rTOr (rT (rOp2 (rLoc 1) (rConst (.str "put_list")) gEq)) (rTOr (rT (rOp2 (rLoc 1) (rConst (.str "put_void")) gEq)) (rTC false))) (rSeq (rRet (rList (rCons (rTup (rCons (rConst (.int 2)) (rCons (rOp2 (rLoc 0) (rConst (.int 1)) gItem) rNil))) rNil))) rSkip) rSkip)
noncomputable def r_operand_roles_12 : RS := (rIf (rTOr (rT (rOp2 (rLoc 1) (rConst (.str "get_level")) gEq)) (rTOr (rT (rOp2 (rLoc 1) (rConst (.str "mark")) gEq)) (rTC false))) (rSeq (rRet (rList (rCons (rTup (rCons (rConst (.int 2)) (rCons (rOp2 (rLoc 0) (rConst (.int 1)) gItem) rNil))) rNil))) rSkip) rSkip)
noncomputable def r_operand_roles_13 : RS := (rIf (rT (rOp2 (rLoc 1) (rConst (.str "cut_to")) gEq)) (rSeq (rRet (rList (rCons (rTup (rCons (rConst (.int 1)) (rCons (rOp2 (rLoc 0) (rConst (.int 1)) gItem) rNil))) rNil))) rSkip) rSkip)
noncomputable def r_operand_roles_14 : RS := (rRet (rList rNil))
noncomputable def r_operand_roles : RS := (rSeq r_operand_roles_0 (rSeq r_operand_roles_1 (rSeq r_operand_roles_2 (rSeq r_operand_roles_3 (rSeq r_operand_roles_4 (rSeq r_operand_roles_5 (rSeq r_operand_roles_6 (rSeq r_operand_roles_7 (rSeq r_operand_roles_8 (rSeq r_operand_roles_9 (rSeq r_operand_roles_10 (rSeq r_operand_roles_11 (rSeq r_operand_roles_12 (rSeq r_operand_roles_13 (rSeq r_operand_roles_14 rSkip)))))))))))))))
noncomputable def g_operand_roles : ON := runBody r_operand_roles 1 1
noncomputable def r_ends_arguments_0 : RS := (rSet 1 (rOp2 (rLoc 0) (rConst (.int 0)) gItem))
noncomputable def r_ends_arguments_1 : RS := (rRet (rOr (rOp2 (rLoc 1) (rConst (.str "call")) gEq) (rOr (rOp2 (rLoc 1) (rConst (.str "execute")) gEq) (rOp2 (rLoc 1) (rConst (.str "builtin")) gEq))))
noncomputable def r_ends_arguments : RS := (rSeq r_ends_arguments_0 (rSeq r_ends_arguments_1 rSkip))
noncomputable def g_ends_arguments : ON := runBody r_ends_arguments 1 1
noncomputable def r_Occupation___init_0 : RS := (rSetAttr 217 "kind" (rLoc 1) (rLoc 0))
noncomputable def r_Occupation___init_1 : RS := (rSetAttr 217 "number" (rLoc 2) (rLoc 0))
noncomputable def r_Occupation___init_2 : RS := (rSetAttr 217 "start" (rLoc 3) (rLoc 0))
noncomputable def r_Occupation___init_3 : RS := (rSetAttr 217 "stop" (rLoc 4) (rLoc 0))
noncomputable def r_Occupation___init : RS := (rSeq r_Occupation___init_0 (rSeq r_Occupation___init_1 (rSeq r_Occupation___init_2 (rSeq r_Occupation___init_3 rSkip))))
noncomputable def g_Occupation___init : ON := runBody r_Occupation___init 5 0
noncomputable def r_Occupation_overlaps_0 : RS := (rRet (rAnd (rOp2 (rOp1 (rLoc 0) (gAttr 217 "start")) (rOp1 (rLoc 1) (gAttr 217 "stop")) gLt) (rOp2 (rOp1 (rLoc 1) (gAttr 217 "start")) (rOp1 (rLoc 0) (gAttr 217 "stop")) gLt)))
noncomputable def r_Occupation_overlaps : RS := (rSeq r_Occupation_overlaps_0 rSkip)
noncomputable def g_Occupation_overlaps : ON := runBody r_Occupation_overlaps 2 0
noncomputable def r_intervals_0 : RS := (rSet 2 (rList rNil))
noncomputable def r_intervals_1 : RS := (rSet 3 (rNew (.dictI [])))
noncomputable def r_intervals_2 : RS := (rSet 4 (rConst (.int 1)))
noncomputable def r_intervals_3 : RS := (rWhile (rT (rOp2 (rLoc 4) (rLoc 1) gLe)) (rSeq (rSetItem (rCallN (rCons (rConst (.str "in")) (rCons (rLoc 4) (rCons (rOp1 (rConst (.int 1)) gNeg) (rCons (rOp1 (rConst (.int 1)) gNeg) rNil)))) (gNew 217 g_Occupation___init)) (rLoc 3) (rLoc 4)) (rSeq (rExpr (rBMeth "list" (rLoc 2) (rCons (rOp2 (rLoc 3) (rLoc 4) gItem) rNil) gAppend)) (rSeq (rAugName 4 (rConst (.int 1)) gAdd) rSkip))) 200)
noncomputable def r_intervals_4 : RS := (rSet 5 (rNew (.dictI [])))
noncomputable def r_intervals_5 : RS := (rSet 6 (rNew (.dictI [])))
noncomputable def r_intervals_6 : RS := (rSet 7 (rConst (.int 0)))
noncomputable def r_intervals_7 : RS := (rFor (rIt (rLoc 0)) (tName 8) (rSeq (rIf (rT (rCallN (rCons (rLoc 8) rNil) g_ends_arguments)) (rSeq (rFor (rIt (rLoc 5)) (tName 4) (rSeq (rSetAttr 217 "stop" (rLoc 7) (rOp2 (rLoc 5) (rLoc 4) gItem)) rSkip)) (rSeq (rSet 5 (rNew (.dictI []))) rSkip)) rSkip) (rSeq (rFor (rIt (rCallN (rCons (rLoc 8) rNil) g_operand_roles)) (tPair 9 10) (rSeq (rSet 4 (rOp2 (rLoc 10) (rConst (.int 1)) gItem)) (rSeq (rIf (rT (rOp2 (rOp2 (rLoc 10) (rConst (.int 0)) gItem) (rConst (.str "t")) gEq)) (rSeq (rIf (rT (rOp2 (rLoc 4) (rLoc 6) gNotIn)) (rSeq (rSetItem (rCallN (rCons (rConst (.str "temp")) (rCons (rLoc 4) (rCons (rLoc 7) (rCons (rOp2 (rLoc 7) (rConst (.int 1)) gAdd) rNil)))) (gNew 217 g_Occupation___init)) (rLoc 6) (rLoc 4)) (rSeq (rExpr (rBMeth "list" (rLoc 2) (rCons (rOp2 (rLoc 6) (rLoc 4) gItem) rNil) gAppend)) rSkip)) (rSeq (rIf (rT (rOp2 (rLoc 7) (rOp1 (rOp2 (rLoc 6) (rLoc 4) gItem) (gAttr 217 "stop")) gGt)) (rSeq (rSetAttr 217 "stop" (rLoc 7) (rOp2 (rLoc 6) (rLoc 4) gItem)) rSkip) rSkip) rSkip)) rSkip) (rSeq (rIf (rTAnd (rT (rOp2 (rOp2 (rLoc 10) (rConst (.int 0)) gItem) (rConst (.str "a")) gEq)) (rTAnd (rT (rOp2 (rLoc 9) (rConst (.int 2)) gEq)) (rTC true))) (rSeq (rSetItem (rCallN (rCons (rConst (.str "out")) (rCons (rLoc 4) (rCons (rLoc 7) (rCons (rOp2 (rLoc 7) (rConst (.int 1)) gAdd) rNil)))) (gNew 217 g_Occupation___init)) (rLoc 5) (rLoc 4)) (rSeq (rExpr (rBMeth "list" (rLoc 2) (rCons (rOp2 (rLoc 5) (rLoc 4) gItem) rNil) gAppend)) rSkip)) (rSeq (rIf (rT (rOp2 (rOp2 (rLoc 10) (rConst (.int 0)) gItem) (rConst (.str "a")) gEq)) (rSeq (rSetAttr 217 "stop" (rLoc 7) (rOp2 (rLoc 3) (rLoc 4) gItem)) rSkip) rSkip) rSkip)) rSkip)) rSkip))) (rSeq (rAugName 7 (rConst (.int 1)) gAdd) rSkip))))
noncomputable def r_intervals_8 : RS := (rRet (rComp (rIt (rLoc 2)) lcNone 1 (rT (rOp2 (rOp1 (rLoc 1) (gAttr 217 "stop")) (rOp1 (rLoc 1) (gAttr 217 "start")) gGt)) (rLoc 1)))
noncomputable def r_intervals : RS := (rSeq r_intervals_0 (rSeq r_intervals_1 (rSeq r_intervals_2 (rSeq r_intervals_3 (rSeq r_intervals_4 (rSeq r_intervals_5 (rSeq r_intervals_6 (rSeq r_intervals_7 (rSeq r_intervals_8 rSkip)))))))))
noncomputable def g_intervals : ON := runBody r_intervals 2 9
noncomputable def r_wishes_0 : RS := (rSet 1 (rNew (.dictI [])))
noncomputable def r_wishes_1 : RS := (rFor (rIt (rLoc 0)) (tName 2) (rSeq (rSet 3 (rOp2 (rLoc 2) (rConst (.int 0)) gItem)) (rSeq (rIf (rT (rOp2 (rLoc 3) (rConst (.str "get_variable")) gEq)) (rSeq (rSet2 4 5 (rOp2 (rLoc 2) (rConst (.int 1)) gItem) (rOp2 (rLoc 2) (rConst (.int 2)) gItem)) rSkip) (rSeq (rIf (rT (rOp2 (rLoc 3) (rConst (.str "put_value")) gEq)) (rSeq (rSet2 5 4 (rOp2 (rLoc 2) (rConst (.int 1)) gItem) (rOp2 (rLoc 2) (rConst (.int 2)) gItem)) rSkip) (rSeq rCont rSkip)) rSkip)) (rSeq (rIf (rTOr (rT (rOp2 (rOp2 (rLoc 5) (rConst (.int 0)) gItem) (rConst (.str "y")) gEq)) (rTOr (rT (rOp2 (rOp2 (rLoc 4) (rConst (.int 0)) gItem) (rConst (.str "y")) gEq)) (rTC false))) (rSeq rCont rSkip) rSkip) (rSeq (rIf (rT (rOp2 (rOp2 (rLoc 4) (rConst (.int 0)) gItem) (rConst (.str "t")) gEq)) (rSeq (rExpr (rBMeth "list" (rBMeth "dict" (rLoc 1) (rCons (rOp2 (rLoc 4) (rConst (.int 1)) gItem) (rCons (rList rNil) rNil)) gSetdefault) (rCons (rLoc 5) rNil) gAppend)) rSkip) rSkip) (rSeq (rIf (rT (rOp2 (rOp2 (rLoc 5) (rConst (.int 0)) gItem) (rConst (.str "t")) gEq)) (rSeq (rExpr (rBMeth "list" (rBMeth "dict" (rLoc 1) (rCons (rOp2 (rLoc 5) (rConst (.int 1)) gItem) (rCons (rList rNil) rNil)) gSetdefault) (rCons (rLoc 4) rNil) gAppend)) rSkip) rSkip) rSkip))))))
noncomputable def r_wishes_2 : RS := (rRet (rLoc 1))
noncomputable def r_wishes : RS := (rSeq r_wishes_0 (rSeq r_wishes_1 (rSeq r_wishes_2 rSkip)))
noncomputable def g_wishes : ON := runBody r_wishes 1 5
noncomputable def r_RegisterFile___init_0 : RS := (rSetAttr 278 "taken" (rNew (.dictI [])) (rLoc 0))
noncomputable def r_RegisterFile___init_1 : RS := (rSetAttr 278 "home" (rNew (.dictI [])) (rLoc 0))
noncomputable def r_RegisterFile___init : RS := (rSeq r_RegisterFile___init_0 (rSeq r_RegisterFile___init_1 rSkip))
noncomputable def g_RegisterFile___init : ON := runBody r_RegisterFile___init 1 0
noncomputable def r_RegisterFile_occupy_0 : RS := (rExpr (rBMeth "list" (rBMeth "dict" (rOp1 (rLoc 0) (gAttr 278 "taken")) (rCons (rLoc 1) (rCons (rList rNil) rNil)) gSetdefault) (rCons (rLoc 2) rNil) gAppend))
noncomputable def r_RegisterFile_occupy : RS := (rSeq r_RegisterFile_occupy_0 rSkip)
noncomputable def g_RegisterFile_occupy : ON := runBody r_RegisterFile_occupy 3 0
noncomputable def r_RegisterFile_is_free_0 : RS := (rFor (rIt (rBMeth "dict" (rOp1 (rLoc 0) (gAttr 278 "taken")) (rCons (rLoc 1) (rCons (rList rNil) rNil)) gGet)) (tName 3) (rSeq (rIf (rT (rMeth 217 "overlaps" (rLoc 2) (rCons (rLoc 3) rNil) g_Occupation_overlaps)) (rSeq (rRet (rConst (.bool false))) rSkip) rSkip) rSkip))
noncomputable def r_RegisterFile_is_free_1 : RS := (rRet (rConst (.bool true)))
noncomputable def r_RegisterFile_is_free : RS := (rSeq r_RegisterFile_is_free_0 (rSeq r_RegisterFile_is_free_1 rSkip))
noncomputable def g_RegisterFile_is_free : ON := runBody r_RegisterFile_is_free 3 1
noncomputable def r_RegisterFile_wished_0 : RS := (rFor (rIt (rLoc 2)) (tName 3) (rSeq (rSet 4 (rOp2 (rLoc 3) (rConst (.int 1)) gItem)) (rSeq (rIf (rT (rOp2 (rOp2 (rLoc 3) (rConst (.int 0)) gItem) (rConst (.str "t")) gEq)) (rSeq (rSet 4 (rBMeth "dict" (rOp1 (rLoc 0) (gAttr 278 "home")) (rCons (rOp2 (rLoc 3) (rConst (.int 1)) gItem) (rCons (rConst (.int 0)) rNil)) gGet)) rSkip) rSkip) (rSeq (rIf (rTAnd (rT (rOp2 (rLoc 4) (rConst (.int 0)) gGt)) (rTAnd (rT (rMeth 278 "is_free" (rLoc 0) (rCons (rLoc 4) (rCons (rLoc 1) rNil)) g_RegisterFile_is_free)) (rTC true))) (rSeq (rRet (rLoc 4)) rSkip) rSkip) rSkip))))
noncomputable def r_RegisterFile_wished_1 : RS := (rRet (rConst (.int 0)))
noncomputable def r_RegisterFile_wished : RS := (rSeq r_RegisterFile_wished_0 (rSeq r_RegisterFile_wished_1 rSkip))
noncomputable def g_RegisterFile_wished : ON := runBody r_RegisterFile_wished 3 2
noncomputable def r_RegisterFile_place_0 : RS := (rSet 3 (rMeth 278 "wished" (rLoc 0) (rCons (rLoc 1) (rCons (rLoc 2) rNil)) g_RegisterFile_wished))
noncomputable def r_RegisterFile_place_1 : RS := (rIf (rT (rOp2 (rLoc 3) (rConst (.int 0)) gEq)) (rSeq (rSet 3 (rConst (.int 1))) (rSeq (rWhile (rTNot (rT (rMeth 278 "is_free" (rLoc 0) (rCons (rLoc 3) (rCons (rLoc 1) rNil)) g_RegisterFile_is_free))) (rSeq (rAugName 3 (rConst (.int 1)) gAdd) rSkip) 200) rSkip)) rSkip)
noncomputable def r_RegisterFile_place_2 : RS := (rExpr (rMeth 278 "occupy" (rLoc 0) (rCons (rLoc 3) (rCons (rLoc 1) rNil)) g_RegisterFile_occupy))
noncomputable def r_RegisterFile_place_3 : RS := (rSetItem (rLoc 3) (rOp1 (rLoc 0) (gAttr 278 "home")) (rOp1 (rLoc 1) (gAttr 217 "number")))
noncomputable def r_RegisterFile_place : RS := (rSeq r_RegisterFile_place_0 (rSeq r_RegisterFile_place_1 (rSeq r_RegisterFile_place_2 (rSeq r_RegisterFile_place_3 rSkip))))
noncomputable def g_RegisterFile_place : ON := runBody r_RegisterFile_place 3 1
noncomputable def r_by_start : RS := rSeq (rRet (rBS 284 217 208 35 "by_start.<locals>.<lambda>")) rSkip
noncomputable def g_by_start : ON := runBody r_by_start 1 0
noncomputable def r_real_operand_0 : RS := (rIf (rTAnd (rT (rIsi isT (rLoc 0))) (rTAnd (rT (rOp2 (rCallN (rCons (rLoc 0) rNil) gLen) (rConst (.int 2)) gEq)) (rTC true))) (rSeq (rIf (rT (rOp2 (rOp2 (rLoc 0) (rConst (.int 0)) gItem) (rConst (.str "t")) gEq)) (rSeq (rRet (rTup (rCons (rConst (.str "x")) (rCons (rOp2 (rLoc 1) (rOp2 (rLoc 0) (rConst (.int 1)) gItem) gItem) rNil)))) rSkip) rSkip) (rSeq (rIf (rT (rOp2 (rOp2 (rLoc 0) (rConst (.int 0)) gItem) (rConst (.str "a")) gEq)) (rSeq (rRet (rTup (rCons (rConst (.str "x")) (rCons (rOp2 (rLoc 0) (rConst (.int 1)) gItem) rNil)))) rSkip) rSkip) rSkip)) rSkip)
noncomputable def r_real_operand_1 : RS := (rRet (rLoc 0))
noncomputable def r_real_operand : RS := (rSeq r_real_operand_0 (rSeq r_real_operand_1 rSkip))
noncomputable def g_real_operand : ON := runBody r_real_operand 2 0
noncomputable def r_greatest_0 : RS := (rSet 1 (rConst (.int 0)))
noncomputable def r_greatest_1 : RS := (rFor (rIt (rLoc 0)) (tName 2) (rSeq (rFor (rIt (rCallN (rCons (rLoc 2) rNil) g_operand_roles)) (tPair 3 4) (rSeq (rIf (rTAnd (rT (rOp2 (rOp2 (rLoc 4) (rConst (.int 0)) gItem) (rConst (.str "x")) gEq)) (rTAnd (rT (rOp2 (rOp2 (rLoc 4) (rConst (.int 1)) gItem) (rLoc 1) gGt)) (rTC true))) (rSeq (rSet 1 (rOp2 (rLoc 4) (rConst (.int 1)) gItem)) rSkip) rSkip) rSkip)) rSkip))
noncomputable def r_greatest_2 : RS := (rRet (rLoc 1))
noncomputable def r_greatest : RS := (rSeq r_greatest_0 (rSeq r_greatest_1 (rSeq r_greatest_2 rSkip)))
noncomputable def g_greatest : ON := runBody r_greatest 1 4
noncomputable def r_allocate_0 : RS := (rSet 4 (rCallN rNil (gNew 278 g_RegisterFile___init)))
noncomputable def r_allocate_1 : RS := (rSet 5 (rList rNil))
noncomputable def r_allocate_2 : RS := (rFor (rIt (rCallN (rCons (rLoc 1) (rCons (rLoc 2) rNil)) g_intervals)) (tName 6) (rSeq (rIf (rT (rOp2 (rOp1 (rLoc 6) (gAttr 217 "kind")) (rConst (.str "temp")) gEq)) (rSeq (rExpr (rBMeth "list" (rLoc 5) (rCons (rLoc 6) rNil) gAppend)) rSkip) (rSeq (rExpr (rMeth 278 "occupy" (rLoc 4) (rCons (rOp1 (rLoc 6) (gAttr 217 "number")) (rCons (rLoc 6) rNil)) g_RegisterFile_occupy)) rSkip)) rSkip))
noncomputable def r_allocate_3 : RS := (rSet 7 (rCallN (rCons (rLoc 1) rNil) g_wishes))
noncomputable def r_allocate_4 : RS := (rFor (rIt (rCallN (rCons (rLoc 5) rNil) g_by_start)) (tName 6) (rSeq (rExpr (rMeth 278 "place" (rLoc 4) (rCons (rLoc 6) (rCons (rBMeth "dict" (rLoc 7) (rCons (rOp1 (rLoc 6) (gAttr 217 "number")) (rCons (rList rNil) rNil)) gGet) rNil)) g_RegisterFile_place)) rSkip))
noncomputable def r_allocate_5 : RS := (rSet 8 (rList rNil))
noncomputable def r_allocate_6 : RS := (rFor (rIt (rLoc 1)) (tName 9) (rSeq (rSet 10 (rList (rCons (rOp2 (rLoc 9) (rConst (.int 0)) gItem) rNil))) (rSeq (rFor (rIt (rOp1 (rLoc 9) gTail)) (tName 11) (rSeq (rExpr (rBMeth "list" (rLoc 10) (rCons (rCallN (rCons (rLoc 11) (rCons (rOp1 (rLoc 4) (gAttr 278 "home")) rNil)) g_real_operand) rNil) gAppend)) rSkip)) (rSeq (rExpr (rBMeth "list" (rLoc 8) (rCons (rCallN (rCons (rLoc 10) rNil) gTuple) rNil) gAppend)) rSkip))))
noncomputable def r_allocate_7 : RS := (rIf (rTOr (rT (rOp2 (rLoc 2) (rLoc 3) gGt)) (rTOr (rT (rOp2 (rCallN (rCons (rLoc 8) rNil) g_greatest) (rLoc 3) gGt)) (rTC false))) (rSeq rNever rSkip) rSkip)
noncomputable def r_allocate_8 : RS := (rRet (rLoc 8))
noncomputable def r_allocate : RS := (rSeq r_allocate_0 (rSeq r_allocate_1 (rSeq r_allocate_2 (rSeq r_allocate_3 (rSeq r_allocate_4 (rSeq r_allocate_5 (rSeq r_allocate_6 (rSeq r_allocate_7 (rSeq r_allocate_8 rSkip)))))))))
noncomputable def g_allocate : ON := runBody r_allocate 4 8
noncomputable def rx_allocate : RX := (rSeqX r_allocate_0 (rSeqX r_allocate_1 (rSeqX r_allocate_2 (rSeqX r_allocate_3 (rSeqX r_allocate_4 (rSeqX r_allocate_5 (rSeqX r_allocate_6 (rIfX 51 (rTOr (rT (rOp2 (rLoc 2) (rLoc 3) gGt)) (rTOr (rT (rOp2 (rCallN (rCons (rLoc 8) rNil) g_greatest) (rLoc 3) gGt)) (rTC false))) (rCallN (rCons (rLoc 0) (rCons (rConst (.str "max_registers")) rNil)) g_representation_error)))))))))
noncomputable def gx_allocate : List V -> MH -> Option (Nat × MH) := runX 51 rx_allocate 4 8
noncomputable def r_law_digit_0 : RS := (rIf (rT (rOp2 (rOp2 (rLoc 0) (rConst (.int 1)) gItem) (rCallN (rCons (rOp2 (rLoc 0) (rConst (.int 0)) gItem) rNil) gLen) gGe)) (rSeq (rRet (rConst (.int 0))) rSkip) rSkip)
noncomputable def r_law_digit_1 : RS := (rSet 2 (rOp2 (rOp2 (rLoc 0) (rConst (.int 0)) gItem) (rOp2 (rLoc 0) (rConst (.int 1)) gItem) gItem))
noncomputable def r_law_digit_2 : RS := (rSet 3 (rOp2 (rLoc 2) (rLoc 1) gMod))
noncomputable def r_law_digit_3 : RS := (rSet 4 (rOp2 (rLoc 2) (rLoc 1) gFdiv))
noncomputable def r_law_digit_4 : RS := (rAugItem (rLoc 0) (rConst (.int 2)) (rConst (.int 1)) gAdd)
noncomputable def r_law_digit_5 : RS := (rIf (rTOr (rT (rOp2 (rLoc 4) (rConst (.int 0)) gEq)) (rTOr (rT (rOp2 (rLoc 4) (rOp1 (rConst (.int 1)) gNeg) gEq)) (rTOr (rT (rOp2 (rOp2 (rLoc 0) (rConst (.int 2)) gItem) (rConst (.int 30)) gEq)) (rTC false)))) (rSeq (rAugItem (rLoc 0) (rConst (.int 1)) (rConst (.int 1)) gAdd) (rSeq (rSetItem (rConst (.int 0)) (rLoc 0) (rConst (.int 2))) rSkip)) (rSeq (rSetItem (rLoc 4) (rOp2 (rLoc 0) (rConst (.int 0)) gItem) (rOp2 (rLoc 0) (rConst (.int 1)) gItem)) rSkip))
noncomputable def r_law_digit_6 : RS := (rRet (rLoc 3))
noncomputable def r_law_digit : RS := (rSeq r_law_digit_0 (rSeq r_law_digit_1 (rSeq r_law_digit_2 (rSeq r_law_digit_3 (rSeq r_law_digit_4 (rSeq r_law_digit_5 (rSeq r_law_digit_6 rSkip)))))))
noncomputable def g_law_digit : ON := runBody r_law_digit 2 3
noncomputable def r_law_chunk_0 : RS := (rSet 2 (rList rNil))
noncomputable def r_law_chunk_1 : RS := (rFor (rRange1 (rOp2 (rConst (.int 1)) (rCallN (rCons (rLoc 0) (rCons (rConst (.int 6)) rNil)) g_law_digit) gAdd)) (tName 3) (rSeq (rSet 4 (rCallN (rCons (rLoc 0) (rCons (rConst (.int 15)) rNil)) g_law_digit)) (rSeq (rSet 5 (rTup (rCons (rConst (.str "t")) (rCons (rCallN (rCons (rLoc 0) (rCons (rConst (.int 5)) rNil)) g_law_digit) rNil)))) (rSeq (rSet 6 (rTup (rCons (rConst (.str "t")) (rCons (rCallN (rCons (rLoc 0) (rCons (rConst (.int 5)) rNil)) g_law_digit) rNil)))) (rSeq (rSet 7 (rTup (rCons (rConst (.str "a")) (rCons (rOp2 (rConst (.int 1)) (rCallN (rCons (rLoc 0) (rCons (rConst (.int 3)) rNil)) g_law_digit) gAdd) rNil)))) (rSeq (rSet 8 (rIfE (rT (rOp2 (rLoc 1) (rConst (.int 0)) gGt)) (rTup (rCons (rConst (.str "a")) (rCons (rOp2 (rConst (.int 1)) (rOp2 (rCallN (rCons (rLoc 0) (rCons (rConst (.int 3)) rNil)) g_law_digit) (rLoc 1) gMod) gAdd) rNil))) (rLoc 6))) (rSeq (rSet 9 (rList (rCons (rTup (rCons (rConst (.str "put_void")) (rCons (rLoc 5) rNil))) (rCons (rTup (rCons (rConst (.str "put_value")) (rCons (rLoc 5) (rCons (rLoc 7) rNil)))) (rCons (rTup (rCons (rConst (.str "get_variable")) (rCons (rLoc 5) (rCons (rLoc 8) rNil)))) (rCons (rTup (rCons (rConst (.str "put_value")) (rCons (rLoc 5) (rCons (rLoc 6) rNil)))) (rCons (rTup (rCons (rConst (.str "put_variable")) (rCons (rLoc 5) (rCons (rLoc 7) rNil)))) (rCons (rTup (rCons (rConst (.str "put_variable")) (rCons (rLoc 5) (rCons (rLoc 6) rNil)))) (rCons (rTup (rCons (rConst (.str "get_structure")) (rCons (rConst (.int 4)) (rCons (rLoc 8) rNil)))) (rCons (rTup (rCons (rConst (.str "put_list")) (rCons (rLoc 7) rNil))) (rCons (rTup (rCons (rConst (.str "unify_local_value")) (rCons (rLoc 5) rNil))) (rCons (rTup (rCons (rConst (.str "set_value")) (rCons (rLoc 5) rNil))) (rCons (rTup (rCons (rConst (.str "put_value")) (rCons (rTup (rCons (rConst (.str "y")) (rCons (rConst (.int 1)) rNil))) (rCons (rLoc 5) rNil)))) (rCons (rTup (rCons (rConst (.str "get_list")) (rCons (rLoc 8) rNil))) (rCons (rTup (rCons (rConst (.str "builtin")) (rCons (rConst (.int 3)) rNil))) (rCons (rTup (rCons (rConst (.str "mark")) (rCons (rLoc 5) rNil))) (rCons (rTup (rCons (rConst (.str "get_value")) (rCons (rLoc 5) (rCons (rLoc 8) rNil)))) rNil))))))))))))))))) (rSeq (rExpr (rBMeth "list" (rLoc 2) (rCons (rOp2 (rLoc 9) (rLoc 4) gItem) rNil) gAppend)) rSkip))))))))
noncomputable def r_law_chunk_2 : RS := (rExpr (rBMeth "list" (rLoc 2) (rCons (rTup (rCons (rConst (.str "call")) (rCons (rConst (.int 9)) (rCons (rConst (.int 1)) rNil)))) rNil) gAppend))
noncomputable def r_law_chunk_3 : RS := (rRet (rLoc 2))
noncomputable def r_law_chunk : RS := (rSeq r_law_chunk_0 (rSeq r_law_chunk_1 (rSeq r_law_chunk_2 (rSeq r_law_chunk_3 rSkip))))
noncomputable def g_law_chunk : ON := runBody r_law_chunk 2 8
noncomputable def r_law_lifted_0 : RS := (rSet 2 (rList rNil))
noncomputable def r_law_lifted_1 : RS := (rFor (rIt (rLoc 0)) (tName 3) (rSeq (rSet 4 (rList rNil)) (rSeq (rFor (rIt (rLoc 3)) (tName 5) (rSeq (rIf (rTAnd (rT (rIsi isT (rLoc 5))) (rTAnd (rT (rOp2 (rOp2 (rLoc 5) (rConst (.int 0)) gItem) (rConst (.str "t")) gEq)) (rTC true))) (rSeq (rSet 5 (rTup (rCons (rConst (.str "t")) (rCons (rOp2 (rOp2 (rLoc 5) (rConst (.int 1)) gItem) (rLoc 1) gAdd) rNil)))) rSkip) rSkip) (rSeq (rExpr (rBMeth "list" (rLoc 4) (rCons (rLoc 5) rNil) gAppend)) rSkip))) (rSeq (rExpr (rBMeth "list" (rLoc 2) (rCons (rCallN (rCons (rLoc 4) rNil) gTuple) rNil) gAppend)) rSkip))))
noncomputable def r_law_lifted_2 : RS := (rRet (rLoc 2))
noncomputable def r_law_lifted : RS := (rSeq r_law_lifted_0 (rSeq r_law_lifted_1 (rSeq r_law_lifted_2 rSkip)))
noncomputable def g_law_lifted : ON := runBody r_law_lifted 2 4
noncomputable def g_law_given : ON := gCatch (rCons (rLoc 0) (rCons (rLoc 1) (rCons (rLoc 2) (rCons (rLoc 3) rNil)))) g_allocate gx_allocate 4 0
noncomputable def r_law_1 : RS := (rSet 2 (rCallN rNil (gNew 154 g_Symbols___init)))
noncomputable def r_law_2 : RS := (rSet 3 (rOp2 (rConst (.int 2)) (rCallN (rCons (rLoc 1) (rCons (rConst (.int 2)) rNil)) g_law_digit) gAdd))
noncomputable def r_law_3 : RS := (rSet 4 (rCallN (rCons (rLoc 1) (rCons (rConst (.int 4)) rNil)) g_law_digit))
noncomputable def r_law_4 : RS := (rSet 5 (rOp2 (rConst (.int 9)) (rCallN (rCons (rLoc 1) (rCons (rConst (.int 10)) rNil)) g_law_digit) gSub))
noncomputable def r_law_5 : RS := (rSet 6 (rList rNil))
noncomputable def r_law_6 : RS := (rSet 7 (rList rNil))
noncomputable def r_law_7 : RS := (rFor (rRange1 (rLoc 3)) (tName 8) (rSeq (rSet 9 (rIfE (rT (rOp2 (rLoc 8) (rConst (.int 0)) gEq)) (rLoc 4) (rConst (.int 0)))) (rSeq (rSet 10 (rCallN (rCons (rLoc 1) (rCons (rLoc 9) rNil)) g_law_chunk)) (rSeq (rExpr (rBMeth "list" (rLoc 6) (rCons (rCallN (rCons (rLoc 10) (rCons (rOp2 (rConst (.int 5)) (rLoc 8) gMul) rNil)) g_law_lifted) rNil) gExtend)) (rSeq (rSet 11 (rCallN (rCons (rLoc 2) (rCons (rLoc 10) (rCons (rLoc 9) (rCons (rLoc 5) rNil)))) g_law_given)) (rSeq (rSet 7 (rIfE (rTOr (rT (rOp2 (rLoc 7) (rConst .none) gIsNone)) (rTOr (rT (rOp2 (rLoc 11) (rConst .none) gIsNone)) (rTC false))) (rConst .none) (rOp2 (rLoc 7) (rLoc 11) gCat))) rSkip))))))
noncomputable def r_law_8 : RS := (rRet (rOp2 (rCallN (rCons (rLoc 2) (rCons (rLoc 6) (rCons (rLoc 4) (rCons (rLoc 5) rNil)))) g_law_given) (rLoc 7) gEq))
noncomputable def r_law : RS := (rSeq r_law_1 (rSeq r_law_2 (rSeq r_law_3 (rSeq r_law_4 (rSeq r_law_5 (rSeq r_law_6 (rSeq r_law_7 (rSeq r_law_8 rSkip))))))))
end Mini.L2
namespace Mini.L2
section
theorem fill2 : (fun (_ : OpenRow) (_ : Params -> Frag) => True) PySem.Challenge.rw_rh0076_02.row hd2.heap_1 := by k_fill; trivial
variable {C : Cx} {par : Params}
theorem xk_Pro (par : Params) : strKeysIn (hd2.heap_1 par) 50 = true := by kernel_rfl
theorem xn_Pro_setattr (par : Params) : nsIn (hd2.heap_1 par) 50 (Str.ofString "__setattr__") = some none := by k_is
theorem xn_Pro_getattribute (par : Params) : nsIn (hd2.heap_1 par) 50 (Str.ofString "__getattribute__") = some none := by k_is
theorem xn_Pro_getattr (par : Params) : nsIn (hd2.heap_1 par) 50 (Str.ofString "__getattr__") = some none := by k_is
theorem xn_Pro_ball (par : Params) : nsIn (hd2.heap_1 par) 50 (Str.ofString "ball") = some none := by k_is
theorem xk_Cla (par : Params) : strKeysIn (hd2.heap_1 par) 30 = true := by kernel_rfl
theorem xn_Cla_setattr (par : Params) : nsIn (hd2.heap_1 par) 30 (Str.ofString "__setattr__") = some none := by k_is
theorem xn_Cla_getattribute (par : Params) : nsIn (hd2.heap_1 par) 30 (Str.ofString "__getattribute__") = some none := by k_is
theorem xn_Cla_getattr (par : Params) : nsIn (hd2.heap_1 par) 30 (Str.ofString "__getattr__") = some none := by k_is
theorem xn_Cla_ball (par : Params) : nsIn (hd2.heap_1 par) 30 (Str.ofString "ball") = some none := by k_is
theorem xn_Cla_init (par : Params) : nsIn (hd2.heap_1 par) 30 (Str.ofString "__init__") = some none := by k_is
theorem xi_Pro (par : Params) : nsIn (hd2.heap_1 par) 50 (Str.ofString "__init__") = some (some (.ref 48)) := by k_is
theorem fo_48 (par : Params) : (List.lookup 48 (hd2.heap_1 par)).map (fun o => o.cls) = some (.type "function") := by kernel_rfl
theorem ck_Symbols (par : Params) : strKeysIn (hd2.heap_1 par) 153 = true := by kernel_rfl
theorem cn_Symbols_getattribute (par : Params) : nsIn (hd2.heap_1 par) 153 (Str.ofString "__getattribute__") = some none := by k_is
theorem cn_Symbols_getattr (par : Params) : nsIn (hd2.heap_1 par) 153 (Str.ofString "__getattr__") = some none := by k_is
theorem cn_Symbols_setattr (par : Params) : nsIn (hd2.heap_1 par) 153 (Str.ofString "__setattr__") = some none := by k_is
theorem na_Symbols_atom_numbers (par : Params) : nsIn (hd2.heap_1 par) 153 (Str.ofString "atom_numbers") = some none := by k_is
theorem tl_atom_numbers (par : Params) : typeLookup (.type "object") (Str.ofString "atom_numbers") = pure none := by rfl
theorem na_Symbols_texts (par : Params) : nsIn (hd2.heap_1 par) 153 (Str.ofString "texts") = some none := by k_is
theorem tl_texts (par : Params) : typeLookup (.type "object") (Str.ofString "texts") = pure none := by rfl
theorem bb_len (par : Params) : bootBuiltins (Str.ofString "len") = some (.builtin "len") := by boot_by_name
theorem glo_len (par : Params) : nsIn (hd2.heap_1 par) mainGlobals (Str.ofString "len") = some none := by k_is
theorem na_Symbols_functor_numbers (par : Params) : nsIn (hd2.heap_1 par) 153 (Str.ofString "functor_numbers") = some none := by k_is
theorem tl_functor_numbers (par : Params) : typeLookup (.type "object") (Str.ofString "functor_numbers") = pure none := by rfl
theorem na_Symbols_functors (par : Params) : nsIn (hd2.heap_1 par) 153 (Str.ofString "functors") = some none := by k_is
theorem tl_functors (par : Params) : typeLookup (.type "object") (Str.ofString "functors") = pure none := by rfl
theorem fo_88 (par : Params) : (List.lookup 88 (hd2.heap_1 par)).map (fun o => o.cls) = some (.type "function") := by kernel_rfl
theorem keep_88 (par : Params) : keepIn (hd2.heap_1 par) (.ref 88) = true := by k_is
theorem me_Symbols_atom (par : Params) : nsIn (hd2.heap_1 par) 153 (Str.ofString "atom") = some (some (.ref 88)) := by k_is
theorem tl_atom (par : Params) : typeLookup (.type "object") (Str.ofString "atom") = pure none := by rfl
theorem fo_102 (par : Params) : (List.lookup 102 (hd2.heap_1 par)).map (fun o => o.cls) = some (.type "function") := by kernel_rfl
theorem keep_102 (par : Params) : keepIn (hd2.heap_1 par) (.ref 102) = true := by k_is
theorem me_Symbols_functor (par : Params) : nsIn (hd2.heap_1 par) 153 (Str.ofString "functor") = some (some (.ref 102)) := by k_is
theorem tl_functor (par : Params) : typeLookup (.type "object") (Str.ofString "functor") = pure none := by rfl
theorem glo_fixed_atoms (par : Params) : nsIn (hd2.heap_1 par) mainGlobals (Str.ofString "fixed_atoms") = some (some (Value.ref 60)) := by k_is
theorem keep_60 (par : Params) : keepIn (hd2.heap_1 par) (.ref 60) = true := by k_is
theorem glo_fixed_functors (par : Params) : nsIn (hd2.heap_1 par) mainGlobals (Str.ofString "fixed_functors") = some (some (Value.ref 67)) := by k_is
theorem keep_67 (par : Params) : keepIn (hd2.heap_1 par) (.ref 67) = true := by k_is
theorem fo_109 (par : Params) : (List.lookup 109 (hd2.heap_1 par)).map (fun o => o.cls) = some (.type "function") := by kernel_rfl
theorem keep_109 (par : Params) : keepIn (hd2.heap_1 par) (.ref 109) = true := by k_is
theorem me_Symbols_func (par : Params) : nsIn (hd2.heap_1 par) 153 (Str.ofString "func") = some (some (.ref 109)) := by k_is
theorem tl_func (par : Params) : typeLookup (.type "object") (Str.ofString "func") = pure none := by rfl
theorem bb_isinstance (par : Params) : bootBuiltins (Str.ofString "isinstance") = some (.builtin "isinstance") := by boot_by_name
theorem glo_isinstance (par : Params) : nsIn (hd2.heap_1 par) mainGlobals (Str.ofString "isinstance") = some none := by k_is
theorem bb_str (par : Params) : bootBuiltins (Str.ofString "str") = some (.type "str") := by boot_by_name
theorem glo_str (par : Params) : nsIn (hd2.heap_1 par) mainGlobals (Str.ofString "str") = some none := by k_is
theorem bb_tuple (par : Params) : bootBuiltins (Str.ofString "tuple") = some (.type "tuple") := by boot_by_name
theorem glo_tuple (par : Params) : nsIn (hd2.heap_1 par) mainGlobals (Str.ofString "tuple") = some none := by k_is
theorem glo_A_SYSTEM (par : Params) : nsIn (hd2.heap_1 par) mainGlobals (Str.ofString "A_SYSTEM") = some (some (Value.int 25 241)) := by k_is
theorem glo_F_ERROR (par : Params) : nsIn (hd2.heap_1 par) mainGlobals (Str.ofString "F_ERROR") = some (some (Value.int 16 243)) := by k_is
theorem keep_51 (par : Params) : keepIn (hd2.heap_1 par) (.ref 51) = true := by k_is
theorem glo_PrologError (par : Params) : nsIn (hd2.heap_1 par) mainGlobals (Str.ofString "PrologError") = some (some (Value.ref 51)) := by k_is
theorem glo_formal_of (par : Params) : nsIn (hd2.heap_1 par) mainGlobals (Str.ofString "formal_of") = some (some (Value.ref 172)) := by k_is
theorem keep_172 (par : Params) : keepIn (hd2.heap_1 par) (.ref 172) = true := by k_is
theorem glo_system_error (par : Params) : nsIn (hd2.heap_1 par) mainGlobals (Str.ofString "system_error") = some (some (Value.ref 165)) := by k_is
theorem keep_165 (par : Params) : keepIn (hd2.heap_1 par) (.ref 165) = true := by k_is
theorem glo_WRITES (par : Params) : nsIn (hd2.heap_1 par) mainGlobals (Str.ofString "WRITES") = some (some (Value.int 2 408)) := by k_is
theorem glo_READS (par : Params) : nsIn (hd2.heap_1 par) mainGlobals (Str.ofString "READS") = some (some (Value.int 1 406)) := by k_is
theorem glo_UPDATES (par : Params) : nsIn (hd2.heap_1 par) mainGlobals (Str.ofString "UPDATES") = some (some (Value.int 3 410)) := by k_is
theorem ck_Occupation (par : Params) : strKeysIn (hd2.heap_1 par) 216 = true := by kernel_rfl
theorem cn_Occupation_getattribute (par : Params) : nsIn (hd2.heap_1 par) 216 (Str.ofString "__getattribute__") = some none := by k_is
theorem cn_Occupation_getattr (par : Params) : nsIn (hd2.heap_1 par) 216 (Str.ofString "__getattr__") = some none := by k_is
theorem cn_Occupation_setattr (par : Params) : nsIn (hd2.heap_1 par) 216 (Str.ofString "__setattr__") = some none := by k_is
theorem na_Occupation_kind (par : Params) : nsIn (hd2.heap_1 par) 216 (Str.ofString "kind") = some none := by k_is
theorem tl_kind (par : Params) : typeLookup (.type "object") (Str.ofString "kind") = pure none := by rfl
theorem na_Occupation_number (par : Params) : nsIn (hd2.heap_1 par) 216 (Str.ofString "number") = some none := by k_is
theorem tl_number (par : Params) : typeLookup (.type "object") (Str.ofString "number") = pure none := by rfl
theorem na_Occupation_start (par : Params) : nsIn (hd2.heap_1 par) 216 (Str.ofString "start") = some none := by k_is
theorem tl_start (par : Params) : typeLookup (.type "object") (Str.ofString "start") = pure none := by rfl
theorem na_Occupation_stop (par : Params) : nsIn (hd2.heap_1 par) 216 (Str.ofString "stop") = some none := by k_is
theorem tl_stop (par : Params) : typeLookup (.type "object") (Str.ofString "stop") = pure none := by rfl
theorem fo_207 (par : Params) : (List.lookup 207 (hd2.heap_1 par)).map (fun o => o.cls) = some (.type "function") := by kernel_rfl
theorem glo_Occupation (par : Params) : nsIn (hd2.heap_1 par) mainGlobals (Str.ofString "Occupation") = some (some (Value.ref 217)) := by k_is
theorem keep_217 (par : Params) : keepIn (hd2.heap_1 par) (.ref 217) = true := by k_is
theorem me_Occupation_init (par : Params) : nsIn (hd2.heap_1 par) 216 (Str.ofString "__init__") = some (some (.ref 207)) := by k_is
theorem glo_operand_roles (par : Params) : nsIn (hd2.heap_1 par) mainGlobals (Str.ofString "operand_roles") = some (some (Value.ref 186)) := by k_is
theorem keep_186 (par : Params) : keepIn (hd2.heap_1 par) (.ref 186) = true := by k_is
theorem glo_ends_arguments (par : Params) : nsIn (hd2.heap_1 par) mainGlobals (Str.ofString "ends_arguments") = some (some (Value.ref 193)) := by k_is
theorem keep_193 (par : Params) : keepIn (hd2.heap_1 par) (.ref 193) = true := by k_is
theorem ck_RegisterFile (par : Params) : strKeysIn (hd2.heap_1 par) 277 = true := by kernel_rfl
theorem cn_RegisterFile_getattribute (par : Params) : nsIn (hd2.heap_1 par) 277 (Str.ofString "__getattribute__") = some none := by k_is
theorem cn_RegisterFile_getattr (par : Params) : nsIn (hd2.heap_1 par) 277 (Str.ofString "__getattr__") = some none := by k_is
theorem cn_RegisterFile_setattr (par : Params) : nsIn (hd2.heap_1 par) 277 (Str.ofString "__setattr__") = some none := by k_is
theorem na_RegisterFile_taken (par : Params) : nsIn (hd2.heap_1 par) 277 (Str.ofString "taken") = some none := by k_is
theorem tl_taken (par : Params) : typeLookup (.type "object") (Str.ofString "taken") = pure none := by rfl
theorem na_RegisterFile_home (par : Params) : nsIn (hd2.heap_1 par) 277 (Str.ofString "home") = some none := by k_is
theorem tl_home (par : Params) : typeLookup (.type "object") (Str.ofString "home") = pure none := by rfl
theorem fo_214 (par : Params) : (List.lookup 214 (hd2.heap_1 par)).map (fun o => o.cls) = some (.type "function") := by kernel_rfl
theorem keep_214 (par : Params) : keepIn (hd2.heap_1 par) (.ref 214) = true := by k_is
theorem me_Occupation_overlaps (par : Params) : nsIn (hd2.heap_1 par) 216 (Str.ofString "overlaps") = some (some (.ref 214)) := by k_is
theorem tl_overlaps (par : Params) : typeLookup (.type "object") (Str.ofString "overlaps") = pure none := by rfl
theorem fo_261 (par : Params) : (List.lookup 261 (hd2.heap_1 par)).map (fun o => o.cls) = some (.type "function") := by kernel_rfl
theorem keep_261 (par : Params) : keepIn (hd2.heap_1 par) (.ref 261) = true := by k_is
theorem me_RegisterFile_is_free (par : Params) : nsIn (hd2.heap_1 par) 277 (Str.ofString "is_free") = some (some (.ref 261)) := by k_is
theorem tl_is_free (par : Params) : typeLookup (.type "object") (Str.ofString "is_free") = pure none := by rfl
theorem fo_268 (par : Params) : (List.lookup 268 (hd2.heap_1 par)).map (fun o => o.cls) = some (.type "function") := by kernel_rfl
theorem keep_268 (par : Params) : keepIn (hd2.heap_1 par) (.ref 268) = true := by k_is
theorem me_RegisterFile_wished (par : Params) : nsIn (hd2.heap_1 par) 277 (Str.ofString "wished") = some (some (.ref 268)) := by k_is
theorem tl_wished (par : Params) : typeLookup (.type "object") (Str.ofString "wished") = pure none := by rfl
theorem fo_254 (par : Params) : (List.lookup 254 (hd2.heap_1 par)).map (fun o => o.cls) = some (.type "function") := by kernel_rfl
theorem keep_254 (par : Params) : keepIn (hd2.heap_1 par) (.ref 254) = true := by k_is
theorem me_RegisterFile_occupy (par : Params) : nsIn (hd2.heap_1 par) 277 (Str.ofString "occupy") = some (some (.ref 254)) := by k_is
theorem tl_occupy (par : Params) : typeLookup (.type "object") (Str.ofString "occupy") = pure none := by rfl
theorem glo_sorted (par : Params) : nsIn (hd2.heap_1 par) mainGlobals (Str.ofString "sorted") = some none := by k_is
theorem bb_sorted (par : Params) : bootBuiltins (Str.ofString "sorted") = some (.builtin "sorted") := by boot_by_name
theorem fo_247 (par : Params) : (List.lookup 247 (hd2.heap_1 par)).map (fun o => o.cls) = some (.type "function") := by kernel_rfl
theorem glo_RegisterFile (par : Params) : nsIn (hd2.heap_1 par) mainGlobals (Str.ofString "RegisterFile") = some (some (Value.ref 278)) := by k_is
theorem keep_278 (par : Params) : keepIn (hd2.heap_1 par) (.ref 278) = true := by k_is
theorem me_RegisterFile_init (par : Params) : nsIn (hd2.heap_1 par) 277 (Str.ofString "__init__") = some (some (.ref 247)) := by k_is
theorem glo_intervals (par : Params) : nsIn (hd2.heap_1 par) mainGlobals (Str.ofString "intervals") = some (some (Value.ref 226)) := by k_is
theorem keep_226 (par : Params) : keepIn (hd2.heap_1 par) (.ref 226) = true := by k_is
theorem glo_wishes (par : Params) : nsIn (hd2.heap_1 par) mainGlobals (Str.ofString "wishes") = some (some (Value.ref 233)) := by k_is
theorem keep_233 (par : Params) : keepIn (hd2.heap_1 par) (.ref 233) = true := by k_is
theorem glo_by_start (par : Params) : nsIn (hd2.heap_1 par) mainGlobals (Str.ofString "by_start") = some (some (Value.ref 289)) := by k_is
theorem keep_289 (par : Params) : keepIn (hd2.heap_1 par) (.ref 289) = true := by k_is
theorem fo_275 (par : Params) : (List.lookup 275 (hd2.heap_1 par)).map (fun o => o.cls) = some (.type "function") := by kernel_rfl
theorem keep_275 (par : Params) : keepIn (hd2.heap_1 par) (.ref 275) = true := by k_is
theorem me_RegisterFile_place (par : Params) : nsIn (hd2.heap_1 par) 277 (Str.ofString "place") = some (some (.ref 275)) := by k_is
theorem tl_place (par : Params) : typeLookup (.type "object") (Str.ofString "place") = pure none := by rfl
theorem glo_real_operand (par : Params) : nsIn (hd2.heap_1 par) mainGlobals (Str.ofString "real_operand") = some (some (Value.ref 296)) := by k_is
theorem keep_296 (par : Params) : keepIn (hd2.heap_1 par) (.ref 296) = true := by k_is
theorem glo_greatest (par : Params) : nsIn (hd2.heap_1 par) mainGlobals (Str.ofString "greatest") = some (some (Value.ref 310)) := by k_is
theorem keep_310 (par : Params) : keepIn (hd2.heap_1 par) (.ref 310) = true := by k_is
theorem glo_representation_error (par : Params) : nsIn (hd2.heap_1 par) mainGlobals (Str.ofString "representation_error") = some (some (Value.ref 179)) := by k_is
theorem keep_179 (par : Params) : keepIn (hd2.heap_1 par) (.ref 179) = true := by k_is
theorem glo_law_digit (par : Params) : nsIn (hd2.heap_1 par) mainGlobals (Str.ofString "_law_digit") = some (some (Value.ref 317)) := by k_is
theorem keep_317 (par : Params) : keepIn (hd2.heap_1 par) (.ref 317) = true := by k_is
theorem bb_range (par : Params) : bootBuiltins (Str.ofString "range") = some (.type "range") := by boot_by_name
theorem glo_range (par : Params) : nsIn (hd2.heap_1 par) mainGlobals (Str.ofString "range") = some none := by k_is
theorem glo_allocate (par : Params) : nsIn (hd2.heap_1 par) mainGlobals (Str.ofString "allocate") = some (some (Value.ref 303)) := by k_is
theorem keep_303 (par : Params) : keepIn (hd2.heap_1 par) (.ref 303) = true := by k_is
theorem glo_law_given (par : Params) : nsIn (hd2.heap_1 par) mainGlobals (Str.ofString "_law_given") = some (some (Value.ref 338)) := by k_is
theorem keep_338 (par : Params) : keepIn (hd2.heap_1 par) (.ref 338) = true := by k_is
theorem glo_law_lifted (par : Params) : nsIn (hd2.heap_1 par) mainGlobals (Str.ofString "_law_lifted") = some (some (Value.ref 331)) := by k_is
theorem keep_331 (par : Params) : keepIn (hd2.heap_1 par) (.ref 331) = true := by k_is
theorem glo_law_chunk (par : Params) : nsIn (hd2.heap_1 par) mainGlobals (Str.ofString "_law_chunk") = some (some (Value.ref 324)) := by k_is
theorem keep_324 (par : Params) : keepIn (hd2.heap_1 par) (.ref 324) = true := by k_is
theorem fo_81 (par : Params) : (List.lookup 81 (hd2.heap_1 par)).map (fun o => o.cls) = some (.type "function") := by kernel_rfl
theorem glo_Symbols (par : Params) : nsIn (hd2.heap_1 par) mainGlobals (Str.ofString "Symbols") = some (some (Value.ref 154)) := by k_is
theorem keep_154 (par : Params) : keepIn (hd2.heap_1 par) (.ref 154) = true := by k_is
theorem me_Symbols_init (par : Params) : nsIn (hd2.heap_1 par) 153 (Str.ofString "__init__") = some (some (.ref 81)) := by k_is
theorem excK_Pro (hK : C.K = hd2.heap_1 par) : ExcK C 51 50 31 30 48 := by
  refine ⟨⟨_, _, _, _, _, _, _, _, _, _, _, _, _, by rw [hK]; k_is⟩, ⟨_, _, _, _, by rw [hK]; k_is, rfl⟩, by rw [hK]; exact xk_Pro _, by rw [hK]; exact xk_Cla _, by rw [hK, xi_Pro]; rfl, by rw [hK, xn_Cla_init]; rfl, fun x hx => ?_, by rw [hK]; exact fo_48 _⟩
  simp only [List.mem_cons, List.not_mem_nil, or_false] at hx
  rcases hx with rfl | rfl | rfl | rfl
  . exact ⟨by rw [hK, xn_Pro_setattr]; rfl, by rw [hK, xn_Cla_setattr]; rfl⟩
  . exact ⟨by rw [hK, xn_Pro_getattribute]; rfl, by rw [hK, xn_Cla_getattribute]; rfl⟩
  . exact ⟨by rw [hK, xn_Pro_getattr]; rfl, by rw [hK, xn_Cla_getattr]; rfl⟩
  . exact ⟨by rw [hK, xn_Pro_ball]; rfl, by rw [hK, xn_Cla_ball]; rfl⟩
theorem cls_Symbols (hK : C.K = hd2.heap_1 par) : ClsK C 154 153 := by
  exact ⟨⟨_, _, _, _, _, _, _, _, _, _, _, _, by rw [hK]; k_is⟩, by rw [hK]; exact ck_Symbols _, by rw [hK, cn_Symbols_getattribute]; rfl, by rw [hK, cn_Symbols_getattr]; rfl, by rw [hK, cn_Symbols_setattr]; rfl⟩
theorem cls_Occupation (hK : C.K = hd2.heap_1 par) : ClsK C 217 216 := by
  exact ⟨⟨_, _, _, _, _, _, _, _, _, _, _, _, by rw [hK]; k_is⟩, by rw [hK]; exact ck_Occupation _, by rw [hK, cn_Occupation_getattribute]; rfl, by rw [hK, cn_Occupation_getattr]; rfl, by rw [hK, cn_Occupation_setattr]; rfl⟩
theorem cls_RegisterFile (hK : C.K = hd2.heap_1 par) : ClsK C 278 277 := by
  exact ⟨⟨_, _, _, _, _, _, _, _, _, _, _, _, by rw [hK]; k_is⟩, by rw [hK]; exact ck_RegisterFile _, by rw [hK, cn_RegisterFile_getattribute]; rfl, by rw [hK, cn_RegisterFile_getattr]; rfl, by rw [hK, cn_RegisterFile_setattr]; rfl⟩
end
end Mini.L2
namespace Mini.L2
section
theorem fill2b : (fun (_ : OpenRow) (_ : Params -> Frag) => True) PySem.Challenge.rw_rh0076_02.row hd2.heap_1 := by k_fill; trivial
variable {C : Cx} {par : Params}
theorem s_PrologError (hC : C.Ok) (hK : C.K = hd2.heap_1 par) (La : Lam C 284 288) : SemF C 2 (.ref 51) (gExcNew 51) := by
  refine' SemF.excNew hC (excK_Pro hK) ?o ?c ?b
  case o => rw [hK]; k_is
  case c => rw [hK]; k_is
  case b => intro s a b; exact BindsTo.of_eq rfl
theorem s_fixed_atoms (hC : C.Ok) (hK : C.K = hd2.heap_1 par) (La : Lam C 284 288) : SemF C 1 (.ref 60) g_fixed_atoms := by
  refine' SemF.of_def (n := 0) hC (r := r_fixed_atoms) (m := 0) (ps := []) ?o ?c ?b ?p ?n ?l ?h (hco := ?y1) (hgen := ?y2) (hk := ?y3) (hcell := ?x)
  case o => rw [hK]; k_is
  case c => rw [hK]; k_is
  case b => exact fun s => lens0 (by intros; exact BindsTo.of_eq rfl)
  case y1 => rfl
  case y2 => rfl
  case y3 => rfl
  case p => decide +kernel
  case n => decide +kernel
  case l => decide +kernel
  case x => decide +kernel
  case h =>
    refine SemS.cons (r := r_fixed_atoms_0) (q := rSkip) ?_ ?_
    . unfold r_fixed_atoms_0
      refine SemS1.ret ?_
      refine' SemE.tup ?a ?z
      case z => decide
      case a =>
      iterate 29 (refine' SemEs.cP ?_ ?_ ?_; exact SemE.str (by kernel_rfl); rotate_left; rfl)
      exact SemEs.nil
    exact SemS.nil
theorem s_fixed_functors (hC : C.Ok) (hK : C.K = hd2.heap_1 par) (La : Lam C 284 288) : SemF C 1 (.ref 67) g_fixed_functors := by
  refine' SemF.of_def (n := 0) hC (r := r_fixed_functors) (m := 0) (ps := []) ?o ?c ?b ?p ?n ?l ?h (hco := ?y1) (hgen := ?y2) (hk := ?y3) (hcell := ?x)
  case o => rw [hK]; k_is
  case c => rw [hK]; k_is
  case b => exact fun s => lens0 (by intros; exact BindsTo.of_eq rfl)
  case y1 => rfl
  case y2 => rfl
  case y3 => rfl
  case p => decide +kernel
  case n => decide +kernel
  case l => decide +kernel
  case x => decide +kernel
  case h =>
    refine SemS.cons (r := r_fixed_functors_0) (q := rSkip) ?_ ?_
    . unfold r_fixed_functors_0
      refine SemS1.ret ?_
      refine' SemE.tup ?a ?z
      case z => decide
      case a =>
      iterate 32 (refine' SemEs.cP ?_ ?_ ?_; exact SemE.tup (SemEs.cP (SemE.str (by kernel_rfl)) (SemEs.cP SemE.int SemEs.nil)); rotate_left; rfl)
      exact SemEs.nil
    exact SemS.nil
theorem s_Symbols_atom (hC : C.Ok) (hK : C.K = hd2.heap_1 par) (La : Lam C 284 288) : SemF C 1 (.ref 88) g_Symbols_atom := by
  refine' SemF.of_def (n := 0) hC (r := r_Symbols_atom) (m := 2) (ps := [Str.ofString "self", Str.ofString "text"]) ?o ?c ?b ?p ?n ?l ?h (hco := ?y1) (hgen := ?y2) (hk := ?y3) (hcell := ?x)
  case o => rw [hK]; k_is
  case c => rw [hK]; k_is
  case b => exact fun s => lens2 (by intros; exact BindsTo.of_eq rfl)
  case y1 => rfl
  case y2 => rfl
  case y3 => rfl
  case p => decide +kernel
  case n => decide +kernel
  case l => decide +kernel
  case x => decide +kernel
  case h =>
    refine SemS.cons (show SemS1 _ _ _ _ r_Symbols_atom_0 from (SemS1.assign 2 (by kernel_rfl) (SemE.bmeth hC PySem.F.plainAttrs_dict PySem.F.slot_dict_get (by rfl) (SemE.attr (SemE.loc 0 (by kernel_rfl)) (Op1.attr hC (cls_Symbols hK) (by rw [hK, na_Symbols_atom_numbers]; rfl) (tl_atom_numbers par))) (SemEs.cP (SemE.loc 1 (by kernel_rfl)) (SemEs.cP (SemE.neg SemE.int) SemEs.nil)) SemF.get))) ?_
    refine SemS.cons (show SemS1 _ _ _ _ r_Symbols_atom_1 from (SemS1.ite (SemT.cmp (SemE.loc 2 (by kernel_rfl)) SemE.int Op2.ge) (SemS.cons (SemS1.ret (SemE.loc 2 (by kernel_rfl))) SemS.nil) SemS.nil)) ?_
    refine SemS.cons (show SemS1 _ _ _ _ r_Symbols_atom_2 from (SemS1.assign 3 (by kernel_rfl) (SemE.call hC (Stands.bi hC (by kernel_rfl) (by rw [hK]; exact glo_len _) (bb_len par) (by decide)) Keepable.builtin (SemEs.cP (SemE.attr (SemE.loc 0 (by kernel_rfl)) (Op1.attr hC (cls_Symbols hK) (by rw [hK, na_Symbols_texts]; rfl) (tl_texts par))) SemEs.nil) SemF.len))) ?_
    refine SemS.cons (show SemS1 _ _ _ _ r_Symbols_atom_3 from (SemS1.expr (SemE.bmeth hC PySem.F.plainAttrs_list PySem.F.slot_list_append (by rfl) (SemE.attr (SemE.loc 0 (by kernel_rfl)) (Op1.attr hC (cls_Symbols hK) (by rw [hK, na_Symbols_texts]; rfl) (tl_texts par))) (SemEs.cP (SemE.loc 1 (by kernel_rfl)) SemEs.nil) SemF.append))) ?_
    refine SemS.cons (show SemS1 _ _ _ _ r_Symbols_atom_4 from (SemS1.setItem (SemE.loc 3 (by kernel_rfl)) (SemE.attr (SemE.loc 0 (by kernel_rfl)) (Op1.attr hC (cls_Symbols hK) (by rw [hK, na_Symbols_atom_numbers]; rfl) (tl_atom_numbers par))) (SemE.loc 1 (by kernel_rfl)))) ?_
    refine SemS.cons (show SemS1 _ _ _ _ r_Symbols_atom_5 from (SemS1.ret (SemE.loc 3 (by kernel_rfl)))) ?_
    exact SemS.nil
theorem s_Symbols_functor (hC : C.Ok) (hK : C.K = hd2.heap_1 par) (La : Lam C 284 288) : SemF C 1 (.ref 102) g_Symbols_functor := by
  refine' SemF.of_def (n := 0) hC (r := r_Symbols_functor) (m := 3) (ps := [Str.ofString "self", Str.ofString "atom", Str.ofString "arity"]) ?o ?c ?b ?p ?n ?l ?h (hco := ?y1) (hgen := ?y2) (hk := ?y3) (hcell := ?x)
  case o => rw [hK]; k_is
  case c => rw [hK]; k_is
  case b => exact fun s => lens3 (by intros; exact BindsTo.of_eq rfl)
  case y1 => rfl
  case y2 => rfl
  case y3 => rfl
  case p => decide +kernel
  case n => decide +kernel
  case l => decide +kernel
  case x => decide +kernel
  case h =>
    refine SemS.cons (show SemS1 _ _ _ _ r_Symbols_functor_0 from (SemS1.assign 3 (by kernel_rfl) (SemE.tup (SemEs.cP (SemE.loc 1 (by kernel_rfl)) (SemEs.cP (SemE.loc 2 (by kernel_rfl)) SemEs.nil))))) ?_
    refine SemS.cons (show SemS1 _ _ _ _ r_Symbols_functor_1 from (SemS1.assign 4 (by kernel_rfl) (SemE.bmeth hC PySem.F.plainAttrs_dict PySem.F.slot_dict_get (by rfl) (SemE.attr (SemE.loc 0 (by kernel_rfl)) (Op1.attr hC (cls_Symbols hK) (by rw [hK, na_Symbols_functor_numbers]; rfl) (tl_functor_numbers par))) (SemEs.cP (SemE.loc 3 (by kernel_rfl)) (SemEs.cP (SemE.neg SemE.int) SemEs.nil)) SemF.get))) ?_
    refine SemS.cons (show SemS1 _ _ _ _ r_Symbols_functor_2 from (SemS1.ite (SemT.cmp (SemE.loc 4 (by kernel_rfl)) SemE.int Op2.ge) (SemS.cons (SemS1.ret (SemE.loc 4 (by kernel_rfl))) SemS.nil) SemS.nil)) ?_
    refine SemS.cons (show SemS1 _ _ _ _ r_Symbols_functor_3 from (SemS1.assign 5 (by kernel_rfl) (SemE.call hC (Stands.bi hC (by kernel_rfl) (by rw [hK]; exact glo_len _) (bb_len par) (by decide)) Keepable.builtin (SemEs.cP (SemE.attr (SemE.loc 0 (by kernel_rfl)) (Op1.attr hC (cls_Symbols hK) (by rw [hK, na_Symbols_functors]; rfl) (tl_functors par))) SemEs.nil) SemF.len))) ?_
    refine SemS.cons (show SemS1 _ _ _ _ r_Symbols_functor_4 from (SemS1.expr (SemE.bmeth hC PySem.F.plainAttrs_list PySem.F.slot_list_append (by rfl) (SemE.attr (SemE.loc 0 (by kernel_rfl)) (Op1.attr hC (cls_Symbols hK) (by rw [hK, na_Symbols_functors]; rfl) (tl_functors par))) (SemEs.cP (SemE.loc 3 (by kernel_rfl)) SemEs.nil) SemF.append))) ?_
    refine SemS.cons (show SemS1 _ _ _ _ r_Symbols_functor_5 from (SemS1.setItem (SemE.loc 5 (by kernel_rfl)) (SemE.attr (SemE.loc 0 (by kernel_rfl)) (Op1.attr hC (cls_Symbols hK) (by rw [hK, na_Symbols_functor_numbers]; rfl) (tl_functor_numbers par))) (SemE.loc 3 (by kernel_rfl)))) ?_
    refine SemS.cons (show SemS1 _ _ _ _ r_Symbols_functor_6 from (SemS1.ret (SemE.loc 5 (by kernel_rfl)))) ?_
    exact SemS.nil
theorem s_Symbols_func (hC : C.Ok) (hK : C.K = hd2.heap_1 par) (La : Lam C 284 288) : SemF C 2 (.ref 109) g_Symbols_func := by
  refine' SemF.of_def (n := 1) hC (r := r_Symbols_func) (m := 0) (ps := [Str.ofString "self", Str.ofString "text", Str.ofString "arity"]) ?o ?c ?b ?p ?n ?l ?h (hco := ?y1) (hgen := ?y2) (hk := ?y3) (hcell := ?x)
  case o => rw [hK]; k_is
  case c => rw [hK]; k_is
  case b => exact fun s => lens3 (by intros; exact BindsTo.of_eq rfl)
  case y1 => rfl
  case y2 => rfl
  case y3 => rfl
  case p => decide +kernel
  case n => decide +kernel
  case l => decide +kernel
  case x => decide +kernel
  case h =>
    refine SemS.cons (show SemS1 _ _ _ _ r_Symbols_func_0 from (SemS1.ret (SemE.methF hC (cls_Symbols hK) (by rw [hK, me_Symbols_functor]; rfl) (by rw [hK]; exact fo_102 _) ⟨_, (tl_functor par)⟩ (by rw [hK]; exact keep_102 _) (SemE.loc 0 (by kernel_rfl)) (SemEs.cP (SemE.methF hC (cls_Symbols hK) (by rw [hK, me_Symbols_atom]; rfl) (by rw [hK]; exact fo_88 _) ⟨_, (tl_atom par)⟩ (by rw [hK]; exact keep_88 _) (SemE.loc 0 (by kernel_rfl)) (SemEs.cP (SemE.loc 1 (by kernel_rfl)) SemEs.nil) (SemF.up (s_Symbols_atom hC hK La) (by decide))) (SemEs.cP (SemE.loc 2 (by kernel_rfl)) SemEs.nil)) (SemF.up (s_Symbols_functor hC hK La) (by decide))))) ?_
    exact SemS.nil
theorem s_Symbols___init (hC : C.Ok) (hK : C.K = hd2.heap_1 par) (La : Lam C 284 288) : SemF C 3 (.ref 81) g_Symbols___init := by
  refine' SemF.of_def (n := 2) hC (r := r_Symbols___init) (m := 2) (ps := [Str.ofString "self"]) ?o ?c ?b ?p ?n ?l ?h (hco := ?y1) (hgen := ?y2) (hk := ?y3) (hcell := ?x)
  case o => rw [hK]; k_is
  case c => rw [hK]; k_is
  case b => exact fun s => lens1 (by intros; exact BindsTo.of_eq rfl)
  case y1 => rfl
  case y2 => rfl
  case y3 => rfl
  case p => decide +kernel
  case n => decide +kernel
  case l => decide +kernel
  case x => decide +kernel
  case h =>
    refine SemS.cons (show SemS1 _ _ _ _ r_Symbols___init_0 from (SemS1.setAttr hC (cls_Symbols hK) (by rw [hK, na_Symbols_texts]; rfl) (tl_texts par) (SemE.list SemEs.nil) (SemE.loc 0 (by kernel_rfl)))) ?_
    refine SemS.cons (show SemS1 _ _ _ _ r_Symbols___init_1 from (SemS1.setAttr hC (cls_Symbols hK) (by rw [hK, na_Symbols_atom_numbers]; rfl) (tl_atom_numbers par) (SemE.dictS hC) (SemE.loc 0 (by kernel_rfl)))) ?_
    refine SemS.cons (show SemS1 _ _ _ _ r_Symbols___init_2 from (SemS1.setAttr hC (cls_Symbols hK) (by rw [hK, na_Symbols_functors]; rfl) (tl_functors par) (SemE.list SemEs.nil) (SemE.loc 0 (by kernel_rfl)))) ?_
    refine SemS.cons (show SemS1 _ _ _ _ r_Symbols___init_3 from (SemS1.setAttr hC (cls_Symbols hK) (by rw [hK, na_Symbols_functor_numbers]; rfl) (tl_functor_numbers par) (SemE.dictT hC) (SemE.loc 0 (by kernel_rfl)))) ?_
    refine SemS.cons (show SemS1 _ _ _ _ r_Symbols___init_4 from (SemS1.for (SemIt.of hC (SemE.call hC (Stands.glo hC (by kernel_rfl) (by rw [hK]; exact glo_fixed_atoms _)) (Keepable.ref (by rw [hK]; exact keep_60 _)) SemEs.nil (SemF.up (s_fixed_atoms hC hK La) (by decide)))) (SemA.name 1 (by kernel_rfl)) (SemS.cons (SemS1.expr (SemE.methF hC (cls_Symbols hK) (by rw [hK, me_Symbols_atom]; rfl) (by rw [hK]; exact fo_88 _) ⟨_, (tl_atom par)⟩ (by rw [hK]; exact keep_88 _) (SemE.loc 0 (by kernel_rfl)) (SemEs.cP (SemE.loc 1 (by kernel_rfl)) SemEs.nil) (SemF.up (s_Symbols_atom hC hK La) (by decide)))) SemS.nil))) ?_
    refine SemS.cons (show SemS1 _ _ _ _ r_Symbols___init_5 from (SemS1.for (SemIt.of hC (SemE.call hC (Stands.glo hC (by kernel_rfl) (by rw [hK]; exact glo_fixed_functors _)) (Keepable.ref (by rw [hK]; exact keep_67 _)) SemEs.nil (SemF.up (s_fixed_functors hC hK La) (by decide)))) (SemA.name 2 (by kernel_rfl)) (SemS.cons (SemS1.expr (SemE.methF hC (cls_Symbols hK) (by rw [hK, me_Symbols_func]; rfl) (by rw [hK]; exact fo_109 _) ⟨_, (tl_func par)⟩ (by rw [hK]; exact keep_109 _) (SemE.loc 0 (by kernel_rfl)) (SemEs.cP (SemE.item (SemE.loc 2 (by kernel_rfl)) SemE.int) (SemEs.cP (SemE.item (SemE.loc 2 (by kernel_rfl)) SemE.int) SemEs.nil)) (SemF.up (s_Symbols_func hC hK La) (by decide)))) SemS.nil))) ?_
    exact SemS.nil
theorem s_formal_of (hC : C.Ok) (hK : C.K = hd2.heap_1 par) (La : Lam C 284 288) : SemF C 3 (.ref 172) g_formal_of := by
  refine' SemF.of_def (n := 2) hC (r := r_formal_of) (m := 2) (ps := [Str.ofString "symbols", Str.ofString "name", Str.ofString "parts"]) ?o ?c ?b ?p ?n ?l ?h (hco := ?y1) (hgen := ?y2) (hk := ?y3) (hcell := ?x)
  case o => rw [hK]; k_is
  case c => rw [hK]; k_is
  case b => exact fun s => lens3 (by intros; exact BindsTo.of_eq rfl)
  case y1 => rfl
  case y2 => rfl
  case y3 => rfl
  case p => decide +kernel
  case n => decide +kernel
  case l => decide +kernel
  case x => decide +kernel
  case h =>
    refine SemS.cons (show SemS1 _ _ _ _ r_formal_of_0 from (SemS1.assign 3 (by kernel_rfl) (SemE.list SemEs.nil))) ?_
    refine SemS.cons (show SemS1 _ _ _ _ r_formal_of_1 from (SemS1.for (SemIt.of hC (SemE.loc 2 (by kernel_rfl))) (SemA.name 4 (by kernel_rfl)) (SemS.cons (SemS1.expr (SemE.bmeth hC PySem.F.plainAttrs_list PySem.F.slot_list_append (by rfl) (SemE.loc 3 (by kernel_rfl)) (SemEs.cP (SemE.ite (SemT.plain (SemE.isi hC (Stands.bi hC (by kernel_rfl) (by rw [hK]; exact glo_isinstance _) (bb_isinstance par) (by decide)) (Stands.bi hC (by kernel_rfl) (by rw [hK]; exact glo_str _) (bb_str par) (by decide)) (SemE.loc 4 (by kernel_rfl)) isi_str)) (SemE.tup (SemEs.cP (SemE.str (by kernel_rfl)) (SemEs.cP (SemE.methF hC (cls_Symbols hK) (by rw [hK, me_Symbols_atom]; rfl) (by rw [hK]; exact fo_88 _) ⟨_, (tl_atom par)⟩ (by rw [hK]; exact keep_88 _) (SemE.loc 0 (by kernel_rfl)) (SemEs.cP (SemE.loc 4 (by kernel_rfl)) SemEs.nil) (SemF.up (s_Symbols_atom hC hK La) (by decide))) SemEs.nil))) (SemE.loc 4 (by kernel_rfl))) SemEs.nil) SemF.append)) SemS.nil))) ?_
    refine SemS.cons (show SemS1 _ _ _ _ r_formal_of_2 from (SemS1.ret (SemE.tup (SemEs.cP (SemE.str (by kernel_rfl)) (SemEs.cP (SemE.methF hC (cls_Symbols hK) (by rw [hK, me_Symbols_func]; rfl) (by rw [hK]; exact fo_109 _) ⟨_, (tl_func par)⟩ (by rw [hK]; exact keep_109 _) (SemE.loc 0 (by kernel_rfl)) (SemEs.cP (SemE.loc 1 (by kernel_rfl)) (SemEs.cP (SemE.call hC (Stands.bi hC (by kernel_rfl) (by rw [hK]; exact glo_len _) (bb_len par) (by decide)) Keepable.builtin (SemEs.cP (SemE.loc 3 (by kernel_rfl)) SemEs.nil) SemF.len) SemEs.nil)) (SemF.up (s_Symbols_func hC hK La) (by decide))) (SemEs.cP (SemE.call hC (Stands.bi hC (by kernel_rfl) (by rw [hK]; exact glo_tuple _) (bb_tuple par) (by decide)) Keepable.type (SemEs.cP (SemE.loc 3 (by kernel_rfl)) SemEs.nil) SemF.tuple) SemEs.nil)))))) ?_
    exact SemS.nil
theorem s_system_error (hC : C.Ok) (hK : C.K = hd2.heap_1 par) (La : Lam C 284 288) : SemF C 3 (.ref 165) g_system_error := by
  refine' SemF.of_def (n := 2) hC (r := r_system_error) (m := 0) (ps := [Str.ofString "formal"]) ?o ?c ?b ?p ?n ?l ?h (hco := ?y1) (hgen := ?y2) (hk := ?y3) (hcell := ?x)
  case o => rw [hK]; k_is
  case c => rw [hK]; k_is
  case b => exact fun s => lens1 (by intros; exact BindsTo.of_eq rfl)
  case y1 => rfl
  case y2 => rfl
  case y3 => rfl
  case p => decide +kernel
  case n => decide +kernel
  case l => decide +kernel
  case x => decide +kernel
  case h =>
    refine SemS.cons (show SemS1 _ _ _ _ r_system_error_0 from (SemS1.ret (SemE.call hC (Stands.glo hC (by kernel_rfl) (by rw [hK]; exact glo_PrologError _)) (Keepable.ref (by rw [hK]; exact keep_51 _)) (SemEs.cP (SemE.tup (SemEs.cP (SemE.str (by kernel_rfl)) (SemEs.cP (SemE.gint (Stands.glo hC (by kernel_rfl) (by rw [hK]; exact glo_F_ERROR _))) (SemEs.cP (SemE.tup (SemEs.cP (SemE.loc 0 (by kernel_rfl)) (SemEs.cP (SemE.tup (SemEs.cP (SemE.str (by kernel_rfl)) (SemEs.cP (SemE.gint (Stands.glo hC (by kernel_rfl) (by rw [hK]; exact glo_A_SYSTEM _))) SemEs.nil))) SemEs.nil))) SemEs.nil)))) SemEs.nil) (SemF.up (s_PrologError hC hK La) (by decide))))) ?_
    exact SemS.nil
theorem s_representation_error (hC : C.Ok) (hK : C.K = hd2.heap_1 par) (La : Lam C 284 288) : SemF C 4 (.ref 179) g_representation_error := by
  refine' SemF.of_def (n := 3) hC (r := r_representation_error) (m := 0) (ps := [Str.ofString "symbols", Str.ofString "what"]) ?o ?c ?b ?p ?n ?l ?h (hco := ?y1) (hgen := ?y2) (hk := ?y3) (hcell := ?x)
  case o => rw [hK]; k_is
  case c => rw [hK]; k_is
  case b => exact fun s => lens2 (by intros; exact BindsTo.of_eq rfl)
  case y1 => rfl
  case y2 => rfl
  case y3 => rfl
  case p => decide +kernel
  case n => decide +kernel
  case l => decide +kernel
  case x => decide +kernel
  case h =>
    refine SemS.cons (show SemS1 _ _ _ _ r_representation_error_0 from (SemS1.ret (SemE.call hC (Stands.glo hC (by kernel_rfl) (by rw [hK]; exact glo_system_error _)) (Keepable.ref (by rw [hK]; exact keep_165 _)) (SemEs.cP (SemE.call hC (Stands.glo hC (by kernel_rfl) (by rw [hK]; exact glo_formal_of _)) (Keepable.ref (by rw [hK]; exact keep_172 _)) (SemEs.cP (SemE.loc 0 (by kernel_rfl)) (SemEs.cP (SemE.str (by kernel_rfl)) (SemEs.cP (SemE.tup (SemEs.cP (SemE.loc 1 (by kernel_rfl)) SemEs.nil)) SemEs.nil))) (SemF.up (s_formal_of hC hK La) (by decide))) SemEs.nil) (SemF.up (s_system_error hC hK La) (by decide))))) ?_
    exact SemS.nil
theorem s_operand_roles (hC : C.Ok) (hK : C.K = hd2.heap_1 par) (La : Lam C 284 288) : SemF C 1 (.ref 186) g_operand_roles := by
  refine' SemF.of_def (n := 0) hC (r := r_operand_roles) (m := 1) (ps := [Str.ofString "instruction"]) ?o ?c ?b ?p ?n ?l ?h (hco := ?y1) (hgen := ?y2) (hk := ?y3) (hcell := ?x)
  case o => rw [hK]; k_is
  case c => rw [hK]; k_is
  case b => exact fun s => lens1 (by intros; exact BindsTo.of_eq rfl)
  case y1 => rfl
  case y2 => rfl
  case y3 => rfl
  case p => decide +kernel
  case n => decide +kernel
  case l => decide +kernel
  case x => decide +kernel
  case h =>
    refine SemS.cons (show SemS1 _ _ _ _ r_operand_roles_0 from (SemS1.assign 1 (by kernel_rfl) (SemE.item (SemE.loc 0 (by kernel_rfl)) SemE.int))) ?_
    refine SemS.cons (show SemS1 _ _ _ _ r_operand_roles_1 from (SemS1.ite (SemT.cmp (SemE.loc 1 (by kernel_rfl)) (SemE.str (by kernel_rfl)) Op2.eq) (SemS.cons (SemS1.ret (SemE.list (SemEs.cP (SemE.tup (SemEs.cP (SemE.gint (Stands.glo hC (by kernel_rfl) (by rw [hK]; exact glo_READS _))) (SemEs.cP (SemE.item (SemE.loc 0 (by kernel_rfl)) SemE.int) SemEs.nil))) (SemEs.cP (SemE.tup (SemEs.cP (SemE.gint (Stands.glo hC (by kernel_rfl) (by rw [hK]; exact glo_WRITES _))) (SemEs.cP (SemE.item (SemE.loc 0 (by kernel_rfl)) SemE.int) SemEs.nil))) SemEs.nil)))) SemS.nil) SemS.nil)) ?_
    refine SemS.cons (show SemS1 _ _ _ _ r_operand_roles_2 from (SemS1.ite (SemT.cmp (SemE.loc 1 (by kernel_rfl)) (SemE.str (by kernel_rfl)) Op2.eq) (SemS.cons (SemS1.ret (SemE.list (SemEs.cP (SemE.tup (SemEs.cP (SemE.gint (Stands.glo hC (by kernel_rfl) (by rw [hK]; exact glo_READS _))) (SemEs.cP (SemE.item (SemE.loc 0 (by kernel_rfl)) SemE.int) SemEs.nil))) (SemEs.cP (SemE.tup (SemEs.cP (SemE.gint (Stands.glo hC (by kernel_rfl) (by rw [hK]; exact glo_READS _))) (SemEs.cP (SemE.item (SemE.loc 0 (by kernel_rfl)) SemE.int) SemEs.nil))) SemEs.nil)))) SemS.nil) SemS.nil)) ?_
    refine SemS.cons (show SemS1 _ _ _ _ r_operand_roles_3 from (SemS1.ite (SemT.bool (SemTs.or (SemT.cmp (SemE.loc 1 (by kernel_rfl)) (SemE.str (by kernel_rfl)) Op2.eq) (SemTs.or (SemT.cmp (SemE.loc 1 (by kernel_rfl)) (SemE.str (by kernel_rfl)) Op2.eq) SemTs.or_nil))) (SemS.cons (SemS1.ret (SemE.list (SemEs.cP (SemE.tup (SemEs.cP (SemE.gint (Stands.glo hC (by kernel_rfl) (by rw [hK]; exact glo_READS _))) (SemEs.cP (SemE.item (SemE.loc 0 (by kernel_rfl)) SemE.int) SemEs.nil))) SemEs.nil))) SemS.nil) SemS.nil)) ?_
    refine SemS.cons (show SemS1 _ _ _ _ r_operand_roles_4 from (SemS1.ite (SemT.cmp (SemE.loc 1 (by kernel_rfl)) (SemE.str (by kernel_rfl)) Op2.eq) (SemS.cons (SemS1.ret (SemE.list (SemEs.cP (SemE.tup (SemEs.cP (SemE.gint (Stands.glo hC (by kernel_rfl) (by rw [hK]; exact glo_READS _))) (SemEs.cP (SemE.item (SemE.loc 0 (by kernel_rfl)) SemE.int) SemEs.nil))) SemEs.nil))) SemS.nil) SemS.nil)) ?_
    refine SemS.cons (show SemS1 _ _ _ _ r_operand_roles_5 from (SemS1.ite (SemT.bool (SemTs.or (SemT.cmp (SemE.loc 1 (by kernel_rfl)) (SemE.str (by kernel_rfl)) Op2.eq) (SemTs.or (SemT.cmp (SemE.loc 1 (by kernel_rfl)) (SemE.str (by kernel_rfl)) Op2.eq) SemTs.or_nil))) (SemS.cons (SemS1.ret (SemE.list (SemEs.cP (SemE.tup (SemEs.cP (SemE.gint (Stands.glo hC (by kernel_rfl) (by rw [hK]; exact glo_WRITES _))) (SemEs.cP (SemE.item (SemE.loc 0 (by kernel_rfl)) SemE.int) SemEs.nil))) SemEs.nil))) SemS.nil) SemS.nil)) ?_
    refine SemS.cons (show SemS1 _ _ _ _ r_operand_roles_6 from (SemS1.ite (SemT.bool (SemTs.or (SemT.cmp (SemE.loc 1 (by kernel_rfl)) (SemE.str (by kernel_rfl)) Op2.eq) (SemTs.or (SemT.cmp (SemE.loc 1 (by kernel_rfl)) (SemE.str (by kernel_rfl)) Op2.eq) SemTs.or_nil))) (SemS.cons (SemS1.ret (SemE.list (SemEs.cP (SemE.tup (SemEs.cP (SemE.gint (Stands.glo hC (by kernel_rfl) (by rw [hK]; exact glo_READS _))) (SemEs.cP (SemE.item (SemE.loc 0 (by kernel_rfl)) SemE.int) SemEs.nil))) SemEs.nil))) SemS.nil) SemS.nil)) ?_
    refine SemS.cons (show SemS1 _ _ _ _ r_operand_roles_7 from (SemS1.ite (SemT.bool (SemTs.or (SemT.cmp (SemE.loc 1 (by kernel_rfl)) (SemE.str (by kernel_rfl)) Op2.eq) (SemTs.or (SemT.cmp (SemE.loc 1 (by kernel_rfl)) (SemE.str (by kernel_rfl)) Op2.eq) SemTs.or_nil))) (SemS.cons (SemS1.ret (SemE.list (SemEs.cP (SemE.tup (SemEs.cP (SemE.gint (Stands.glo hC (by kernel_rfl) (by rw [hK]; exact glo_UPDATES _))) (SemEs.cP (SemE.item (SemE.loc 0 (by kernel_rfl)) SemE.int) SemEs.nil))) SemEs.nil))) SemS.nil) SemS.nil)) ?_
    refine SemS.cons (show SemS1 _ _ _ _ r_operand_roles_8 from (SemS1.ite (SemT.cmp (SemE.loc 1 (by kernel_rfl)) (SemE.str (by kernel_rfl)) Op2.eq) (SemS.cons (SemS1.ret (SemE.list (SemEs.cP (SemE.tup (SemEs.cP (SemE.gint (Stands.glo hC (by kernel_rfl) (by rw [hK]; exact glo_WRITES _))) (SemEs.cP (SemE.item (SemE.loc 0 (by kernel_rfl)) SemE.int) SemEs.nil))) (SemEs.cP (SemE.tup (SemEs.cP (SemE.gint (Stands.glo hC (by kernel_rfl) (by rw [hK]; exact glo_WRITES _))) (SemEs.cP (SemE.item (SemE.loc 0 (by kernel_rfl)) SemE.int) SemEs.nil))) SemEs.nil)))) SemS.nil) SemS.nil)) ?_
    refine SemS.cons (show SemS1 _ _ _ _ r_operand_roles_9 from (SemS1.ite (SemT.bool (SemTs.or (SemT.cmp (SemE.loc 1 (by kernel_rfl)) (SemE.str (by kernel_rfl)) Op2.eq) (SemTs.or (SemT.cmp (SemE.loc 1 (by kernel_rfl)) (SemE.str (by kernel_rfl)) Op2.eq) SemTs.or_nil))) (SemS.cons (SemS1.ret (SemE.list (SemEs.cP (SemE.tup (SemEs.cP (SemE.gint (Stands.glo hC (by kernel_rfl) (by rw [hK]; exact glo_READS _))) (SemEs.cP (SemE.item (SemE.loc 0 (by kernel_rfl)) SemE.int) SemEs.nil))) (SemEs.cP (SemE.tup (SemEs.cP (SemE.gint (Stands.glo hC (by kernel_rfl) (by rw [hK]; exact glo_WRITES _))) (SemEs.cP (SemE.item (SemE.loc 0 (by kernel_rfl)) SemE.int) SemEs.nil))) SemEs.nil)))) SemS.nil) SemS.nil)) ?_
    refine SemS.cons (show SemS1 _ _ _ _ r_operand_roles_10 from (SemS1.ite (SemT.bool (SemTs.or (SemT.cmp (SemE.loc 1 (by kernel_rfl)) (SemE.str (by kernel_rfl)) Op2.eq) (SemTs.or (SemT.cmp (SemE.loc 1 (by kernel_rfl)) (SemE.str (by kernel_rfl)) Op2.eq) SemTs.or_nil))) (SemS.cons (SemS1.ret (SemE.list (SemEs.cP (SemE.tup (SemEs.cP (SemE.gint (Stands.glo hC (by kernel_rfl) (by rw [hK]; exact glo_WRITES _))) (SemEs.cP (SemE.item (SemE.loc 0 (by kernel_rfl)) SemE.int) SemEs.nil))) SemEs.nil))) SemS.nil) SemS.nil)) ?_
    refine SemS.cons (show SemS1 _ _ _ _ r_operand_roles_11 from (SemS1.ite (SemT.bool (SemTs.or (SemT.cmp (SemE.loc 1 (by kernel_rfl)) (SemE.str (by kernel_rfl)) Op2.eq) (SemTs.or (SemT.cmp (SemE.loc 1 (by kernel_rfl)) (SemE.str (by kernel_rfl)) Op2.eq) SemTs.or_nil))) (SemS.cons (SemS1.ret (SemE.list (SemEs.cP (SemE.tup (SemEs.cP (SemE.gint (Stands.glo hC (by kernel_rfl) (by rw [hK]; exact glo_WRITES _))) (SemEs.cP (SemE.item (SemE.loc 0 (by kernel_rfl)) SemE.int) SemEs.nil))) SemEs.nil))) SemS.nil) SemS.nil)) ?_
    refine SemS.cons (show SemS1 _ _ _ _ r_operand_roles_12 from (SemS1.ite (SemT.bool (SemTs.or (SemT.cmp (SemE.loc 1 (by kernel_rfl)) (SemE.str (by kernel_rfl)) Op2.eq) (SemTs.or (SemT.cmp (SemE.loc 1 (by kernel_rfl)) (SemE.str (by kernel_rfl)) Op2.eq) SemTs.or_nil))) (SemS.cons (SemS1.ret (SemE.list (SemEs.cP (SemE.tup (SemEs.cP (SemE.gint (Stands.glo hC (by kernel_rfl) (by rw [hK]; exact glo_WRITES _))) (SemEs.cP (SemE.item (SemE.loc 0 (by kernel_rfl)) SemE.int) SemEs.nil))) SemEs.nil))) SemS.nil) SemS.nil)) ?_
    refine SemS.cons (show SemS1 _ _ _ _ r_operand_roles_13 from (SemS1.ite (SemT.cmp (SemE.loc 1 (by kernel_rfl)) (SemE.str (by kernel_rfl)) Op2.eq) (SemS.cons (SemS1.ret (SemE.list (SemEs.cP (SemE.tup (SemEs.cP (SemE.gint (Stands.glo hC (by kernel_rfl) (by rw [hK]; exact glo_READS _))) (SemEs.cP (SemE.item (SemE.loc 0 (by kernel_rfl)) SemE.int) SemEs.nil))) SemEs.nil))) SemS.nil) SemS.nil)) ?_
    refine SemS.cons (show SemS1 _ _ _ _ r_operand_roles_14 from (SemS1.ret (SemE.list SemEs.nil))) ?_
    exact SemS.nil
theorem s_ends_arguments (hC : C.Ok) (hK : C.K = hd2.heap_1 par) (La : Lam C 284 288) : SemF C 1 (.ref 193) g_ends_arguments := by
  refine' SemF.of_def (n := 0) hC (r := r_ends_arguments) (m := 1) (ps := [Str.ofString "instruction"]) ?o ?c ?b ?p ?n ?l ?h (hco := ?y1) (hgen := ?y2) (hk := ?y3) (hcell := ?x)
  case o => rw [hK]; k_is
  case c => rw [hK]; k_is
  case b => exact fun s => lens1 (by intros; exact BindsTo.of_eq rfl)
  case y1 => rfl
  case y2 => rfl
  case y3 => rfl
  case p => decide +kernel
  case n => decide +kernel
  case l => decide +kernel
  case x => decide +kernel
  case h =>
    refine SemS.cons (show SemS1 _ _ _ _ r_ends_arguments_0 from (SemS1.assign 1 (by kernel_rfl) (SemE.item (SemE.loc 0 (by kernel_rfl)) SemE.int))) ?_
    refine SemS.cons (show SemS1 _ _ _ _ r_ends_arguments_1 from (SemS1.ret (SemE.or (SemE.cmp (SemE.loc 1 (by kernel_rfl)) (SemE.str (by kernel_rfl)) Op2.eq) (SemE.or (SemE.cmp (SemE.loc 1 (by kernel_rfl)) (SemE.str (by kernel_rfl)) Op2.eq) (SemE.bool1 (SemE.cmp (SemE.loc 1 (by kernel_rfl)) (SemE.str (by kernel_rfl)) Op2.eq)))))) ?_
    exact SemS.nil
theorem s_Occupation___init (hC : C.Ok) (hK : C.K = hd2.heap_1 par) (La : Lam C 284 288) : SemF C 1 (.ref 207) g_Occupation___init := by
  refine' SemF.of_def (n := 0) hC (r := r_Occupation___init) (m := 0) (ps := [Str.ofString "self", Str.ofString "kind", Str.ofString "number", Str.ofString "start", Str.ofString "stop"]) ?o ?c ?b ?p ?n ?l ?h (hco := ?y1) (hgen := ?y2) (hk := ?y3) (hcell := ?x)
  case o => rw [hK]; k_is
  case c => rw [hK]; k_is
  case b => exact fun s => lens5 (by intros; exact BindsTo.of_eq rfl)
  case y1 => rfl
  case y2 => rfl
  case y3 => rfl
  case p => decide +kernel
  case n => decide +kernel
  case l => decide +kernel
  case x => decide +kernel
  case h =>
    refine SemS.cons (show SemS1 _ _ _ _ r_Occupation___init_0 from (SemS1.setAttr hC (cls_Occupation hK) (by rw [hK, na_Occupation_kind]; rfl) (tl_kind par) (SemE.loc 1 (by kernel_rfl)) (SemE.loc 0 (by kernel_rfl)))) ?_
    refine SemS.cons (show SemS1 _ _ _ _ r_Occupation___init_1 from (SemS1.setAttr hC (cls_Occupation hK) (by rw [hK, na_Occupation_number]; rfl) (tl_number par) (SemE.loc 2 (by kernel_rfl)) (SemE.loc 0 (by kernel_rfl)))) ?_
    refine SemS.cons (show SemS1 _ _ _ _ r_Occupation___init_2 from (SemS1.setAttr hC (cls_Occupation hK) (by rw [hK, na_Occupation_start]; rfl) (tl_start par) (SemE.loc 3 (by kernel_rfl)) (SemE.loc 0 (by kernel_rfl)))) ?_
    refine SemS.cons (show SemS1 _ _ _ _ r_Occupation___init_3 from (SemS1.setAttr hC (cls_Occupation hK) (by rw [hK, na_Occupation_stop]; rfl) (tl_stop par) (SemE.loc 4 (by kernel_rfl)) (SemE.loc 0 (by kernel_rfl)))) ?_
    exact SemS.nil
theorem s_Occupation_overlaps (hC : C.Ok) (hK : C.K = hd2.heap_1 par) (La : Lam C 284 288) : SemF C 1 (.ref 214) g_Occupation_overlaps := by
  refine' SemF.of_def (n := 0) hC (r := r_Occupation_overlaps) (m := 0) (ps := [Str.ofString "self", Str.ofString "other"]) ?o ?c ?b ?p ?n ?l ?h (hco := ?y1) (hgen := ?y2) (hk := ?y3) (hcell := ?x)
  case o => rw [hK]; k_is
  case c => rw [hK]; k_is
  case b => exact fun s => lens2 (by intros; exact BindsTo.of_eq rfl)
  case y1 => rfl
  case y2 => rfl
  case y3 => rfl
  case p => decide +kernel
  case n => decide +kernel
  case l => decide +kernel
  case x => decide +kernel
  case h =>
    refine SemS.cons (show SemS1 _ _ _ _ r_Occupation_overlaps_0 from (SemS1.ret (SemE.and (SemE.cmp (SemE.attr (SemE.loc 0 (by kernel_rfl)) (Op1.attr hC (cls_Occupation hK) (by rw [hK, na_Occupation_start]; rfl) (tl_start par))) (SemE.attr (SemE.loc 1 (by kernel_rfl)) (Op1.attr hC (cls_Occupation hK) (by rw [hK, na_Occupation_stop]; rfl) (tl_stop par))) Op2.lt) (SemE.bool1 (SemE.cmp (SemE.attr (SemE.loc 1 (by kernel_rfl)) (Op1.attr hC (cls_Occupation hK) (by rw [hK, na_Occupation_start]; rfl) (tl_start par))) (SemE.attr (SemE.loc 0 (by kernel_rfl)) (Op1.attr hC (cls_Occupation hK) (by rw [hK, na_Occupation_stop]; rfl) (tl_stop par))) Op2.lt))))) ?_
    exact SemS.nil
theorem s_intervals (hC : C.Ok) (hK : C.K = hd2.heap_1 par) (La : Lam C 284 288) : SemF C 3 (.ref 226) g_intervals := by
  refine' SemF.of_def (n := 2) hC (r := r_intervals) (m := 9) (ps := [Str.ofString "instrs", Str.ofString "arity"]) ?o ?c ?b ?p ?n ?l ?h (hco := ?y1) (hgen := ?y2) (hk := ?y3) (hcell := ?x)
  case o => rw [hK]; k_is
  case c => rw [hK]; k_is
  case b => exact fun s => lens2 (by intros; exact BindsTo.of_eq rfl)
  case y1 => rfl
  case y2 => rfl
  case y3 => rfl
  case p => decide +kernel
  case n => decide +kernel
  case l => decide +kernel
  case x => decide +kernel
  case h =>
    refine SemS.cons (show SemS1 _ _ _ _ r_intervals_0 from (SemS1.assign 2 (by kernel_rfl) (SemE.list SemEs.nil))) ?_
    refine SemS.cons (show SemS1 _ _ _ _ r_intervals_1 from (SemS1.assign 3 (by kernel_rfl) (SemE.dictI hC))) ?_
    refine SemS.cons (show SemS1 _ _ _ _ r_intervals_2 from (SemS1.assign 4 (by kernel_rfl) SemE.int)) ?_
    refine SemS.cons (show SemS1 _ _ _ _ r_intervals_3 from (SemS1.while 200 (SemT.cmp (SemE.loc 4 (by kernel_rfl)) (SemE.loc 1 (by kernel_rfl)) Op2.le) (SemS.cons (SemS1.setItem (SemE.call hC (Stands.glo hC (by kernel_rfl) (by rw [hK]; exact glo_Occupation _)) (Keepable.ref (by rw [hK]; exact keep_217 _)) (SemEs.cP (SemE.str (by kernel_rfl)) (SemEs.cP (SemE.loc 4 (by kernel_rfl)) (SemEs.cP (SemE.neg SemE.int) (SemEs.cP (SemE.neg SemE.int) SemEs.nil)))) (SemF.up (SemF.newF hC (cls_Occupation hK) (by rw [hK, me_Occupation_init]; rfl) (by rw [hK]; exact fo_207 _) (s_Occupation___init hC hK La)) (by decide))) (SemE.loc 3 (by kernel_rfl)) (SemE.loc 4 (by kernel_rfl))) (SemS.cons (SemS1.expr (SemE.bmeth hC PySem.F.plainAttrs_list PySem.F.slot_list_append (by rfl) (SemE.loc 2 (by kernel_rfl)) (SemEs.cP (SemE.item (SemE.loc 3 (by kernel_rfl)) (SemE.loc 4 (by kernel_rfl))) SemEs.nil) SemF.append)) (SemS.cons (SemS1.augName 4 (by kernel_rfl) SemE.int Op2.iadd) SemS.nil))))) ?_
    refine SemS.cons (show SemS1 _ _ _ _ r_intervals_4 from (SemS1.assign 5 (by kernel_rfl) (SemE.dictI hC))) ?_
    refine SemS.cons (show SemS1 _ _ _ _ r_intervals_5 from (SemS1.assign 6 (by kernel_rfl) (SemE.dictI hC))) ?_
    refine SemS.cons (show SemS1 _ _ _ _ r_intervals_6 from (SemS1.assign 7 (by kernel_rfl) SemE.int)) ?_
    refine SemS.cons (show SemS1 _ _ _ _ r_intervals_7 from (SemS1.for (SemIt.of hC (SemE.loc 0 (by kernel_rfl))) (SemA.name 8 (by kernel_rfl)) (SemS.cons (SemS1.ite (SemT.plain (SemE.call hC (Stands.glo hC (by kernel_rfl) (by rw [hK]; exact glo_ends_arguments _)) (Keepable.ref (by rw [hK]; exact keep_193 _)) (SemEs.cP (SemE.loc 8 (by kernel_rfl)) SemEs.nil) (SemF.up (s_ends_arguments hC hK La) (by decide)))) (SemS.cons (SemS1.for (SemIt.of hC (SemE.loc 5 (by kernel_rfl))) (SemA.name 4 (by kernel_rfl)) (SemS.cons (SemS1.setAttr hC (cls_Occupation hK) (by rw [hK, na_Occupation_stop]; rfl) (tl_stop par) (SemE.loc 7 (by kernel_rfl)) (SemE.item (SemE.loc 5 (by kernel_rfl)) (SemE.loc 4 (by kernel_rfl)))) SemS.nil)) (SemS.cons (SemS1.assign 5 (by kernel_rfl) (SemE.dictI hC)) SemS.nil)) SemS.nil) (SemS.cons (SemS1.for (SemIt.of hC (SemE.call hC (Stands.glo hC (by kernel_rfl) (by rw [hK]; exact glo_operand_roles _)) (Keepable.ref (by rw [hK]; exact keep_186 _)) (SemEs.cP (SemE.loc 8 (by kernel_rfl)) SemEs.nil) (SemF.up (s_operand_roles hC hK La) (by decide)))) (SemA.pair 9 10 (by kernel_rfl) (by kernel_rfl)) (SemS.cons (SemS1.assign 4 (by kernel_rfl) (SemE.item (SemE.loc 10 (by kernel_rfl)) SemE.int)) (SemS.cons (SemS1.ite (SemT.cmp (SemE.item (SemE.loc 10 (by kernel_rfl)) SemE.int) (SemE.str (by kernel_rfl)) Op2.eq) (SemS.cons (SemS1.ite (SemT.cmp (SemE.loc 4 (by kernel_rfl)) (SemE.loc 6 (by kernel_rfl)) Op2.notIn) (SemS.cons (SemS1.setItem (SemE.call hC (Stands.glo hC (by kernel_rfl) (by rw [hK]; exact glo_Occupation _)) (Keepable.ref (by rw [hK]; exact keep_217 _)) (SemEs.cP (SemE.str (by kernel_rfl)) (SemEs.cP (SemE.loc 4 (by kernel_rfl)) (SemEs.cP (SemE.loc 7 (by kernel_rfl)) (SemEs.cP (SemE.bin (SemE.loc 7 (by kernel_rfl)) SemE.int Op2.add) SemEs.nil)))) (SemF.up (SemF.newF hC (cls_Occupation hK) (by rw [hK, me_Occupation_init]; rfl) (by rw [hK]; exact fo_207 _) (s_Occupation___init hC hK La)) (by decide))) (SemE.loc 6 (by kernel_rfl)) (SemE.loc 4 (by kernel_rfl))) (SemS.cons (SemS1.expr (SemE.bmeth hC PySem.F.plainAttrs_list PySem.F.slot_list_append (by rfl) (SemE.loc 2 (by kernel_rfl)) (SemEs.cP (SemE.item (SemE.loc 6 (by kernel_rfl)) (SemE.loc 4 (by kernel_rfl))) SemEs.nil) SemF.append)) SemS.nil)) (SemS.cons (SemS1.ite (SemT.cmp (SemE.loc 7 (by kernel_rfl)) (SemE.attr (SemE.item (SemE.loc 6 (by kernel_rfl)) (SemE.loc 4 (by kernel_rfl))) (Op1.attr hC (cls_Occupation hK) (by rw [hK, na_Occupation_stop]; rfl) (tl_stop par))) Op2.gt) (SemS.cons (SemS1.setAttr hC (cls_Occupation hK) (by rw [hK, na_Occupation_stop]; rfl) (tl_stop par) (SemE.loc 7 (by kernel_rfl)) (SemE.item (SemE.loc 6 (by kernel_rfl)) (SemE.loc 4 (by kernel_rfl)))) SemS.nil) SemS.nil) SemS.nil)) SemS.nil) (SemS.cons (SemS1.ite (SemT.bool (SemTs.and (SemT.cmp (SemE.item (SemE.loc 10 (by kernel_rfl)) SemE.int) (SemE.str (by kernel_rfl)) Op2.eq) (SemTs.and (SemT.cmp (SemE.loc 9 (by kernel_rfl)) (SemE.gint (Stands.glo hC (by kernel_rfl) (by rw [hK]; exact glo_WRITES _))) Op2.eq) SemTs.and_nil))) (SemS.cons (SemS1.setItem (SemE.call hC (Stands.glo hC (by kernel_rfl) (by rw [hK]; exact glo_Occupation _)) (Keepable.ref (by rw [hK]; exact keep_217 _)) (SemEs.cP (SemE.str (by kernel_rfl)) (SemEs.cP (SemE.loc 4 (by kernel_rfl)) (SemEs.cP (SemE.loc 7 (by kernel_rfl)) (SemEs.cP (SemE.bin (SemE.loc 7 (by kernel_rfl)) SemE.int Op2.add) SemEs.nil)))) (SemF.up (SemF.newF hC (cls_Occupation hK) (by rw [hK, me_Occupation_init]; rfl) (by rw [hK]; exact fo_207 _) (s_Occupation___init hC hK La)) (by decide))) (SemE.loc 5 (by kernel_rfl)) (SemE.loc 4 (by kernel_rfl))) (SemS.cons (SemS1.expr (SemE.bmeth hC PySem.F.plainAttrs_list PySem.F.slot_list_append (by rfl) (SemE.loc 2 (by kernel_rfl)) (SemEs.cP (SemE.item (SemE.loc 5 (by kernel_rfl)) (SemE.loc 4 (by kernel_rfl))) SemEs.nil) SemF.append)) SemS.nil)) (SemS.cons (SemS1.ite (SemT.cmp (SemE.item (SemE.loc 10 (by kernel_rfl)) SemE.int) (SemE.str (by kernel_rfl)) Op2.eq) (SemS.cons (SemS1.setAttr hC (cls_Occupation hK) (by rw [hK, na_Occupation_stop]; rfl) (tl_stop par) (SemE.loc 7 (by kernel_rfl)) (SemE.item (SemE.loc 3 (by kernel_rfl)) (SemE.loc 4 (by kernel_rfl)))) SemS.nil) SemS.nil) SemS.nil)) SemS.nil)) SemS.nil))) (SemS.cons (SemS1.augName 7 (by kernel_rfl) SemE.int Op2.iadd) SemS.nil))))) ?_
    refine SemS.cons (show SemS1 _ _ _ _ r_intervals_8 from (SemS1.ret (comp_none (by kernel_rfl) (by kernel_rfl) (by kernel_rfl) rfl (SemIt.of hC (SemE.loc 2 (by kernel_rfl))) (fun L => by kernel_rfl) (fun L => by kernel_rfl) (fun L => (SemIfs.one (SemT.cmp (SemE.attr (SemE.loc 1 (by kernel_rfl)) (Op1.attr hC (cls_Occupation hK) (by rw [hK, na_Occupation_stop]; rfl) (tl_stop par))) (SemE.attr (SemE.loc 1 (by kernel_rfl)) (Op1.attr hC (cls_Occupation hK) (by rw [hK, na_Occupation_start]; rfl) (tl_start par))) Op2.gt))) (fun L => (SemE.loc 1 (by kernel_rfl)))))) ?_
    exact SemS.nil
theorem s_wishes (hC : C.Ok) (hK : C.K = hd2.heap_1 par) (La : Lam C 284 288) : SemF C 1 (.ref 233) g_wishes := by
  refine' SemF.of_def (n := 0) hC (r := r_wishes) (m := 5) (ps := [Str.ofString "instrs"]) ?o ?c ?b ?p ?n ?l ?h (hco := ?y1) (hgen := ?y2) (hk := ?y3) (hcell := ?x)
  case o => rw [hK]; k_is
  case c => rw [hK]; k_is
  case b => exact fun s => lens1 (by intros; exact BindsTo.of_eq rfl)
  case y1 => rfl
  case y2 => rfl
  case y3 => rfl
  case p => decide +kernel
  case n => decide +kernel
  case l => decide +kernel
  case x => decide +kernel
  case h =>
    refine SemS.cons (show SemS1 _ _ _ _ r_wishes_0 from (SemS1.assign 1 (by kernel_rfl) (SemE.dictI hC))) ?_
    refine SemS.cons (show SemS1 _ _ _ _ r_wishes_1 from (SemS1.for (SemIt.of hC (SemE.loc 0 (by kernel_rfl))) (SemA.name 2 (by kernel_rfl)) (SemS.cons (SemS1.assign 3 (by kernel_rfl) (SemE.item (SemE.loc 2 (by kernel_rfl)) SemE.int)) (SemS.cons (SemS1.ite (SemT.cmp (SemE.loc 3 (by kernel_rfl)) (SemE.str (by kernel_rfl)) Op2.eq) (SemS.cons (SemS1.pair 4 5 (by kernel_rfl) (by kernel_rfl) (SemE.item (SemE.loc 2 (by kernel_rfl)) SemE.int) (SemE.item (SemE.loc 2 (by kernel_rfl)) SemE.int)) SemS.nil) (SemS.cons (SemS1.ite (SemT.cmp (SemE.loc 3 (by kernel_rfl)) (SemE.str (by kernel_rfl)) Op2.eq) (SemS.cons (SemS1.pair 5 4 (by kernel_rfl) (by kernel_rfl) (SemE.item (SemE.loc 2 (by kernel_rfl)) SemE.int) (SemE.item (SemE.loc 2 (by kernel_rfl)) SemE.int)) SemS.nil) (SemS.cons SemS1.continue SemS.nil)) SemS.nil)) (SemS.cons (SemS1.ite (SemT.bool (SemTs.or (SemT.cmp (SemE.item (SemE.loc 5 (by kernel_rfl)) SemE.int) (SemE.str (by kernel_rfl)) Op2.eq) (SemTs.or (SemT.cmp (SemE.item (SemE.loc 4 (by kernel_rfl)) SemE.int) (SemE.str (by kernel_rfl)) Op2.eq) SemTs.or_nil))) (SemS.cons SemS1.continue SemS.nil) SemS.nil) (SemS.cons (SemS1.ite (SemT.cmp (SemE.item (SemE.loc 4 (by kernel_rfl)) SemE.int) (SemE.str (by kernel_rfl)) Op2.eq) (SemS.cons (SemS1.expr (SemE.bmeth hC PySem.F.plainAttrs_list PySem.F.slot_list_append (by rfl) (SemE.bmeth hC PySem.F.plainAttrs_dict PySem.F.slot_dict_setdefault (by rfl) (SemE.loc 1 (by kernel_rfl)) (SemEs.cP (SemE.item (SemE.loc 4 (by kernel_rfl)) SemE.int) (SemEs.cP (SemE.list SemEs.nil) SemEs.nil)) SemF.setdefault) (SemEs.cP (SemE.loc 5 (by kernel_rfl)) SemEs.nil) SemF.append)) SemS.nil) SemS.nil) (SemS.cons (SemS1.ite (SemT.cmp (SemE.item (SemE.loc 5 (by kernel_rfl)) SemE.int) (SemE.str (by kernel_rfl)) Op2.eq) (SemS.cons (SemS1.expr (SemE.bmeth hC PySem.F.plainAttrs_list PySem.F.slot_list_append (by rfl) (SemE.bmeth hC PySem.F.plainAttrs_dict PySem.F.slot_dict_setdefault (by rfl) (SemE.loc 1 (by kernel_rfl)) (SemEs.cP (SemE.item (SemE.loc 5 (by kernel_rfl)) SemE.int) (SemEs.cP (SemE.list SemEs.nil) SemEs.nil)) SemF.setdefault) (SemEs.cP (SemE.loc 4 (by kernel_rfl)) SemEs.nil) SemF.append)) SemS.nil) SemS.nil) SemS.nil))))))) ?_
    refine SemS.cons (show SemS1 _ _ _ _ r_wishes_2 from (SemS1.ret (SemE.loc 1 (by kernel_rfl)))) ?_
    exact SemS.nil
theorem s_RegisterFile___init (hC : C.Ok) (hK : C.K = hd2.heap_1 par) (La : Lam C 284 288) : SemF C 1 (.ref 247) g_RegisterFile___init := by
  refine' SemF.of_def (n := 0) hC (r := r_RegisterFile___init) (m := 0) (ps := [Str.ofString "self"]) ?o ?c ?b ?p ?n ?l ?h (hco := ?y1) (hgen := ?y2) (hk := ?y3) (hcell := ?x)
  case o => rw [hK]; k_is
  case c => rw [hK]; k_is
  case b => exact fun s => lens1 (by intros; exact BindsTo.of_eq rfl)
  case y1 => rfl
  case y2 => rfl
  case y3 => rfl
  case p => decide +kernel
  case n => decide +kernel
  case l => decide +kernel
  case x => decide +kernel
  case h =>
    refine SemS.cons (show SemS1 _ _ _ _ r_RegisterFile___init_0 from (SemS1.setAttr hC (cls_RegisterFile hK) (by rw [hK, na_RegisterFile_taken]; rfl) (tl_taken par) (SemE.dictI hC) (SemE.loc 0 (by kernel_rfl)))) ?_
    refine SemS.cons (show SemS1 _ _ _ _ r_RegisterFile___init_1 from (SemS1.setAttr hC (cls_RegisterFile hK) (by rw [hK, na_RegisterFile_home]; rfl) (tl_home par) (SemE.dictI hC) (SemE.loc 0 (by kernel_rfl)))) ?_
    exact SemS.nil
theorem s_RegisterFile_occupy (hC : C.Ok) (hK : C.K = hd2.heap_1 par) (La : Lam C 284 288) : SemF C 1 (.ref 254) g_RegisterFile_occupy := by
  refine' SemF.of_def (n := 0) hC (r := r_RegisterFile_occupy) (m := 0) (ps := [Str.ofString "self", Str.ofString "register", Str.ofString "occupation"]) ?o ?c ?b ?p ?n ?l ?h (hco := ?y1) (hgen := ?y2) (hk := ?y3) (hcell := ?x)
  case o => rw [hK]; k_is
  case c => rw [hK]; k_is
  case b => exact fun s => lens3 (by intros; exact BindsTo.of_eq rfl)
  case y1 => rfl
  case y2 => rfl
  case y3 => rfl
  case p => decide +kernel
  case n => decide +kernel
  case l => decide +kernel
  case x => decide +kernel
  case h =>
    refine SemS.cons (show SemS1 _ _ _ _ r_RegisterFile_occupy_0 from (SemS1.expr (SemE.bmeth hC PySem.F.plainAttrs_list PySem.F.slot_list_append (by rfl) (SemE.bmeth hC PySem.F.plainAttrs_dict PySem.F.slot_dict_setdefault (by rfl) (SemE.attr (SemE.loc 0 (by kernel_rfl)) (Op1.attr hC (cls_RegisterFile hK) (by rw [hK, na_RegisterFile_taken]; rfl) (tl_taken par))) (SemEs.cP (SemE.loc 1 (by kernel_rfl)) (SemEs.cP (SemE.list SemEs.nil) SemEs.nil)) SemF.setdefault) (SemEs.cP (SemE.loc 2 (by kernel_rfl)) SemEs.nil) SemF.append))) ?_
    exact SemS.nil
theorem s_RegisterFile_is_free (hC : C.Ok) (hK : C.K = hd2.heap_1 par) (La : Lam C 284 288) : SemF C 2 (.ref 261) g_RegisterFile_is_free := by
  refine' SemF.of_def (n := 1) hC (r := r_RegisterFile_is_free) (m := 1) (ps := [Str.ofString "self", Str.ofString "register", Str.ofString "occupation"]) ?o ?c ?b ?p ?n ?l ?h (hco := ?y1) (hgen := ?y2) (hk := ?y3) (hcell := ?x)
  case o => rw [hK]; k_is
  case c => rw [hK]; k_is
  case b => exact fun s => lens3 (by intros; exact BindsTo.of_eq rfl)
  case y1 => rfl
  case y2 => rfl
  case y3 => rfl
  case p => decide +kernel
  case n => decide +kernel
  case l => decide +kernel
  case x => decide +kernel
  case h =>
    refine SemS.cons (show SemS1 _ _ _ _ r_RegisterFile_is_free_0 from (SemS1.for (SemIt.of hC (SemE.bmeth hC PySem.F.plainAttrs_dict PySem.F.slot_dict_get (by rfl) (SemE.attr (SemE.loc 0 (by kernel_rfl)) (Op1.attr hC (cls_RegisterFile hK) (by rw [hK, na_RegisterFile_taken]; rfl) (tl_taken par))) (SemEs.cP (SemE.loc 1 (by kernel_rfl)) (SemEs.cP (SemE.list SemEs.nil) SemEs.nil)) SemF.get)) (SemA.name 3 (by kernel_rfl)) (SemS.cons (SemS1.ite (SemT.plain (SemE.methF hC (cls_Occupation hK) (by rw [hK, me_Occupation_overlaps]; rfl) (by rw [hK]; exact fo_214 _) ⟨_, (tl_overlaps par)⟩ (by rw [hK]; exact keep_214 _) (SemE.loc 2 (by kernel_rfl)) (SemEs.cP (SemE.loc 3 (by kernel_rfl)) SemEs.nil) (SemF.up (s_Occupation_overlaps hC hK La) (by decide)))) (SemS.cons (SemS1.ret SemE.bool) SemS.nil) SemS.nil) SemS.nil))) ?_
    refine SemS.cons (show SemS1 _ _ _ _ r_RegisterFile_is_free_1 from (SemS1.ret SemE.bool)) ?_
    exact SemS.nil
theorem s_RegisterFile_wished (hC : C.Ok) (hK : C.K = hd2.heap_1 par) (La : Lam C 284 288) : SemF C 3 (.ref 268) g_RegisterFile_wished := by
  refine' SemF.of_def (n := 2) hC (r := r_RegisterFile_wished) (m := 2) (ps := [Str.ofString "self", Str.ofString "occupation", Str.ofString "operands"]) ?o ?c ?b ?p ?n ?l ?h (hco := ?y1) (hgen := ?y2) (hk := ?y3) (hcell := ?x)
  case o => rw [hK]; k_is
  case c => rw [hK]; k_is
  case b => exact fun s => lens3 (by intros; exact BindsTo.of_eq rfl)
  case y1 => rfl
  case y2 => rfl
  case y3 => rfl
  case p => decide +kernel
  case n => decide +kernel
  case l => decide +kernel
  case x => decide +kernel
  case h =>
    refine SemS.cons (show SemS1 _ _ _ _ r_RegisterFile_wished_0 from (SemS1.for (SemIt.of hC (SemE.loc 2 (by kernel_rfl))) (SemA.name 3 (by kernel_rfl)) (SemS.cons (SemS1.assign 4 (by kernel_rfl) (SemE.item (SemE.loc 3 (by kernel_rfl)) SemE.int)) (SemS.cons (SemS1.ite (SemT.cmp (SemE.item (SemE.loc 3 (by kernel_rfl)) SemE.int) (SemE.str (by kernel_rfl)) Op2.eq) (SemS.cons (SemS1.assign 4 (by kernel_rfl) (SemE.bmeth hC PySem.F.plainAttrs_dict PySem.F.slot_dict_get (by rfl) (SemE.attr (SemE.loc 0 (by kernel_rfl)) (Op1.attr hC (cls_RegisterFile hK) (by rw [hK, na_RegisterFile_home]; rfl) (tl_home par))) (SemEs.cP (SemE.item (SemE.loc 3 (by kernel_rfl)) SemE.int) (SemEs.cP SemE.int SemEs.nil)) SemF.get)) SemS.nil) SemS.nil) (SemS.cons (SemS1.ite (SemT.bool (SemTs.and (SemT.cmp (SemE.loc 4 (by kernel_rfl)) SemE.int Op2.gt) (SemTs.and (SemT.plain (SemE.methF hC (cls_RegisterFile hK) (by rw [hK, me_RegisterFile_is_free]; rfl) (by rw [hK]; exact fo_261 _) ⟨_, (tl_is_free par)⟩ (by rw [hK]; exact keep_261 _) (SemE.loc 0 (by kernel_rfl)) (SemEs.cP (SemE.loc 4 (by kernel_rfl)) (SemEs.cP (SemE.loc 1 (by kernel_rfl)) SemEs.nil)) (SemF.up (s_RegisterFile_is_free hC hK La) (by decide)))) SemTs.and_nil))) (SemS.cons (SemS1.ret (SemE.loc 4 (by kernel_rfl))) SemS.nil) SemS.nil) SemS.nil))))) ?_
    refine SemS.cons (show SemS1 _ _ _ _ r_RegisterFile_wished_1 from (SemS1.ret SemE.int)) ?_
    exact SemS.nil
theorem s_RegisterFile_place (hC : C.Ok) (hK : C.K = hd2.heap_1 par) (La : Lam C 284 288) : SemF C 4 (.ref 275) g_RegisterFile_place := by
  refine' SemF.of_def (n := 3) hC (r := r_RegisterFile_place) (m := 1) (ps := [Str.ofString "self", Str.ofString "occupation", Str.ofString "operands"]) ?o ?c ?b ?p ?n ?l ?h (hco := ?y1) (hgen := ?y2) (hk := ?y3) (hcell := ?x)
  case o => rw [hK]; k_is
  case c => rw [hK]; k_is
  case b => exact fun s => lens3 (by intros; exact BindsTo.of_eq rfl)
  case y1 => rfl
  case y2 => rfl
  case y3 => rfl
  case p => decide +kernel
  case n => decide +kernel
  case l => decide +kernel
  case x => decide +kernel
  case h =>
    refine SemS.cons (show SemS1 _ _ _ _ r_RegisterFile_place_0 from (SemS1.assign 3 (by kernel_rfl) (SemE.methF hC (cls_RegisterFile hK) (by rw [hK, me_RegisterFile_wished]; rfl) (by rw [hK]; exact fo_268 _) ⟨_, (tl_wished par)⟩ (by rw [hK]; exact keep_268 _) (SemE.loc 0 (by kernel_rfl)) (SemEs.cP (SemE.loc 1 (by kernel_rfl)) (SemEs.cP (SemE.loc 2 (by kernel_rfl)) SemEs.nil)) (SemF.up (s_RegisterFile_wished hC hK La) (by decide))))) ?_
    refine SemS.cons (show SemS1 _ _ _ _ r_RegisterFile_place_1 from (SemS1.ite (SemT.cmp (SemE.loc 3 (by kernel_rfl)) SemE.int Op2.eq) (SemS.cons (SemS1.assign 3 (by kernel_rfl) SemE.int) (SemS.cons (SemS1.while 200 (SemT.not (SemT.plain (SemE.methF hC (cls_RegisterFile hK) (by rw [hK, me_RegisterFile_is_free]; rfl) (by rw [hK]; exact fo_261 _) ⟨_, (tl_is_free par)⟩ (by rw [hK]; exact keep_261 _) (SemE.loc 0 (by kernel_rfl)) (SemEs.cP (SemE.loc 3 (by kernel_rfl)) (SemEs.cP (SemE.loc 1 (by kernel_rfl)) SemEs.nil)) (SemF.up (s_RegisterFile_is_free hC hK La) (by decide))))) (SemS.cons (SemS1.augName 3 (by kernel_rfl) SemE.int Op2.iadd) SemS.nil)) SemS.nil)) SemS.nil)) ?_
    refine SemS.cons (show SemS1 _ _ _ _ r_RegisterFile_place_2 from (SemS1.expr (SemE.methF hC (cls_RegisterFile hK) (by rw [hK, me_RegisterFile_occupy]; rfl) (by rw [hK]; exact fo_254 _) ⟨_, (tl_occupy par)⟩ (by rw [hK]; exact keep_254 _) (SemE.loc 0 (by kernel_rfl)) (SemEs.cP (SemE.loc 3 (by kernel_rfl)) (SemEs.cP (SemE.loc 1 (by kernel_rfl)) SemEs.nil)) (SemF.up (s_RegisterFile_occupy hC hK La) (by decide))))) ?_
    refine SemS.cons (show SemS1 _ _ _ _ r_RegisterFile_place_3 from (SemS1.setItem (SemE.loc 3 (by kernel_rfl)) (SemE.attr (SemE.loc 0 (by kernel_rfl)) (Op1.attr hC (cls_RegisterFile hK) (by rw [hK, na_RegisterFile_home]; rfl) (tl_home par))) (SemE.attr (SemE.loc 1 (by kernel_rfl)) (Op1.attr hC (cls_Occupation hK) (by rw [hK, na_Occupation_number]; rfl) (tl_number par))))) ?_
    exact SemS.nil
theorem s_by_start (hC : C.Ok) (hK : C.K = hd2.heap_1 par) (La : Lam C 284 288) : SemF C 4 (.ref 289) g_by_start := by
  refine' SemF.of_def (n := 3) hC (r := r_by_start) (m := 0) (ps := [Str.ofString "occupations"]) ?o ?c ?b ?p ?n ?l ?h (hco := ?y1) (hgen := ?y2) (hk := ?y3) (hcell := ?x)
  case o => rw [hK]; k_is
  case c => rw [hK]; k_is
  case b => exact fun s => lens1 (by intros; exact BindsTo.of_eq rfl)
  case y1 => rfl
  case y2 => rfl
  case y3 => rfl
  case p => decide +kernel
  case n => decide +kernel
  case l => decide +kernel
  case x => decide +kernel
  case h =>
    refine SemS.cons (r := rRet (rBS 284 217 208 35 "by_start.<locals>.<lambda>")) (q := rSkip) ?_ SemS.nil
    refine SemS1.ret ?_
    exact byStart_call (qf := "by_start") (q := "by_start.<locals>.<lambda>") hC La (cls_Occupation hK) (by rw [hK, na_Occupation_start]; rfl) (by rw [hK, na_Occupation_number]; rfl) (Stands.bi hC (by kernel_rfl) (by rw [hK]; exact glo_sorted _) (bb_sorted par) (by decide)) (by kernel_rfl) (by decide +kernel) rfl
theorem s_real_operand (hC : C.Ok) (hK : C.K = hd2.heap_1 par) (La : Lam C 284 288) : SemF C 1 (.ref 296) g_real_operand := by
  refine' SemF.of_def (n := 0) hC (r := r_real_operand) (m := 0) (ps := [Str.ofString "operand", Str.ofString "home"]) ?o ?c ?b ?p ?n ?l ?h (hco := ?y1) (hgen := ?y2) (hk := ?y3) (hcell := ?x)
  case o => rw [hK]; k_is
  case c => rw [hK]; k_is
  case b => exact fun s => lens2 (by intros; exact BindsTo.of_eq rfl)
  case y1 => rfl
  case y2 => rfl
  case y3 => rfl
  case p => decide +kernel
  case n => decide +kernel
  case l => decide +kernel
  case x => decide +kernel
  case h =>
    refine SemS.cons (show SemS1 _ _ _ _ r_real_operand_0 from (SemS1.ite (SemT.bool (SemTs.and (SemT.plain (SemE.isi hC (Stands.bi hC (by kernel_rfl) (by rw [hK]; exact glo_isinstance _) (bb_isinstance par) (by decide)) (Stands.bi hC (by kernel_rfl) (by rw [hK]; exact glo_tuple _) (bb_tuple par) (by decide)) (SemE.loc 0 (by kernel_rfl)) isi_tuple)) (SemTs.and (SemT.cmp (SemE.call hC (Stands.bi hC (by kernel_rfl) (by rw [hK]; exact glo_len _) (bb_len par) (by decide)) Keepable.builtin (SemEs.cP (SemE.loc 0 (by kernel_rfl)) SemEs.nil) SemF.len) SemE.int Op2.eq) SemTs.and_nil))) (SemS.cons (SemS1.ite (SemT.cmp (SemE.item (SemE.loc 0 (by kernel_rfl)) SemE.int) (SemE.str (by kernel_rfl)) Op2.eq) (SemS.cons (SemS1.ret (SemE.tup (SemEs.cP (SemE.str (by kernel_rfl)) (SemEs.cP (SemE.item (SemE.loc 1 (by kernel_rfl)) (SemE.item (SemE.loc 0 (by kernel_rfl)) SemE.int)) SemEs.nil)))) SemS.nil) SemS.nil) (SemS.cons (SemS1.ite (SemT.cmp (SemE.item (SemE.loc 0 (by kernel_rfl)) SemE.int) (SemE.str (by kernel_rfl)) Op2.eq) (SemS.cons (SemS1.ret (SemE.tup (SemEs.cP (SemE.str (by kernel_rfl)) (SemEs.cP (SemE.item (SemE.loc 0 (by kernel_rfl)) SemE.int) SemEs.nil)))) SemS.nil) SemS.nil) SemS.nil)) SemS.nil)) ?_
    refine SemS.cons (show SemS1 _ _ _ _ r_real_operand_1 from (SemS1.ret (SemE.loc 0 (by kernel_rfl)))) ?_
    exact SemS.nil
theorem s_greatest (hC : C.Ok) (hK : C.K = hd2.heap_1 par) (La : Lam C 284 288) : SemF C 2 (.ref 310) g_greatest := by
  refine' SemF.of_def (n := 1) hC (r := r_greatest) (m := 4) (ps := [Str.ofString "instrs"]) ?o ?c ?b ?p ?n ?l ?h (hco := ?y1) (hgen := ?y2) (hk := ?y3) (hcell := ?x)
  case o => rw [hK]; k_is
  case c => rw [hK]; k_is
  case b => exact fun s => lens1 (by intros; exact BindsTo.of_eq rfl)
  case y1 => rfl
  case y2 => rfl
  case y3 => rfl
  case p => decide +kernel
  case n => decide +kernel
  case l => decide +kernel
  case x => decide +kernel
  case h =>
    refine SemS.cons (show SemS1 _ _ _ _ r_greatest_0 from (SemS1.assign 1 (by kernel_rfl) SemE.int)) ?_
    refine SemS.cons (show SemS1 _ _ _ _ r_greatest_1 from (SemS1.for (SemIt.of hC (SemE.loc 0 (by kernel_rfl))) (SemA.name 2 (by kernel_rfl)) (SemS.cons (SemS1.for (SemIt.of hC (SemE.call hC (Stands.glo hC (by kernel_rfl) (by rw [hK]; exact glo_operand_roles _)) (Keepable.ref (by rw [hK]; exact keep_186 _)) (SemEs.cP (SemE.loc 2 (by kernel_rfl)) SemEs.nil) (SemF.up (s_operand_roles hC hK La) (by decide)))) (SemA.pair 3 4 (by kernel_rfl) (by kernel_rfl)) (SemS.cons (SemS1.ite (SemT.bool (SemTs.and (SemT.cmp (SemE.item (SemE.loc 4 (by kernel_rfl)) SemE.int) (SemE.str (by kernel_rfl)) Op2.eq) (SemTs.and (SemT.cmp (SemE.item (SemE.loc 4 (by kernel_rfl)) SemE.int) (SemE.loc 1 (by kernel_rfl)) Op2.gt) SemTs.and_nil))) (SemS.cons (SemS1.assign 1 (by kernel_rfl) (SemE.item (SemE.loc 4 (by kernel_rfl)) SemE.int)) SemS.nil) SemS.nil) SemS.nil)) SemS.nil))) ?_
    refine SemS.cons (show SemS1 _ _ _ _ r_greatest_2 from (SemS1.ret (SemE.loc 1 (by kernel_rfl)))) ?_
    exact SemS.nil
theorem s_allocate (hC : C.Ok) (hK : C.K = hd2.heap_1 par) (La : Lam C 284 288) : SemF C 5 (.ref 303) g_allocate := by
  refine' SemF.of_def (n := 4) hC (r := r_allocate) (m := 8) (ps := [Str.ofString "symbols", Str.ofString "instrs", Str.ofString "arity", Str.ofString "limit"]) ?o ?c ?b ?p ?n ?l ?h (hco := ?y1) (hgen := ?y2) (hk := ?y3) (hcell := ?x)
  case o => rw [hK]; k_is
  case c => rw [hK]; k_is
  case b => exact fun s => lens4 (by intros; exact BindsTo.of_eq rfl)
  case y1 => rfl
  case y2 => rfl
  case y3 => rfl
  case p => decide +kernel
  case n => decide +kernel
  case l => decide +kernel
  case x => decide +kernel
  case h =>
    refine SemS.cons (show SemS1 _ _ _ _ r_allocate_0 from (SemS1.assign 4 (by kernel_rfl) (SemE.call hC (Stands.glo hC (by kernel_rfl) (by rw [hK]; exact glo_RegisterFile _)) (Keepable.ref (by rw [hK]; exact keep_278 _)) SemEs.nil (SemF.up (SemF.newF hC (cls_RegisterFile hK) (by rw [hK, me_RegisterFile_init]; rfl) (by rw [hK]; exact fo_247 _) (s_RegisterFile___init hC hK La)) (by decide))))) ?_
    refine SemS.cons (show SemS1 _ _ _ _ r_allocate_1 from (SemS1.assign 5 (by kernel_rfl) (SemE.list SemEs.nil))) ?_
    refine SemS.cons (show SemS1 _ _ _ _ r_allocate_2 from (SemS1.for (SemIt.of hC (SemE.call hC (Stands.glo hC (by kernel_rfl) (by rw [hK]; exact glo_intervals _)) (Keepable.ref (by rw [hK]; exact keep_226 _)) (SemEs.cP (SemE.loc 1 (by kernel_rfl)) (SemEs.cP (SemE.loc 2 (by kernel_rfl)) SemEs.nil)) (SemF.up (s_intervals hC hK La) (by decide)))) (SemA.name 6 (by kernel_rfl)) (SemS.cons (SemS1.ite (SemT.cmp (SemE.attr (SemE.loc 6 (by kernel_rfl)) (Op1.attr hC (cls_Occupation hK) (by rw [hK, na_Occupation_kind]; rfl) (tl_kind par))) (SemE.str (by kernel_rfl)) Op2.eq) (SemS.cons (SemS1.expr (SemE.bmeth hC PySem.F.plainAttrs_list PySem.F.slot_list_append (by rfl) (SemE.loc 5 (by kernel_rfl)) (SemEs.cP (SemE.loc 6 (by kernel_rfl)) SemEs.nil) SemF.append)) SemS.nil) (SemS.cons (SemS1.expr (SemE.methF hC (cls_RegisterFile hK) (by rw [hK, me_RegisterFile_occupy]; rfl) (by rw [hK]; exact fo_254 _) ⟨_, (tl_occupy par)⟩ (by rw [hK]; exact keep_254 _) (SemE.loc 4 (by kernel_rfl)) (SemEs.cP (SemE.attr (SemE.loc 6 (by kernel_rfl)) (Op1.attr hC (cls_Occupation hK) (by rw [hK, na_Occupation_number]; rfl) (tl_number par))) (SemEs.cP (SemE.loc 6 (by kernel_rfl)) SemEs.nil)) (SemF.up (s_RegisterFile_occupy hC hK La) (by decide)))) SemS.nil)) SemS.nil))) ?_
    refine SemS.cons (show SemS1 _ _ _ _ r_allocate_3 from (SemS1.assign 7 (by kernel_rfl) (SemE.call hC (Stands.glo hC (by kernel_rfl) (by rw [hK]; exact glo_wishes _)) (Keepable.ref (by rw [hK]; exact keep_233 _)) (SemEs.cP (SemE.loc 1 (by kernel_rfl)) SemEs.nil) (SemF.up (s_wishes hC hK La) (by decide))))) ?_
    refine SemS.cons (show SemS1 _ _ _ _ r_allocate_4 from (SemS1.for (SemIt.of hC (SemE.call hC (Stands.glo hC (by kernel_rfl) (by rw [hK]; exact glo_by_start _)) (Keepable.ref (by rw [hK]; exact keep_289 _)) (SemEs.cP (SemE.loc 5 (by kernel_rfl)) SemEs.nil) (SemF.up (s_by_start hC hK La) (by decide)))) (SemA.name 6 (by kernel_rfl)) (SemS.cons (SemS1.expr (SemE.methF hC (cls_RegisterFile hK) (by rw [hK, me_RegisterFile_place]; rfl) (by rw [hK]; exact fo_275 _) ⟨_, (tl_place par)⟩ (by rw [hK]; exact keep_275 _) (SemE.loc 4 (by kernel_rfl)) (SemEs.cP (SemE.loc 6 (by kernel_rfl)) (SemEs.cP (SemE.bmeth hC PySem.F.plainAttrs_dict PySem.F.slot_dict_get (by rfl) (SemE.loc 7 (by kernel_rfl)) (SemEs.cP (SemE.attr (SemE.loc 6 (by kernel_rfl)) (Op1.attr hC (cls_Occupation hK) (by rw [hK, na_Occupation_number]; rfl) (tl_number par))) (SemEs.cP (SemE.list SemEs.nil) SemEs.nil)) SemF.get) SemEs.nil)) (SemF.up (s_RegisterFile_place hC hK La) (by decide)))) SemS.nil))) ?_
    refine SemS.cons (show SemS1 _ _ _ _ r_allocate_5 from (SemS1.assign 8 (by kernel_rfl) (SemE.list SemEs.nil))) ?_
    refine SemS.cons (show SemS1 _ _ _ _ r_allocate_6 from (SemS1.for (SemIt.of hC (SemE.loc 1 (by kernel_rfl))) (SemA.name 9 (by kernel_rfl)) (SemS.cons (SemS1.assign 10 (by kernel_rfl) (SemE.list (SemEs.cP (SemE.item (SemE.loc 9 (by kernel_rfl)) SemE.int) SemEs.nil))) (SemS.cons (SemS1.for (SemIt.of hC (SemE.tail (SemE.loc 9 (by kernel_rfl)))) (SemA.name 11 (by kernel_rfl)) (SemS.cons (SemS1.expr (SemE.bmeth hC PySem.F.plainAttrs_list PySem.F.slot_list_append (by rfl) (SemE.loc 10 (by kernel_rfl)) (SemEs.cP (SemE.call hC (Stands.glo hC (by kernel_rfl) (by rw [hK]; exact glo_real_operand _)) (Keepable.ref (by rw [hK]; exact keep_296 _)) (SemEs.cP (SemE.loc 11 (by kernel_rfl)) (SemEs.cP (SemE.attr (SemE.loc 4 (by kernel_rfl)) (Op1.attr hC (cls_RegisterFile hK) (by rw [hK, na_RegisterFile_home]; rfl) (tl_home par))) SemEs.nil)) (SemF.up (s_real_operand hC hK La) (by decide))) SemEs.nil) SemF.append)) SemS.nil)) (SemS.cons (SemS1.expr (SemE.bmeth hC PySem.F.plainAttrs_list PySem.F.slot_list_append (by rfl) (SemE.loc 8 (by kernel_rfl)) (SemEs.cP (SemE.call hC (Stands.bi hC (by kernel_rfl) (by rw [hK]; exact glo_tuple _) (bb_tuple par) (by decide)) Keepable.type (SemEs.cP (SemE.loc 10 (by kernel_rfl)) SemEs.nil) SemF.tuple) SemEs.nil) SemF.append)) SemS.nil))))) ?_
    refine SemS.cons (show SemS1 _ _ _ _ r_allocate_7 from (SemS1.ite (SemT.bool (SemTs.or (SemT.cmp (SemE.loc 2 (by kernel_rfl)) (SemE.loc 3 (by kernel_rfl)) Op2.gt) (SemTs.or (SemT.cmp (SemE.call hC (Stands.glo hC (by kernel_rfl) (by rw [hK]; exact glo_greatest _)) (Keepable.ref (by rw [hK]; exact keep_310 _)) (SemEs.cP (SemE.loc 8 (by kernel_rfl)) SemEs.nil) (SemF.up (s_greatest hC hK La) (by decide))) (SemE.loc 3 (by kernel_rfl)) Op2.gt) SemTs.or_nil))) (SemS.cons SemS1.never SemS.nil) SemS.nil)) ?_
    refine SemS.cons (show SemS1 _ _ _ _ r_allocate_8 from (SemS1.ret (SemE.loc 8 (by kernel_rfl)))) ?_
    exact SemS.nil
theorem x_allocate (hC : C.Ok) (hK : C.K = hd2.heap_1 par) (La : Lam C 284 288) : SemFX C 5 51 (.ref 303) gx_allocate := by
  refine' SemFX.of_def (n := 4) hC (rx := rx_allocate) (m := 8) (ps := [Str.ofString "symbols", Str.ofString "instrs", Str.ofString "arity", Str.ofString "limit"]) ?o ?c ?b ?p ?n ?l ?h (hco := ?y1) (hgen := ?y2) (hk := ?y3) (hcell := ?x)
  case o => rw [hK]; k_is
  case c => rw [hK]; k_is
  case b => exact fun s => lens4 (by intros; exact BindsTo.of_eq rfl)
  case y1 => rfl
  case y2 => rfl
  case y3 => rfl
  case p => decide +kernel
  case n => decide +kernel
  case l => decide +kernel
  case x => decide +kernel
  case h =>
    refine SemSX.cons (show SemS1 _ _ _ _ r_allocate_0 from (SemS1.assign 4 (by kernel_rfl) (SemE.call hC (Stands.glo hC (by kernel_rfl) (by rw [hK]; exact glo_RegisterFile _)) (Keepable.ref (by rw [hK]; exact keep_278 _)) SemEs.nil (SemF.up (SemF.newF hC (cls_RegisterFile hK) (by rw [hK, me_RegisterFile_init]; rfl) (by rw [hK]; exact fo_247 _) (s_RegisterFile___init hC hK La)) (by decide))))) ?_
    refine SemSX.cons (show SemS1 _ _ _ _ r_allocate_1 from (SemS1.assign 5 (by kernel_rfl) (SemE.list SemEs.nil))) ?_
    refine SemSX.cons (show SemS1 _ _ _ _ r_allocate_2 from (SemS1.for (SemIt.of hC (SemE.call hC (Stands.glo hC (by kernel_rfl) (by rw [hK]; exact glo_intervals _)) (Keepable.ref (by rw [hK]; exact keep_226 _)) (SemEs.cP (SemE.loc 1 (by kernel_rfl)) (SemEs.cP (SemE.loc 2 (by kernel_rfl)) SemEs.nil)) (SemF.up (s_intervals hC hK La) (by decide)))) (SemA.name 6 (by kernel_rfl)) (SemS.cons (SemS1.ite (SemT.cmp (SemE.attr (SemE.loc 6 (by kernel_rfl)) (Op1.attr hC (cls_Occupation hK) (by rw [hK, na_Occupation_kind]; rfl) (tl_kind par))) (SemE.str (by kernel_rfl)) Op2.eq) (SemS.cons (SemS1.expr (SemE.bmeth hC PySem.F.plainAttrs_list PySem.F.slot_list_append (by rfl) (SemE.loc 5 (by kernel_rfl)) (SemEs.cP (SemE.loc 6 (by kernel_rfl)) SemEs.nil) SemF.append)) SemS.nil) (SemS.cons (SemS1.expr (SemE.methF hC (cls_RegisterFile hK) (by rw [hK, me_RegisterFile_occupy]; rfl) (by rw [hK]; exact fo_254 _) ⟨_, (tl_occupy par)⟩ (by rw [hK]; exact keep_254 _) (SemE.loc 4 (by kernel_rfl)) (SemEs.cP (SemE.attr (SemE.loc 6 (by kernel_rfl)) (Op1.attr hC (cls_Occupation hK) (by rw [hK, na_Occupation_number]; rfl) (tl_number par))) (SemEs.cP (SemE.loc 6 (by kernel_rfl)) SemEs.nil)) (SemF.up (s_RegisterFile_occupy hC hK La) (by decide)))) SemS.nil)) SemS.nil))) ?_
    refine SemSX.cons (show SemS1 _ _ _ _ r_allocate_3 from (SemS1.assign 7 (by kernel_rfl) (SemE.call hC (Stands.glo hC (by kernel_rfl) (by rw [hK]; exact glo_wishes _)) (Keepable.ref (by rw [hK]; exact keep_233 _)) (SemEs.cP (SemE.loc 1 (by kernel_rfl)) SemEs.nil) (SemF.up (s_wishes hC hK La) (by decide))))) ?_
    refine SemSX.cons (show SemS1 _ _ _ _ r_allocate_4 from (SemS1.for (SemIt.of hC (SemE.call hC (Stands.glo hC (by kernel_rfl) (by rw [hK]; exact glo_by_start _)) (Keepable.ref (by rw [hK]; exact keep_289 _)) (SemEs.cP (SemE.loc 5 (by kernel_rfl)) SemEs.nil) (SemF.up (s_by_start hC hK La) (by decide)))) (SemA.name 6 (by kernel_rfl)) (SemS.cons (SemS1.expr (SemE.methF hC (cls_RegisterFile hK) (by rw [hK, me_RegisterFile_place]; rfl) (by rw [hK]; exact fo_275 _) ⟨_, (tl_place par)⟩ (by rw [hK]; exact keep_275 _) (SemE.loc 4 (by kernel_rfl)) (SemEs.cP (SemE.loc 6 (by kernel_rfl)) (SemEs.cP (SemE.bmeth hC PySem.F.plainAttrs_dict PySem.F.slot_dict_get (by rfl) (SemE.loc 7 (by kernel_rfl)) (SemEs.cP (SemE.attr (SemE.loc 6 (by kernel_rfl)) (Op1.attr hC (cls_Occupation hK) (by rw [hK, na_Occupation_number]; rfl) (tl_number par))) (SemEs.cP (SemE.list SemEs.nil) SemEs.nil)) SemF.get) SemEs.nil)) (SemF.up (s_RegisterFile_place hC hK La) (by decide)))) SemS.nil))) ?_
    refine SemSX.cons (show SemS1 _ _ _ _ r_allocate_5 from (SemS1.assign 8 (by kernel_rfl) (SemE.list SemEs.nil))) ?_
    refine SemSX.cons (show SemS1 _ _ _ _ r_allocate_6 from (SemS1.for (SemIt.of hC (SemE.loc 1 (by kernel_rfl))) (SemA.name 9 (by kernel_rfl)) (SemS.cons (SemS1.assign 10 (by kernel_rfl) (SemE.list (SemEs.cP (SemE.item (SemE.loc 9 (by kernel_rfl)) SemE.int) SemEs.nil))) (SemS.cons (SemS1.for (SemIt.of hC (SemE.tail (SemE.loc 9 (by kernel_rfl)))) (SemA.name 11 (by kernel_rfl)) (SemS.cons (SemS1.expr (SemE.bmeth hC PySem.F.plainAttrs_list PySem.F.slot_list_append (by rfl) (SemE.loc 10 (by kernel_rfl)) (SemEs.cP (SemE.call hC (Stands.glo hC (by kernel_rfl) (by rw [hK]; exact glo_real_operand _)) (Keepable.ref (by rw [hK]; exact keep_296 _)) (SemEs.cP (SemE.loc 11 (by kernel_rfl)) (SemEs.cP (SemE.attr (SemE.loc 4 (by kernel_rfl)) (Op1.attr hC (cls_RegisterFile hK) (by rw [hK, na_RegisterFile_home]; rfl) (tl_home par))) SemEs.nil)) (SemF.up (s_real_operand hC hK La) (by decide))) SemEs.nil) SemF.append)) SemS.nil)) (SemS.cons (SemS1.expr (SemE.bmeth hC PySem.F.plainAttrs_list PySem.F.slot_list_append (by rfl) (SemE.loc 8 (by kernel_rfl)) (SemEs.cP (SemE.call hC (Stands.bi hC (by kernel_rfl) (by rw [hK]; exact glo_tuple _) (bb_tuple par) (by decide)) Keepable.type (SemEs.cP (SemE.loc 10 (by kernel_rfl)) SemEs.nil) SemF.tuple) SemEs.nil) SemF.append)) SemS.nil))))) ?_
    exact SemSX.ifRaise hC (excK_Pro hK) (SemT.bool (SemTs.or (SemT.cmp (SemE.loc 2 (by kernel_rfl)) (SemE.loc 3 (by kernel_rfl)) Op2.gt) (SemTs.or (SemT.cmp (SemE.call hC (Stands.glo hC (by kernel_rfl) (by rw [hK]; exact glo_greatest _)) (Keepable.ref (by rw [hK]; exact keep_310 _)) (SemEs.cP (SemE.loc 8 (by kernel_rfl)) SemEs.nil) (SemF.up (s_greatest hC hK La) (by decide))) (SemE.loc 3 (by kernel_rfl)) Op2.gt) SemTs.or_nil))) (SemE.call hC (Stands.glo hC (by kernel_rfl) (by rw [hK]; exact glo_representation_error _)) (Keepable.ref (by rw [hK]; exact keep_179 _)) (SemEs.cP (SemE.loc 0 (by kernel_rfl)) (SemEs.cP (SemE.str (by kernel_rfl)) SemEs.nil)) (SemF.up (s_representation_error hC hK La) (by decide)))
theorem s_law_digit (hC : C.Ok) (hK : C.K = hd2.heap_1 par) (La : Lam C 284 288) : SemF C 1 (.ref 317) g_law_digit := by
  refine' SemF.of_def (n := 0) hC (r := r_law_digit) (m := 3) (ps := [Str.ofString "tape", Str.ofString "limit"]) ?o ?c ?b ?p ?n ?l ?h (hco := ?y1) (hgen := ?y2) (hk := ?y3) (hcell := ?x)
  case o => rw [hK]; k_is
  case c => rw [hK]; k_is
  case b => exact fun s => lens2 (by intros; exact BindsTo.of_eq rfl)
  case y1 => rfl
  case y2 => rfl
  case y3 => rfl
  case p => decide +kernel
  case n => decide +kernel
  case l => decide +kernel
  case x => decide +kernel
  case h =>
    refine SemS.cons (show SemS1 _ _ _ _ r_law_digit_0 from (SemS1.ite (SemT.cmp (SemE.item (SemE.loc 0 (by kernel_rfl)) SemE.int) (SemE.call hC (Stands.bi hC (by kernel_rfl) (by rw [hK]; exact glo_len _) (bb_len par) (by decide)) Keepable.builtin (SemEs.cP (SemE.item (SemE.loc 0 (by kernel_rfl)) SemE.int) SemEs.nil) SemF.len) Op2.ge) (SemS.cons (SemS1.ret SemE.int) SemS.nil) SemS.nil)) ?_
    refine SemS.cons (show SemS1 _ _ _ _ r_law_digit_1 from (SemS1.assign 2 (by kernel_rfl) (SemE.item (SemE.item (SemE.loc 0 (by kernel_rfl)) SemE.int) (SemE.item (SemE.loc 0 (by kernel_rfl)) SemE.int)))) ?_
    refine SemS.cons (show SemS1 _ _ _ _ r_law_digit_2 from (SemS1.assign 3 (by kernel_rfl) (SemE.bin (SemE.loc 2 (by kernel_rfl)) (SemE.loc 1 (by kernel_rfl)) Op2.mod))) ?_
    refine SemS.cons (show SemS1 _ _ _ _ r_law_digit_3 from (SemS1.assign 4 (by kernel_rfl) (SemE.bin (SemE.loc 2 (by kernel_rfl)) (SemE.loc 1 (by kernel_rfl)) Op2.fdiv))) ?_
    refine SemS.cons (show SemS1 _ _ _ _ r_law_digit_4 from (SemS1.augItem (SemE.loc 0 (by kernel_rfl)) SemE.int SemE.int Op2.iadd)) ?_
    refine SemS.cons (show SemS1 _ _ _ _ r_law_digit_5 from (SemS1.ite (SemT.bool (SemTs.or (SemT.cmp (SemE.loc 4 (by kernel_rfl)) SemE.int Op2.eq) (SemTs.or (SemT.cmp (SemE.loc 4 (by kernel_rfl)) (SemE.neg SemE.int) Op2.eq) (SemTs.or (SemT.cmp (SemE.item (SemE.loc 0 (by kernel_rfl)) SemE.int) SemE.int Op2.eq) SemTs.or_nil)))) (SemS.cons (SemS1.augItem (SemE.loc 0 (by kernel_rfl)) SemE.int SemE.int Op2.iadd) (SemS.cons (SemS1.setItem SemE.int (SemE.loc 0 (by kernel_rfl)) SemE.int) SemS.nil)) (SemS.cons (SemS1.setItem (SemE.loc 4 (by kernel_rfl)) (SemE.item (SemE.loc 0 (by kernel_rfl)) SemE.int) (SemE.item (SemE.loc 0 (by kernel_rfl)) SemE.int)) SemS.nil))) ?_
    refine SemS.cons (show SemS1 _ _ _ _ r_law_digit_6 from (SemS1.ret (SemE.loc 3 (by kernel_rfl)))) ?_
    exact SemS.nil
theorem s_law_chunk (hC : C.Ok) (hK : C.K = hd2.heap_1 par) (La : Lam C 284 288) : SemF C 2 (.ref 324) g_law_chunk := by
  refine' SemF.of_def (n := 1) hC (r := r_law_chunk) (m := 8) (ps := [Str.ofString "tape", Str.ofString "arity"]) ?o ?c ?b ?p ?n ?l ?h (hco := ?y1) (hgen := ?y2) (hk := ?y3) (hcell := ?x)
  case o => rw [hK]; k_is
  case c => rw [hK]; k_is
  case b => exact fun s => lens2 (by intros; exact BindsTo.of_eq rfl)
  case y1 => rfl
  case y2 => rfl
  case y3 => rfl
  case p => decide +kernel
  case n => decide +kernel
  case l => decide +kernel
  case x => decide +kernel
  case h =>
    refine SemS.cons (show SemS1 _ _ _ _ r_law_chunk_0 from (SemS1.assign 2 (by kernel_rfl) (SemE.list SemEs.nil))) ?_
    refine SemS.cons (show SemS1 _ _ _ _ r_law_chunk_1 from (SemS1.for (SemIt.range1 hC (Stands.bi hC (by kernel_rfl) (by rw [hK]; exact glo_range _) (bb_range par) (by decide)) (SemE.bin SemE.int (SemE.call hC (Stands.glo hC (by kernel_rfl) (by rw [hK]; exact glo_law_digit _)) (Keepable.ref (by rw [hK]; exact keep_317 _)) (SemEs.cP (SemE.loc 0 (by kernel_rfl)) (SemEs.cP SemE.int SemEs.nil)) (SemF.up (s_law_digit hC hK La) (by decide))) Op2.add)) (SemA.name 3 (by kernel_rfl)) (SemS.cons (SemS1.assign 4 (by kernel_rfl) (SemE.call hC (Stands.glo hC (by kernel_rfl) (by rw [hK]; exact glo_law_digit _)) (Keepable.ref (by rw [hK]; exact keep_317 _)) (SemEs.cP (SemE.loc 0 (by kernel_rfl)) (SemEs.cP SemE.int SemEs.nil)) (SemF.up (s_law_digit hC hK La) (by decide)))) (SemS.cons (SemS1.assign 5 (by kernel_rfl) (SemE.tup (SemEs.cP (SemE.str (by kernel_rfl)) (SemEs.cP (SemE.call hC (Stands.glo hC (by kernel_rfl) (by rw [hK]; exact glo_law_digit _)) (Keepable.ref (by rw [hK]; exact keep_317 _)) (SemEs.cP (SemE.loc 0 (by kernel_rfl)) (SemEs.cP SemE.int SemEs.nil)) (SemF.up (s_law_digit hC hK La) (by decide))) SemEs.nil)))) (SemS.cons (SemS1.assign 6 (by kernel_rfl) (SemE.tup (SemEs.cP (SemE.str (by kernel_rfl)) (SemEs.cP (SemE.call hC (Stands.glo hC (by kernel_rfl) (by rw [hK]; exact glo_law_digit _)) (Keepable.ref (by rw [hK]; exact keep_317 _)) (SemEs.cP (SemE.loc 0 (by kernel_rfl)) (SemEs.cP SemE.int SemEs.nil)) (SemF.up (s_law_digit hC hK La) (by decide))) SemEs.nil)))) (SemS.cons (SemS1.assign 7 (by kernel_rfl) (SemE.tup (SemEs.cP (SemE.str (by kernel_rfl)) (SemEs.cP (SemE.bin SemE.int (SemE.call hC (Stands.glo hC (by kernel_rfl) (by rw [hK]; exact glo_law_digit _)) (Keepable.ref (by rw [hK]; exact keep_317 _)) (SemEs.cP (SemE.loc 0 (by kernel_rfl)) (SemEs.cP SemE.int SemEs.nil)) (SemF.up (s_law_digit hC hK La) (by decide))) Op2.add) SemEs.nil)))) (SemS.cons (SemS1.assign 8 (by kernel_rfl) (SemE.ite (SemT.cmp (SemE.loc 1 (by kernel_rfl)) SemE.int Op2.gt) (SemE.tup (SemEs.cP (SemE.str (by kernel_rfl)) (SemEs.cP (SemE.bin SemE.int (SemE.bin (SemE.call hC (Stands.glo hC (by kernel_rfl) (by rw [hK]; exact glo_law_digit _)) (Keepable.ref (by rw [hK]; exact keep_317 _)) (SemEs.cP (SemE.loc 0 (by kernel_rfl)) (SemEs.cP SemE.int SemEs.nil)) (SemF.up (s_law_digit hC hK La) (by decide))) (SemE.loc 1 (by kernel_rfl)) Op2.mod) Op2.add) SemEs.nil))) (SemE.loc 6 (by kernel_rfl)))) (SemS.cons (SemS1.assign 9 (by kernel_rfl) (SemE.list (SemEs.cP (SemE.tup (SemEs.cP (SemE.str (by kernel_rfl)) (SemEs.cP (SemE.loc 5 (by kernel_rfl)) SemEs.nil))) (SemEs.cP (SemE.tup (SemEs.cP (SemE.str (by kernel_rfl)) (SemEs.cP (SemE.loc 5 (by kernel_rfl)) (SemEs.cP (SemE.loc 7 (by kernel_rfl)) SemEs.nil)))) (SemEs.cP (SemE.tup (SemEs.cP (SemE.str (by kernel_rfl)) (SemEs.cP (SemE.loc 5 (by kernel_rfl)) (SemEs.cP (SemE.loc 8 (by kernel_rfl)) SemEs.nil)))) (SemEs.cP (SemE.tup (SemEs.cP (SemE.str (by kernel_rfl)) (SemEs.cP (SemE.loc 5 (by kernel_rfl)) (SemEs.cP (SemE.loc 6 (by kernel_rfl)) SemEs.nil)))) (SemEs.cP (SemE.tup (SemEs.cP (SemE.str (by kernel_rfl)) (SemEs.cP (SemE.loc 5 (by kernel_rfl)) (SemEs.cP (SemE.loc 7 (by kernel_rfl)) SemEs.nil)))) (SemEs.cP (SemE.tup (SemEs.cP (SemE.str (by kernel_rfl)) (SemEs.cP (SemE.loc 5 (by kernel_rfl)) (SemEs.cP (SemE.loc 6 (by kernel_rfl)) SemEs.nil)))) (SemEs.cP (SemE.tup (SemEs.cP (SemE.str (by kernel_rfl)) (SemEs.cP SemE.int (SemEs.cP (SemE.loc 8 (by kernel_rfl)) SemEs.nil)))) (SemEs.cP (SemE.tup (SemEs.cP (SemE.str (by kernel_rfl)) (SemEs.cP (SemE.loc 7 (by kernel_rfl)) SemEs.nil))) (SemEs.cP (SemE.tup (SemEs.cP (SemE.str (by kernel_rfl)) (SemEs.cP (SemE.loc 5 (by kernel_rfl)) SemEs.nil))) (SemEs.cP (SemE.tup (SemEs.cP (SemE.str (by kernel_rfl)) (SemEs.cP (SemE.loc 5 (by kernel_rfl)) SemEs.nil))) (SemEs.cP (SemE.tup (SemEs.cP (SemE.str (by kernel_rfl)) (SemEs.cP (SemE.tup (SemEs.cP (SemE.str (by kernel_rfl)) (SemEs.cP SemE.int SemEs.nil))) (SemEs.cP (SemE.loc 5 (by kernel_rfl)) SemEs.nil)))) (SemEs.cP (SemE.tup (SemEs.cP (SemE.str (by kernel_rfl)) (SemEs.cP (SemE.loc 8 (by kernel_rfl)) SemEs.nil))) (SemEs.cP (SemE.tup (SemEs.cP (SemE.str (by kernel_rfl)) (SemEs.cP SemE.int SemEs.nil))) (SemEs.cP (SemE.tup (SemEs.cP (SemE.str (by kernel_rfl)) (SemEs.cP (SemE.loc 5 (by kernel_rfl)) SemEs.nil))) (SemEs.cP (SemE.tup (SemEs.cP (SemE.str (by kernel_rfl)) (SemEs.cP (SemE.loc 5 (by kernel_rfl)) (SemEs.cP (SemE.loc 8 (by kernel_rfl)) SemEs.nil)))) SemEs.nil))))))))))))))))) (SemS.cons (SemS1.expr (SemE.bmeth hC PySem.F.plainAttrs_list PySem.F.slot_list_append (by rfl) (SemE.loc 2 (by kernel_rfl)) (SemEs.cP (SemE.item (SemE.loc 9 (by kernel_rfl)) (SemE.loc 4 (by kernel_rfl))) SemEs.nil) SemF.append)) SemS.nil))))))))) ?_
    refine SemS.cons (show SemS1 _ _ _ _ r_law_chunk_2 from (SemS1.expr (SemE.bmeth hC PySem.F.plainAttrs_list PySem.F.slot_list_append (by rfl) (SemE.loc 2 (by kernel_rfl)) (SemEs.cP (SemE.tup (SemEs.cP (SemE.str (by kernel_rfl)) (SemEs.cP SemE.int (SemEs.cP SemE.int SemEs.nil)))) SemEs.nil) SemF.append))) ?_
    refine SemS.cons (show SemS1 _ _ _ _ r_law_chunk_3 from (SemS1.ret (SemE.loc 2 (by kernel_rfl)))) ?_
    exact SemS.nil
theorem s_law_lifted (hC : C.Ok) (hK : C.K = hd2.heap_1 par) (La : Lam C 284 288) : SemF C 1 (.ref 331) g_law_lifted := by
  refine' SemF.of_def (n := 0) hC (r := r_law_lifted) (m := 4) (ps := [Str.ofString "chunk", Str.ofString "lift"]) ?o ?c ?b ?p ?n ?l ?h (hco := ?y1) (hgen := ?y2) (hk := ?y3) (hcell := ?x)
  case o => rw [hK]; k_is
  case c => rw [hK]; k_is
  case b => exact fun s => lens2 (by intros; exact BindsTo.of_eq rfl)
  case y1 => rfl
  case y2 => rfl
  case y3 => rfl
  case p => decide +kernel
  case n => decide +kernel
  case l => decide +kernel
  case x => decide +kernel
  case h =>
    refine SemS.cons (show SemS1 _ _ _ _ r_law_lifted_0 from (SemS1.assign 2 (by kernel_rfl) (SemE.list SemEs.nil))) ?_
    refine SemS.cons (show SemS1 _ _ _ _ r_law_lifted_1 from (SemS1.for (SemIt.of hC (SemE.loc 0 (by kernel_rfl))) (SemA.name 3 (by kernel_rfl)) (SemS.cons (SemS1.assign 4 (by kernel_rfl) (SemE.list SemEs.nil)) (SemS.cons (SemS1.for (SemIt.of hC (SemE.loc 3 (by kernel_rfl))) (SemA.name 5 (by kernel_rfl)) (SemS.cons (SemS1.ite (SemT.bool (SemTs.and (SemT.plain (SemE.isi hC (Stands.bi hC (by kernel_rfl) (by rw [hK]; exact glo_isinstance _) (bb_isinstance par) (by decide)) (Stands.bi hC (by kernel_rfl) (by rw [hK]; exact glo_tuple _) (bb_tuple par) (by decide)) (SemE.loc 5 (by kernel_rfl)) isi_tuple)) (SemTs.and (SemT.cmp (SemE.item (SemE.loc 5 (by kernel_rfl)) SemE.int) (SemE.str (by kernel_rfl)) Op2.eq) SemTs.and_nil))) (SemS.cons (SemS1.assign 5 (by kernel_rfl) (SemE.tup (SemEs.cP (SemE.str (by kernel_rfl)) (SemEs.cP (SemE.bin (SemE.item (SemE.loc 5 (by kernel_rfl)) SemE.int) (SemE.loc 1 (by kernel_rfl)) Op2.add) SemEs.nil)))) SemS.nil) SemS.nil) (SemS.cons (SemS1.expr (SemE.bmeth hC PySem.F.plainAttrs_list PySem.F.slot_list_append (by rfl) (SemE.loc 4 (by kernel_rfl)) (SemEs.cP (SemE.loc 5 (by kernel_rfl)) SemEs.nil) SemF.append)) SemS.nil))) (SemS.cons (SemS1.expr (SemE.bmeth hC PySem.F.plainAttrs_list PySem.F.slot_list_append (by rfl) (SemE.loc 2 (by kernel_rfl)) (SemEs.cP (SemE.call hC (Stands.bi hC (by kernel_rfl) (by rw [hK]; exact glo_tuple _) (bb_tuple par) (by decide)) Keepable.type (SemEs.cP (SemE.loc 4 (by kernel_rfl)) SemEs.nil) SemF.tuple) SemEs.nil) SemF.append)) SemS.nil))))) ?_
    refine SemS.cons (show SemS1 _ _ _ _ r_law_lifted_2 from (SemS1.ret (SemE.loc 2 (by kernel_rfl)))) ?_
    exact SemS.nil
theorem s_law_given (hC : C.Ok) (hK : C.K = hd2.heap_1 par) (La : Lam C 284 288) : SemG C 6 (.ref 338) g_law_given := by
  refine' SemG.of_def (n := 5) hC (excK_Pro hK) (m := 0) (ps := [Str.ofString "names", Str.ofString "code", Str.ofString "arity", Str.ofString "limit"]) ?o ?c ?b ?p ?n ?l ?v ?k ?a (s_allocate hC hK La) (x_allocate hC hK La) ?t ?pl (hco := ?y1) (hgen := ?y2) (hk := ?y3) (hcell := ?x)
  case o => rw [hK]; k_is
  case c => rw [hK]; k_is
  case b => exact fun s => lens4 (by intros; exact BindsTo.of_eq rfl)
  case y1 => rfl
  case y2 => rfl
  case y3 => rfl
  case pl => rfl
  case p => decide +kernel
  case n => decide +kernel
  case l => decide +kernel
  case x => decide +kernel
  case v => exact (Stands.glo hC (by kernel_rfl) (by rw [hK]; exact glo_allocate _))
  case k => exact (Keepable.ref (by rw [hK]; exact keep_303 _))
  case a => exact (SemEs.cP (SemE.loc 0 (by kernel_rfl)) (SemEs.cP (SemE.loc 1 (by kernel_rfl)) (SemEs.cP (SemE.loc 2 (by kernel_rfl)) (SemEs.cP (SemE.loc 3 (by kernel_rfl)) SemEs.nil))))
  case t => exact (Stands.glo hC (by kernel_rfl) (by rw [hK]; exact glo_PrologError _))
end
end Mini.L2
namespace Mini
noncomputable def W {α : Type} (x : Option α) (Q : α -> Prop) : Prop := ∃ a, x = some a /\ Q a
noncomputable def SRb (x : SR) (q : RS) (Q : SR -> Prop) : Prop := match x with | .next l m => W (q l m) Q | y => Q y
noncomputable def SRe (x : SR) (Q : V × MH -> Prop) : Prop := match x with | .next _ m => Q (.none, m) | .ret v m => Q (v, m) | .cont .. => False
noncomputable def Un {α : Type} (K : α -> MH -> Prop) : α × MH -> Prop | (a, m) => K a m
noncomputable def Un3 (K : List V -> MH -> (MH -> Bool) -> Prop) : List V × MH × (MH -> Bool) -> Prop | (a, m, f) => K a m f
theorem W.mono {α : Type} {x : Option α} {P Q : α -> Prop} (h : W x P) (k : ∀ a, P a -> Q a) : W x Q := let ⟨a, e, p⟩ := h; ⟨a, e, k a p⟩
theorem W_some {α : Type} (a : α) (Q : α -> Prop) : W (some a) Q ↔ Q a := ⟨fun ⟨b, e, q⟩ => by cases e; exact q, fun q => ⟨a, rfl, q⟩⟩
theorem W_of {α : Type} {x : Option α} {a : α} {Q : α -> Prop} (e : x = some a) : W x Q ↔ Q a := by rw [e]; exact W_some a Q
theorem W_eq {α : Type} {x : Option α} {a : α} : W x (fun b => b = a) ↔ x = some a := ⟨fun ⟨b, e, q⟩ => by rw [e, q], fun e => ⟨a, e, rfl⟩⟩
theorem W.to {α β : Type} {x : Option α} {y : Option β} {P : α -> Prop} {Q : β -> Prop} (h : W x P) (k : ∀ a, x = some a -> P a -> W y Q) : W y Q := h.elim fun a h => k a h.1 h.2
end Mini
namespace Mini
noncomputable def Kp (T : List Nat) (mh mh' : MH) : Prop := mh.length <= mh'.length /\ (∀ j, j < mh.length -> j ∉ T -> mh'[j]? = mh[j]?) /\ ∀ j q, ob mh j = some (.code q) -> ob mh' j = some (.code q)
theorem Kp.refl (T : List Nat) (mh : MH) : Kp T mh mh := ⟨Nat.le_refl _, fun _ _ _ => rfl, fun _ _ e => e⟩
theorem Kp.at {T : List Nat} {mh mh' : MH} (k : Kp T mh mh') {j : Nat} {x : MObj × Nat} (h : mh[j]? = some x) (n : j ∉ T) : mh'[j]? = some x := by
  rw [k.2.1 j (List.getElem?_eq_some_iff.mp h).1 n]; exact h
theorem Kp.ob {T : List Nat} {mh mh' : MH} (k : Kp T mh mh') {j : Nat} {o : MObj} (h : ob mh j = some o) (n : j ∉ T) : Mini.ob mh' j = some o := by
  unfold Mini.ob
  rw [k.2.1 j (ob_lt h) n]; exact h
theorem Kp.lt {T : List Nat} {mh mh' : MH} (k : Kp T mh mh') {j : Nat} (h : j < mh.length) : j < mh'.length := Nat.lt_of_lt_of_le h k.1
theorem Kp.step {T T' : List Nat} {mh mh' mh'' : MH} (k : Kp T mh mh') (k' : Kp T' mh' mh'') (h : ∀ j ∈ T', j ∈ T \/ mh.length <= j) : Kp T mh mh'' :=
  ⟨Nat.le_trans k.1 k'.1, fun j hj n => (k'.2.1 j (k.lt hj) fun z => (h j z).elim n fun w => by omega).trans (k.2.1 j hj n), fun j q e => k'.2.2 j q (k.2.2 j q e)⟩
theorem Kp.mk (mh : MH) (o : MObj) : Kp [] mh (mkO mh o) := ⟨by simp [mkO], fun j hj _ => by unfold mkO; rw [List.getElem?_append_left hj], fun j q e => ob_mk o e⟩
theorem Kp.put {mh : MH} {i : Nat} {o : MObj} (o' : MObj) (h : Mini.ob mh i = some o) (hc : ∀ q, o ≠ .code q) : Kp [i] mh (putO mh i o') :=
  ⟨by rw [put_length]; exact Nat.le_refl _, fun j hj n => put_get_ne mh o' fun z => n (by simp [z]), fun j q e => by
    by_cases z : i = j
    . subst z; rw [h] at e; cases e; exact absurd rfl (hc q)
    . rw [ob_put_ne mh o' z]; exact e⟩
theorem Kp.nil {T : List Nat} {mh mh' : MH} (k : Kp [] mh mh') : Kp T mh mh' := (Kp.refl T mh).step k fun j hj => by cases hj
theorem Kp.stepMk {T : List Nat} {mh mh' : MH} (k : Kp T mh mh') (o : MObj) : Kp T mh (mkO mh' o) := k.step (Kp.mk mh' o) fun j hj => by cases hj
theorem Kp.stepPut {T : List Nat} {mh mh' : MH} (k : Kp T mh mh') {i : Nat} {o : MObj} (o' : MObj) (h : Mini.ob mh' i = some o) (hc : ∀ q, o ≠ .code q) (hi : i ∈ T \/ mh.length <= i) : Kp T mh (putO mh' i o') :=
  k.step (Kp.put o' h hc) fun j hj => by rw [List.mem_singleton.mp hj]; exact hi
theorem Kp.step0 {T : List Nat} {mh mh' mh'' : MH} (k : Kp T mh mh') (k' : Kp [] mh' mh'') : Kp T mh mh'' := k.step k' fun j hj => by cases hj
theorem len_mk (mh : MH) (o : MObj) : (mkO mh o).length = mh.length + 1 := by simp [mkO]
theorem stamp_of {mh mh' : MH} {T : List Nat} {i st : Nat} {o : MObj} (k : Kp T mh mh') (h : mh[i]? = some (o, st)) (n : i ∉ T) : stampIs i st mh' = true := by
  unfold stampIs; rw [k.at h n]; simp
@[irreducible] noncomputable def ItB (p : V × MH) (Q : List V × MH × (MH -> Bool) -> Prop) : Prop := match p with
  | (.tup vs, m) => Q (vs, m, fun _ => true)
  | (.ref i, m) => (match m[i]? with | some (.list vs, st) => Q (vs, m, stampIs i st) | some (.dictI kvs, st) => Q (kvs.map (fun p => V.int p.1), m, stampIs i st) | _ => False)
  | _ => False
theorem ItB_tup (vs : List V) (m : MH) (Q) : ItB (.tup vs, m) Q ↔ Q (vs, m, fun _ => true) := by unfold ItB; exact Iff.rfl
theorem ItB_list {i st : Nat} {vs : List V} {m : MH} (h : m[i]? = some (.list vs, st)) (Q) : ItB (.ref i, m) Q ↔ Q (vs, m, stampIs i st) := by unfold ItB; simp only [h]
theorem ItB_dict {i st : Nat} {kvs : List (Int × V)} {m : MH} (h : m[i]? = some (.dictI kvs, st)) (Q) : ItB (.ref i, m) Q ↔ Q (kvs.map (fun p => V.int p.1), m, stampIs i st) := by unfold ItB; simp only [h]
noncomputable def SdB (i : Nat) (k : Int) (x : V) (kvs : List (Int × V)) (mh : MH) (Q : V × MH -> Prop) : Prop := match getA k kvs with | some y => Q (y, mh) | none => Q (x, putO mh i (.dictI (putA k x kvs)))
theorem W_item_list {i : Nat} {k : Int} {vs : List V} {v : V} {mh : MH} {Q : V × MH -> Prop} (h : ob mh i = some (.list vs)) (h0 : 0 <= k /\ k < 1000000) (hv : vs[k.toNat]? = some v) : W (gItem (.ref i) (.int k) mh) Q ↔ Q (v, mh) := by
  show W (oLD mh i _ _) Q ↔ _
  unfold oLD; rw [h]
  show W (gd _ (bo _ _)) Q ↔ _
  unfold gd; rw [if_pos h0, hv]; exact W_some _ _
theorem W_item_dict {i : Nat} {k : Int} {kvs : List (Int × V)} {v : V} {mh : MH} {Q : V × MH -> Prop} (h : ob mh i = some (.dictI kvs)) (hv : getA k kvs = some v) : W (gItem (.ref i) (.int k) mh) Q ↔ Q (v, mh) := by
  show W (oLD mh i _ _) Q ↔ _
  unfold oLD; rw [h]
  show W (bo _ _) Q ↔ _
  rw [hv]; exact W_some _ _
theorem W_store_list {i : Nat} {k : Int} {x : V} {vs : List V} {mh : MH} {Q : MH -> Prop} (h : ob mh i = some (.list vs)) (h0 : 0 <= k /\ k < vs.length /\ vs.length <= 1000) : W (gStore (.ref i) (.int k) x mh) Q ↔ Q (putO mh i (.list (vs.set k.toNat x))) := by
  show W (oLD mh i _ _) Q ↔ _
  unfold oLD; rw [h]
  show W (gd _ _) Q ↔ _
  unfold gd; rw [if_pos h0]; exact W_some _ _
theorem W_store_dict {i : Nat} {k : Int} {x : V} {kvs : List (Int × V)} {mh : MH} {Q : MH -> Prop} (h : ob mh i = some (.dictI kvs)) (h0 : kvs.length <= 1000) : W (gStore (.ref i) (.int k) x mh) Q ↔ Q (putO mh i (.dictI (putA k x kvs))) := by
  show W (oLD mh i _ _) Q ↔ _
  unfold oLD; rw [h]
  show W (gd _ _) Q ↔ _
  unfold gd; rw [if_pos h0]; exact W_some _ _
theorem W_notIn_dict {i : Nat} {k : Int} {kvs : List (Int × V)} {mh : MH} {Q : V × MH -> Prop} (h : ob mh i = some (.dictI kvs)) : W (gNotIn (.int k) (.ref i) mh) Q ↔ Q (.bool (!(getA k kvs).isSome), mh) := by
  show W (bo (memD mh (.int k) (.ref i)) _) Q ↔ _
  have e : memD mh (.int k) (.ref i) = some (getA k kvs).isSome := by
    show (match ob mh i with | some (.list vs) => _ | some (.dictI kvs) => _ | _ => _) = _
    rw [h]; rfl
  rw [e]; exact W_some _ _
noncomputable def SRl (y : SR) (P : Loc -> MH -> Prop) (Q : SR -> Prop) : Prop := match y with | .next l m => P l m | .cont l m => P l m | y => Q y
theorem W_loop {α : Type} (f : α -> V) {l : List α} (I : List α -> Loc -> MH -> Prop) {chk : MH -> Bool} {tg : Loc -> V -> Option Loc} {q : RS} {loc : Loc} {mh : MH} {Q : SR -> Prop} (h0 : I [] loc mh) (hc : ∀ d loc mh, I d loc mh -> chk mh = true)
    (hs : ∀ d x r loc mh, l = d ++ x :: r -> I d loc mh -> ∃ loc1, tg loc (f x) = some loc1 /\ W (q loc1 mh) fun y => SRl y (I (d ++ [x])) Q) (he : ∀ loc mh, I l loc mh -> Q (.next loc mh)) : W (rLoop tg q chk (l.map f) loc mh) Q := by
  have key : ∀ (r d : List α) (loc : Loc) (mh : MH), l = d ++ r -> I d loc mh -> W (rLoop tg q chk (r.map f) loc mh) Q := by
    intro r
    induction r with
    | nil =>
      intro d loc mh e i
      rw [List.append_nil] at e
      subst e
      simp only [List.map_nil, rLoop, hc _ _ _ i, if_true]
      exact (W_some _ _).mpr (he _ _ i)
    | cons x r ih =>
      intro d loc mh e i
      obtain ⟨loc1, e1, y, ey, hy⟩ := hs d x r loc mh e i
      simp only [List.map_cons, rLoop, hc _ _ _ i, if_true, e1, ey]
      cases y with
      | next l m => exact ih (d ++ [x]) l m (by rw [e]; simp) hy
      | cont l m => exact ih (d ++ [x]) l m (by rw [e]; simp) hy
      | ret v m => exact (W_some _ _).mpr hy
  exact key l [] loc mh rfl h0
theorem W_while (I : Nat -> Loc -> MH -> Prop) {t : RT} {q : RS} {n : Nat} (k : Nat) {loc : Loc} {mh : MH} {Q : SR -> Prop} (hk : k < n) (h0 : I 0 loc mh)
    (hs : ∀ j loc mh, j < k -> I j loc mh -> W (t loc mh) (Un fun b m => b = true /\ W (q loc m) fun y => ∃ l m, y = .next l m /\ I (j + 1) l m)) (he : ∀ loc mh, I k loc mh -> W (t loc mh) (Un fun b m => b = false /\ Q (.next loc m))) : W (rWhile t q n loc mh) Q := by
  have key : ∀ (d j n : Nat) (loc : Loc) (mh : MH), j + d = k -> d < n -> I j loc mh -> W (rWhile t q n loc mh) Q := by
    intro d
    induction d with
    | zero =>
      intro j n loc mh e hn i
      cases n with
      | zero => omega
      | succ n =>
        have : j = k := by omega
        subst this
        obtain ⟨⟨b, m⟩, e1, e2, hq⟩ := he loc mh i
        have e2 : b = _ := e2
        subst e2
        unfold rWhile
        rw [e1]
        exact (W_some _ _).mpr hq
    | succ d ih =>
      intro j n loc mh e hn i
      cases n with
      | zero => omega
      | succ n =>
        obtain ⟨⟨b, m⟩, e1, e2, y, ey, l, m', rfl, i'⟩ := hs j loc mh (by omega) i
        have e2 : b = _ := e2
        subst e2
        unfold rWhile
        simp only [e1, ey]
        exact ih (j + 1) n l m' (by omega) (by omega) i'
  exact key k 0 n loc mh (by omega) hk h0
end Mini
namespace Mini
section
variable {loc : Loc} {mh m m1 m2 m3 : MH} {v a b x y : V} {as : List V} {k l : List V}
theorem W.ret {α : Type} {y : α} {Q : α -> Prop} (h : Q y) : W (some y) Q := ⟨_, rfl, h⟩
theorem W.bd {α β : Type} {x : Option (α × MH)} {f : α -> MH -> Option β} {Q : β -> Prop} (h : W x fun p => W (f p.1 p.2) Q) : W (bd x f) Q := h.to fun p e h => by unfold Mini.bd; rw [e]; exact h
theorem W.bo {α β : Type} {x : Option α} {f : α -> Option β} {Q : β -> Prop} (h : W x fun a => W (f a) Q) : W (bo x f) Q := h.to fun p e h => by unfold Mini.bo; rw [e]; exact h
theorem W.gd {α : Type} {c : Prop} [Decidable c] {x : Option α} {Q : α -> Prop} (hc : c) (h : W x Q) : W (gd c x) Q := by unfold Mini.gd; rw [if_pos hc]; exact h
section
variable {β : Type} {Q : β -> Prop} {i : Nat}
theorem W.oL {f : List V -> Option β} {l : List V} (e : ob mh i = some (.list l)) (h : W (f l) Q) : W (oL mh i f) Q := by unfold Mini.oL; rw [e]; exact h
theorem W.oI {f : List (Int × V) -> Option β} {l : List (Int × V)} (e : ob mh i = some (.dictI l)) (h : W (f l) Q) : W (oI mh i f) Q := by unfold Mini.oI; rw [e]; exact h
theorem W.oS {f : List (String × V) -> Option β} {l : List (String × V)} (e : ob mh i = some (.dictS l)) (h : W (f l) Q) : W (oS mh i f) Q := by unfold Mini.oS; rw [e]; exact h
theorem W.oN {f : Nat -> List (String × V) -> Option β} {c : Nat} {l : List (String × V)} (e : ob mh i = some (.inst c l)) (h : W (f c l) Q) : W (oN mh i f) Q := by unfold Mini.oN; rw [e]; exact h
end
theorem w_seq {r q : RS} {Q} (h : W (r loc mh) fun x => SRb x q Q) : W (rSeq r q loc mh) Q := h.to fun a e h => by unfold rSeq; rw [e]; cases a <;> first | exact h | exact ⟨_, rfl, h⟩
theorem w_set {i : Nat} {r : RE} {Q : SR -> Prop} (h : W (r loc mh) <| Un fun a m => Q (.next (loc.set i (some a)) m)) : W (rSet i r loc mh) Q := W.bd (h.mono fun p h => W.ret h)
theorem w_ret {r : RE} {Q : SR -> Prop} (h : W (r loc mh) <| Un fun a m => Q (.ret a m)) : W (rRet r loc mh) Q := W.bd (h.mono fun p h => W.ret h)
theorem w_expr {r : RE} {Q : SR -> Prop} (h : W (r loc mh) <| Un fun a m => Q (.next loc m)) : W (rExpr r loc mh) Q := W.bd (h.mono fun p h => W.ret h)
theorem w_tup {q : REs} {Q : V × MH -> Prop} (h : W (q loc mh) <| Un fun a m => Q (.tup a, m)) : W (rTup q loc mh) Q := W.bd (h.mono fun p h => W.ret h)
theorem w_list {q : REs} {Q : V × MH -> Prop} (h : W (q loc mh) <| Un fun a m => Q (.ref m.length, mkO m (.list a))) : W (rList q loc mh) Q := W.bd (h.mono fun p h => W.ret h)
theorem w_TNot {r : RT} {Q : Bool × MH -> Prop} (h : W (r loc mh) <| Un fun a m => Q (!a, m)) : W (rTNot r loc mh) Q := W.bd (h.mono fun p h => W.ret h)
theorem w_if {t : RT} {r q : RS} {Q} (h : W (t loc mh) <| Un fun a m => if a = true then W (r loc m) Q else W (q loc m) Q) : W (rIf t r q loc mh) Q := W.bd (h.mono fun p h => by obtain ⟨b, m⟩ := p; cases b <;> exact h)
theorem w_IfE {t : RT} {r q : RE} {Q} (h : W (t loc mh) <| Un fun a m => if a = true then W (r loc m) Q else W (q loc m) Q) : W (rIfE t r q loc mh) Q := W.bd (h.mono fun p h => by obtain ⟨b, m⟩ := p; cases b <;> exact h)
theorem w_set2 {i j : Nat} {r q : RE} {Q : SR -> Prop} (h : W (r loc mh) <| Un fun a m => W (q loc m) <| Un fun a2 m2 => Q (.next ((loc.set j (some a2)).set i (some a)) m2)) : W (rSet2 i j r q loc mh) Q := W.bd (h.mono fun p h => W.bd (W.mono h fun p h => W.ret h))
theorem w_setItem {r q k : RE} {Q : SR -> Prop} (h : W (r loc mh) <| Un fun a m => W (q loc m) <| Un fun a2 m2 => W (k loc m2) <| Un fun a3 m3 => W (gStore a2 a3 a m3) fun m => Q (.next loc m)) : W (rSetItem r q k loc mh) Q := W.bd (h.mono fun p h => W.bd (W.mono h fun p h => W.bd (W.mono h fun p h => W.bo (W.mono h fun m h => W.ret h))))
theorem w_setAttr {c : Nat} {n : String} {r q : RE} {Q : SR -> Prop} (h : W (r loc mh) <| Un fun a m => W (q loc m) <| Un fun a2 m2 => W (gSetAttr c n a2 a m2) fun m => Q (.next loc m)) : W (rSetAttr c n r q loc mh) Q := W.bd (h.mono fun p h => W.bd (W.mono h fun p h => W.bo (W.mono h fun m h => W.ret h)))
theorem w_augName {i : Nat} {r : RE} {g : O2} {Q : SR -> Prop} (h : W (rLoc i loc mh) <| Un fun a m => W (r loc m) <| Un fun a2 m2 => W (g a a2 m2) <| Un fun a3 m3 => Q (.next (loc.set i (some a3)) m3)) : W (rAugName i r g loc mh) Q := W.bd (h.mono fun p h => W.bd (W.mono h fun p h => W.bd (W.mono h fun p h => W.ret h)))
theorem w_augItem {o k r : RE} {g : O2} {Q : SR -> Prop} (h : W (o loc mh) <| Un fun a m => W (k loc m) <| Un fun a2 m2 => W (gItem a a2 m2) <| Un fun a3 m3 => W (r loc m3) <| Un fun a4 m4 => W (g a3 a4 m4) <| Un fun a5 m5 => W (gStore a a2 a5 m5) fun m => Q (.next loc m)) : W (rAugItem o k r g loc mh) Q := W.bd (h.mono fun p h => W.bd (W.mono h fun p h => W.bd (W.mono h fun p h => W.bd (W.mono h fun p h => W.bd (W.mono h fun p h => W.bo (W.mono h fun m h => W.ret h))))))
theorem w_for {r : RI} {tg : Loc -> V -> Option Loc} {q : RS} {Q} (h : W (r loc mh) <| Un3 fun l m f => W (rLoop tg q f l loc m) Q) : W (rFor r tg q loc mh) Q := h.to fun a e h => by unfold rFor; rw [e]; exact h
theorem w_body {r : RS} {n j : Nat} {l : Loc} {Q : V × MH -> Prop} (hl : as.length = n) (e : as.map some ++ List.replicate j none = l) (h : W (r l mh) fun x => SRe x Q) : W (runBody r n j as mh) Q := h.to fun a e2 h => by
  unfold runBody; rw [if_pos hl, e, e2]; cases a <;> first | exact ⟨_, rfl, h⟩ | exact h.elim
theorem w_const {Q : V × MH -> Prop} (h : Q (v, mh)) : W (rConst v loc mh) Q := ⟨_, rfl, h⟩
theorem w_loc {i : Nat} {Q : V × MH -> Prop} (e : loc[i]? = some (some v)) (h : Q (v, mh)) : W (rLoc i loc mh) Q := by unfold rLoc; rw [e]; exact ⟨_, rfl, h⟩
theorem w_op1 {r : RE} {g : O1} {Q} (h : W (r loc mh) <| Un fun a m => W (g a m) Q) : W (rOp1 r g loc mh) Q := W.bd h
theorem w_op2 {r q : RE} {g : O2} {Q} (h : W (r loc mh) <| Un fun a m => W (q loc m) <| Un fun a2 m2 => W (g a a2 m2) Q) : W (rOp2 r q g loc mh) Q := W.bd (h.mono fun p h => W.bd h)
theorem w_nil {Q : List V × MH -> Prop} (h : Q ([], mh)) : W (rNil loc mh) Q := ⟨_, rfl, h⟩
theorem w_cons {r : RE} {q : REs} {Q : List V × MH -> Prop} (h : W (r loc mh) <| Un fun a m => W (q loc m) <| Un fun a2 m2 => Q (a :: a2, m2)) : W (rCons r q loc mh) Q := W.bd (h.mono fun p h => W.bd (W.mono h fun p h => W.ret h))
theorem w_call {q : REs} {g : ON} {Q} (h : W (q loc mh) <| Un fun a m => W (g a m) Q) : W (rCallN q g loc mh) Q := W.bd h
theorem w_T {r : RE} {Q : Bool × MH -> Prop} (h : W (r loc mh) <| Un fun a m => ∃ b, a = .bool b /\ Q (b, m)) : W (rT r loc mh) Q := W.bd (h.mono fun p h => by obtain ⟨a, m⟩ := p; obtain ⟨b, e, h⟩ := h; rw [show a = _ from e]; exact W.ret h)
theorem w_TAnd {r q : RT} {Q} (h : W (r loc mh) <| Un fun a m => if a = true then W (q loc m) Q else Q (false, m)) : W (rTAnd r q loc mh) Q := W.bd (h.mono fun p h => by obtain ⟨b, m⟩ := p; cases b <;> first | exact h | exact W.ret h)
theorem w_TOr {r q : RT} {Q} (h : W (r loc mh) <| Un fun a m => if a = true then Q (true, m) else W (q loc m) Q) : W (rTOr r q loc mh) Q := W.bd (h.mono fun p h => by obtain ⟨b, m⟩ := p; cases b <;> first | exact h | exact W.ret h)
theorem w_TC {c : Bool} {Q : Bool × MH -> Prop} (h : Q (c, mh)) : W (rTC c loc mh) Q := ⟨_, rfl, h⟩
theorem w_And {r q : RE} {Q} (h : W (r loc mh) <| Un fun a m => ∃ b, a = .bool b /\ if b = true then W (q loc m) Q else Q (.bool false, m)) : W (rAnd r q loc mh) Q := W.bd (h.mono fun p h => by obtain ⟨a, m⟩ := p; obtain ⟨b, e, h⟩ := h; rw [show a = _ from e]; cases b <;> first | exact h | exact W.ret h)
theorem w_Or {r q : RE} {Q} (h : W (r loc mh) <| Un fun a m => ∃ b, a = .bool b /\ if b = true then Q (.bool true, m) else W (q loc m) Q) : W (rOr r q loc mh) Q := W.bd (h.mono fun p h => by obtain ⟨a, m⟩ := p; obtain ⟨b, e, h⟩ := h; rw [show a = _ from e]; cases b <;> first | exact h | exact W.ret h)
theorem w_new {o : MObj} {Q : V × MH -> Prop} (h : Q (.ref mh.length, mkO mh o)) : W (rNew o loc mh) Q := ⟨_, rfl, h⟩
theorem w_isi {f : V -> Option Bool} {r : RE} {Q : V × MH -> Prop} (h : W (r loc mh) <| Un fun a m => ∃ b, f a = some b /\ Q (.bool b, m)) : W (rIsi f r loc mh) Q := W.bd (h.mono fun p h => W.bo (h.elim fun b h => ⟨b, h.1, W.ret h.2⟩))
theorem w_methW {c : Nat} {n : String} {o : RE} {q : REs} {g : ON} {Q} (h : W (o loc mh) <| Un fun a m => ∃ i, a = .ref i /\ ∃ fs, ob m i = some (.inst c fs) /\ getA n fs = none /\ W (q loc m) (Un fun a2 m2 => W (g (.ref i :: a2) m2) Q)) : W (rMeth c n o q g loc mh) Q := W.bd (h.mono fun p h => by
  obtain ⟨a, m⟩ := p; obtain ⟨i, e1, fs, e2, e3, h⟩ := h
  rw [show a = _ from e1]; exact W.oN e2 (W.gd ⟨rfl, by rw [e3]; rfl⟩ (W.bd h)))
theorem w_bmethW {T : String} {o : RE} {q : REs} {g : ON} {Q} (h : W (o loc mh) <| Un fun a m => ∃ i, a = .ref i /\ ∃ x, ob m i = some x /\ x.ty = some T /\ W (q loc m) (Un fun a2 m2 => W (g (.ref i :: a2) m2) Q)) : W (rBMeth T o q g loc mh) Q := W.bd (h.mono fun p h => by
  obtain ⟨a, m⟩ := p; obtain ⟨i, e1, x, e2, e3, h⟩ := h
  rw [show a = _ from e1]; exact W.bo ⟨x, e2, W.gd e3 (W.bd h)⟩)
theorem w_item {i : Int} {Q : V × MH -> Prop} (e : a = .tup l) (e' : b = .int i) (hi : 0 <= i /\ i < 1000000) (hv : l[i.toNat]? = some v) (h : Q (v, mh)) : W (gItem a b mh) Q := by subst e; subst e'; exact W.gd hi (W.bo ⟨_, hv, W.ret h⟩)
theorem w_attr {c i : Nat} {n : String} {fs : List (String × V)} {Q : V × MH -> Prop} (e : a = .ref i) (ho : ob mh i = some (.inst c fs)) (hv : getA n fs = some v) (h : Q (v, mh)) : W (gAttr c n a mh) Q := by subst e; exact W.oN ho (W.gd rfl (W.bo ⟨_, hv, W.ret h⟩))
theorem w_putAttr {c i : Nat} {n : String} {fs : List (String × V)} {Q : MH -> Prop} (e : a = .ref i) (ho : ob mh i = some (.inst c fs)) (hl : fs.length <= 1000) (h : Q (putO mh i (.inst c (putA n x fs)))) : W (gSetAttr c n a x mh) Q := by subst e; exact W.oN ho (W.gd ⟨rfl, hl⟩ (W.ret h))
theorem w_append {i : Nat} {vs : List V} {Q : V × MH -> Prop} (ho : ob mh i = some (.list vs)) (hl : vs.length <= 1000) (h : Q (.none, putO mh i (.list (vs ++ [x])))) : W (gAppend [.ref i, x] mh) Q := W.oL ho (W.gd hl (W.ret h))
theorem w_extend {i j : Nat} {vs us : List V} {Q : V × MH -> Prop} (ho : ob mh i = some (.list vs)) (ho2 : ob mh j = some (.list us)) (hl : vs.length <= 1000 /\ us.length <= 1000) (h : Q (.none, putO mh i (.list (vs ++ us)))) : W (gExtend [.ref i, .ref j] mh) Q := W.oL ho (W.oL ho2 (W.gd hl (W.ret h)))
theorem w_get {i : Nat} {n : Int} {kvs : List (Int × V)} {Q : V × MH -> Prop} (ho : ob mh i = some (.dictI kvs)) (h : Q ((getA n kvs).getD x, mh)) : W (gGet [.ref i, .int n, x] mh) Q := W.oI ho (W.ret h)
theorem w_gets {i : Nat} {n : String} {kvs : List (String × V)} {Q : V × MH -> Prop} (ho : ob mh i = some (.dictS kvs)) (h : Q ((getA n kvs).getD x, mh)) : W (gGet [.ref i, .str n, x] mh) Q := W.oS ho (W.ret h)
theorem w_stores {i : Nat} {n : String} {kvs : List (String × V)} {Q : MH -> Prop} (ho : ob mh i = some (.dictS kvs)) (hl : kvs.length <= 1000) (h : Q (putO mh i (.dictS (putA n x kvs)))) : W (gStore (.ref i) (.str n) x mh) Q := W.oS ho (W.gd hl (W.ret h))
theorem w_sd {i : Nat} {n : Int} {kvs : List (Int × V)} {Q : V × MH -> Prop} (ho : ob mh i = some (.dictI kvs)) (hl : kvs.length <= 1000) (h : SdB i n x kvs mh Q) : W (gSetdefault [.ref i, .int n, x] mh) Q := W.oI ho (W.gd hl (by
  unfold SdB at h
  cases e : getA n kvs with | none => rw [e] at h; exact ⟨_, rfl, h⟩ | some y => rw [e] at h; exact ⟨_, rfl, h⟩))
theorem w_exc {c : Nat} {Q : V × MH -> Prop} (h : Q (.ref mh.length, mkO mh (.exc c [("ball", x)] false))) : W (gExcNew c [x] mh) Q := ⟨_, rfl, h⟩
theorem w_len {i : Nat} {vs : List V} {Q : V × MH -> Prop} (ho : ob mh i = some (.list vs)) (hl : vs.length <= 1000) (h : Q (.int vs.length, mh)) : W (gLen [.ref i] mh) Q := W.oL ho (W.gd hl (W.ret h))
theorem w_lent {Q : V × MH -> Prop} (hl : l.length <= 1000) (h : Q (.int l.length, mh)) : W (gLen [.tup l] mh) Q := W.gd hl (W.ret h)
theorem w_lst {i : Nat} {vs : List V} {Q : V × MH -> Prop} (ho : ob mh i = some (.list vs)) (hl : vs.length <= 1000) (h : Q (.ref mh.length, mkO mh (.list vs))) : W (gList [.ref i] mh) Q := W.oL ho (W.gd hl (W.ret h))
theorem w_tpl {i : Nat} {vs : List V} {Q : V × MH -> Prop} (ho : ob mh i = some (.list vs)) (hl : vs.length <= 1000) (h : Q (.tup vs, mh)) : W (gTuple [.ref i] mh) Q := W.oL ho (W.gd hl (W.ret h))
theorem w_tail {Q : V × MH -> Prop} (e : a = .tup l) (hl : 1 <= l.length /\ l.length <= 1000) (h : Q (.tup (l.drop 1), mh)) : W (gTail a mh) Q := by subst e; exact W.gd hl (W.ret h)
theorem w_cat {i j : Nat} {xs ys : List V} {Q : V × MH -> Prop} (e : a = .ref i) (e' : b = .ref j) (ho : ob mh i = some (.list xs)) (ho2 : ob mh j = some (.list ys)) (hl : xs.length + ys.length <= 1000) (h : Q (.ref mh.length, mkO mh (.list (xs ++ ys)))) : W (gCat a b mh) Q := by subst e; subst e'; exact W.oL ho (W.oL ho2 (W.gd hl (W.ret h)))
theorem w_eqs {s t : String} {Q : V × MH -> Prop} (e : a = .str s) (e' : b = .str t) (h : Q (.bool (s == t), mh)) : W (gEq a b mh) Q := by subst e; subst e'; exact ⟨_, rfl, h⟩
theorem w_nes {s t : String} {Q : V × MH -> Prop} (e : a = .str s) (e' : b = .str t) (h : Q (.bool (!(s == t)), mh)) : W (gNe a b mh) Q := by subst e; subst e'; exact ⟨_, rfl, h⟩
theorem w_eqi {s t : Int} {Q : V × MH -> Prop} (e : a = .int s) (e' : b = .int t) (h : Q (.bool (s == t), mh)) : W (gEq a b mh) Q := by subst e; subst e'; exact ⟨_, rfl, h⟩
theorem w_nei {s t : Int} {Q : V × MH -> Prop} (e : a = .int s) (e' : b = .int t) (h : Q (.bool (!(s == t)), mh)) : W (gNe a b mh) Q := by subst e; subst e'; exact ⟨_, rfl, h⟩
theorem w_i2 {g : Int -> Int -> Option V} {s t : Int} {Q : V × MH -> Prop} (e : a = .int s) (e' : b = .int t) (hg : g s t = some v) (h : Q (v, mh)) : W (gI2 g a b mh) Q := by subst e; subst e'; unfold gI2; simp only [hg]; exact ⟨_, rfl, h⟩
theorem w_i2c {P : Int -> Int -> Prop} {d : ∀ x y, Decidable (P x y)} {X : Int -> Int -> V} {s t : Int} {Q : V × MH -> Prop} (e : a = .int s) (e' : b = .int t) (hp : P s t) (h : Q (X s t, mh)) : W (gI2 (fun x y => if P x y then some (X x y) else none) a b mh) Q := w_i2 e e' (if_pos hp) h
theorem w_mk {c : Nat} {g : ON} {Q : V × MH -> Prop} (h : W (g (.ref mh.length :: as) (mkO mh (.inst c []))) <| Un fun a m => a = .none /\ Q (.ref mh.length, m)) : W (gNew c g as mh) Q := h.to fun a e h => by obtain ⟨a, m⟩ := a; obtain ⟨e2, h⟩ := h; unfold gNew; rw [e, show a = _ from e2]; exact ⟨_, rfl, h⟩
theorem w_iter {r : RE} {Q} (h : W (r loc mh) <| Un fun a m => ItB (a, m) Q) : W (rIt r loc mh) Q := W.bd (h.mono fun p h => by
  obtain ⟨a, m⟩ := p; unfold Un ItB at h
  cases a with
  | tup l => exact ⟨_, rfl, h⟩
  | ref i =>
    show W (oSt m i _ _) Q
    unfold oSt
    dsimp only at h
    cases e2 : m[i]? with
    | none => rw [e2] at h; exact h.elim
    | some x => rw [e2] at h; obtain ⟨o, st⟩ := x; cases o <;> first | exact h.elim | exact ⟨_, rfl, h⟩
  | _ => exact h.elim)
theorem w_rng1 {r : RE} {Q : List V × MH × (MH -> Bool) -> Prop} (h : W (r loc mh) fun p => ∃ b, p.1 = .int b /\ small b = true /\ Q (rangeV 0 b, p.2, fun _ => true)) : W (rRange1 r loc mh) Q := W.bd (h.mono fun p h => by
  obtain ⟨a, m⟩ := p; obtain ⟨b, e2, e3, h⟩ := h; rw [show a = _ from e2]; exact W.gd e3 (W.ret h))
theorem w_rng2 {r q : RE} {Q : List V × MH × (MH -> Bool) -> Prop} (h : W (r loc mh) fun p => ∃ a, p.1 = .int a /\ W (q loc p.2) fun p2 => ∃ b, p2.1 = .int b /\ (small a = true /\ small b = true) /\ Q (rangeV a b, p2.2, fun _ => true)) : W (rRange2 r q loc mh) Q := W.bd (h.mono fun p h => by
  obtain ⟨a, m⟩ := p; obtain ⟨b, e2, h⟩ := h; rw [show a = _ from e2]; refine W.bd (h.mono fun p h => ?_); obtain ⟨c, m2⟩ := p; obtain ⟨d, e4, e5, h⟩ := h; rw [show c = _ from e4]; exact W.gd e5 (W.ret h))
theorem w_comp {r : RI} {lc : Loc -> Loc} {i : Nat} {t : RT} {e : RE} {Q : V × MH -> Prop} (h : W (r loc mh) <| Un3 fun l m f => l.length <= 1000 /\ W (rCompLoop i t e f l (lc loc) m) (Un fun l m => Q (.ref m.length, mkO m (.list l)))) : W (rComp r lc i t e loc mh) Q := h.to fun a e h => W.to h.2 fun b e2 h2 => by unfold rComp; simp only [e, h.1, e2, if_true]; exact ⟨_, rfl, h2⟩
theorem w_newmp {c : Nat} {g : ON} {Q : V × MH -> Prop} (h : W (gNew c g as mh) Q) : W (g (.ref mh.length :: as) (mkO mh (.inst c []))) fun p => p.1 = .none /\ Q (.ref mh.length, p.2) := h.elim fun a h => by
  obtain ⟨e, h⟩ := h; unfold gNew at e
  cases e2 : g (.ref mh.length :: as) (mkO mh (.inst c [])) with
  | none => rw [e2] at e; exact no_some e
  | some p => rw [e2] at e; obtain ⟨v, m⟩ := p; cases v <;> first | exact no_some e | (cases e; exact ⟨_, rfl, rfl, h⟩)
end
end Mini
namespace Mini
noncomputable section
noncomputable abbrev WK := V -> MH -> Prop
noncomputable def Sx (N : Loc -> MH -> Prop) (R : WK) (C : Loc -> MH -> Prop) : SR -> Prop | .next l m => N l m | .ret v m => R v m | .cont l m => C l m
structure Q1 (g : O1) where
  w : V -> MH -> WK -> Prop
  ok : ∀ a mh K, w a mh K -> W (g a mh) (Un K)
structure Q2 (g : O2) where
  w : V -> V -> MH -> WK -> Prop
  ok : ∀ a b mh K, w a b mh K -> W (g a b mh) (Un K)
structure QN (g : ON) where
  w : List V -> MH -> WK -> Prop
  ok : ∀ as mh K, w as mh K -> W (g as mh) (Un K)
structure QE (r : RE) where
  w : Loc -> MH -> WK -> Prop
  ok : ∀ l mh K, w l mh K -> W (r l mh) (Un K)
structure QL (r : REs) where
  w : Loc -> MH -> (List V -> MH -> Prop) -> Prop
  ok : ∀ l mh K, w l mh K -> W (r l mh) (Un K)
structure QT (r : RT) where
  w : Loc -> MH -> (Bool -> MH -> Prop) -> Prop
  ok : ∀ l mh K, w l mh K -> W (r l mh) (Un K)
structure QI (r : RI) where
  w : Loc -> MH -> (List V -> MH -> (MH -> Bool) -> Prop) -> Prop
  ok : ∀ l mh K, w l mh K -> W (r l mh) (Un3 K)
structure QS (r : RS) where
  w : Loc -> MH -> (Loc -> MH -> Prop) -> WK -> (Loc -> MH -> Prop) -> Prop
  ok : ∀ l mh N R C, w l mh N R C -> W (r l mh) (Sx N R C)
theorem W.un {α : Type} {x : Option (α × MH)} {K K' : α -> MH -> Prop} (h : W x (Un K)) (k : ∀ a m, K a m -> K' a m) : W x (Un K') := h.mono fun p h => k _ _ h
noncomputable def Q1.any {g : O1} : Q1 g := ⟨fun a mh K => W (g a mh) (Un K), fun _ _ _ h => h⟩
noncomputable def Q2.any {g : O2} : Q2 g := ⟨fun a b mh K => W (g a b mh) (Un K), fun _ _ _ _ h => h⟩
noncomputable def QN.any {g : ON} : QN g := ⟨fun as mh K => W (g as mh) (Un K), fun _ _ _ h => h⟩
noncomputable def Q1.neg : Q1 gNeg := ⟨fun a mh K => match a with | .int i => K (.int (-i)) mh | a => W (gNeg a mh) (Un K), fun a mh K h => by cases a <;> first | exact h | exact ⟨_, rfl, h⟩⟩
noncomputable def Q2.i2 {g : Int -> Int -> Option V} : Q2 (gI2 g) := ⟨fun a b mh K => match a, b with | .int i, .int j => (match g i j with | some v => K v mh | none => False) | a, b => W (gI2 g a b mh) (Un K), fun a b mh K h => by
  cases a <;> cases b <;> first | exact h | skip
  rename_i i j
  cases e : g i j with
  | none => simp only [e] at h
  | some v => simp only [e] at h; exact w_i2 rfl rfl e h⟩
noncomputable def Q2.i2c {P : Int -> Int -> Prop} {d : ∀ x y, Decidable (P x y)} {X : Int -> Int -> V} : Q2 (gI2 fun x y => if P x y then some (X x y) else none) := ⟨fun a b mh K => match a, b with | .int i, .int j => P i j /\ K (X i j) mh | a, b => W (gI2 (fun x y => if P x y then some (X x y) else none) a b mh) (Un K), fun a b mh K h => by
  cases a <;> cases b <;> first | exact h | exact w_i2c rfl rfl h.1 h.2⟩
noncomputable def Q2.eq : Q2 gEq := ⟨fun a b mh K => match a, b with | .str s, .str t => K (.bool (s == t)) mh | .int s, .int t => K (.bool (s == t)) mh | a, b => W (gEq a b mh) (Un K), fun a b mh K h => by
  cases a <;> cases b <;> first | exact h | exact w_eqs rfl rfl h | exact w_eqi rfl rfl h⟩
noncomputable def Q2.ne : Q2 gNe := ⟨fun a b mh K => match a, b with | .str s, .str t => K (.bool (!(s == t))) mh | .int s, .int t => K (.bool (!(s == t))) mh | a, b => W (gNe a b mh) (Un K), fun a b mh K h => by
  cases a <;> cases b <;> first | exact h | exact w_nes rfl rfl h | exact w_nei rfl rfl h⟩
noncomputable def QN.max : QN gMax := ⟨fun as mh K => match as with | [.int i, .int j] => K (.int (if j > i then j else i)) mh | as => W (gMax as mh) (Un K), fun as mh K h => by
  split at h
  . exact ⟨_, rfl, h⟩
  . exact h⟩
noncomputable def QN.new {g : ON} {c : Nat} (q : QN g) : QN (gNew c g) := ⟨fun as mh K => q.w (.ref mh.length :: as) (mkO mh (.inst c [])) fun v m => v = .none /\ K (.ref mh.length) m, fun as mh K h => w_mk (q.ok _ _ _ h)⟩
variable {r q k o : RE} {s s2 : REs} {t t2 : RT} {a b : RS} {g1 : O1} {g2 : O2} {gn : ON} {it : RI}
noncomputable def QE.const {v : V} : QE (rConst v) := ⟨fun l mh K => K v mh, fun l mh K h => w_const h⟩
noncomputable def QE.loc {i : Nat} : QE (rLoc i) := ⟨fun l mh K => match l[i]? with | some (some v) => K v mh | _ => False, fun l mh K h => by
  split at h
  . rename_i v e; exact w_loc e h
  . cases h⟩
noncomputable def QE.op1 (x : QE r) (g : Q1 g1) : QE (rOp1 r g1) := ⟨fun l mh K => x.w l mh fun v m => g.w v m K, fun l mh K h => w_op1 ((x.ok _ _ _ h).un fun v m h => g.ok _ _ _ h)⟩
noncomputable def QE.op2 (x : QE r) (y : QE q) (g : Q2 g2) : QE (rOp2 r q g2) := ⟨fun l mh K => x.w l mh fun v m => y.w l m fun u m => g.w v u m K, fun l mh K h => w_op2 ((x.ok _ _ _ h).un fun v m h => (y.ok _ _ _ h).un fun u m h => g.ok _ _ _ _ h)⟩
noncomputable def QL.nil : QL rNil := ⟨fun l mh K => K [] mh, fun l mh K h => w_nil h⟩
noncomputable def QL.cons (x : QE r) (y : QL s) : QL (rCons r s) := ⟨fun l mh K => x.w l mh fun v m => y.w l m fun vs m => K (v :: vs) m, fun l mh K h => w_cons ((x.ok _ _ _ h).un fun v m h => y.ok _ _ _ h)⟩
noncomputable def QE.call (y : QL s) (g : QN gn) : QE (rCallN s gn) := ⟨fun l mh K => y.w l mh fun vs m => g.w vs m K, fun l mh K h => w_call ((y.ok _ _ _ h).un fun vs m h => g.ok _ _ _ h)⟩
noncomputable def kB (K : Bool -> MH -> Prop) (v : V) (m : MH) : Prop := match v with | .bool b => K b m | _ => False
theorem kB.ok {K : Bool -> MH -> Prop} {v : V} {m : MH} (h : kB K v m) : ∃ b, v = .bool b /\ K b m := by cases v <;> first | exact h.elim | exact ⟨_, rfl, h⟩
noncomputable def QT.T (x : QE r) : QT (rT r) := ⟨fun l mh K => x.w l mh (kB K), fun l mh K h => w_T ((x.ok _ _ _ h).un fun v m h => kB.ok h)⟩
noncomputable def cB (c : Bool) (A B : Prop) : Prop := match c with | true => A | false => B
theorem cB.yes {c : Bool} {A B : Prop} (e : c = true) (h : A) : cB c A B := by subst e; exact h
theorem cB.no {c : Bool} {A B : Prop} (e : c = false) (h : B) : cB c A B := by subst e; exact h
noncomputable def QT.not (x : QT t) : QT (rTNot t) := ⟨fun l mh K => x.w l mh fun b m => K (!b) m, fun l mh K h => w_TNot (x.ok _ _ _ h)⟩
noncomputable def QT.and (x : QT t) (y : QT t2) : QT (rTAnd t t2) := ⟨fun l mh K => x.w l mh fun b m => cB b (y.w l m K) (K false m), fun l mh K h => w_TAnd ((x.ok _ _ _ h).un fun b m h => by cases b <;> first | exact y.ok _ _ _ h | exact h)⟩
noncomputable def QT.or (x : QT t) (y : QT t2) : QT (rTOr t t2) := ⟨fun l mh K => x.w l mh fun b m => cB b (K true m) (y.w l m K), fun l mh K h => w_TOr ((x.ok _ _ _ h).un fun b m h => by cases b <;> first | exact y.ok _ _ _ h | exact h)⟩
noncomputable def QT.C {c : Bool} : QT (rTC c) := ⟨fun l mh K => K c mh, fun l mh K h => w_TC h⟩
noncomputable def QE.and (x : QE r) (y : QE q) : QE (rAnd r q) := ⟨fun l mh K => x.w l mh (kB fun b m => cB b (y.w l m K) (K (.bool false) m)), fun l mh K h => w_And ((x.ok _ _ _ h).un fun v m h => by obtain ⟨b, e, h⟩ := kB.ok h; exact ⟨b, e, by cases b <;> first | exact y.ok _ _ _ h | exact h⟩)⟩
noncomputable def QE.or (x : QE r) (y : QE q) : QE (rOr r q) := ⟨fun l mh K => x.w l mh (kB fun b m => cB b (K (.bool true) m) (y.w l m K)), fun l mh K h => w_Or ((x.ok _ _ _ h).un fun v m h => by obtain ⟨b, e, h⟩ := kB.ok h; exact ⟨b, e, by cases b <;> first | exact y.ok _ _ _ h | exact h⟩)⟩
noncomputable def QE.ifE (x : QT t) (y : QE r) (z : QE q) : QE (rIfE t r q) := ⟨fun l mh K => x.w l mh fun b m => cB b (y.w l m K) (z.w l m K), fun l mh K h => w_IfE ((x.ok _ _ _ h).un fun b m h => by cases b <;> first | exact y.ok _ _ _ h | exact z.ok _ _ _ h)⟩
noncomputable def QE.tup (y : QL s) : QE (rTup s) := ⟨fun l mh K => y.w l mh fun vs m => K (.tup vs) m, fun l mh K h => w_tup (y.ok _ _ _ h)⟩
noncomputable def QE.list (y : QL s) : QE (rList s) := ⟨fun l mh K => y.w l mh fun vs m => K (.ref m.length) (mkO m (.list vs)), fun l mh K h => w_list (y.ok _ _ _ h)⟩
noncomputable def QE.new {m : MObj} : QE (rNew m) := ⟨fun l mh K => K (.ref mh.length) (mkO mh m), fun l mh K h => w_new h⟩
noncomputable def QE.isi {f : V -> Option Bool} (x : QE r) : QE (rIsi f r) := ⟨fun l mh K => x.w l mh fun v m => (match f v with | some b => K (.bool b) m | none => False), fun l mh K h => w_isi ((x.ok _ _ _ h).un fun v m h => by
  cases e : f v with
  | none => simp only [e] at h
  | some b => simp only [e] at h; exact ⟨b, rfl, h⟩)⟩
noncomputable def kT (i : Int) (K : WK) (v : V) (m : MH) : Prop := match v, i with | .tup l, .ofNat n => (match Nat.blt n 1000000, l[n]? with | true, some u => K u m | _, _ => False) | v, i => W (gItem v (.int i) m) (Un K)
theorem kT.ok {i : Int} {K : WK} {v : V} {m : MH} (h : kT i K v m) : W (gItem v (.int i) m) (Un K) := by
  unfold kT at h
  split at h
  . rename_i l n
    split at h
    . rename_i u e1 e2
      have := Nat.blt_eq.mp e1
      exact w_item rfl rfl ⟨Int.natCast_nonneg n, by simp only [Int.ofNat_eq_natCast]; omega⟩ e2 h
    . exact h.elim
  . exact h
noncomputable def QE.item (x : QE r) {i : Int} : QE (rOp2 r (rConst (.int i)) gItem) := ⟨fun l mh K => x.w l mh (kT i K), fun l mh K h => w_op2 ((x.ok _ _ _ h).un fun v m h => w_const (kT.ok h))⟩
@[irreducible] noncomputable def kM (c : Nat) (n : String) (K : Nat -> MH -> Prop) (v : V) (m : MH) : Prop := ∃ i, v = .ref i /\ ∃ fs, ob m i = some (.inst c fs) /\ getA n fs = none /\ K i m
@[irreducible] noncomputable def kN (T : String) (K : Nat -> MH -> Prop) (v : V) (m : MH) : Prop := ∃ i, v = .ref i /\ ∃ x, ob m i = some x /\ x.ty = some T /\ K i m
theorem kM.mk {c i : Nat} {n : String} {K : Nat -> MH -> Prop} {m : MH} {fs : List (String × V)} (e : ob m i = some (.inst c fs)) (z : getA n fs = none) (h : K i m) : kM c n K (.ref i) m := by unfold kM; exact ⟨i, rfl, fs, e, z, h⟩
theorem kN.mk {i : Nat} {T : String} {K : Nat -> MH -> Prop} {m : MH} {x : MObj} (e : ob m i = some x) (z : x.ty = some T) (h : K i m) : kN T K (.ref i) m := by unfold kN; exact ⟨i, rfl, x, e, z, h⟩
noncomputable def QE.meth {c : Nat} {n : String} (x : QE o) (y : QL s) (g : QN gn) : QE (rMeth c n o s gn) := ⟨fun l mh K => x.w l mh (kM c n fun i m => y.w l m fun vs m => g.w (.ref i :: vs) m K), fun l mh K h => w_methW ((x.ok _ _ _ h).un fun v m h => by unfold kM at h; obtain ⟨i, e, fs, h1, h2, h⟩ := h; exact ⟨i, e, fs, h1, h2, (y.ok _ _ _ h).un fun vs m h => g.ok _ _ _ h⟩)⟩
noncomputable def QE.bmeth {T : String} (x : QE o) (y : QL s) (g : QN gn) : QE (rBMeth T o s gn) := ⟨fun l mh K => x.w l mh (kN T fun i m => y.w l m fun vs m => g.w (.ref i :: vs) m K), fun l mh K h => w_bmethW ((x.ok _ _ _ h).un fun v m h => by unfold kN at h; obtain ⟨i, e, z, h1, h2, h⟩ := h; exact ⟨i, e, z, h1, h2, (y.ok _ _ _ h).un fun vs m h => g.ok _ _ _ h⟩)⟩
noncomputable def QI.of (x : QE r) : QI (rIt r) := ⟨fun l mh K => x.w l mh fun v m => match v with | .tup vs => K vs m fun _ => true | v => ItB (v, m) (Un3 K), fun l mh K h => w_iter ((x.ok _ _ _ h).un fun v m h => by cases v <;> first | exact h | exact (ItB_tup _ _ _).mpr h)⟩
noncomputable def kI (K : Int -> MH -> Prop) (v : V) (m : MH) : Prop := match v with | .int b => K b m | _ => False
theorem kI.ok {K : Int -> MH -> Prop} {v : V} {m : MH} (h : kI K v m) : ∃ b, v = .int b /\ K b m := by cases v <;> first | exact h.elim | exact ⟨_, rfl, h⟩
theorem kI.un {K : Int -> MH -> Prop} {p : V × MH} (h : Un (kI K) p) : ∃ b, p.1 = .int b /\ K b p.2 := kI.ok h
noncomputable def QI.r1 (x : QE r) : QI (rRange1 r) := ⟨fun l mh K => x.w l mh (kI fun b m => small b = true /\ K (rangeV 0 b) m fun _ => true), fun l mh K h => w_rng1 ((x.ok _ _ _ h).mono fun p h => kI.un h)⟩
noncomputable def QI.r2 (x : QE r) (y : QE q) : QI (rRange2 r q) := ⟨fun l mh K => x.w l mh (kI fun b m => y.w l m (kI fun c m => (small b = true /\ small c = true) /\ K (rangeV b c) m fun _ => true)), fun l mh K h =>
  w_rng2 ((x.ok _ _ _ h).mono fun p h => by obtain ⟨b, e, h⟩ := kI.un h; exact ⟨b, e, (y.ok _ _ _ h).mono fun p h => kI.un h⟩)⟩
noncomputable def QE.comp (x : QI it) {lc : Loc -> Loc} {i : Nat} {t : RT} {e : RE} : QE (rComp it lc i t e) := ⟨fun l mh K => x.w l mh fun vs m f => vs.length <= 1000 /\ W (rCompLoop i t e f vs (lc l) m) (Un fun vs m => K (.ref m.length) (mkO m (.list vs))), fun l mh K h => w_comp (x.ok _ _ _ h)⟩
noncomputable def QE.any {r : RE} : QE r := ⟨fun l mh K => W (r l mh) (Un K), fun _ _ _ h => h⟩
noncomputable def QS.skip : QS rSkip := ⟨fun l mh N R C => N l mh, fun l mh N R C h => ⟨_, rfl, h⟩⟩
noncomputable def QS.cont : QS rCont := ⟨fun l mh N R C => C l mh, fun l mh N R C h => ⟨_, rfl, h⟩⟩
noncomputable def QS.seq (x : QS a) (y : QS b) : QS (rSeq a b) := ⟨fun l mh N R C => x.w l mh (fun l m => y.w l m N R C) R C, fun l mh N R C h => w_seq ((x.ok _ _ _ _ _ h).mono fun z h => by cases z <;> first | exact y.ok _ _ _ _ _ h | exact h)⟩
noncomputable def QS.set {i : Nat} (x : QE r) : QS (rSet i r) := ⟨fun l mh N R C => x.w l mh fun v m => N (l.set i (some v)) m, fun l mh N R C h => w_set (x.ok _ _ _ h)⟩
noncomputable def QS.if (x : QT t) (y : QS a) (z : QS b) : QS (rIf t a b) := ⟨fun l mh N R C => x.w l mh fun c m => cB c (y.w l m N R C) (z.w l m N R C), fun l mh N R C h => w_if ((x.ok _ _ _ h).un fun c m h => by cases c <;> first | exact y.ok _ _ _ _ _ h | exact z.ok _ _ _ _ _ h)⟩
noncomputable def QS.ret (x : QE r) : QS (rRet r) := ⟨fun l mh N R C => x.w l mh R, fun l mh N R C h => w_ret (x.ok _ _ _ h)⟩
noncomputable def QS.expr (x : QE r) : QS (rExpr r) := ⟨fun l mh N R C => x.w l mh fun v m => N l m, fun l mh N R C h => w_expr (x.ok _ _ _ h)⟩
noncomputable def QS.set2 {i j : Nat} (x : QE r) (y : QE q) : QS (rSet2 i j r q) := ⟨fun l mh N R C => x.w l mh fun v m => y.w l m fun u m => N ((l.set j (some u)).set i (some v)) m, fun l mh N R C h => w_set2 ((x.ok _ _ _ h).un fun v m h => y.ok _ _ _ h)⟩
noncomputable def QS.setItem (x : QE r) (y : QE q) (z : QE k) : QS (rSetItem r q k) := ⟨fun l mh N R C => x.w l mh fun v m => y.w l m fun u m => z.w l m fun j m => W (gStore u j v m) (N l), fun l mh N R C h => w_setItem ((x.ok _ _ _ h).un fun v m h => (y.ok _ _ _ h).un fun u m h => z.ok _ _ _ h)⟩
noncomputable def QS.setAttr {c : Nat} {n : String} (x : QE r) (y : QE q) : QS (rSetAttr c n r q) := ⟨fun l mh N R C => x.w l mh fun v m => y.w l m fun u m => W (gSetAttr c n u v m) (N l), fun l mh N R C h => w_setAttr ((x.ok _ _ _ h).un fun v m h => y.ok _ _ _ h)⟩
noncomputable def QS.augName {i : Nat} (x : QE r) (g : Q2 g2) : QS (rAugName i r g2) := ⟨fun l mh N R C => (QE.loc (i := i)).w l mh fun v m => x.w l m fun u m => g.w v u m fun z m => N (l.set i (some z)) m, fun l mh N R C h => w_augName (((QE.loc (i := i)).ok _ _ _ h).un fun v m h => (x.ok _ _ _ h).un fun u m h => g.ok _ _ _ _ h)⟩
noncomputable def QS.augItem (x : QE o) (y : QE k) (z : QE r) (g : Q2 g2) : QS (rAugItem o k r g2) := ⟨fun l mh N R C => x.w l mh fun v m => y.w l m fun u m => W (gItem v u m) <| Un fun w m => z.w l m fun j m => g.w w j m fun c m => W (gStore v u c m) (N l),
  fun l mh N R C h => w_augItem ((x.ok _ _ _ h).un fun v m h => (y.ok _ _ _ h).un fun u m h => W.un h fun w m h => (z.ok _ _ _ h).un fun j m h => g.ok _ _ _ _ h)⟩
noncomputable def QS.for (x : QI it) {tg : Loc -> V -> Option Loc} {q : RS} : QS (rFor it tg q) := ⟨fun l mh N R C => x.w l mh fun vs m f => W (rLoop tg q f vs l m) (Sx N R C), fun l mh N R C h => w_for (x.ok _ _ _ h)⟩
noncomputable def QS.any {r : RS} : QS r := ⟨fun l mh N R C => W (r l mh) (Sx N R C), fun _ _ _ _ _ h => h⟩
theorem e_c {c : Bool} {A B : Prop} (h : cB c A B) : cB c A B := h
theorem e_W {α : Type} {x : Option α} {Q : α -> Prop} (h : W x Q) : W x Q := h
theorem e_Q {x : Option SR} {Q : SR -> Prop} (A : (SR -> Prop) -> Prop) (hA : A Q) (h : ∀ Q', A Q' -> W x Q') : W x Q := h Q hA
theorem e_x {α : Sort _} {p : α -> Prop} (h : ∃ a, p a) : ∃ a, p a := h
theorem QS.start {r : RS} {n j : Nat} {as : List V} {l : Loc} {mh : MH} {Q : V × MH -> Prop} (x : QS r) (hl : as.length = n) (e : as.map some ++ List.replicate j none = l) (h : x.w l mh (fun _ m => Q (.none, m)) (fun v m => Q (v, m)) fun _ _ => False) : W (runBody r n j as mh) Q :=
  w_body hl e ((x.ok _ _ _ _ _ h).mono fun z h => by cases z <;> exact h)
theorem QS.go {r : RS} {l : Loc} {mh : MH} {Q : SR -> Prop} (x : QS r) (h : x.w l mh (fun l m => Q (.next l m)) (fun v m => Q (.ret v m)) fun l m => Q (.cont l m)) : W (r l mh) Q := (x.ok _ _ _ _ _ h).mono fun z h => by cases z <;> exact h
theorem QE.go {r : RE} {l : Loc} {mh : MH} {Q : V × MH -> Prop} (x : QE r) (h : x.w l mh fun v m => Q (v, m)) : W (r l mh) Q := (x.ok _ _ _ h).mono fun z h => h
theorem QT.go {r : RT} {l : Loc} {mh : MH} {Q : Bool × MH -> Prop} (x : QT r) (h : x.w l mh fun v m => Q (v, m)) : W (r l mh) Q := (x.ok _ _ _ h).mono fun z h => h
end
end Mini
local macro_rules
  | `(tactic| simp_all only [$hs,*]) => do
    let ts : Array (Lean.TSyntax `term) := hs.getElems.map fun h => ⟨h.raw[2]⟩
    let ex <- ts.mapM fun t => `(tactic| exact $t)
    let side <- `(by first $[| $ex:tactic]* | rfl | assumption | exact Nat.le_of_ble_eq_true rfl | exact decide_eq_true (by assumption) | exact decide_eq_false (by assumption) | exact beq_iff_eq.mpr (by assumption) | exact beq_eq_false_iff_ne.mpr (by assumption) | (simp only [$hs,*]; done) | (simp [$hs,*]; done) | omega)
    let q <- `(?_)
    let al <- ("cB.yes+ cB.no+ kM.mk++ kN.mk++ w_attr+++ w_append++ w_putAttr+++ w_len++ w_lent+ w_get+ w_gets+ w_stores++ w_extend+++ w_lst++ w_tpl++ w_tail++ w_cat+++++ w_sd++ w_exc And.intro+".splitOn " ").toArray.mapM fun s => `(tactic| refine $(Lean.Syntax.mkApp (Lean.mkIdent (s.splitOn "+").head!.toName) (((s.splitOn "+").tail.map fun _ => side).toArray.push q)))
    let il <- ts.mapM fun t => `(tactic| first | refine ($t).mpr ?_ | refine ($t _).mpr ?_ | refine ($t _ _).mpr ?_ | refine ($t _ _ _).mpr ?_)
    `(tactic| (repeat first $[| $il:tactic]* $[| $al:tactic]*); try first | refine Mini.e_c ?_ | refine Mini.e_W ?_ | refine Mini.e_x ?_ | refine Mini.e_a ?_)
  | `(tactic| and_intros) => do
    let q <- `(?_)
    let al <- ("QS.skip QS.seq++ QS.set+ QS.if+++ QS.ret+ QS.expr+ QS.cont QS.for+ QE.loc QE.const QE.item+ QE.op2+++ QE.op1++ QL.nil QL.cons++ QT.T+ QE.bmeth+++ QE.meth+++ QE.call++ QE.tup+ QE.list+ QE.new QT.and++ QT.or++ QT.not+ QT.C QE.and++ QE.or++ QE.ifE+++ QE.isi+ QI.of+ QI.r1+ QI.r2++ QE.comp+ QS.set2++ QS.setItem+++ QS.setAttr++ QS.augName++ QS.augItem++++ Q1.neg Q2.i2c Q2.i2 Q2.eq Q2.ne QN.max QN.new+ Q1.any Q2.any QN.any QE.any QS.any".splitOn " ").toArray.mapM fun s => `(tactic| with_reducible refine $(Lean.Syntax.mkApp (Lean.mkIdent (s.splitOn "+").head!.toName) ((s.splitOn "+").tail.map fun _ => q).toArray))
    `(tactic| repeat' first $[| $al:tactic]*)
namespace Mini.L2
open Mini
noncomputable def TapeOk (mh : MH) : Prop := ∃ (xs : List Int) (p c : Int), ob mh 1 = some (.list (xs.map V.int)) /\ xs.length <= 60 /\ ob mh 2 = some (.list [.ref 1, .int p, .int c]) /\ 0 <= p /\ p <= 60
noncomputable def q_law_digit : QS r_law_digit := by
  delta r_law_digit r_law_digit_0 r_law_digit_1 r_law_digit_2 r_law_digit_3 r_law_digit_4 r_law_digit_5 r_law_digit_6
  and_intros
theorem digit_spec {mh : MH} {lim : Int} {Q : V × MH -> Prop} (hT : TapeOk mh) (h0 : 0 < lim) (h1 : lim < 1000) (hq : ∀ (d : Nat) mh', (d : Int) < lim -> TapeOk mh' -> Kp [1, 2] mh mh' -> Q (.int d, mh')) : W (g_law_digit [.ref 2, .int lim] mh) Q := by
  obtain ⟨xs, p, c, e1, hx, e2, hp0, hp⟩ := hT
  have i1 : ∀ Q, W (gItem (.ref 2) (.int 1) mh) Q ↔ Q (.int p, mh) := fun Q => W_item_list e2 (by decide) rfl
  have i0 : ∀ Q, W (gItem (.ref 2) (.int 0) mh) Q ↔ Q (.ref 1, mh) := fun Q => W_item_list e2 (by decide) rfl
  have i2 : ∀ Q, W (gItem (.ref 2) (.int 2) mh) Q ↔ Q (.int c, mh) := fun Q => W_item_list e2 (by decide) rfl
  have hl : (xs.map V.int).length <= 1000 := by rw [List.length_map]; omega
  refine QS.start q_law_digit rfl rfl ?_
  simp_all only [i1, i0, e1, hl]
  by_cases hlt : ((xs.map V.int).length : Int) <= p
  . simp_all only [hlt]
    exact hq 0 mh (by omega) ⟨xs, p, c, e1, hx, e2, hp0, hp⟩ (Kp.refl _ _)
  have hlx : p.toNat < xs.length := by rw [List.length_map] at hlt; omega
  have ii : ∀ Q, W (gItem (.ref 1) (.int p) mh) Q ↔ Q (.int (xs[p.toNat]), mh) := fun Q => W_item_list e1 (by omega) (by rw [List.getElem?_map, List.getElem?_eq_getElem hlx]; rfl)
  have st2 : ∀ x Q, W (gStore (.ref 2) (.int 2) x mh) Q ↔ Q (putO mh 2 (.list [.ref 1, .int p, x])) := fun x Q => W_store_list e2 (by simp)
  have hlim : 0 < lim /\ lim < 1000 := ⟨h0, h1⟩
  simp_all only [hlt, ii, i1, i0, i2, hlim, st2]
  have f1 : (xs[p.toNat]).fmod lim < lim := Int.fmod_lt_of_pos _ h0
  obtain ⟨d, hd⟩ := Int.eq_ofNat_of_zero_le (Int.fmod_nonneg_of_pos (xs[p.toNat]) h0)
  rw [hd] at f1
  have e2' : ob (putO mh 2 (.list [.ref 1, .int p, .int (c + 1)])) 2 = some (.list [.ref 1, .int p, .int (c + 1)]) := ob_put_self e2
  have e1' : ob (putO mh 2 (.list [.ref 1, .int p, .int (c + 1)])) 1 = some (.list (xs.map V.int)) := by rw [ob_put_ne _ _ (by decide)]; exact e1
  have k1 : Kp [1, 2] mh (putO mh 2 (.list [.ref 1, .int p, .int (c + 1)])) := (Kp.refl _ _).stepPut _ e2 (fun q => by simp) (by simp)
  generalize putO mh 2 (.list [.ref 1, .int p, .int (c + 1)]) = m1 at *
  have j1 : ∀ Q, W (gItem (.ref 2) (.int 1) m1) Q ↔ Q (.int p, m1) := fun Q => W_item_list e2' (by decide) rfl
  have j0 : ∀ Q, W (gItem (.ref 2) (.int 0) m1) Q ↔ Q (.ref 1, m1) := fun Q => W_item_list e2' (by decide) rfl
  have j2 : ∀ Q, W (gItem (.ref 2) (.int 2) m1) Q ↔ Q (.int (c + 1), m1) := fun Q => W_item_list e2' (by decide) rfl
  have s1 : ∀ x Q, W (gStore (.ref 2) (.int 1) x m1) Q ↔ Q (putO m1 2 (.list [.ref 1, x, .int (c + 1)])) := fun x Q => W_store_list e2' (by simp)
  have s2 : ∀ y x Q, W (gStore (.ref 2) (.int 2) x (putO m1 2 (.list [.ref 1, y, .int (c + 1)]))) Q ↔ Q (putO (putO m1 2 (.list [.ref 1, y, .int (c + 1)])) 2 (.list [.ref 1, y, x])) := fun y x Q => W_store_list (ob_put_self e2') (by simp)
  have fin : Q (.int ((xs[p.toNat]).fmod lim), putO (putO m1 2 (.list [.ref 1, .int (p + 1), .int (c + 1)])) 2 (.list [.ref 1, .int (p + 1), .int 0])) := by
    have o1 := ob_put_self (o := .list [.ref 1, .int (p + 1), .int (c + 1)]) e2'
    rw [hd]
    refine hq d _ f1 ⟨xs, p + 1, 0, ?_, hx, ob_put_self o1, by omega, by rw [List.length_map] at hlt; omega⟩ ?_
    . rw [ob_put_ne _ _ (by decide), ob_put_ne _ _ (by decide)]; exact e1'
    . exact (k1.stepPut _ e2' (fun q => by simp) (by simp)).stepPut _ o1 (fun q => by simp) (by simp)
  have s3 : ∀ x Q, W (gStore (.ref 1) (.int p) x m1) Q ↔ Q (putO m1 1 (.list ((xs.map V.int).set p.toNat x))) := fun x Q => W_store_list e1' ⟨hp0, by omega, hl⟩
  simp_all only [j1, j0, j2, s1, s2, s3]
  by_cases a1 : (xs[p.toNat]).fdiv lim = 0
  . simp_all only [j1, j0, j2, s1, s2, s3]; exact fin
  . simp_all only [j2]
    by_cases a2 : (xs[p.toNat]).fdiv lim = -1
    . simp_all only [j1, j0, j2, s1, s2, s3]; exact fin
    . simp_all only [j2]
      by_cases a3 : c + 1 = 30
      . simp_all only [j1, j0, j2, s1, s2, s3]; exact fin
      . simp_all only [j1, j0, j2, s1, s2, s3]
        have := hq d _ f1 ⟨xs.set p.toNat ((xs[p.toNat]).fdiv lim), p, c + 1, by rw [ob_put_self e1', List.map_set], by rw [List.length_set]; exact hx, by rw [ob_put_ne _ _ (by decide)]; exact e2', hp0, hp⟩ (k1.stepPut _ e1' (fun q => by simp) (by simp))
        rw [<- hd] at this; exact this
end Mini.L2
namespace Mini.L2
open Mini
inductive Kd where | t | y | a | x deriving DecidableEq
noncomputable def Kd.s : Kd -> String | .t => "t" | .y => "y" | .a => "a" | .x => "x"
structure Op where
  k : Kd
  n : Nat
  deriving DecidableEq
noncomputable def Op.toV (o : Op) : V := .tup [.str o.k.s, .int o.n]
inductive Part where | i (n : Int) | o (p : Op)
noncomputable def Part.toV : Part -> V | .i n => .int n | .o p => p.toV
inductive Row where
  | putVoid (p : Op) | unifyVariable (p : Op) | putValue (p q : Op) | getVariable (p q : Op) | getValue (p q : Op) | putVariable (p q : Op) | getStructure (p : Op) | unifyLocal (p : Op)
  | setValue (p : Op) | putList (p : Op) | mark (p : Op) | neckCut | getList (p : Op) | builtin | call
noncomputable def Row.name : Row -> String
  | putVoid _ => "put_void" | unifyVariable _ => "unify_variable" | putValue .. => "put_value" | getVariable .. => "get_variable" | getValue .. => "get_value" | putVariable .. => "put_variable" | getStructure _ => "get_structure"
  | unifyLocal _ => "unify_local_value" | setValue _ => "set_value" | putList _ => "put_list" | mark _ => "mark" | neckCut => "neck_cut" | getList _ => "get_list" | builtin => "builtin" | call => "call"
noncomputable def Row.parts : Row -> List Part
  | putVoid p => [.o p] | unifyVariable p => [.o p] | putValue p q => [.o p, .o q] | getVariable p q => [.o p, .o q] | getValue p q => [.o p, .o q] | putVariable p q => [.o p, .o q] | getStructure p => [.i 4, .o p]
  | unifyLocal p => [.o p] | setValue p => [.o p] | putList p => [.o p] | mark p => [.o p] | neckCut => [] | getList p => [.o p] | builtin => [.i 3] | call => [.i 9, .i 1]
noncomputable def Row.toV (r : Row) : V := .tup (.str r.name :: r.parts.map Part.toV)
noncomputable def Row.roles : Row -> List (Int × Op)
  | putVoid p => [(2, p)] | unifyVariable p => [(2, p)] | putValue p q => [(1, p), (2, q)] | getVariable p q => [(1, q), (2, p)] | getValue p q => [(1, p), (1, q)] | putVariable p q => [(2, p), (2, q)] | getStructure p => [(1, p)]
  | unifyLocal p => [(3, p)] | setValue p => [(1, p)] | putList p => [(2, p)] | mark p => [(2, p)] | neckCut => [] | getList p => [(1, p)] | builtin => [] | call => []
noncomputable def Row.map (f : Op -> Op) : Row -> Row
  | putVoid p => putVoid (f p) | unifyVariable p => unifyVariable (f p) | putValue p q => putValue (f p) (f q) | getVariable p q => getVariable (f p) (f q) | getValue p q => getValue (f p) (f q) | putVariable p q => putVariable (f p) (f q)
  | getStructure p => getStructure (f p) | unifyLocal p => unifyLocal (f p) | setValue p => setValue (f p) | putList p => putList (f p) | mark p => mark (f p) | neckCut => neckCut | getList p => getList (f p) | builtin => builtin | call => call
noncomputable def Part.map (f : Op -> Op) : Part -> Part | .i n => .i n | .o p => .o (f p)
theorem Row.mem_roles (r : Row) (q : Op) : (∃ x ∈ r.roles, x.2 = q) ↔ Part.o q ∈ r.parts := by
  cases r <;> simp [Row.roles, Row.parts, @eq_comm _ q, or_comm]
theorem mem2 {α : Type} {p : α -> Prop} {x : α} {l : List α} (h : p x) (t : ∀ y ∈ l, p y) : ∀ y ∈ x :: l, p y := List.forall_mem_cons.2 ⟨h, t⟩
theorem Row.name_map (f : Op -> Op) (r : Row) : (r.map f).name = r.name := by cases r <;> rfl
theorem Row.parts_map (f : Op -> Op) (r : Row) : (r.map f).parts = r.parts.map (Part.map f) := by cases r <;> rfl
theorem Row.roles_map (f : Op -> Op) (r : Row) : (r.map f).roles = r.roles.map (fun x => (x.1, f x.2)) := by cases r <;> rfl
noncomputable def Row.ends : Row -> Bool | call => true | builtin => true | _ => false
noncomputable def roleV (x : Int × Op) : V := .tup [.int x.1, x.2.toV]
noncomputable def q_operand_roles : QS r_operand_roles := by
  delta r_operand_roles r_operand_roles_0 r_operand_roles_1 r_operand_roles_2 r_operand_roles_3 r_operand_roles_4 r_operand_roles_5 r_operand_roles_6 r_operand_roles_7 r_operand_roles_8 r_operand_roles_9 r_operand_roles_10 r_operand_roles_11 r_operand_roles_12 r_operand_roles_13 r_operand_roles_14
  and_intros
theorem roles_spec {mh : MH} {r : Row} {Q : V × MH -> Prop} (hq : Q (.ref mh.length, mkO mh (.list (r.roles.map roleV)))) : W (g_operand_roles [r.toV] mh) Q := by
  refine QS.start q_operand_roles rfl rfl ?_
  cases r <;> exact hq
noncomputable def q_ends_arguments : QS r_ends_arguments := by
  delta r_ends_arguments r_ends_arguments_0 r_ends_arguments_1
  and_intros
theorem ends_spec {mh : MH} {r : Row} {Q : V × MH -> Prop} (hq : Q (.bool r.ends, mh)) : W (g_ends_arguments [r.toV] mh) Q := by
  refine QS.start q_ends_arguments rfl rfl ?_
  cases r <;> exact hq
end Mini.L2
namespace Mini.L2
open Mini
structure Occ where
  kd : String
  num : Nat
  st : Int
  en : Int
noncomputable def Occ.fs (o : Occ) : List (String × V) := [("kind", .str o.kd), ("number", .int o.num), ("start", .int o.st), ("stop", .int o.en)]
noncomputable def Occ.over (a b : Occ) : Bool := decide (a.st < b.en) && decide (b.st < a.en)
noncomputable def OccAt (mh : MH) (i : Nat) (o : Occ) : Prop := ob mh i = some (.inst 217 o.fs)
theorem OccAt.kp {T : List Nat} {mh mh' : MH} {i : Nat} {o : Occ} (h : OccAt mh i o) (k : Kp T mh mh') (n : i ∉ T) : OccAt mh' i o := k.ob h n
noncomputable def q_Occupation___init : QS r_Occupation___init := by
  delta r_Occupation___init r_Occupation___init_0 r_Occupation___init_1 r_Occupation___init_2 r_Occupation___init_3
  and_intros
theorem occ_new {mh : MH} {k : String} {n : Nat} {s e : Int} {Q : V × MH -> Prop} (hq : ∀ mh', Kp [] mh mh' -> mh'.length = mh.length + 1 -> OccAt mh' mh.length ⟨k, n, s, e⟩ -> Q (.ref mh.length, mh')) : W (gNew 217 g_Occupation___init [.str k, .int n, .int s, .int e] mh) Q := by
  have o0 := ob_mk_new mh (.inst 217 [])
  have o1 := ob_put_self (o := .inst 217 [("kind", .str k)]) o0
  have o2 := ob_put_self (o := .inst 217 [("kind", .str k), ("number", .int n)]) o1
  have o3 := ob_put_self (o := .inst 217 [("kind", .str k), ("number", .int n), ("start", .int s)]) o2
  have o4 := ob_put_self (o := .inst 217 [("kind", .str k), ("number", .int n), ("start", .int s), ("stop", .int e)]) o3
  refine w_mk (QS.start q_Occupation___init rfl rfl ?_)
  simp_all only [o0, o1, o2, o3, (Nat.le_of_ble_eq_true rfl)]
  refine hq _ ?_ ?_ o4
  . exact (((((Kp.mk mh (.inst 217 [])).stepPut _ o0 (fun q => by simp) (.inr (Nat.le_refl _))).stepPut _ o1 (fun q => by simp) (.inr (Nat.le_refl _))).stepPut _ o2 (fun q => by simp) (.inr (Nat.le_refl _))).stepPut _ o3 (fun q => by simp) (.inr (Nat.le_refl _)))
  . simp only [put_length, len_mk]
noncomputable def q_Occupation_overlaps : QS r_Occupation_overlaps := by
  delta r_Occupation_overlaps r_Occupation_overlaps_0
  and_intros
theorem over_spec {mh : MH} {i j : Nat} {a b : Occ} {Q : V × MH -> Prop} (ha : OccAt mh i a) (hb : OccAt mh j b) (hq : Q (.bool (a.over b), mh)) : W (g_Occupation_overlaps [.ref i, .ref j] mh) Q := by
  unfold OccAt at ha hb
  have g1 : ∀ o : Occ, getA "start" o.fs = some (.int o.st) := fun o => by simp [getA, Occ.fs]
  have g2 : ∀ o : Occ, getA "stop" o.fs = some (.int o.en) := fun o => by simp [getA, Occ.fs]
  refine QS.start q_Occupation_overlaps rfl rfl ?_
  simp_all only [ha, hb, g1, g2]
  unfold Occ.over at hq
  by_cases h : a.st < b.en
  . simp_all only [ha, hb, g1, g2]
    rw [decide_eq_true h] at hq; exact hq
  . simp_all only [ha, hb, g1, g2]
    rw [decide_eq_false h] at hq; exact hq
noncomputable def symF : List (String × V) := [("texts", .ref 4), ("atom_numbers", .ref 5), ("functors", .ref 6), ("functor_numbers", .ref 7)]
noncomputable def Sym (N : Nat) (mh : MH) : Prop := ob mh 3 = some (.inst 154 symF) /\ ∃ ts ka fs kf, ob mh 4 = some (.list ts) /\ ob mh 5 = some (.dictS ka) /\ ob mh 6 = some (.list fs) /\ ob mh 7 = some (.dictT kf) /\ ts.length <= N /\ ka.length <= N /\ fs.length <= N /\ kf.length <= N /\
  (∀ x v, getA x ka = some v -> ∃ n : Nat, v = .int n) /\ ∀ k v, getA k kf = some v -> ∃ n : Nat, v = .int n
noncomputable def AtomIs (x : String) (n : Nat) (mh : MH) : Prop := ∃ ka, ob mh 5 = some (.dictS ka) /\ getA x ka = some (.int n)
noncomputable def FunIs (k : List Int) (n : Nat) (mh : MH) : Prop := ∃ kf, ob mh 7 = some (.dictT kf) /\ getA k kf = some (.int n)
theorem getA_putA {K β : Type} [DecidableEq K] (k j : K) (v : β) : ∀ (l : List (K × β)), getA j (putA k v l) = if k = j then some v else getA j l
  | [] => by by_cases h : k = j <;> simp [putA, getA, h]
  | (a, b) :: r => by
    unfold putA
    by_cases h : a = k
    . subst h
      by_cases h2 : a = j <;> simp [getA, h2]
    . rw [if_neg h]
      by_cases h2 : a = j
      . subst h2; simp [getA, Ne.symm h]
      . simp only [getA, if_neg h2]; exact getA_putA k j v r
theorem putA_len {K β : Type} [DecidableEq K] (k : K) (v : β) : ∀ (l : List (K × β)), (putA k v l).length <= l.length + 1
  | [] => by simp [putA]
  | (a, b) :: r => by
    unfold putA
    by_cases h : a = k
    . simp [h]
    . simp only [h, if_false, List.length_cons]; have := putA_len k v r; omega
theorem Sym.mono {N M : Nat} {mh : MH} (h : Sym N mh) (le : N <= M) : Sym M mh := by
  obtain ⟨h3, ts, ka, fs, kf, a, b, c, d, e, f, g, i, j, k⟩ := h
  exact ⟨h3, ts, ka, fs, kf, a, b, c, d, by omega, by omega, by omega, by omega, j, k⟩
theorem Sym.kp {N : Nat} {T : List Nat} {mh mh' : MH} (h : Sym N mh) (k : Kp T mh mh') (n : ∀ j ∈ [3, 4, 5, 6, 7], j ∉ T) : Sym N mh' := by
  obtain ⟨h3, ts, ka, fs, kf, a, b, c, d, r⟩ := h
  exact ⟨k.ob h3 (n _ (by simp)), ts, ka, fs, kf, k.ob a (n _ (by simp)), k.ob b (n _ (by simp)), k.ob c (n _ (by simp)), k.ob d (n _ (by simp)), r⟩
theorem AtomIs.kp {x : String} {n : Nat} {T : List Nat} {mh mh' : MH} (h : AtomIs x n mh) (k : Kp T mh mh') (nn : 5 ∉ T) : AtomIs x n mh' := let ⟨ka, a, b⟩ := h; ⟨ka, k.ob a nn, b⟩
theorem FunIs.kp {x : List Int} {n : Nat} {T : List Nat} {mh mh' : MH} (h : FunIs x n mh) (k : Kp T mh mh') (nn : 7 ∉ T) : FunIs x n mh' := let ⟨ka, a, b⟩ := h; ⟨ka, k.ob a nn, b⟩
theorem symF_get : getA "texts" symF = some (.ref 4) /\ getA "atom_numbers" symF = some (.ref 5) /\ getA "functors" symF = some (.ref 6) /\ getA "functor_numbers" symF = some (.ref 7) := by simp [symF, getA]
noncomputable def q_Symbols_atom : QS r_Symbols_atom := by
  delta r_Symbols_atom r_Symbols_atom_0 r_Symbols_atom_1 r_Symbols_atom_2 r_Symbols_atom_3 r_Symbols_atom_4 r_Symbols_atom_5
  and_intros
theorem atom_hit {N n : Nat} {mh : MH} {x : String} {Q : V × MH -> Prop} (hS : Sym N mh) (hA : AtomIs x n mh) (hq : Q (.int n, mh)) : W (g_Symbols_atom [.ref 3, .str x] mh) Q := by
  obtain ⟨h3, _⟩ := hS
  obtain ⟨ka, h5, hx⟩ := hA
  obtain ⟨g1, g2, g3, g4⟩ := symF_get
  have hty : (MObj.dictS ka).ty = some "dict" := rfl
  have hn : (0 : Int) <= n := by omega
  refine QS.start q_Symbols_atom rfl rfl ?_
  simp_all only [hty]
  rw [hx]
  simp_all only [hn]
  exact hq
theorem atom_spec {N : Nat} {mh : MH} {x : String} {Q : V × MH -> Prop} (hS : Sym N mh) (hN : N <= 900) (hq : ∀ (n : Nat) mh', Sym (N + 1) mh' -> Kp [4, 5] mh mh' -> AtomIs x n mh' -> (∀ y m, AtomIs y m mh -> AtomIs y m mh') -> Q (.int n, mh')) : W (g_Symbols_atom [.ref 3, .str x] mh) Q := by
  obtain ⟨h3, ts, ka, fs, kf, h4, h5, h6, h7, l1, l2, l3, l4, v1, v2⟩ := id hS
  cases hx : getA x ka with
  | some v =>
    obtain ⟨n, rfl⟩ := v1 x v hx
    exact atom_hit hS ⟨ka, h5, hx⟩ (hq n mh (hS.mono (by omega)) (Kp.refl _ _) ⟨ka, h5, hx⟩ fun _ _ h => h)
  | none =>
    obtain ⟨g1, g2, g3, g4⟩ := symF_get
    have hty : (MObj.dictS ka).ty = some "dict" := rfl
    have hty2 : (MObj.list ts).ty = some "list" := rfl
    have hl : ts.length <= 1000 := by omega
    have hl2 : ka.length <= 1000 := by omega
    have q4 := ob_put_self (o := .list (ts ++ [.str x])) h4
    have q3 : ob (putO mh 4 (.list (ts ++ [.str x]))) 3 = some (.inst 154 symF) := by rw [ob_put_ne _ _ (by decide)]; exact h3
    have q5 : ob (putO mh 4 (.list (ts ++ [.str x]))) 5 = some (.dictS ka) := by rw [ob_put_ne _ _ (by decide)]; exact h5
    have q6 : ob (putO mh 4 (.list (ts ++ [.str x]))) 6 = some (.list fs) := by rw [ob_put_ne _ _ (by decide)]; exact h6
    have q7 : ob (putO mh 4 (.list (ts ++ [.str x]))) 7 = some (.dictT kf) := by rw [ob_put_ne _ _ (by decide)]; exact h7
    refine QS.start q_Symbols_atom rfl rfl ?_
    simp_all only [hty]
    rw [hx]
    simp_all only [hty, hty2]
    have z5 := ob_put_self (o := .dictS (putA x (.int ts.length) ka)) q5
    refine hq ts.length _ ⟨?_, ts ++ [.str x], _, fs, kf, ?_, z5, ?_, ?_, by simp; omega, (by have := putA_len x (V.int ts.length) ka; omega), by omega, by omega, fun y v hy => ?_, v2⟩ ?_ ⟨_, z5, by rw [getA_putA, if_pos rfl]⟩ fun y m hm => ?_
    . rw [ob_put_ne _ _ (by decide)]; exact q3
    . rw [ob_put_ne _ _ (by decide)]; exact q4
    . rw [ob_put_ne _ _ (by decide)]; exact q6
    . rw [ob_put_ne _ _ (by decide)]; exact q7
    . rw [getA_putA] at hy
      split at hy
      . cases hy; exact ⟨_, rfl⟩
      . exact v1 y v hy
    . exact ((Kp.refl _ _).stepPut _ h4 (fun q => by simp) (by simp)).stepPut _ q5 (fun q => by simp) (by simp)
    . obtain ⟨ka', e, hy⟩ := hm
      rw [h5] at e; cases e
      refine ⟨_, z5, ?_⟩
      rw [getA_putA]
      split
      . rename_i e; subst e; rw [hx] at hy; cases hy
      . exact hy
noncomputable def q_Symbols_functor : QS r_Symbols_functor := by
  delta r_Symbols_functor r_Symbols_functor_0 r_Symbols_functor_1 r_Symbols_functor_2 r_Symbols_functor_3 r_Symbols_functor_4 r_Symbols_functor_5 r_Symbols_functor_6
  and_intros
theorem functor_spec {N a k : Nat} {mh : MH} {Q : V × MH -> Prop} (hS : Sym N mh) (hN : N <= 900) (hq : ∀ (n : Nat) mh', (∀ n, ¬ FunIs [a, k] n mh) -> Sym (N + 1) mh' -> Kp [6, 7] mh mh' -> FunIs [a, k] n mh' -> (∀ y m, FunIs y m mh -> FunIs y m mh') -> Q (.int n, mh'))
    (hit : ∀ n, FunIs [a, k] n mh -> Q (.int n, mh)) : W (g_Symbols_functor [.ref 3, .int a, .int k] mh) Q := by
  obtain ⟨h3, ts, ka, fs, kf, h4, h5, h6, h7, l1, l2, l3, l4, v1, v2⟩ := id hS
  obtain ⟨g1, g2, g3, g4⟩ := symF_get
  have hty : (MObj.dictT kf).ty = some "dict" := rfl
  have hty2 : (MObj.list fs).ty = some "list" := rfl
  have hl : fs.length <= 1000 := by omega
  have hl2 : kf.length <= 1000 := by omega
  have gg : ∀ (mh : MH) (x : V) (Q : V × MH -> Prop), ob mh 7 = some (.dictT kf) -> (W (gGet [.ref 7, .tup [.int a, .int k], x] mh) Q ↔ Q ((getA [(a : Int), (k : Int)] kf).getD x, mh)) := fun mh x Q h => by
    simp only [gGet, on3, vref, vkey, oT, h, bo, tupKey]; exact W_some _ _
  have gs : ∀ (mh : MH) (x : V) (Q : MH -> Prop), ob mh 7 = some (.dictT kf) -> (W (gStore (.ref 7) (.tup [.int a, .int k]) x mh) Q ↔ Q (putO mh 7 (.dictT (putA [(a : Int), (k : Int)] x kf)))) := fun mh x Q h => by
    simp only [gStore, vref, vkey, oT, h, bo, gd, tupKey, hl2, if_true]; exact W_some _ _
  refine QS.start q_Symbols_functor rfl rfl ?_
  simp_all only [hty, gg mh _ _ h7]
  cases hx : getA [(a : Int), (k : Int)] kf with
  | some v =>
    obtain ⟨n, rfl⟩ := v2 _ v hx
    have hn : (0 : Int) <= n := by omega
    simp_all only [hn]
    exact hit n ⟨kf, h7, hx⟩
  | none =>
    have q6 := ob_put_self (o := .list (fs ++ [.tup [.int a, .int k]])) h6
    have q3 : ob (putO mh 6 (.list (fs ++ [.tup [.int a, .int k]]))) 3 = some (.inst 154 symF) := by rw [ob_put_ne _ _ (by decide)]; exact h3
    have q7 : ob (putO mh 6 (.list (fs ++ [.tup [.int a, .int k]]))) 7 = some (.dictT kf) := by rw [ob_put_ne _ _ (by decide)]; exact h7
    have q5 : ob (putO mh 6 (.list (fs ++ [.tup [.int a, .int k]]))) 5 = some (.dictS ka) := by rw [ob_put_ne _ _ (by decide)]; exact h5
    have q4 : ob (putO mh 6 (.list (fs ++ [.tup [.int a, .int k]]))) 4 = some (.list ts) := by rw [ob_put_ne _ _ (by decide)]; exact h4
    simp_all only [hty2, gs _ _ _ q7]
    have z7 := ob_put_self (o := .dictT (putA [(a : Int), (k : Int)] (.int fs.length) kf)) q7
    refine hq fs.length _ (fun n ⟨kf', e, e'⟩ => by rw [h7] at e; cases e; rw [hx] at e'; cases e') ⟨?_, ts, ka, fs ++ [.tup [.int a, .int k]], _, ?_, ?_, ?_, z7, by omega, by omega, by simp; omega, (by have := putA_len [(a : Int), (k : Int)] (V.int fs.length) kf; omega), v1, fun y v hy => ?_⟩ ?_ ⟨_, z7, by rw [getA_putA, if_pos rfl]⟩ fun y m hm => ?_
    . rw [ob_put_ne _ _ (by decide)]; exact q3
    . rw [ob_put_ne _ _ (by decide)]; exact q4
    . rw [ob_put_ne _ _ (by decide)]; exact q5
    . rw [ob_put_ne _ _ (by decide)]; exact q6
    . rw [getA_putA] at hy
      split at hy
      . cases hy; exact ⟨_, rfl⟩
      . exact v2 y v hy
    . exact ((Kp.refl _ _).stepPut _ h6 (fun q => by simp) (by simp)).stepPut _ q7 (fun q => by simp) (by simp)
    . obtain ⟨ka', e, hy⟩ := hm
      rw [h7] at e; cases e
      refine ⟨_, z7, ?_⟩
      rw [getA_putA]
      split
      . rename_i e; subst e; rw [hx] at hy; cases hy
      . exact hy
noncomputable def q_Symbols_func : QS r_Symbols_func := by
  delta r_Symbols_func r_Symbols_func_0
  and_intros
theorem func_spec {N k : Nat} {x : String} {mh : MH} {Q : V × MH -> Prop} (hS : Sym N mh) (hN : N <= 800) (hq : ∀ (a n : Nat) mh', Sym (N + 2) mh' -> Kp [4, 5, 6, 7] mh mh' -> AtomIs x a mh' -> FunIs [a, k] n mh' -> (∀ y m, AtomIs y m mh -> AtomIs y m mh') -> (∀ y m, FunIs y m mh -> FunIs y m mh') -> Q (.int n, mh')) :
    W (g_Symbols_func [.ref 3, .str x, .int k] mh) Q := by
  have s3 := hS.1
  have n1 : getA "atom" symF = none := by simp [symF, getA]
  have n2 : getA "functor" symF = none := by simp [symF, getA]
  refine QS.start q_Symbols_func rfl rfl ?_
  simp_all only []
  refine atom_spec hS (by omega) fun a m1 S1 k1 A1 p1 => ?_
  have k1' : Kp [4, 5, 6, 7] mh m1 := (Kp.refl _ _).step k1 (by simp)
  simp_all only [S1.1]
  refine functor_spec S1 (by omega) (fun n m2 _ S2 k2 F2 p2 => ?_) fun n F2 => ?_
  . exact hq a n m2 S2 (k1'.step k2 (by simp)) (A1.kp k2 (by decide)) F2 (fun y m h => (p1 y m h).kp k2 (by decide)) fun y m h => p2 y m (h.kp k1 (by decide))
  . exact hq a n m1 (S1.mono (by omega)) k1' A1 F2 p1 fun y m h => h.kp k1 (by decide)
noncomputable def q_Symbols___init : QS r_Symbols___init := by
  delta r_Symbols___init r_Symbols___init_0 r_Symbols___init_1 r_Symbols___init_2 r_Symbols___init_3 r_Symbols___init_4 r_Symbols___init_5
  and_intros
noncomputable def q_fixed_atoms : QS r_fixed_atoms := by
  delta r_fixed_atoms r_fixed_atoms_0
  and_intros
noncomputable def q_fixed_functors : QS r_fixed_functors := by
  delta r_fixed_functors r_fixed_functors_0
  and_intros
theorem Kp.app (mh l : MH) : Kp [] mh (mh ++ l) := ⟨by simp, fun j hj _ => List.getElem?_append_left hj, fun j q e => by
  have := ob_lt e
  unfold ob at e ⊢
  rw [List.getElem?_append_left this]; exact e⟩
theorem names_spec {mh : MH} {Q : V × MH -> Prop} (h3 : mh.length = 3) (hq : ∀ mh', Sym 100 mh' -> Kp [] mh mh' -> Q (.ref 3, mh')) : W (gNew 154 g_Symbols___init [] mh) Q := by
  obtain _ | ⟨x0, _ | ⟨x1, _ | ⟨x2, _ | ⟨x3, l⟩⟩⟩⟩ := mh <;> first | (cases h3; done) | skip
  have k8 := Kp.app [x0, x1, x2] [(.inst 154 symF, 4), (.list [], 0), (.dictS [], 0), (.list [], 0), (.dictT [], 0)]
  have S8 : Sym 0 ([x0, x1, x2] ++ [(.inst 154 symF, 4), (.list [], 0), (.dictS [], 0), (.list [], 0), (.dictT [], 0)]) := ⟨rfl, [], [], [], [], rfl, rfl, rfl, rfl, Nat.le_refl _, Nat.le_refl _, Nat.le_refl _, Nat.le_refl _, fun x v h => by simp [getA] at h, fun x v h => by simp [getA] at h⟩
  refine w_mk (QS.start q_Symbols___init rfl rfl ?_)
  simp_all only [(Nat.le_of_ble_eq_true rfl)]
  have n1 : getA "atom" symF = none := by simp [symF, getA]
  have n2 : getA "func" symF = none := by simp [symF, getA]
  have fa : ∃ l : List String, l.length <= 30 /\ ∀ (mh : MH) Q, Q (.tup (l.map V.str), mh) -> W (g_fixed_atoms [] mh) Q := by
    refine ⟨["[]", ".", "{}", "-", "+", "*", "/", ",", "|", ";", "->", "\\+", ":-", "?-", "-->", "!", "true", "fail", "false", "call", "=", "^", "error", "", "end_of_file", "system", "$VAR", "catch", "throw"], by decide, fun mh Q hq => ?_⟩
    exact QS.start q_fixed_atoms rfl rfl hq
  have ff : ∃ l : List (String × Nat), l.length <= 32 /\ ∀ (mh : MH) Q, Q (.tup (l.map fun p => V.tup [.str p.1, .int p.2]), mh) -> W (g_fixed_functors [] mh) Q := by
    refine ⟨[(".", 2), (",", 2), (";", 2), ("->", 2), ("\\+", 1), (":-", 2), (":-", 1), ("?-", 1), ("-->", 2), ("{}", 1), ("=", 2), ("^", 2), ("-", 1), ("-", 2), ("+", 2), ("/", 2), ("error", 2), ("$VAR", 1), ("catch", 3), ("throw", 1), ("!", 0), ("true", 0), ("fail", 0), ("false", 0), ("call", 1), ("call", 2), ("call", 3), ("call", 4), ("call", 5), ("call", 6), ("call", 7), ("call", 8)], by decide, fun mh Q hq => ?_⟩
    exact QS.start q_fixed_functors rfl rfl hq
  obtain ⟨la, lla, fa⟩ := fa
  obtain ⟨lf, llf, ff⟩ := ff
  have ext : ∀ {N T m m'}, Kp [] [x0, x1, x2] m -> (Kp T m m') -> (∀ j ∈ T, j ∈ [4, 5, 6, 7]) -> Sym N m -> Kp [] [x0, x1, x2] m' := fun k k' ht S => k.step k' fun j hj => .inr (by have := ht j hj; simp only [List.mem_cons, List.not_mem_nil, or_false] at this; omega)
  refine fa _ _ ?_
  refine W_loop V.str (I := fun d loc m => (∃ u, loc = [some (.ref 3), u, none]) /\ Sym d.length m /\ Kp [] [x0, x1, x2] m) ⟨⟨_, rfl⟩, S8, k8⟩ (fun _ _ _ _ => rfl) (fun d x r loc m e i => ?_) fun loc m i => ?_
  . obtain ⟨⟨u, rfl⟩, S, k⟩ := i
    have hd : d.length + 1 <= 30 := by have := congrArg List.length e; simp at this; omega
    refine ⟨_, rfl, ?_⟩
    have s3 := S.1
    refine QS.go (by and_intros) ?_
    simp_all only []
    refine atom_spec S (by omega) fun n m1 S1 k1 A1 p1 => ?_
    exact ⟨⟨_, rfl⟩, by simpa using S1, ext k k1 (by simp) S⟩
  obtain ⟨⟨u, rfl⟩, S, k⟩ := i
  refine ff _ _ ?_
  refine W_loop (fun p : String × Nat => V.tup [.str p.1, .int p.2]) (I := fun d loc m => (∃ u w, loc = [some (.ref 3), u, w]) /\ Sym (la.length + 2 * d.length) m /\ Kp [] [x0, x1, x2] m) ⟨⟨_, _, rfl⟩, by simpa using S, k⟩ (fun _ _ _ _ => rfl) (fun d x r loc m e i => ?_) fun loc m i => ?_
  . obtain ⟨⟨u, w, rfl⟩, S, k⟩ := i
    have hd : d.length + 1 <= 32 := by have := congrArg List.length e; simp at this; omega
    refine ⟨_, rfl, ?_⟩
    have s3 := S.1
    refine QS.go (by and_intros) ?_
    simp_all only []
    refine func_spec S (by omega) fun a n m1 S1 k1 A1 F1 p1 p2 => ?_
    refine ⟨⟨_, _, rfl⟩, S1.mono (by simp; omega), ext k k1 (by simp) S⟩
  . obtain ⟨⟨u, w, rfl⟩, S, k⟩ := i
    refine ⟨rfl, ?_⟩
    exact hq m (S.mono (by omega)) k
end Mini.L2
namespace Mini.L2
open Mini
structure Ist where
  found : List Occ
  inc : List (Int × Nat)
  out : List (Int × Nat)
  tmp : List (Int × Nat)
noncomputable def setEn (l : List Occ) (i : Nat) (e : Int) : List Occ := match l[i]? with | some o => l.set i { o with en := e } | none => l
noncomputable def stepRole (t : Int) (s : Ist) (x : Int × Op) : Ist :=
  if x.2.k = .t then (match getA (x.2.n : Int) s.tmp with
    | none => { s with found := s.found ++ [⟨"temp", x.2.n, t, t + 1⟩], tmp := putA (x.2.n : Int) s.found.length s.tmp }
    | some i => (match s.found[i]? with | some o => if o.en < t then { s with found := setEn s.found i t } else s | none => s))
  else if x.2.k = .a then (if x.1 = 2 then { s with found := s.found ++ [⟨"out", x.2.n, t, t + 1⟩], out := putA (x.2.n : Int) s.found.length s.out }
    else (match getA (x.2.n : Int) s.inc with | some i => { s with found := setEn s.found i t } | none => s))
  else s
noncomputable def stepEnds (t : Int) (s : Ist) : Ist := { s with found := s.out.foldl (fun f p => setEn f p.2 t) s.found, out := [] }
noncomputable def stepRow (t : Int) (s : Ist) (r : Row) : Ist := r.roles.foldl (stepRole t) (if r.ends then stepEnds t s else s)
noncomputable def ivRows : List Row -> Int -> Ist -> Ist
  | [], _, s => s
  | r :: rs, t, s => ivRows rs (t + 1) (stepRow t s r)
noncomputable def ivIn (n : Nat) : Ist := { found := (List.range n).map fun (i : Nat) => ⟨"in", i + 1, -1, -1⟩, inc := (List.range n).map fun (i : Nat) => ((i : Int) + 1, i), out := [], tmp := [] }
noncomputable def occsP (rows : List Row) (ar : Nat) : List Occ := (ivRows rows 0 (ivIn ar)).found.filter fun o => decide (o.st < o.en)
theorem ivRows_snoc : ∀ (rs : List Row) (r : Row) (t : Int) (s : Ist), ivRows (rs ++ [r]) t s = stepRow (t + rs.length) (ivRows rs t s) r
  | [], r, t, s => by simp [ivRows]
  | x :: rs, r, t, s => by
    simp only [List.cons_append, ivRows, ivRows_snoc rs r]
    congr 1
    simp; omega
noncomputable abbrev Adr := List (Nat × Occ)
noncomputable def adr (F : Adr) (i : Nat) : V := .ref ((F.map Prod.fst).getD i 0)
noncomputable def dAdr (F : Adr) (l : List (Int × Nat)) : List (Int × V) := l.map fun p => (p.1, adr F p.2)
theorem getA_map {K β γ : Type} [DecidableEq K] (f : β -> γ) (k : K) : ∀ (l : List (K × β)), getA k (l.map fun p => (p.1, f p.2)) = (getA k l).map f
  | [] => rfl
  | (a, b) :: r => by
    simp only [List.map_cons, getA]
    by_cases h : a = k
    . simp [h]
    . simp only [h, if_false]; exact getA_map f k r
theorem putA_map {K β γ : Type} [DecidableEq K] (f : β -> γ) (k : K) (v : β) : ∀ (l : List (K × β)), putA k (f v) (l.map fun p => (p.1, f p.2)) = (putA k v l).map fun p => (p.1, f p.2)
  | [] => rfl
  | (a, b) :: r => by
    simp only [List.map_cons, putA]
    by_cases h : a = k
    . simp [h]
    . simp only [h, if_false, List.map_cons, putA_map f k v r]
theorem putA_mem {K β : Type} [DecidableEq K] {k : K} {v : β} {q : K × β} : ∀ {l : List (K × β)}, q ∈ putA k v l -> q ∈ l \/ q = (k, v)
  | [], h => by simp [putA] at h; exact .inr h
  | (a, b) :: r, h => by
    unfold putA at h
    by_cases e : a = k
    . simp only [e, if_true, List.mem_cons] at h
      rcases h with h | h
      . exact .inr h
      . exact .inl (.tail _ h)
    . simp only [e, if_false, List.mem_cons] at h
      rcases h with h | h
      . exact .inl (by rw [h]; exact .head _)
      . exact (putA_mem h).imp (.tail _) id
theorem putA_keys {K β : Type} [DecidableEq K] {k : K} {v : β} : ∀ {l : List (K × β)}, (l.map Prod.fst).Nodup -> ((putA k v l).map Prod.fst).Nodup
  | [], _ => by simp [putA]
  | (a, b) :: r, h => by
    unfold putA
    by_cases e : a = k
    . simp only [e, if_true, List.map_cons]; rw [<- e]; exact h
    . simp only [e, if_false, List.map_cons, List.nodup_cons] at h ⊢
      refine ⟨fun z => ?_, putA_keys h.2⟩
      obtain ⟨q, hq, e2⟩ := List.mem_map.mp z
      rcases putA_mem hq with m | m
      . exact h.1 (List.mem_map.mpr ⟨q, m, e2⟩)
      . rw [m] at e2; exact e e2.symm
theorem getA_of_mem {K β : Type} [DecidableEq K] {k : K} {v : β} : ∀ {l : List (K × β)}, (l.map Prod.fst).Nodup -> (k, v) ∈ l -> getA k l = some v
  | (a, b) :: r, h, m => by
    simp only [List.map_cons, List.nodup_cons] at h
    unfold getA
    rcases List.mem_cons.mp m with e | m
    . cases e; simp
    . have : a ≠ k := fun e => h.1 (List.mem_map.mpr ⟨_, m, e.symm⟩)
      rw [if_neg this]; exact getA_of_mem h.2 m
theorem mem_of_getA {K β : Type} [DecidableEq K] {k : K} {v : β} : ∀ {l : List (K × β)}, getA k l = some v -> (k, v) ∈ l
  | (a, b) :: r, h => by
    unfold getA at h
    by_cases e : a = k
    . subst e; rw [if_pos rfl] at h; cases h; exact .head _
    . rw [if_neg e] at h; exact .tail _ (mem_of_getA h)
structure IvH (L0 : Nat) (s : Ist) (F : Adr) (fa ia oa ta : Nat) (mh : MH) : Prop where
  fd : F.map Prod.snd = s.found
  lst : ob mh fa = some (.list (F.map fun p => V.ref p.1))
  occ : ∀ p ∈ F, OccAt mh p.1 p.2
  lo : ∀ p ∈ F, L0 <= p.1
  nd : (F.map Prod.fst).Nodup
  inc : ob mh ia = some (.dictI (dAdr F s.inc))
  out : ob mh oa = some (.dictI (dAdr F s.out))
  tmp : ob mh ta = some (.dictI (dAdr F s.tmp))
  bi : ∀ p ∈ s.inc, p.2 < F.length
  bo : ∀ p ∈ s.out, p.2 < F.length
  bt : ∀ p ∈ s.tmp, p.2 < F.length
  ko : (s.out.map Prod.fst).Nodup
  ne : ia ≠ oa /\ ia ≠ ta /\ oa ≠ ta
  l0 : L0 <= fa /\ L0 <= ia /\ L0 <= oa /\ L0 <= ta
  sz : s.inc.length <= F.length /\ s.out.length <= F.length /\ s.tmp.length <= F.length
noncomputable def TF (F : Adr) (fa oa ta : Nat) : List Nat := fa :: oa :: ta :: F.map Prod.fst
variable {L0 : Nat} {s : Ist} {F : Adr} {fa ia oa ta : Nat} {mh mh' : MH}
theorem occ_fs_get (o : Occ) : getA "kind" o.fs = some (.str o.kd) /\ getA "number" o.fs = some (.int o.num) /\ getA "start" o.fs = some (.int o.st) /\ getA "stop" o.fs = some (.int o.en) := by simp [Occ.fs, getA]
theorem occ_fs_put (o : Occ) (e : Int) : putA "stop" (.int e) o.fs = Occ.fs { o with en := e } := by simp [Occ.fs, putA]
theorem getD_of {α : Type} {l : List α} {i : Nat} {x d : α} (h : l[i]? = some x) : l.getD i d = x := by rw [List.getD_eq_getElem?_getD, h]; rfl
theorem adr_of {F : Adr} {i : Nat} {p : Nat × Occ} (h : F[i]? = some p) : adr F i = .ref p.1 := by
  unfold adr
  rw [getD_of (x := p.1) (by rw [List.getElem?_map, h]; rfl)]
theorem adr_app {F : Adr} {i : Nat} (x : Nat × Occ) (h : i < F.length) : adr (F ++ [x]) i = adr F i := by
  unfold adr
  rw [List.map_append, List.getD_eq_getElem?_getD, List.getD_eq_getElem?_getD, List.getElem?_append_left (by simpa using h)]
theorem dAdr_app {F : Adr} {l : List (Int × Nat)} (x : Nat × Occ) (h : ∀ p ∈ l, p.2 < F.length) : dAdr (F ++ [x]) l = dAdr F l := by
  unfold dAdr
  exact List.map_congr_left fun p hp => by rw [adr_app x (h p hp)]
theorem dAdr_fst {F F' : Adr} (h : F'.map Prod.fst = F.map Prod.fst) (l : List (Int × Nat)) : dAdr F' l = dAdr F l := by
  unfold dAdr adr; rw [h]
theorem IvH.notDict (H : IvH L0 s F fa ia oa ta mh) {p : Nat × Occ} (hp : p ∈ F) : p.1 ≠ fa /\ p.1 ≠ ia /\ p.1 ≠ oa /\ p.1 ≠ ta := by
  have := H.occ p hp
  unfold OccAt at this
  refine ⟨fun z => ?_, fun z => ?_, fun z => ?_, fun z => ?_⟩
  . rw [z, H.lst] at this; cases this
  . rw [z, H.inc] at this; cases this
  . rw [z, H.out] at this; cases this
  . rw [z, H.tmp] at this; cases this
theorem IvH.fneq (H : IvH L0 s F fa ia oa ta mh) : fa ≠ ia /\ fa ≠ oa /\ fa ≠ ta := by
  refine ⟨fun z => ?_, fun z => ?_, fun z => ?_⟩
  . have := H.lst; rw [z, H.inc] at this; cases this
  . have := H.lst; rw [z, H.out] at this; cases this
  . have := H.lst; rw [z, H.tmp] at this; cases this
theorem IvH.setEn (H : IvH L0 s F fa ia oa ta mh) {i : Nat} {p : Nat × Occ} (hi : F[i]? = some p) (e : Int) : ∃ F', F'.map Prod.fst = F.map Prod.fst /\
    IvH L0 { s with found := L2.setEn s.found i e } F' fa ia oa ta (putO mh p.1 (.inst 217 (putA "stop" (.int e) p.2.fs))) /\ Kp (F.map Prod.fst) mh (putO mh p.1 (.inst 217 (putA "stop" (.int e) p.2.fs))) := by
  have hp : p ∈ F := List.mem_of_getElem? hi
  have lt := (List.getElem?_eq_some_iff.mp hi).1
  have hpi : F[i] = p := (List.getElem?_eq_some_iff.mp hi).2
  have ho := H.occ p hp
  obtain ⟨n1, n2, n3, n4⟩ := H.notDict hp
  have sf : L2.setEn s.found i e = s.found.set i { p.2 with en := e } := by
    unfold L2.setEn
    rw [<- H.fd, List.getElem?_map, hi]; rfl
  have ff : (F.set i (p.1, { p.2 with en := e })).map Prod.fst = F.map Prod.fst := by
    rw [List.map_set]
    have : (F.map Prod.fst)[i]'(by simpa using lt) = p.1 := by rw [List.getElem_map, hpi]
    rw [<- this]; exact List.set_getElem_self _
  refine ⟨F.set i (p.1, { p.2 with en := e }), ff, ⟨?_, ?_, fun q hq => ?_, fun q hq => ?_, ?_, ?_, ?_, ?_, ?_, ?_, ?_, H.ko, H.ne, H.l0, ?_⟩, ?_⟩
  . rw [List.map_set, H.fd, sf]
  . rw [ob_put_ne _ _ n1, H.lst]
    have : ∀ (G : Adr), G.map (fun p => V.ref p.1) = (G.map Prod.fst).map V.ref := fun G => by rw [List.map_map]; rfl
    rw [this, this, ff]
  . unfold OccAt
    by_cases z : q.1 = p.1
    . have : q = (p.1, { p.2 with en := e }) := by
        obtain ⟨j, hj, rfl⟩ := List.mem_iff_getElem.mp hq
        by_cases w : j = i
        . subst w; rw [List.getElem_set_self]
        . have z2 : (F.set i (p.1, { p.2 with en := e }))[j] = F[j]'(by simpa using hj) := List.getElem_set_ne (Ne.symm w) _
          rw [z2] at z
          have pw := List.pairwise_iff_getElem.mp H.nd
          have hj' : j < F.length := by simpa using hj
          exfalso
          rcases Nat.lt_or_gt_of_ne w with w | w
          . refine pw j i (by simpa using hj') (by simpa using lt) w ?_
            simp only [List.getElem_map]; rw [z, hpi]
          . refine pw i j (by simpa using lt) (by simpa using hj') w ?_
            simp only [List.getElem_map]; rw [z, hpi]
      rw [this]
      rw [ob_put_self ho, occ_fs_put]
    . rw [ob_put_ne _ _ (Ne.symm z)]
      obtain ⟨j, hj, rfl⟩ := List.mem_iff_getElem.mp hq
      by_cases w : j = i
      . subst w; rw [List.getElem_set_self] at z; exact absurd rfl z
      . have z2 : (F.set i (p.1, { p.2 with en := e }))[j] = F[j]'(by simpa using hj) := List.getElem_set_ne (Ne.symm w) _
        rw [z2]; exact H.occ _ (List.getElem_mem _)
  . have : q.1 ∈ F.map Prod.fst := by rw [<- ff]; exact List.mem_map.mpr ⟨q, hq, rfl⟩
    obtain ⟨q', hq', e'⟩ := List.mem_map.mp this
    rw [<- e']; exact H.lo q' hq'
  . rw [ff]; exact H.nd
  . rw [ob_put_ne _ _ n2, H.inc, dAdr_fst ff]
  . rw [ob_put_ne _ _ n3, H.out, dAdr_fst ff]
  . rw [ob_put_ne _ _ n4, H.tmp, dAdr_fst ff]
  . simpa using H.bi
  . simpa using H.bo
  . simpa using H.bt
  . simpa using H.sz
  . exact (Kp.refl _ _).stepPut _ ho (fun q => by simp) (.inl (List.mem_map.mpr ⟨p, hp, rfl⟩))
theorem IvH.addT (H : IvH L0 s F fa ia oa ta mh) {m1 : MH} (k1 : Kp [] mh m1) {o : Occ} (ho : OccAt m1 mh.length o) (hL : L0 <= mh.length) (k : Int) :
    IvH L0 { s with found := s.found ++ [o], tmp := putA k s.found.length s.tmp } (F ++ [(mh.length, o)]) fa ia oa ta (putO (putO m1 ta (.dictI (putA k (.ref mh.length) (dAdr F s.tmp)))) fa (.list ((F.map fun p => V.ref p.1) ++ [.ref mh.length]))) /\
    Kp (TF F fa oa ta) mh (putO (putO m1 ta (.dictI (putA k (.ref mh.length) (dAdr F s.tmp)))) fa (.list ((F.map fun p => V.ref p.1) ++ [.ref mh.length]))) := by
  obtain ⟨f1, f2, f3⟩ := H.fneq
  have g1 := k1.ob H.lst (by simp)
  have g4 := k1.ob H.tmp (by simp)
  have g5 : ob (putO m1 ta (.dictI (putA k (.ref mh.length) (dAdr F s.tmp)))) fa = some (.list (F.map fun p => V.ref p.1)) := by rw [ob_put_ne _ _ (Ne.symm f3)]; exact g1
  have lenF : F.length = s.found.length := by rw [<- H.fd, List.length_map]
  have nw : ∀ q ∈ F, q.1 < mh.length := fun q hq => ob_lt (H.occ q hq)
  have tlt : ta < mh.length := ob_lt H.tmp
  have flt : fa < mh.length := ob_lt H.lst
  have aNew : adr (F ++ [(mh.length, o)]) F.length = .ref mh.length := adr_of (p := (mh.length, o)) (by simp)
  refine ⟨⟨?_, ?_, fun q hq => ?_, fun q hq => ?_, ?_, ?_, ?_, ?_, fun p hp => ?_, fun p hp => ?_, fun p hp => ?_, H.ko, H.ne, H.l0, ?_⟩, ?_⟩
  . rw [List.map_append, H.fd]; rfl
  . rw [ob_put_self g5]; simp
  . unfold OccAt
    rcases List.mem_append.mp hq with hq | hq
    . obtain ⟨n1, n2, n3, n4⟩ := H.notDict hq
      rw [ob_put_ne _ _ (Ne.symm n1), ob_put_ne _ _ (Ne.symm n4)]
      exact k1.ob (H.occ q hq) (by simp)
    . rw [List.mem_singleton.mp hq, ob_put_ne _ _ (by show fa ≠ mh.length; omega), ob_put_ne _ _ (by show ta ≠ mh.length; omega)]
      exact ho
  . rcases List.mem_append.mp hq with hq | hq
    . exact H.lo q hq
    . rw [List.mem_singleton.mp hq]; exact hL
  . rw [List.map_append, List.nodup_append]
    refine ⟨H.nd, by simp, fun a ha b hb => ?_⟩
    obtain ⟨q, hq, rfl⟩ := List.mem_map.mp ha
    simp only [List.map_cons, List.map_nil, List.mem_singleton] at hb
    have := nw q hq
    omega
  . rw [ob_put_ne _ _ f1, ob_put_ne _ _ (Ne.symm H.ne.2.1), k1.ob H.inc (by simp), dAdr_app _ H.bi]
  . rw [ob_put_ne _ _ f2, ob_put_ne _ _ (Ne.symm H.ne.2.2), k1.ob H.out (by simp), dAdr_app _ H.bo]
  . rw [ob_put_ne _ _ f3, ob_put_self g4]
    have : putA k (V.ref mh.length) (dAdr F s.tmp) = dAdr (F ++ [(mh.length, o)]) (putA k s.found.length s.tmp) := by
      rw [<- lenF]
      unfold dAdr
      rw [<- putA_map (adr (F ++ [(mh.length, o)])) k F.length, aNew]
      congr 1
      exact (dAdr_app _ H.bt).symm
    rw [this]
  . rw [List.length_append]; have := H.bi p hp; omega
  . rw [List.length_append]; have := H.bo p hp; omega
  . rw [List.length_append]
    rcases putA_mem hp with m | m
    . have := H.bt p m; omega
    . rw [m, <- lenF]; simp
  . rw [List.length_append]
    have := H.sz
    have := putA_len k s.found.length s.tmp
    simp only [List.length_singleton]
    omega
  . have kk : Kp (TF F fa oa ta) mh m1 := (Kp.refl _ _).step k1 (by simp)
    exact (kk.stepPut _ g4 (fun q => by simp) (.inl (by simp [TF]))).stepPut _ g5 (fun q => by simp) (.inl (by simp [TF]))
theorem IvH.addO (H : IvH L0 s F fa ia oa ta mh) {m1 : MH} (k1 : Kp [] mh m1) {o : Occ} (ho : OccAt m1 mh.length o) (hL : L0 <= mh.length) (k : Int) :
    IvH L0 { s with found := s.found ++ [o], out := putA k s.found.length s.out } (F ++ [(mh.length, o)]) fa ia oa ta (putO (putO m1 oa (.dictI (putA k (.ref mh.length) (dAdr F s.out)))) fa (.list ((F.map fun p => V.ref p.1) ++ [.ref mh.length]))) /\
    Kp (TF F fa oa ta) mh (putO (putO m1 oa (.dictI (putA k (.ref mh.length) (dAdr F s.out)))) fa (.list ((F.map fun p => V.ref p.1) ++ [.ref mh.length]))) := by
  obtain ⟨f1, f2, f3⟩ := H.fneq
  have g1 := k1.ob H.lst (by simp)
  have g4 := k1.ob H.out (by simp)
  have g5 : ob (putO m1 oa (.dictI (putA k (.ref mh.length) (dAdr F s.out)))) fa = some (.list (F.map fun p => V.ref p.1)) := by rw [ob_put_ne _ _ (Ne.symm f2)]; exact g1
  have lenF : F.length = s.found.length := by rw [<- H.fd, List.length_map]
  have nw : ∀ q ∈ F, q.1 < mh.length := fun q hq => ob_lt (H.occ q hq)
  have tlt : oa < mh.length := ob_lt H.out
  have flt : fa < mh.length := ob_lt H.lst
  have aNew : adr (F ++ [(mh.length, o)]) F.length = .ref mh.length := adr_of (p := (mh.length, o)) (by simp)
  refine ⟨⟨?_, ?_, fun q hq => ?_, fun q hq => ?_, ?_, ?_, ?_, ?_, fun p hp => ?_, fun p hp => ?_, fun p hp => ?_, putA_keys H.ko, H.ne, H.l0, ?_⟩, ?_⟩
  . rw [List.map_append, H.fd]; rfl
  . rw [ob_put_self g5]; simp
  . unfold OccAt
    rcases List.mem_append.mp hq with hq | hq
    . obtain ⟨n1, n2, n3, n4⟩ := H.notDict hq
      rw [ob_put_ne _ _ (Ne.symm n1), ob_put_ne _ _ (Ne.symm n3)]
      exact k1.ob (H.occ q hq) (by simp)
    . rw [List.mem_singleton.mp hq, ob_put_ne _ _ (by show fa ≠ mh.length; omega), ob_put_ne _ _ (by show oa ≠ mh.length; omega)]
      exact ho
  . rcases List.mem_append.mp hq with hq | hq
    . exact H.lo q hq
    . rw [List.mem_singleton.mp hq]; exact hL
  . rw [List.map_append, List.nodup_append]
    refine ⟨H.nd, by simp, fun a ha b hb => ?_⟩
    obtain ⟨q, hq, rfl⟩ := List.mem_map.mp ha
    simp only [List.map_cons, List.map_nil, List.mem_singleton] at hb
    have := nw q hq
    omega
  . rw [ob_put_ne _ _ f1, ob_put_ne _ _ (Ne.symm H.ne.1), k1.ob H.inc (by simp), dAdr_app _ H.bi]
  . rw [ob_put_ne _ _ f2, ob_put_self g4]
    have : putA k (V.ref mh.length) (dAdr F s.out) = dAdr (F ++ [(mh.length, o)]) (putA k s.found.length s.out) := by
      rw [<- lenF]
      unfold dAdr
      rw [<- putA_map (adr (F ++ [(mh.length, o)])) k F.length, aNew]
      congr 1
      exact (dAdr_app _ H.bo).symm
    rw [this]
  . rw [ob_put_ne _ _ f3, ob_put_ne _ _ H.ne.2.2, k1.ob H.tmp (by simp), dAdr_app _ H.bt]
  . rw [List.length_append]; have := H.bi p hp; omega
  . rw [List.length_append]
    rcases putA_mem hp with m | m
    . have := H.bo p m; omega
    . rw [m, <- lenF]; simp
  . rw [List.length_append]; have := H.bt p hp; omega
  . rw [List.length_append]
    have := H.sz
    have := putA_len k s.found.length s.out
    simp only [List.length_singleton]
    omega
  . have kk : Kp (TF F fa oa ta) mh m1 := (Kp.refl _ _).step k1 (by simp)
    exact (kk.stepPut _ g4 (fun q => by simp) (.inl (by simp [TF]))).stepPut _ g5 (fun q => by simp) (.inl (by simp [TF]))
end Mini.L2
namespace Mini.L2
open Mini
structure InH (L0 n : Nat) (F : Adr) (fa ia : Nat) (mh : MH) : Prop where
  fd : F.map Prod.snd = (ivIn n).found
  lst : ob mh fa = some (.list (F.map fun p => V.ref p.1))
  occ : ∀ p ∈ F, OccAt mh p.1 p.2
  lo : ∀ p ∈ F, L0 <= p.1
  nd : (F.map Prod.fst).Nodup
  inc : ob mh ia = some (.dictI (dAdr F (ivIn n).inc))
theorem ivIn_succ (n : Nat) : (ivIn (n + 1)).found = (ivIn n).found ++ [⟨"in", n + 1, -1, -1⟩] /\ (ivIn (n + 1)).inc = (ivIn n).inc ++ [((n : Int) + 1, n)] := by
  simp [ivIn, List.range_succ]
theorem ivIn_none (n : Nat) : getA ((n : Int) + 1) (ivIn n).inc = none := by
  cases h : getA ((n : Int) + 1) (ivIn n).inc with
  | none => rfl
  | some v =>
    have := mem_of_getA h
    simp only [ivIn, List.mem_map, List.mem_range, Prod.mk.injEq] at this
    obtain ⟨i, hi, e, _⟩ := this
    omega
theorem ivIn_get {n k : Nat} (h1 : 1 <= k) (h2 : k <= n) : getA (k : Int) (ivIn n).inc = some (k - 1) := by
  refine getA_of_mem ?_ ?_
  . simp only [ivIn, List.map_map]
    refine List.pairwise_map.mpr (List.Pairwise.imp ?_ (List.pairwise_lt_range (n := n)))
    intro a b h
    simp only [Function.comp]
    omega
  . simp only [ivIn, List.mem_map, List.mem_range, Prod.mk.injEq]
    exact ⟨k - 1, by omega, by omega, rfl⟩
theorem putA_app {K β : Type} [DecidableEq K] {k : K} {v : β} : ∀ {l : List (K × β)}, getA k l = none -> putA k v l = l ++ [(k, v)]
  | [], _ => rfl
  | (a, b) :: r, h => by
    unfold getA at h
    unfold putA
    by_cases e : a = k
    . rw [if_pos e] at h; cases h
    . rw [if_neg e] at h; rw [if_neg e, putA_app h]; rfl
theorem InH.add {L0 n : Nat} {F : Adr} {fa ia : Nat} {mh m1 : MH} (H : InH L0 n F fa ia mh) (k1 : Kp [] mh m1) (ho : OccAt m1 mh.length ⟨"in", n + 1, -1, -1⟩) (hL : L0 <= mh.length) :
    InH L0 (n + 1) (F ++ [(mh.length, ⟨"in", n + 1, -1, -1⟩)]) fa ia (putO (putO m1 ia (.dictI (putA ((n : Int) + 1) (.ref mh.length) (dAdr F (ivIn n).inc)))) fa (.list ((F.map fun p => V.ref p.1) ++ [.ref mh.length]))) /\
    Kp [fa, ia] mh (putO (putO m1 ia (.dictI (putA ((n : Int) + 1) (.ref mh.length) (dAdr F (ivIn n).inc)))) fa (.list ((F.map fun p => V.ref p.1) ++ [.ref mh.length]))) := by
  have g1 := k1.ob H.lst (by simp)
  have g4 := k1.ob H.inc (by simp)
  have f1 : fa ≠ ia := fun z => by have := H.lst; rw [z, H.inc] at this; cases this
  have g5 : ob (putO m1 ia (.dictI (putA ((n : Int) + 1) (.ref mh.length) (dAdr F (ivIn n).inc)))) fa = some (.list (F.map fun p => V.ref p.1)) := by rw [ob_put_ne _ _ (Ne.symm f1)]; exact g1
  have lenF : F.length = n := by have := congrArg List.length H.fd; simpa [ivIn] using this
  have nw : ∀ q ∈ F, q.1 < mh.length := fun q hq => ob_lt (H.occ q hq)
  have tlt : ia < mh.length := ob_lt H.inc
  have flt : fa < mh.length := ob_lt H.lst
  have aNew : adr (F ++ [(mh.length, ⟨"in", n + 1, -1, -1⟩)]) F.length = .ref mh.length := adr_of (p := (mh.length, ⟨"in", n + 1, -1, -1⟩)) (by simp)
  have notD : ∀ p ∈ F, p.1 ≠ fa /\ p.1 ≠ ia := fun p hp => by
    have := H.occ p hp
    unfold OccAt at this
    refine ⟨fun z => ?_, fun z => ?_⟩
    . rw [z, H.lst] at this; cases this
    . rw [z, H.inc] at this; cases this
  refine ⟨⟨?_, ?_, fun q hq => ?_, fun q hq => ?_, ?_, ?_⟩, ?_⟩
  . rw [List.map_append, H.fd, (ivIn_succ n).1]; rfl
  . rw [ob_put_self g5]; simp
  . unfold OccAt
    rcases List.mem_append.mp hq with hq | hq
    . obtain ⟨n1, n2⟩ := notD q hq
      rw [ob_put_ne _ _ (Ne.symm n1), ob_put_ne _ _ (Ne.symm n2)]
      exact k1.ob (H.occ q hq) (by simp)
    . rw [List.mem_singleton.mp hq, ob_put_ne _ _ (by show fa ≠ mh.length; omega), ob_put_ne _ _ (by show ia ≠ mh.length; omega)]
      exact ho
  . rcases List.mem_append.mp hq with hq | hq
    . exact H.lo q hq
    . rw [List.mem_singleton.mp hq]; exact hL
  . rw [List.map_append, List.nodup_append]
    refine ⟨H.nd, by simp, fun a ha b hb => ?_⟩
    obtain ⟨q, hq, rfl⟩ := List.mem_map.mp ha
    simp only [List.map_cons, List.map_nil, List.mem_singleton] at hb
    have := nw q hq
    omega
  . rw [ob_put_ne _ _ f1, ob_put_self g4]
    have : putA ((n : Int) + 1) (V.ref mh.length) (dAdr F (ivIn n).inc) = dAdr (F ++ [(mh.length, ⟨"in", n + 1, -1, -1⟩)]) (ivIn (n + 1)).inc := by
      rw [(ivIn_succ n).2, <- putA_app (ivIn_none n)]
      unfold dAdr
      rw [<- putA_map (adr (F ++ [(mh.length, (⟨"in", n + 1, -1, -1⟩ : Occ))])) ((n : Int) + 1) n]
      rw [show adr (F ++ [(mh.length, (⟨"in", n + 1, -1, -1⟩ : Occ))]) n = .ref mh.length from by rw [lenF] at aNew; exact aNew]
      congr 1
      exact (dAdr_app (F := F) _ (l := (ivIn n).inc) fun p hp => by
        simp only [ivIn, List.mem_map, List.mem_range] at hp
        obtain ⟨i, hi, rfl⟩ := hp
        omega).symm
    rw [this]
  . have kk : Kp [fa, ia] mh m1 := (Kp.refl _ _).step k1 (by simp)
    exact (kk.stepPut _ g4 (fun q => by simp) (.inl (by simp))).stepPut _ g5 (fun q => by simp) (.inl (by simp))
theorem foldRole_len (t : Int) (s : Ist) : ∀ (l : List (Int × Op)), (l.foldl (stepRole t) s).found.length <= s.found.length + l.length := by
  have one : ∀ (s : Ist) (x : Int × Op), (stepRole t s x).found.length <= s.found.length + 1 := fun s x => by
    have sl : ∀ i e, (setEn s.found i e).length = s.found.length := fun i e => by unfold setEn; split <;> simp
    unfold stepRole
    split
    . split
      . simp
      . split
        . split
          . simp [sl]
          . simp
        . simp
    . split
      . split
        . simp
        . split
          . simp [sl]
          . simp
      . simp
  intro l
  induction l generalizing s with
  | nil => simp
  | cons x l ih =>
    simp only [List.foldl_cons, List.length_cons]
    have := ih (stepRole t s x)
    have := one s x
    omega
theorem stepRole_inc (t : Int) (s : Ist) (x : Int × Op) : (stepRole t s x).inc = s.inc := by
  unfold stepRole
  repeat' split
  all_goals rfl
theorem foldRole_inc (t : Int) : ∀ (l : List (Int × Op)) (s : Ist), (l.foldl (stepRole t) s).inc = s.inc
  | [], s => rfl
  | x :: l, s => by rw [List.foldl_cons, foldRole_inc t l, stepRole_inc]
theorem roles_len (r : Row) : r.roles.length <= 2 := by cases r <;> simp [Row.roles]
theorem stepRow_len (t : Int) (s : Ist) (r : Row) : (stepRow t s r).found.length <= s.found.length + 2 := by
  have e : (stepEnds t s).found.length = s.found.length := by
    have : ∀ (l : List (Int × Nat)) (f : List Occ), (l.foldl (fun f p => setEn f p.2 t) f).length = f.length := by
      intro l
      induction l with
      | nil => intro f; rfl
      | cons p l ih => intro f; rw [List.foldl_cons, ih]; unfold setEn; split <;> simp
    exact this _ _
  unfold stepRow
  have h := foldRole_len t (if r.ends then stepEnds t s else s) r.roles
  have := roles_len r
  have : (if r.ends = true then stepEnds t s else s).found.length = s.found.length := by split <;> simp [e]
  omega
theorem stepRow_inc (t : Int) (s : Ist) (r : Row) : (stepRow t s r).inc = s.inc := by
  unfold stepRow
  rw [foldRole_inc]
  split <;> rfl
theorem ivRows_inc : ∀ (rs : List Row) (t : Int) (s : Ist), (ivRows rs t s).inc = s.inc
  | [], t, s => rfl
  | r :: rs, t, s => by unfold ivRows; rw [ivRows_inc rs, stepRow_inc]
theorem ivRows_len : ∀ (rs : List Row) (t : Int) (s : Ist), (ivRows rs t s).found.length <= s.found.length + 2 * rs.length
  | [], t, s => by simp [ivRows]
  | r :: rs, t, s => by
    unfold ivRows
    have := ivRows_len rs (t + 1) (stepRow t s r)
    have := stepRow_len t s r
    simp only [List.length_cons]
    omega
end Mini.L2
namespace Mini.L2
open Mini
noncomputable def ivLoc (I ar fa ia oa ta : Nat) (t : Int) (w4 w8 w9 w10 : Option V) : Loc := [some (.ref I), some (.int ar), some (.ref fa), some (.ref ia), w4, some (.ref oa), some (.ref ta), some (.int t), w8, w9, w10]
theorem dAdr_get {F : Adr} {l : List (Int × Nat)} (k : Int) : getA k (dAdr F l) = (getA k l).map (adr F) := getA_map (adr F) k l
theorem dAdr_len {F : Adr} {l : List (Int × Nat)} : (dAdr F l).length = l.length := by simp [dAdr]
theorem occ_new2 {mh : MH} {k : String} {n : Nat} {s e : Int} {R : MH -> Prop} (hq : ∀ mh', Kp [] mh mh' -> mh'.length = mh.length + 1 -> OccAt mh' mh.length ⟨k, n, s, e⟩ -> R mh') : W (g_Occupation___init [.ref mh.length, .str k, .int n, .int s, .int e] (mkO mh (.inst 217 []))) fun p => p.1 = .none /\ R p.2 := by
  have := occ_new (Q := fun p => R p.2) hq
  exact w_newmp this
theorem occ_init {mh : MH} {k : String} {n : Nat} {s e : Int} {Q : V × MH -> Prop} (hq : ∀ mh', Kp [] mh mh' -> mh'.length = mh.length + 1 -> OccAt mh' mh.length ⟨k, n, s, e⟩ -> Q (.none, mh')) : W (g_Occupation___init [.ref mh.length, .str k, .int n, .int s, .int e] (mkO mh (.inst 217 []))) Q :=
  (occ_new2 (R := fun m => Q (.none, m)) hq).mono fun p ⟨h1, h2⟩ => by
    obtain ⟨a, b⟩ := p
    simp only at h1
    subst h1; exact h2
theorem sr_tn {t : Int} {s : Ist} {ro : Int} {n : Nat} (hg : getA (n : Int) s.tmp = none) : stepRole t s (ro, ⟨.t, n⟩) = { s with found := s.found ++ [⟨"temp", n, t, t + 1⟩], tmp := putA (n : Int) s.found.length s.tmp } := by unfold stepRole; simp [hg]
theorem sr_ts {t : Int} {s : Ist} {ro : Int} {n i : Nat} {o : Occ} (hg : getA (n : Int) s.tmp = some i) (fi : s.found[i]? = some o) : stepRole t s (ro, ⟨.t, n⟩) = if o.en < t then { s with found := setEn s.found i t } else s := by unfold stepRole; simp [hg, fi]
theorem sr_aw {t : Int} {s : Ist} {n : Nat} : stepRole t s (2, ⟨.a, n⟩) = { s with found := s.found ++ [⟨"out", n, t, t + 1⟩], out := putA (n : Int) s.found.length s.out } := by unfold stepRole; simp
theorem sr_ar {t : Int} {s : Ist} {ro : Int} {n i : Nat} (hg : getA (n : Int) s.inc = some i) (h2 : ro ≠ 2) : stepRole t s (ro, ⟨.a, n⟩) = { s with found := setEn s.found i t } := by unfold stepRole; simp [hg, h2]
theorem sr_y {t : Int} {s : Ist} {ro : Int} {n : Nat} : stepRole t s (ro, ⟨.y, n⟩) = s := by unfold stepRole; simp
theorem sr_x {t : Int} {s : Ist} {ro : Int} {n : Nat} : stepRole t s (ro, ⟨.x, n⟩) = s := by unfold stepRole; simp
inductive RLi (I ar fa ia oa ta L0 n0 rl : Nat) (s0 : Ist) (t : Int) (l : List (Int × Op)) (m00 : MH) (w8 : Option V) (d : List (Int × Op)) (loc : Loc) (m : MH) : Prop
  | mk (F : Adr) (w4 w9 w10 : Option V) (e : loc = ivLoc I ar fa ia oa ta t w4 w8 w9 w10) (H : IvH L0 (d.foldl (stepRole t) s0) F fa ia oa ta m) (K : Kp [] m00 m) (r : m[rl]? = some (.list (l.map roleV), 0)) (z : F.length <= n0 + d.length)
noncomputable def rlB : RS := (rSeq (rSet 4 (rOp2 (rLoc 10) (rConst (.int 1)) gItem)) (rSeq (rIf (rT (rOp2 (rOp2 (rLoc 10) (rConst (.int 0)) gItem) (rConst (.str "t")) gEq)) (rSeq (rIf (rT (rOp2 (rLoc 4) (rLoc 6) gNotIn)) (rSeq (rSetItem (rCallN (rCons (rConst (.str "temp")) (rCons (rLoc 4) (rCons (rLoc 7) (rCons (rOp2 (rLoc 7) (rConst (.int 1)) gAdd) rNil)))) (gNew 217 g_Occupation___init)) (rLoc 6) (rLoc 4)) (rSeq (rExpr (rBMeth "list" (rLoc 2) (rCons (rOp2 (rLoc 6) (rLoc 4) gItem) rNil) gAppend)) rSkip)) (rSeq (rIf (rT (rOp2 (rLoc 7) (rOp1 (rOp2 (rLoc 6) (rLoc 4) gItem) (gAttr 217 "stop")) gGt)) (rSeq (rSetAttr 217 "stop" (rLoc 7) (rOp2 (rLoc 6) (rLoc 4) gItem)) rSkip) rSkip) rSkip)) rSkip) (rSeq (rIf (rTAnd (rT (rOp2 (rOp2 (rLoc 10) (rConst (.int 0)) gItem) (rConst (.str "a")) gEq)) (rTAnd (rT (rOp2 (rLoc 9) (rConst (.int 2)) gEq)) (rTC true))) (rSeq (rSetItem (rCallN (rCons (rConst (.str "out")) (rCons (rLoc 4) (rCons (rLoc 7) (rCons (rOp2 (rLoc 7) (rConst (.int 1)) gAdd) rNil)))) (gNew 217 g_Occupation___init)) (rLoc 5) (rLoc 4)) (rSeq (rExpr (rBMeth "list" (rLoc 2) (rCons (rOp2 (rLoc 5) (rLoc 4) gItem) rNil) gAppend)) rSkip)) (rSeq (rIf (rT (rOp2 (rOp2 (rLoc 10) (rConst (.int 0)) gItem) (rConst (.str "a")) gEq)) (rSeq (rSetAttr 217 "stop" (rLoc 7) (rOp2 (rLoc 3) (rLoc 4) gItem)) rSkip) rSkip) rSkip)) rSkip)) rSkip))
noncomputable def q_rlB : QS rlB := by
  delta rlB
  and_intros
inductive RSo (I ar fa ia oa ta L0 : Nat) (t : Int) (S : Ist) (F : Adr) (m : MH) (w8 w9 w10 : Option V) (loc : Loc) (m' : MH) : Prop
  | mk (F' : Adr) (w4 : Option V) (T : List Nat) (e : loc = ivLoc I ar fa ia oa ta t w4 w8 w9 w10) (H : IvH L0 S F' fa ia oa ta m') (K : Kp T m m') (hT : ∀ j ∈ T, j ∈ TF F fa oa ta) (z : F'.length <= F.length + 1)
theorem TF_occ {F : Adr} {fa oa ta j : Nat} (hj : j ∈ F.map Prod.fst) : j ∈ TF F fa oa ta := by simp only [TF, List.mem_cons]; exact .inr (.inr (.inr hj))
theorem role_tn {I ar fa ia oa ta L0 : Nat} {t ro : Int} {S : Ist} {F : Adr} {n : Nat} {m : MH} {w4 w8 : Option V} {Q : SR -> Prop} (H : IvH L0 S F fa ia oa ta m) (hm : L0 <= m.length) (hF : F.length <= 899) (hg : getA (n : Int) S.tmp = none)
    (hq : ∀ loc m', RSo I ar fa ia oa ta L0 t (stepRole t S (ro, ⟨.t, n⟩)) F m w8 (some (.int ro)) (some (Op.toV ⟨.t, n⟩)) loc m' -> Q (.next loc m')) : W (rlB (ivLoc I ar fa ia oa ta t w4 w8 (some (.int ro)) (some (Op.toV ⟨.t, n⟩))) m) Q := by
  refine QS.go q_rlB ?_
  have htl : (dAdr F S.tmp).length <= 1000 := by rw [dAdr_len]; have := H.sz; omega
  have c1 : (!(getA (n : Int) (dAdr F S.tmp)).isSome) = true := by rw [dAdr_get, hg]; rfl
  simp_all only [W_notIn_dict H.tmp]
  refine occ_init fun m1 k1 l1 o1 => And.intro rfl ?_
  obtain ⟨A, B⟩ := H.addT k1 o1 hm (n : Int)
  have f3 := H.fneq.2.2
  have g4 := k1.ob H.tmp (by simp)
  have it : ∀ Q, W (gItem (.ref ta) (.int n) (putO m1 ta (.dictI (putA (n : Int) (.ref m.length) (dAdr F S.tmp))))) Q ↔ Q (.ref m.length, _) := fun Q => W_item_dict (ob_put_self g4) (by rw [getA_putA, if_pos rfl])
  have g5 : ob (putO m1 ta (.dictI (putA (n : Int) (.ref m.length) (dAdr F S.tmp)))) fa = some (.list (F.map fun p => V.ref p.1)) := by rw [ob_put_ne _ _ (Ne.symm f3)]; exact k1.ob H.lst (by simp)
  have hty : (MObj.list (F.map fun p => V.ref p.1)).ty = some "list" := rfl
  have hfl : (F.map fun p => V.ref p.1).length <= 1000 := by rw [List.length_map]; omega
  simp_all only [W_store_dict g4 htl, hty, it]
  exact hq _ _ ⟨_, _, _, rfl, by rw [sr_tn hg]; exact A, B, fun j hj => hj, by simp⟩
theorem role_ts {I ar fa ia oa ta L0 : Nat} {t ro : Int} {S : Ist} {F : Adr} {n : Nat} {m : MH} {w4 w8 : Option V} {Q : SR -> Prop} (H : IvH L0 S F fa ia oa ta m) (hF : F.length <= 899) {i : Nat} (hg : getA (n : Int) S.tmp = some i)
    (hq : ∀ loc m', RSo I ar fa ia oa ta L0 t (stepRole t S (ro, ⟨.t, n⟩)) F m w8 (some (.int ro)) (some (Op.toV ⟨.t, n⟩)) loc m' -> Q (.next loc m')) : W (rlB (ivLoc I ar fa ia oa ta t w4 w8 (some (.int ro)) (some (Op.toV ⟨.t, n⟩))) m) Q := by
  obtain ⟨p, hFi⟩ : ∃ p, F[i]? = some p := ⟨_, List.getElem?_eq_getElem (H.bt _ (mem_of_getA hg))⟩
  have hA := H.occ _ (List.mem_of_getElem? hFi)
  unfold OccAt at hA
  obtain ⟨og1, og2, og3, og4⟩ := occ_fs_get p.2
  have it : ∀ Q, W (gItem (.ref ta) (.int n) m) Q ↔ Q (.ref p.1, m) := fun Q => W_item_dict H.tmp (by rw [dAdr_get, hg]; simp [adr_of hFi])
  have fi : S.found[i]? = some p.2 := by rw [<- H.fd, List.getElem?_map, hFi]; rfl
  have c1 : (!(getA (n : Int) (dAdr F S.tmp)).isSome) = false := by rw [dAdr_get, hg]; rfl
  have st := sr_ts (ro := ro) (t := t) hg fi
  refine QS.go q_rlB ?_
  simp_all only [W_notIn_dict H.tmp, it]
  by_cases hlt : p.2.en < t
  . obtain ⟨F', e', A, B⟩ := H.setEn hFi t
    have hfl : p.2.fs.length <= 1000 := by simp [Occ.fs]
    simp_all only [it]
    rw [if_pos hlt] at st
    exact hq _ _ ⟨F', _, _, rfl, by rw [st]; exact A, B, fun j hj => TF_occ hj, by have := congrArg List.length e'; simp at this; omega⟩
  . simp_all only []
    rw [if_neg hlt] at st
    exact hq _ _ ⟨F, _, [], rfl, by rw [st]; exact H, Kp.refl _ _, by simp, by omega⟩
theorem role_aw {I ar fa ia oa ta L0 : Nat} {t : Int} {S : Ist} {F : Adr} {n : Nat} {m : MH} {w4 w8 : Option V} {Q : SR -> Prop} (H : IvH L0 S F fa ia oa ta m) (hm : L0 <= m.length) (hF : F.length <= 899)
    (hq : ∀ loc m', RSo I ar fa ia oa ta L0 t (stepRole t S (2, ⟨.a, n⟩)) F m w8 (some (.int 2)) (some (Op.toV ⟨.a, n⟩)) loc m' -> Q (.next loc m')) : W (rlB (ivLoc I ar fa ia oa ta t w4 w8 (some (.int 2)) (some (Op.toV ⟨.a, n⟩))) m) Q := by
  refine QS.go q_rlB ?_
  have htl : (dAdr F S.out).length <= 1000 := by rw [dAdr_len]; have := H.sz; omega
  simp_all only []
  refine occ_init fun m1 k1 l1 o1 => And.intro rfl ?_
  obtain ⟨A, B⟩ := H.addO k1 o1 hm (n : Int)
  have f2 := H.fneq.2.1
  have g4 := k1.ob H.out (by simp)
  have it : ∀ Q, W (gItem (.ref oa) (.int n) (putO m1 oa (.dictI (putA (n : Int) (.ref m.length) (dAdr F S.out))))) Q ↔ Q (.ref m.length, _) := fun Q => W_item_dict (ob_put_self g4) (by rw [getA_putA, if_pos rfl])
  have g5 : ob (putO m1 oa (.dictI (putA (n : Int) (.ref m.length) (dAdr F S.out)))) fa = some (.list (F.map fun p => V.ref p.1)) := by rw [ob_put_ne _ _ (Ne.symm f2)]; exact k1.ob H.lst (by simp)
  have hty : (MObj.list (F.map fun p => V.ref p.1)).ty = some "list" := rfl
  have hfl : (F.map fun p => V.ref p.1).length <= 1000 := by rw [List.length_map]; omega
  simp_all only [W_store_dict g4 htl, hty, it]
  exact hq _ _ ⟨_, _, _, rfl, by rw [sr_aw]; exact A, B, fun j hj => hj, by simp⟩
theorem role_ar {I ar fa ia oa ta L0 : Nat} {t ro : Int} {S : Ist} {F : Adr} {n : Nat} {m : MH} {w4 w8 : Option V} {Q : SR -> Prop} (H : IvH L0 S F fa ia oa ta m) (hF : F.length <= 899) (h2 : ro ≠ 2) {i : Nat} (hg : getA (n : Int) S.inc = some i)
    (hq : ∀ loc m', RSo I ar fa ia oa ta L0 t (stepRole t S (ro, ⟨.a, n⟩)) F m w8 (some (.int ro)) (some (Op.toV ⟨.a, n⟩)) loc m' -> Q (.next loc m')) : W (rlB (ivLoc I ar fa ia oa ta t w4 w8 (some (.int ro)) (some (Op.toV ⟨.a, n⟩))) m) Q := by
  obtain ⟨p, hFi⟩ : ∃ p, F[i]? = some p := ⟨_, List.getElem?_eq_getElem (H.bi _ (mem_of_getA hg))⟩
  have hA := H.occ _ (List.mem_of_getElem? hFi)
  unfold OccAt at hA
  have hb : (ro == 2) = false := by simpa using h2
  have it : ∀ Q, W (gItem (.ref ia) (.int n) m) Q ↔ Q (.ref p.1, m) := fun Q => W_item_dict H.inc (by rw [dAdr_get, hg]; simp [adr_of hFi])
  obtain ⟨F', e', A, B⟩ := H.setEn hFi t
  have hfl : p.2.fs.length <= 1000 := by simp [Occ.fs]
  refine QS.go q_rlB ?_
  simp_all only [hb, it]
  exact hq _ _ ⟨F', _, _, rfl, by rw [sr_ar hg h2]; exact A, B, fun j hj => TF_occ hj, by have := congrArg List.length e'; simp at this; omega⟩
theorem role_step {I ar fa ia oa ta L0 : Nat} {t : Int} {S : Ist} {F : Adr} {m : MH} {w4 w8 : Option V} {Q : SR -> Prop} (H : IvH L0 S F fa ia oa ta m) (hm : L0 <= m.length) (hF : F.length <= 899) {x : Int × Op} (hv : x.2.k = .a -> x.1 ≠ 2 -> (getA (x.2.n : Int) S.inc).isSome = true)
    (hq : ∀ loc m', RSo I ar fa ia oa ta L0 t (stepRole t S x) F m w8 (some (.int x.1)) (some x.2.toV) loc m' -> Q (.next loc m')) : W (rlB (ivLoc I ar fa ia oa ta t w4 w8 (some (.int x.1)) (some x.2.toV)) m) Q := by
  obtain ⟨ro, ⟨k, n⟩⟩ := x
  cases k with
  | t =>
    cases hg : getA (n : Int) S.tmp with
    | none => exact role_tn H hm hF hg hq
    | some i => exact role_ts H hF hg hq
  | a =>
    by_cases h2 : ro = 2
    . cases h2; exact role_aw H hm hF hq
    . obtain ⟨i, hg⟩ := Option.isSome_iff_exists.mp (hv rfl h2)
      exact role_ar H hF h2 hg hq
  | y =>
    refine QS.go q_rlB ?_
    simp_all only []
    exact hq _ _ ⟨F, _, [], rfl, by rw [sr_y]; exact H, Kp.refl _ _, by simp, by omega⟩
  | x =>
    refine QS.go q_rlB ?_
    simp_all only []
    exact hq _ _ ⟨F, _, [], rfl, by rw [sr_x]; exact H, Kp.refl _ _, by simp, by omega⟩
theorem roles_loop {I ar fa ia oa ta L0 : Nat} {s0 : Ist} {F0 : Adr} {t : Int} {l : List (Int × Op)} {m00 m0 : MH} {w4 w8 w9 w10 : Option V} {rl : Nat} {Q : SR -> Prop} (hfr : fa ≠ rl) (hL0 : L0 = m00.length) (H0 : IvH L0 s0 F0 fa ia oa ta m0) (K0 : Kp [] m00 m0) (hrl : m0[rl]? = some (.list (l.map roleV), 0)) (hsz : F0.length + l.length <= 900)
    (hv : ∀ x ∈ l, x.2.k = .a -> x.1 ≠ 2 -> (getA (x.2.n : Int) s0.inc).isSome = true)
    (hq : ∀ F m w4 w9 w10, IvH L0 (l.foldl (stepRole t) s0) F fa ia oa ta m -> Kp [] m00 m -> Q (.next (ivLoc I ar fa ia oa ta t w4 w8 w9 w10) m)) :
    W (rLoop (tPair 9 10) rlB
      (stampIs rl 0) (l.map roleV) (ivLoc I ar fa ia oa ta t w4 w8 w9 w10) m0) Q := by
  refine W_loop roleV (I := RLi I ar fa ia oa ta L0 F0.length rl s0 t l m00 w8) ⟨F0, w4, w9, w10, rfl, H0, K0, hrl, Nat.le_refl _⟩ ?_ ?_ ?_
  . rintro d loc m ⟨F, w4, w9, w10, rfl, H, K, r, _⟩
    unfold stampIs; rw [r]; simp
  . rintro d x r loc m e ⟨F, w4, w9, w10, rfl, H, K, hr, hF⟩
    have hd : d.length + 1 <= l.length := by have := congrArg List.length e; simp at this; omega
    have hx : x ∈ l := by rw [e]; simp
    have rlD : ∀ {a : Nat} {o}, ob m a = some o -> (∀ vs, o ≠ .list vs) -> a ≠ rl := fun h hn z => by
      rw [z] at h
      unfold ob at h
      rw [hr] at h; cases h; exact hn _ rfl
    have nTF : rl ∉ TF F fa oa ta := fun z => by
      simp only [TF, List.mem_cons] at z
      rcases z with z | z | z | z
      . exact hfr z.symm
      . exact rlD H.out (fun vs => by simp) z.symm
      . exact rlD H.tmp (fun vs => by simp) z.symm
      . obtain ⟨p, hp, e⟩ := List.mem_map.mp z; exact rlD (H.occ p hp) (fun vs => by simp) e
    have lo : ∀ j ∈ TF F fa oa ta, m00.length <= j := fun j this => by
      rw [<- hL0]
      simp only [TF, List.mem_cons] at this
      rcases this with rfl | rfl | rfl | z
      . exact H.l0.1
      . exact H.l0.2.2.1
      . exact H.l0.2.2.2
      . obtain ⟨p, hp, rfl⟩ := List.mem_map.mp z; exact H.lo p hp
    exact ⟨_, rfl, role_step H (by rw [hL0]; exact K.1) (by omega) (fun a b => by rw [foldRole_inc]; exact hv x hx a b) fun loc m' ⟨F', w4, T, el, H', K', hT, z⟩ =>
      ⟨F', w4, _, _, el, by rw [List.foldl_append]; exact H', K.step K' fun j hj => .inr (lo j (hT j hj)), K'.at hr fun h => nTF (hT _ h), by simp; omega⟩⟩
  . rintro loc m ⟨F, w4, w9, w10, rfl, H, K, r, _⟩
    exact hq F m w4 w9 w10 H K
end Mini.L2
namespace Mini.L2
open Mini
theorem IvH.more {L0 : Nat} {s : Ist} {F : Adr} {fa ia oa ta : Nat} {mh : MH} (H : IvH L0 s F fa ia oa ta mh) (o : MObj) : IvH L0 s F fa ia oa ta (mkO mh o) :=
  ⟨H.fd, ob_mk o H.lst, fun p hp => ob_mk o (H.occ p hp), H.lo, H.nd, ob_mk o H.inc, ob_mk o H.out, ob_mk o H.tmp, H.bi, H.bo, H.bt, H.ko, H.ne, H.l0, H.sz⟩
theorem IvH.reset {L0 : Nat} {s : Ist} {F : Adr} {fa ia oa ta : Nat} {mh : MH} (H : IvH L0 s F fa ia oa ta mh) (hL : L0 <= mh.length) : IvH L0 { s with out := [] } F fa ia mh.length ta (mkO mh (.dictI [])) := by
  have h1 := ob_lt H.inc
  have h2 := ob_lt H.tmp
  have h3 := ob_lt H.lst
  exact ⟨H.fd, ob_mk _ H.lst, fun p hp => ob_mk _ (H.occ p hp), H.lo, H.nd, ob_mk _ H.inc, ob_mk_new _ _, ob_mk _ H.tmp, H.bi, fun p hp => (nomatch hp), H.bt, .nil, ⟨by omega, H.ne.2.1, by omega⟩, ⟨H.l0.1, H.l0.2.1, hL, H.l0.2.2.2⟩, ⟨H.sz.1, Nat.zero_le _, H.sz.2.2⟩⟩
theorem at_new (mh : MH) (o : MObj) : (mkO mh o)[mh.length]? = some (o, 0) := by simp [mkO]
inductive IEi (I ar fa ia oa ta L0 : Nat) (s0 : Ist) (F0 : Adr) (st : Nat) (t : Int) (m00 : MH) (w8 w9 w10 : Option V) (d : List (Int × Nat)) (loc : Loc) (m : MH) : Prop
  | mk (F : Adr) (w4 : Option V) (h0 : loc = ivLoc I ar fa ia oa ta t w4 w8 w9 w10) (h1 : IvH L0 { s0 with found := d.foldl (fun f p => setEn f p.2 t) s0.found } F fa ia oa ta m) (h2 : Kp [] m00 m) (h3 : m[oa]? = some (.dictI (dAdr F0 s0.out), st)) (h4 : F.map Prod.fst = F0.map Prod.fst)
theorem ends_loop {I ar fa ia oa ta L0 st : Nat} {s0 : Ist} {F0 : Adr} {t : Int} {m00 m0 : MH} {w4 w8 w9 w10 : Option V} {Q : SR -> Prop} (hL0 : L0 = m00.length) (H0 : IvH L0 s0 F0 fa ia oa ta m0) (K0 : Kp [] m00 m0) (hst : m0[oa]? = some (.dictI (dAdr F0 s0.out), st))
    (hq : ∀ F m w4, IvH L0 { s0 with found := s0.out.foldl (fun f p => setEn f p.2 t) s0.found } F fa ia oa ta m -> Kp [] m00 m -> F.length = F0.length -> Q (.next (ivLoc I ar fa ia oa ta t w4 w8 w9 w10) m)) :
    W (rLoop (tName 4) (rSeq (rSetAttr 217 "stop" (rLoc 7) (rOp2 (rLoc 5) (rLoc 4) gItem)) rSkip) (stampIs oa st) (s0.out.map fun p => V.int p.1) (ivLoc I ar fa ia oa ta t w4 w8 w9 w10) m0) Q := by
  refine W_loop (fun p : Int × Nat => V.int p.1) (I := IEi I ar fa ia oa ta L0 s0 F0 st t m00 w8 w9 w10) ⟨F0, w4, rfl, H0, K0, hst, rfl⟩ ?_ ?_ ?_
  . rintro d loc m ⟨F, w4, rfl, H, K, r, _⟩
    unfold stampIs; rw [r]; simp
  . rintro d x r loc m e ⟨F, w4, rfl, H, K, hr, hF⟩
    have hx : x ∈ s0.out := by rw [e]; simp
    have hg : getA x.1 s0.out = some x.2 := getA_of_mem H0.ko (by simpa using hx)
    have hi : x.2 < F.length := H.bo x hx
    have hFi : F[x.2]? = some F[x.2] := List.getElem?_eq_getElem hi
    have hA := H.occ _ (List.getElem_mem hi)
    unfold OccAt at hA
    have it : ∀ Q, W (gItem (.ref oa) (.int x.1) m) Q ↔ Q (.ref F[x.2].1, m) := fun Q => W_item_dict H.out (by rw [dAdr_get]; show (getA x.1 s0.out).map _ = _; rw [hg]; simp [adr_of hFi])
    obtain ⟨F', e', A, B⟩ := H.setEn hFi t
    have hfl : F[x.2].2.fs.length <= 1000 := by simp [Occ.fs]
    refine ⟨_, rfl, ?_⟩
    refine QS.go (by and_intros) ?_
    simp_all only [it]
    refine ⟨F', _, rfl, by rw [List.foldl_append]; exact A, K.step B fun j hj => .inr ?_, B.at hr fun z => ?_, e'.trans hF⟩
    . obtain ⟨p, hp, rfl⟩ := List.mem_map.mp hj
      rw [<- hL0]; exact H.lo p hp
    . obtain ⟨p, hp, e2⟩ := List.mem_map.mp z
      exact (H.notDict hp).2.2.1 e2
  . rintro loc m ⟨F, w4, rfl, H, K, r, hF⟩
    exact hq F m w4 H K (by have := congrArg List.length hF; simpa using this)
theorem W_comp_ref {F : Adr} {m : MH} {b : Occ -> Bool} {t : RT} {e : RE} {chk : MH -> Bool} {loc : Loc} {Q : List V × MH -> Prop} (hc : chk m = true) (ht : ∀ p ∈ F, t (loc.set 1 (some (.ref p.1))) m = some (b p.2, m)) (he : ∀ p ∈ F, e (loc.set 1 (some (.ref p.1))) m = some (.ref p.1, m))
    (hq : Q ((F.filter fun p => b p.2).map (fun p => V.ref p.1), m)) : W (rCompLoop 1 t e chk (F.map fun p => V.ref p.1) loc m) Q := by
  refine ⟨_, ?_, hq⟩
  clear hq
  have key : ∀ (G : Adr) (l0 : Loc), (∀ p ∈ G, p ∈ F) -> (∀ x, l0.set 1 x = loc.set 1 x) -> rCompLoop 1 t e chk (G.map fun p => V.ref p.1) l0 m = some ((G.filter fun p => b p.2).map (fun p => V.ref p.1), m) := by
    intro G
    induction G with
    | nil => intro l0 _ _; simp [rCompLoop, hc]
    | cons p G ih =>
      intro l0 hG h
      have h1 := ht p (hG p (.head _))
      have r := ih (loc.set 1 (some (.ref p.1))) (fun q hq => hG q (.tail _ hq)) (fun x => by rw [List.set_set])
      simp only [List.map_cons, rCompLoop, hc, if_true, h, h1]
      cases hb : b p.2 with
      | true => simp [he p (hG p (.head _)), r, hb]
      | false => simp [r, hb]
  exact key F loc (fun _ h => h) fun _ => rfl
noncomputable def q_intervals : QS r_intervals := by
  delta r_intervals r_intervals_0 r_intervals_1 r_intervals_2 r_intervals_3 r_intervals_4 r_intervals_5 r_intervals_6 r_intervals_7 r_intervals_8
  and_intros
inductive IVi (I ar : Nat) (mh m : MH) (d : List Row) (loc : Loc) (m' : MH) : Prop
  | mk (F : Adr) (oa : Nat) (w4 : Option V) (w8 : Option V) (w9 : Option V) (w10 : Option V) (h0 : loc = ivLoc I ar mh.length (mh.length + 1) oa (m.length + 1) d.length w4 w8 w9 w10) (h1 : IvH mh.length (ivRows d 0 (ivIn ar)) F mh.length (mh.length + 1) oa (m.length + 1) m') (h2 : Kp [] mh m')
inductive INi (I ar : Nat) (mh : MH) (j : Nat) (loc : Loc) (m : MH) : Prop
  | mk (F : Adr) (h0 : loc = [some (.ref I), some (.int ar), some (.ref mh.length), some (.ref (mh.length + 1)), some (.int ((j : Int) + 1)), none, none, none, none, none, none]) (h1 : InH mh.length j F mh.length (mh.length + 1) m) (h2 : Kp [] mh m)
theorem intervals_spec {mh : MH} {I st ar : Nat} {rows : List Row} {Q : V × MH -> Prop} (hI : mh[I]? = some (.list (rows.map Row.toV), st)) (hv : ∀ r ∈ rows, ∀ x ∈ r.roles, x.2.k = .a -> x.1 ≠ 2 -> 1 <= x.2.n /\ x.2.n <= ar) (hb : ar + 2 * rows.length <= 150)
    (hq : ∀ r mh' (G : Adr), Kp [] mh mh' -> ob mh' r = some (.list (G.map fun p => V.ref p.1)) -> mh.length <= r -> G.map Prod.snd = occsP rows ar -> (∀ p ∈ G, OccAt mh' p.1 p.2 /\ mh.length <= p.1) -> (G.map Prod.fst).Nodup -> Q (.ref r, mh')) : W (g_intervals [.ref I, .int ar] mh) Q := by
  refine QS.start q_intervals rfl rfl ?_
  simp_all only []
  rw [len_mk]
  have Ilt : I < mh.length := (List.getElem?_eq_some_iff.mp hI).1
  have o0 : ob (mkO (mkO mh (.list [])) (.dictI [])) mh.length = some (.list []) := ob_mk _ (ob_mk_new mh _)
  have o1 : ob (mkO (mkO mh (.list [])) (.dictI [])) (mh.length + 1) = some (.dictI []) := by have := ob_mk_new (mkO mh (.list [])) (.dictI []); rw [len_mk] at this; exact this
  have H0 : InH mh.length 0 [] mh.length (mh.length + 1) (mkO (mkO mh (.list [])) (.dictI [])) := ⟨rfl, o0, fun p hp => (nomatch hp), fun p hp => (nomatch hp), .nil, o1⟩
  have K0 : Kp [] mh (mkO (mkO mh (.list [])) (.dictI [])) := (Kp.mk mh _).stepMk _
  refine W_while (I := INi I ar mh) ar (by omega) ⟨[], rfl, H0, K0⟩ ?_ ?_
  . rintro j loc m hj ⟨F, rfl, H, K⟩
    have hle : (j : Int) + 1 <= ar := by omega
    have lenF : F.length = j := by have := congrArg List.length H.fd; simpa [ivIn] using this
    have e1 : (-1 : Int) = -1 := rfl
    have hj1 : ((j + 1 : Nat) : Int) = (j : Int) + 1 := by omega
    rw [<- hj1] at hle ⊢
    refine QT.go (by and_intros) ?_
    simp_all only []
    refine QS.go (by and_intros) ?_
    refine occ_init fun m1 k1 l1 oo => And.intro rfl ?_
    obtain ⟨A, B⟩ := H.add k1 oo K.1
    have f1 : mh.length ≠ mh.length + 1 := by omega
    have g4 := k1.ob H.inc (by simp)
    have hk : ∀ x : V, putA (((j + 1 : Nat) : Int)) x (dAdr F (ivIn j).inc) = putA ((j : Int) + 1) x (dAdr F (ivIn j).inc) := fun x => by rw [hj1]
    have htl : (dAdr F (ivIn j).inc).length <= 1000 := by rw [dAdr_len]; simp [ivIn]; omega
    have it : ∀ Q, W (gItem (.ref (mh.length + 1)) (.int ((j + 1 : Nat) : Int)) (putO m1 (mh.length + 1) (.dictI (putA ((j : Int) + 1) (.ref m.length) (dAdr F (ivIn j).inc))))) Q ↔ Q (.ref m.length, _) := fun Q => W_item_dict (ob_put_self g4) (by rw [getA_putA, if_pos (by omega)])
    have g5 : ob (putO m1 (mh.length + 1) (.dictI (putA ((j : Int) + 1) (.ref m.length) (dAdr F (ivIn j).inc)))) mh.length = some (.list (F.map fun p => V.ref p.1)) := by rw [ob_put_ne _ _ (by omega)]; exact k1.ob H.lst (by simp)
    have hty : (MObj.list (F.map fun p => V.ref p.1)).ty = some "list" := rfl
    have hfl : (F.map fun p => V.ref p.1).length <= 1000 := by rw [List.length_map]; omega
    simp_all only [W_store_dict g4 htl]
    rw [hk]
    simp_all only [hty, it]
    exact ⟨_, _, rfl, _, rfl, A, K.step B (by simp)⟩
  . rintro loc m ⟨F, rfl, H, K⟩
    have hle : ¬ ((ar : Int) + 1 <= ar) := by omega
    refine QT.go (by and_intros) ?_
    simp_all only []
    have lenF : F.length = ar := by have := congrArg List.length H.fd; simpa [ivIn] using this
    have hm : mh.length <= m.length := K.1
    have hia : mh.length + 1 < m.length := ob_lt H.inc
    have p0 : ob (mkO (mkO m (.dictI [])) (.dictI [])) m.length = some (.dictI []) := ob_mk _ (ob_mk_new m _)
    have p1 : ob (mkO (mkO m (.dictI [])) (.dictI [])) (m.length + 1) = some (.dictI []) := by have := ob_mk_new (mkO m (.dictI [])) (.dictI []); rw [len_mk] at this; exact this
    have H2 : IvH mh.length (ivIn ar) F mh.length (mh.length + 1) m.length (m.length + 1) (mkO (mkO m (.dictI [])) (.dictI [])) := by
      refine ⟨H.fd, ob_mk _ (ob_mk _ H.lst), fun p hp => ob_mk _ (ob_mk _ (H.occ p hp)), H.lo, H.nd, ob_mk _ (ob_mk _ H.inc), p0, p1, fun p hp => ?_, fun p hp => (nomatch hp), fun p hp => (nomatch hp), .nil, ⟨by omega, by omega, by omega⟩, ⟨by omega, by omega, by omega, by omega⟩, ⟨?_, Nat.zero_le _, Nat.zero_le _⟩⟩
      . simp only [ivIn, List.mem_map, List.mem_range] at hp
        obtain ⟨i, hi, rfl⟩ := hp
        omega
      . simp [ivIn, lenF]
    have K2 : Kp [] mh (mkO (mkO m (.dictI [])) (.dictI [])) := (K.stepMk _).stepMk _
    simp_all only [ItB_list (K2.at hI (by simp))]
    rw [len_mk]
    refine W_loop Row.toV (I := IVi I ar mh m) ⟨F, m.length, _, _, _, _, rfl, H2, K2⟩ ?_ ?_ ?_
    . rintro d loc m' ⟨F, oa, w4, w8, w9, w10, rfl, H, K⟩
      exact stamp_of K hI (by simp)
    . rintro d x r loc m' e ⟨F, oa, w4, w8, w9, w10, rfl, H, K⟩
      have hd : d.length + 1 <= rows.length := by have := congrArg List.length e; simp at this; omega
      have hx : x ∈ rows := by rw [e]; simp
      have bF : F.length <= ar + 2 * d.length := by
        have h1 := ivRows_len d 0 (ivIn ar)
        have h2 : F.length = (ivRows d 0 (ivIn ar)).found.length := by rw [<- H.fd, List.length_map]
        simp [ivIn] at h1 h2 ⊢; omega
      have hinc : (ivRows d 0 (ivIn ar)).inc = (ivIn ar).inc := ivRows_inc d 0 _
      refine ⟨_, rfl, ?_⟩
      have step := ivRows_snoc d x 0 (ivIn ar)
      have hvx : ∀ {s1 : Ist}, s1.inc = (ivIn ar).inc -> ∀ y ∈ x.roles, y.2.k = .a -> y.1 ≠ 2 -> (getA (y.2.n : Int) s1.inc).isSome = true := fun h y hy ha h2 => by
        obtain ⟨q1, q2⟩ := hv x hx y hy ha h2
        rw [h, ivIn_get q1 q2]; rfl
      have rl2 := roles_len x
      have dl : ((d ++ [x]).length : Int) = (d.length : Int) + 1 := by simp
      refine QS.go (by and_intros) ?_
      refine ends_spec ?_
      cases hends : x.ends with
      | true =>
        obtain ⟨st', hst⟩ := ob_some H.out
        simp_all only [ItB_dict hst]
        have hmap : (dAdr F (ivRows d 0 (ivIn ar)).out).map (fun p => V.int p.1) = (ivRows d 0 (ivIn ar)).out.map (fun p => V.int p.1) := by simp [dAdr]
        rw [hmap]
        refine ends_loop (w4 := w4) (w8 := some x.toV) (w9 := w9) (w10 := w10) (t := (d.length : Int)) rfl H K hst fun F2 m2 w4 H2 K2 l2 => ?_
        have H3 := (H2.reset K2.1)
        refine roles_spec ?_
        simp_all only [ItB_list (at_new _ _)]
        refine roles_loop (F0 := F2) (w4 := w4) (w8 := some x.toV) (w9 := w9) (w10 := w10) (t := (d.length : Int)) ?_ rfl (H3.more _) ((K2.stepMk _).stepMk _) (at_new _ _) (by omega) (hvx (by exact hinc)) fun F4 m4 w4 w9 w10 H4 K4 => ?_
        . rw [len_mk]; have := K2.1; omega
        . simp_all only []
          refine ⟨F4, _, _, _, _, _, by rw [dl]; rfl, ?_, K4⟩
          rw [step]
          unfold stepRow
          rw [hends, if_pos rfl]
          unfold stepEnds
          rw [Int.zero_add]; exact H4
      | false =>
        simp_all only []
        refine roles_spec ?_
        simp_all only [ItB_list (at_new _ _)]
        refine roles_loop (F0 := F) (w4 := w4) (w8 := some x.toV) (w9 := w9) (w10 := w10) (t := (d.length : Int)) ?_ rfl (H.more _) (K.stepMk _) (at_new _ _) (by omega) (hvx hinc) fun F4 m4 w4 w9 w10 H4 K4 => ?_
        . have h5 := ob_lt H.lst; omega
        . simp_all only []
          refine ⟨F4, _, _, _, _, _, by rw [dl]; rfl, ?_, K4⟩
          rw [step]
          unfold stepRow
          rw [hends, if_neg (by decide), Int.zero_add]; exact H4
    . rintro loc m' ⟨F, oa, w4, w8, w9, w10, rfl, H, K⟩
      obtain ⟨st', hst⟩ := ob_some H.lst
      have bF : F.length <= 150 := by
        have h1 := ivRows_len rows 0 (ivIn ar)
        have h2 : F.length = (ivRows rows 0 (ivIn ar)).found.length := by rw [<- H.fd, List.length_map]
        simp [ivIn] at h1 h2 ⊢; omega
      have hfl : (F.map fun p => V.ref p.1).length <= 1000 := by rw [List.length_map]; omega
      simp_all only [ItB_list hst]
      refine W_comp_ref (b := fun o => decide (o.st < o.en)) (by show stampIs _ _ m' = true; unfold stampIs; rw [hst]; simp) (fun p hp => ?_) (fun p hp => ?_) ?_
      . have hA := H.occ p hp
        unfold OccAt at hA
        obtain ⟨og1, og2, og3, og4⟩ := occ_fs_get p.2
        refine W_eq.mp (QT.go (by and_intros) ?_)
        simp_all only []
        rfl
      . refine W_eq.mp (QE.go (by and_intros) ?_)
        rfl
      . refine hq _ _ (F.filter fun p => decide (p.2.st < p.2.en)) (K.stepMk _) (ob_mk_new _ _) K.1 ?_ (fun p hp => ?_) ?_
        . unfold occsP
          rw [<- H.fd, List.filter_map]; rfl
        . have := (List.mem_filter.mp hp).1
          exact ⟨ob_mk _ (H.occ p this), H.lo p this⟩
        . exact List.Nodup.sublist (List.Sublist.map _ List.filter_sublist) H.nd
end Mini.L2
namespace Mini.L2
open Mini
noncomputable def addW {α : Type} (n : Nat) (o : α) (l : List (Int × List α)) : List (Int × List α) := putA (n : Int) ((getA (n : Int) l).getD [] ++ [o]) l
noncomputable def wishPair (tg sc : Op) (l : List (Int × List Op)) : List (Int × List Op) :=
  if sc.k = .y \/ tg.k = .y then l else (let l := if tg.k = .t then addW tg.n sc l else l; if sc.k = .t then addW sc.n tg l else l)
noncomputable def wishRow (l : List (Int × List Op)) : Row -> List (Int × List Op)
  | .getVariable p q => wishPair p q l
  | .putValue p q => wishPair q p l
  | _ => l
noncomputable def wishesP (rows : List Row) : List (Int × List Op) := rows.foldl wishRow []
noncomputable abbrev WL' (α : Type) := List (Int × Nat × List α)
structure WH {α : Type} (f : α -> V) (L0 : Nat) (tbl : List (Int × List α)) (L : WL' α) (w : Nat) (mh : MH) : Prop where
  td : (L.map fun p => (p.1, p.2.2)) = tbl
  dic : ob mh w = some (.dictI (L.map fun p => (p.1, V.ref p.2.1)))
  lst : ∀ p ∈ L, ob mh p.2.1 = some (.list (p.2.2.map f))
  lo : L0 <= w /\ ∀ p ∈ L, L0 <= p.2.1
  nd : (L.map fun p => p.2.1).Nodup
  ky : (L.map Prod.fst).Nodup
theorem WH.kp {α : Type} {f : α -> V} {L0 : Nat} {tbl} {L : WL' α} {w : Nat} {mh mh' : MH} {T : List Nat} (H : WH f L0 tbl L w mh) (k : Kp T mh mh') (hw : w ∉ T) (hl : ∀ p ∈ L, p.2.1 ∉ T) : WH f L0 tbl L w mh' :=
  ⟨H.td, k.ob H.dic hw, fun p hp => k.ob (H.lst p hp) (hl p hp), H.lo, H.nd, H.ky⟩
theorem putA_split {K β : Type} [DecidableEq K] {k : K} {v w : β} : ∀ {l : List (K × β)}, getA k l = some w -> ∃ a b, l = a ++ (k, w) :: b /\ putA k v l = a ++ (k, v) :: b
  | (x, y) :: r, h => by
    unfold getA at h
    unfold putA
    by_cases e : x = k
    . subst e
      rw [if_pos rfl] at h; cases h
      exact ⟨[], r, rfl, by simp⟩
    . rw [if_neg e] at h
      obtain ⟨a, b, h1, h2⟩ := putA_split (v := v) h
      exact ⟨(x, y) :: a, b, by rw [h1]; rfl, by rw [if_neg e, h2]; rfl⟩
theorem WH.hit {α : Type} {f : α -> V} {L0 : Nat} {tbl} {L : WL' α} {w a : Nat} {ops : List α} {mh : MH} {n : Nat} {o : α} (H : WH f L0 tbl L w mh) (hg : getA (n : Int) L = some (a, ops)) :
    WH f L0 (addW n o tbl) (putA (n : Int) (a, ops ++ [o]) L) w (putO mh a (.list (ops.map f ++ [f o]))) /\ Kp (L.map fun p => p.2.1) mh (putO mh a (.list (ops.map f ++ [f o]))) := by
  obtain ⟨x, y, e1, e2⟩ := putA_split (v := (a, ops ++ [o])) hg
  have hm := mem_of_getA hg
  have ha := H.lst _ hm
  simp only at ha
  have hw : a ≠ w := fun z => by rw [z, H.dic] at ha; cases ha
  have hgt : getA (n : Int) tbl = some ops := by rw [<- H.td, getA_map (fun q : Nat × List α => q.2), hg]; rfl
  have nd := H.nd
  rw [e1, List.map_append, List.map_cons] at nd
  have nd' := List.nodup_append.mp nd
  refine ⟨⟨?_, ?_, fun p hp => ?_, ⟨H.lo.1, fun p hp => ?_⟩, ?_, ?_⟩, (Kp.refl _ _).stepPut _ ha (fun q => by simp) (.inl (List.mem_map.mpr ⟨_, hm, rfl⟩))⟩
  . unfold addW
    rw [hgt, <- H.td]
    exact (putA_map (fun q : Nat × List α => q.2) (n : Int) (a, ops ++ [o]) L).symm
  . rw [ob_put_ne _ _ hw, H.dic]
    congr 2
    rw [e2, e1]; simp
  . rw [e2] at hp
    have other : ∀ q ∈ x ++ y, ob (putO mh a (.list (ops.map f ++ [f o]))) q.2.1 = some (.list (q.2.2.map f)) := fun q hq => by
      have hne : a ≠ q.2.1 := fun z => by
        rcases List.mem_append.mp hq with h | h
        . exact nd'.2.2 q.2.1 (List.mem_map.mpr ⟨q, h, rfl⟩) a (.head _) z.symm
        . exact (List.nodup_cons.mp nd'.2.1).1 (by rw [z]; exact List.mem_map.mpr ⟨q, h, rfl⟩)
      rw [ob_put_ne _ _ hne]
      exact H.lst q (by rw [e1]; rcases List.mem_append.mp hq with h | h <;> simp [h])
    rcases List.mem_append.mp hp with h | h
    . exact other p (List.mem_append_left _ h)
    . rcases List.mem_cons.mp h with rfl | h
      . simp only; rw [ob_put_self ha]; simp
      . exact other p (List.mem_append_right _ h)
  . rw [e2] at hp
    rcases List.mem_append.mp hp with h | h
    . exact H.lo.2 p (by rw [e1]; simp [h])
    . rcases List.mem_cons.mp h with rfl | h
      . exact (H.lo.2 ((n : Int), a, ops) hm : L0 <= a)
      . exact H.lo.2 p (by rw [e1]; simp [h])
  . rw [e2, List.map_append, List.map_cons]; exact nd
  . exact putA_keys H.ky
theorem WH.miss {α : Type} {f : α -> V} {L0 : Nat} {tbl} {L : WL' α} {w : Nat} {mh : MH} {n : Nat} {o : α} (H : WH f L0 tbl L w mh) (hg : getA (n : Int) L = none) (hL : L0 <= mh.length) :
    WH f L0 (addW n o tbl) (putA (n : Int) (mh.length, [o]) L) w (putO (putO (mkO mh (.list [])) w (.dictI (putA (n : Int) (.ref mh.length) (L.map fun p => (p.1, V.ref p.2.1))))) mh.length (.list ([] ++ [f o]))) /\
      Kp (w :: L.map fun p => p.2.1) mh (putO (putO (mkO mh (.list [])) w (.dictI (putA (n : Int) (.ref mh.length) (L.map fun p => (p.1, V.ref p.2.1))))) mh.length (.list ([] ++ [f o]))) := by
  have lw := ob_lt H.dic
  have g1 := ob_mk (.list []) H.dic
  have g2 : ob (putO (mkO mh (.list [])) w (.dictI (putA (n : Int) (.ref mh.length) (L.map fun p => (p.1, V.ref p.2.1))))) mh.length = some (.list []) := by rw [ob_put_ne _ _ (by omega)]; exact ob_mk_new _ _
  have hgt : getA (n : Int) tbl = none := by rw [<- H.td, getA_map (fun q : Nat × List α => q.2), hg]; rfl
  have ap := putA_app (v := (mh.length, [o])) hg
  have ll : ∀ p ∈ L, p.2.1 < mh.length := fun p hp => ob_lt (H.lst p hp)
  refine ⟨⟨?_, ?_, fun p hp => ?_, ⟨H.lo.1, fun p hp => ?_⟩, ?_, putA_keys H.ky⟩, ?_⟩
  . unfold addW
    rw [hgt, <- H.td]
    exact (putA_map (fun q : Nat × List α => q.2) (n : Int) (mh.length, [o]) L).symm
  . rw [ob_put_ne _ _ (by omega), ob_put_self g1]
    congr 2
    exact putA_map (fun q : Nat × List α => V.ref q.1) (n : Int) (mh.length, [o]) L
  . rw [ap] at hp
    rcases List.mem_append.mp hp with h | h
    . have := ll p h
      have hne : w ≠ p.2.1 := fun z => by have := H.lst p h; rw [<- z, H.dic] at this; cases this
      rw [ob_put_ne _ _ (by omega), ob_put_ne _ _ hne]
      exact ob_mk _ (H.lst p h)
    . rw [List.mem_singleton.mp h]; simp only; rw [ob_put_self g2]; rfl
  . rw [ap] at hp
    rcases List.mem_append.mp hp with h | h
    . exact H.lo.2 p h
    . rw [List.mem_singleton.mp h]; exact hL
  . rw [ap, List.map_append, List.nodup_append]
    refine ⟨H.nd, by simp, fun a ha b hb => ?_⟩
    obtain ⟨q, hq, rfl⟩ := List.mem_map.mp ha
    simp only [List.map_cons, List.map_nil, List.mem_singleton] at hb
    have := ll q hq
    omega
  . exact (((Kp.refl _ _).stepMk _).stepPut _ g1 (fun q => by simp) (.inl (by simp))).stepPut _ g2 (fun q => by simp) (.inr (Nat.le_refl _))
theorem addW_len {α : Type} (n : Nat) (o : α) (l : List (Int × List α)) : (addW n o l).length <= l.length + 1 := putA_len _ _ _
theorem W_sdApp {α : Type} {f : α -> V} {o k v : RE} {loc : Loc} {mh : MH} {w n L0 : Nat} {x : α} {tbl} {L : WL' α} {N : Nat} {Q : SR -> Prop} (ho : o loc mh = some (.ref w, mh)) (hk : k loc mh = some (.int n, mh)) (hv : ∀ mh, v loc mh = some (f x, mh)) (H : WH f L0 tbl L w mh) (hL : L0 <= mh.length) (hN : tbl.length <= N /\ ∀ p ∈ tbl, p.2.length <= N) (hN2 : N <= 900)
    (hq : ∀ mh' L', WH f L0 (addW n x tbl) L' w mh' -> Kp (w :: L.map fun p => p.2.1) mh mh' -> ((addW n x tbl).length <= N + 1 /\ ∀ p ∈ addW n x tbl, p.2.length <= N + 1) -> (∀ p ∈ L', p.2.1 ∈ L.map (fun p => p.2.1) \/ mh.length <= p.2.1) -> Q (.next loc mh')) :
    W (rExpr (rBMeth "list" (rBMeth "dict" o (rCons k (rCons (rList rNil) rNil)) gSetdefault) (rCons v rNil) gAppend) loc mh) Q := by
  have ho' : ∀ Q, W (o loc mh) Q ↔ Q (.ref w, mh) := fun Q => W_of ho
  have hk' : ∀ Q, W (k loc mh) Q ↔ Q (.int n, mh) := fun Q => W_of hk
  have hv' : ∀ mh Q, W (v loc mh) Q ↔ Q (f x, mh) := fun mh Q => W_of (hv mh)
  have hty : (MObj.dictI (L.map fun p => (p.1, V.ref p.2.1))).ty = some "dict" := rfl
  have hlen : (L.map fun p => (p.1, V.ref p.2.1)).length <= 1000 := by have := congrArg List.length H.td; simp at this ⊢; omega
  have g1 := ob_mk (.list []) H.dic
  have hN' : (addW n x tbl).length <= N + 1 /\ ∀ p ∈ addW n x tbl, p.2.length <= N + 1 := by
    refine ⟨by have := addW_len n x tbl; omega, fun p hp => ?_⟩
    rcases putA_mem hp with m | m
    . have := hN.2 p m; omega
    . rw [m]
      simp only [List.length_append, List.length_singleton]
      cases hg : getA (n : Int) tbl with
      | none => simp
      | some l => have := hN.2 _ (mem_of_getA hg); simp at this ⊢; omega
  refine QS.go (by and_intros) ?_
  simp_all only [ho', hk', hv', H.dic, hty]
  unfold SdB
  rw [getA_map (fun q : Nat × List α => V.ref q.1)]
  cases hg : getA (n : Int) L with
  | some q =>
    obtain ⟨a, ops⟩ := q
    have hm := mem_of_getA hg
    have ha := ob_mk (.list []) (H.lst _ hm)
    simp only at ha
    have hty2 : (MObj.list (ops.map f)).ty = some "list" := rfl
    have ho2 : (ops.map f).length <= 1000 := by
      have : ((n : Int), ops) ∈ tbl := by rw [<- H.td]; exact List.mem_map.mpr ⟨_, hm, rfl⟩
      have := hN.2 _ this
      simp at this ⊢; omega
    simp_all only [hv', hty2]
    have H' : WH f L0 tbl L w (mkO mh (.list [])) := H.kp (Kp.mk _ _) (by simp) (fun p hp => by simp)
    obtain ⟨A, B⟩ := H'.hit (o := x) hg
    exact hq _ _ A ((Kp.refl _ _).step ((Kp.mk mh (.list [])).nil.step B (T := L.map fun p => p.2.1) (fun j hj => .inl hj)) (fun j hj => .inl (.tail _ hj))) hN' fun p hp => by
      rcases putA_mem hp with m | m
      . exact .inl (List.mem_map.mpr ⟨p, m, rfl⟩)
      . rw [m]; exact .inl (List.mem_map.mpr ⟨_, hm, rfl⟩)
  | none =>
    obtain ⟨A, B⟩ := H.miss (o := x) hg hL
    have lw := ob_lt H.dic
    have g2 : ob (putO (mkO mh (.list [])) w (.dictI (putA (n : Int) (.ref mh.length) (L.map fun p => (p.1, V.ref p.2.1))))) mh.length = some (.list []) := by rw [ob_put_ne _ _ (by omega)]; exact ob_mk_new _ _
    have hty2 : (MObj.list []).ty = some "list" := rfl
    simp_all only [hv', hty2, Nat.zero_le]
    refine hq _ _ A B hN' fun p hp => ?_
    rcases putA_mem hp with m | m
    . exact .inl (List.mem_map.mpr ⟨p, m, rfl⟩)
    . rw [m]; exact .inr (Nat.le_refl _)
end Mini.L2
namespace Mini.L2
open Mini
noncomputable def wLoc (I w : Nat) (w2 w3 w4 w5 : Option V) : Loc := [some (.ref I), some (.ref w), w2, w3, w4, w5]
theorem wish_two {I w : Nat} {tg sc : Op} {w2 w3 : Option V} {L0 : Nat} {tbl} {L : WL' Op} {m : MH} {N : Nat} {Q : SR -> Prop} (H : WH Op.toV L0 tbl L w m) (hL : L0 <= m.length) (hN : tbl.length <= N /\ ∀ p ∈ tbl, p.2.length <= N) (hN2 : N <= 800)
    (hn : ∀ l m', (∃ L', WH Op.toV L0 (wishPair tg sc tbl) L' w m' /\ ∃ T, Kp T m m' /\ ∀ j ∈ T, L0 <= j) -> ((wishPair tg sc tbl).length <= N + 2 /\ ∀ p ∈ wishPair tg sc tbl, p.2.length <= N + 2) -> l = wLoc I w w2 w3 (some tg.toV) (some sc.toV) -> Q (.next l m') /\ Q (.cont l m')) :
    W ((rSeq (rIf (rTOr (rT (rOp2 (rOp2 (rLoc 5) (rConst (.int 0)) gItem) (rConst (.str "y")) gEq)) (rTOr (rT (rOp2 (rOp2 (rLoc 4) (rConst (.int 0)) gItem) (rConst (.str "y")) gEq)) (rTC false))) (rSeq rCont rSkip) rSkip) (rSeq (rIf (rT (rOp2 (rOp2 (rLoc 4) (rConst (.int 0)) gItem) (rConst (.str "t")) gEq)) (rSeq (rExpr (rBMeth "list" (rBMeth "dict" (rLoc 1) (rCons (rOp2 (rLoc 4) (rConst (.int 1)) gItem) (rCons (rList rNil) rNil)) gSetdefault) (rCons (rLoc 5) rNil) gAppend)) rSkip) rSkip) (rSeq (rIf (rT (rOp2 (rOp2 (rLoc 5) (rConst (.int 0)) gItem) (rConst (.str "t")) gEq)) (rSeq (rExpr (rBMeth "list" (rBMeth "dict" (rLoc 1) (rCons (rOp2 (rLoc 5) (rConst (.int 1)) gItem) (rCons (rList rNil) rNil)) gSetdefault) (rCons (rLoc 4) rNil) gAppend)) rSkip) rSkip) rSkip))) (wLoc I w w2 w3 (some tg.toV) (some sc.toV)) m) Q := by
  generalize he1 : rExpr (rBMeth "list" (rBMeth "dict" (rLoc 1) (rCons (rOp2 (rLoc 4) (rConst (.int 1)) gItem) (rCons (rList rNil) rNil)) gSetdefault) (rCons (rLoc 5) rNil) gAppend) = e1
  generalize he2 : rExpr (rBMeth "list" (rBMeth "dict" (rLoc 1) (rCons (rOp2 (rLoc 5) (rConst (.int 1)) gItem) (rCons (rList rNil) rNil)) gSetdefault) (rCons (rLoc 4) rNil) gAppend) = e2
  have lw : L0 <= w := H.lo.1
  have triv : wishPair tg sc tbl = tbl -> ∀ l, l = wLoc I w w2 w3 (some tg.toV) (some sc.toV) -> Q (.next l m) /\ Q (.cont l m) := fun e l hl => hn l m ⟨L, by rw [e]; exact H, [], Kp.refl _ _, by simp⟩ (by rw [e]; exact ⟨by omega, fun p hp => by have := hN.2 p hp; omega⟩) hl
  have a1 : ∀ {tbl L m N Q}, WH Op.toV L0 tbl L w m -> L0 <= m.length -> (tbl.length <= N /\ ∀ p ∈ tbl, p.2.length <= N) -> N <= 900 -> (∀ mh' L', WH Op.toV L0 (addW tg.n sc tbl) L' w mh' -> Kp (w :: L.map fun p => p.2.1) m mh' -> ((addW tg.n sc tbl).length <= N + 1 /\ ∀ p ∈ addW tg.n sc tbl, p.2.length <= N + 1) -> Q (.next (wLoc I w w2 w3 (some tg.toV) (some sc.toV)) mh')) -> W (e1 (wLoc I w w2 w3 (some tg.toV) (some sc.toV)) m) Q := fun {tbl L m N Q} H hL hN hN2 hq => by
    rw [<- he1]
    exact W_sdApp (by rfl) (by rfl) (fun mh => by rfl) H hL hN hN2 fun mh' L' a b c _ => hq mh' L' a b c
  have a2 : ∀ {tbl L m N Q}, WH Op.toV L0 tbl L w m -> L0 <= m.length -> (tbl.length <= N /\ ∀ p ∈ tbl, p.2.length <= N) -> N <= 900 -> (∀ mh' L', WH Op.toV L0 (addW sc.n tg tbl) L' w mh' -> Kp (w :: L.map fun p => p.2.1) m mh' -> ((addW sc.n tg tbl).length <= N + 1 /\ ∀ p ∈ addW sc.n tg tbl, p.2.length <= N + 1) -> Q (.next (wLoc I w w2 w3 (some tg.toV) (some sc.toV)) mh')) -> W (e2 (wLoc I w w2 w3 (some tg.toV) (some sc.toV)) m) Q := fun {tbl L m N Q} H hL hN hN2 hq => by
    rw [<- he2]
    exact W_sdApp (by rfl) (by rfl) (fun mh => by rfl) H hL hN hN2 fun mh' L' a b c _ => hq mh' L' a b c
  have TL : ∀ {tbl L m}, WH Op.toV L0 tbl L w m -> ∀ j ∈ (w :: L.map fun p => p.2.1), L0 <= j := fun {tbl L m} H j hj => by
    rcases List.mem_cons.mp hj with rfl | hj
    . exact lw
    . obtain ⟨p, hp, rfl⟩ := List.mem_map.mp hj; exact H.lo.2 p hp
  obtain ⟨kt, nt⟩ := tg
  obtain ⟨ks, ns⟩ := sc
  have both := fun (l : Loc) (m' : MH) (h : ∃ L', WH Op.toV L0 (wishPair ⟨kt, nt⟩ ⟨ks, ns⟩ tbl) L' w m' /\ ∃ T, Kp T m m' /\ ∀ j ∈ T, L0 <= j) (h2 : (wishPair ⟨kt, nt⟩ ⟨ks, ns⟩ tbl).length <= N + 2 /\ ∀ p ∈ wishPair ⟨kt, nt⟩ ⟨ks, ns⟩ tbl, p.2.length <= N + 2) (e : l = wLoc I w w2 w3 (some (Op.toV ⟨kt, nt⟩)) (some (Op.toV ⟨ks, ns⟩))) => (hn l m' h h2 e).1
  have fin0 : wishPair ⟨kt, nt⟩ ⟨ks, ns⟩ tbl = tbl -> Q (.next (wLoc I w w2 w3 (some (Op.toV ⟨kt, nt⟩)) (some (Op.toV ⟨ks, ns⟩))) m) := fun e => (triv e _ rfl).1
  have finc : wishPair ⟨kt, nt⟩ ⟨ks, ns⟩ tbl = tbl -> Q (.cont (wLoc I w w2 w3 (some (Op.toV ⟨kt, nt⟩)) (some (Op.toV ⟨ks, ns⟩))) m) := fun e => (triv e _ rfl).2
  have e1a : ∀ (l : List (Int × List Op)), ks ≠ .t -> ks ≠ .y -> kt = .t -> wishPair ⟨kt, nt⟩ ⟨ks, ns⟩ l = addW nt ⟨ks, ns⟩ l := fun l c2 c3 c1 => by unfold wishPair; simp [c1, c2, c3]
  have e2a : ∀ (l : List (Int × List Op)), kt ≠ .t -> kt ≠ .y -> ks = .t -> wishPair ⟨kt, nt⟩ ⟨ks, ns⟩ l = addW ns ⟨kt, nt⟩ l := fun l c2 c3 c1 => by unfold wishPair; simp [c1, c2, c3]
  have e3a : ∀ (l : List (Int × List Op)), kt = .t -> ks = .t -> wishPair ⟨kt, nt⟩ ⟨ks, ns⟩ l = addW ns ⟨kt, nt⟩ (addW nt ⟨ks, ns⟩ l) := fun l c1 c2 => by unfold wishPair; simp [c1, c2]
  have k12 : ∀ {L L1 : WL' Op} {m1 m2 : MH}, Kp (w :: L.map fun p => p.2.1) m m1 -> Kp (w :: L1.map fun p => p.2.1) m1 m2 -> Kp ((w :: L.map fun p => p.2.1) ++ (w :: L1.map fun p => p.2.1)) m m2 := fun K1 K2 => ((Kp.refl _ _).step K1 fun j hj => .inl (List.mem_append_left _ hj)).step K2 fun j hj => .inl (List.mem_append_right _ hj)
  clear he1 he2 hn triv
  have ky : ∀ {k : Kd}, k ≠ .y -> (k.s == "y") = false := fun {k} h => by cases k <;> first | rfl | exact absurd rfl h
  have kq : ∀ {k : Kd}, k ≠ .t -> (k.s == "t") = false := fun {k} h => by cases k <;> first | rfl | exact absurd rfl h
  refine QS.go (by and_intros) ?_
  by_cases y1 : ks = .y
  . exact cB.yes (by rw [y1]; rfl) (finc (by unfold wishPair; simp [y1]))
  refine cB.no (ky y1) ?_
  by_cases y2 : kt = .y
  . exact cB.yes (by rw [y2]; rfl) (finc (by unfold wishPair; simp [y2]))
  refine cB.no (ky y2) ?_
  by_cases t1 : kt = .t
  . refine cB.yes (by rw [t1]; rfl) (a1 H hL hN (by omega) fun m1 L1 H1 K1 N1 => ?_)
    by_cases t2 : ks = .t
    . refine cB.yes (by rw [t2]; rfl) (a2 H1 (by have := K1.1; omega) N1 (by omega) fun m2 L2 H2 K2 N2 => ?_)
      rw [<- e3a _ t1 t2] at H2 N2
      exact both _ _ ⟨L2, H2, _, k12 K1 K2, fun j hj => (List.mem_append.mp hj).elim (TL H j) (TL H1 j)⟩ N2 rfl
    . refine cB.no (kq t2) ?_
      rw [<- e1a _ t2 y1 t1] at H1 N1
      exact both _ _ ⟨L1, H1, _, K1, TL H⟩ ⟨Nat.le_succ_of_le N1.1, fun p hp => Nat.le_succ_of_le (N1.2 p hp)⟩ rfl
  . refine cB.no (kq t1) ?_
    by_cases t2 : ks = .t
    . refine cB.yes (by rw [t2]; rfl) (a2 H hL hN (by omega) fun m1 L1 H1 K1 N1 => ?_)
      rw [<- e2a _ t1 y2 t2] at H1 N1
      exact both _ _ ⟨L1, H1, _, K1, TL H⟩ ⟨Nat.le_succ_of_le N1.1, fun p hp => Nat.le_succ_of_le (N1.2 p hp)⟩ rfl
    . exact cB.no (kq t2) (fin0 (by unfold wishPair; simp [t1, t2]))
end Mini.L2
namespace Mini.L2
open Mini
theorem wishRow_len (l : List (Int × List Op)) (r : Row) : ∀ N, (l.length <= N /\ ∀ p ∈ l, p.2.length <= N) -> ((wishRow l r).length <= N + 2 /\ ∀ p ∈ wishRow l r, p.2.length <= N + 2) := by
  have one : ∀ n o (l : List (Int × List Op)) N, (l.length <= N /\ ∀ p ∈ l, p.2.length <= N) -> ((addW n o l).length <= N + 1 /\ ∀ p ∈ addW n o l, p.2.length <= N + 1) := fun n o l N hN => by
    refine ⟨by have := addW_len n o l; omega, fun p hp => ?_⟩
    rcases putA_mem hp with m | m
    . have := hN.2 p m; omega
    . rw [m]
      simp only [List.length_append, List.length_singleton]
      cases hg : getA (n : Int) l with
      | none => simp
      | some l => have := hN.2 _ (mem_of_getA hg); simp at this ⊢; omega
  have up : ∀ (l : List (Int × List Op)) N M, N <= M -> (l.length <= N /\ ∀ p ∈ l, p.2.length <= N) -> (l.length <= M /\ ∀ p ∈ l, p.2.length <= M) := fun l N M h x => ⟨by omega, fun p hp => by have := x.2 p hp; omega⟩
  have two : ∀ tg sc (l : List (Int × List Op)) N, (l.length <= N /\ ∀ p ∈ l, p.2.length <= N) -> ((wishPair tg sc l).length <= N + 2 /\ ∀ p ∈ wishPair tg sc l, p.2.length <= N + 2) := fun tg sc l N hN => by
    unfold wishPair
    split
    . exact up _ _ _ (by omega) hN
    . simp only
      split
      . split
        . exact one _ _ _ _ (one _ _ _ _ hN)
        . exact up _ _ _ (by omega) (one _ _ _ _ hN)
      . split
        . exact up _ _ _ (by omega) (one _ _ _ _ hN)
        . exact up _ _ _ (by omega) hN
  intro N hN
  cases r <;> first | exact two _ _ _ _ hN | exact up _ _ _ (by omega) hN
noncomputable def q_wishes : QS r_wishes := by
  delta r_wishes r_wishes_0 r_wishes_1 r_wishes_2
  and_intros
inductive WSi (I : Nat) (mh : MH) (d : List Row) (loc : Loc) (m : MH) : Prop
  | mk (L : WL' Op) (w2 : Option V) (w3 : Option V) (w4 : Option V) (w5 : Option V) (h0 : loc = wLoc I mh.length w2 w3 w4 w5) (h1 : WH Op.toV mh.length (d.foldl wishRow []) L mh.length m) (h2 : Kp [] mh m) (h3 : ((d.foldl wishRow []).length <= 2 * d.length /\ ∀ p ∈ d.foldl wishRow [], p.2.length <= 2 * d.length))
theorem wishes_spec {mh : MH} {I st : Nat} {rows : List Row} {Q : V × MH -> Prop} (hI : mh[I]? = some (.list (rows.map Row.toV), st)) (hb : rows.length <= 100)
    (hq : ∀ mh' L, Kp [] mh mh' -> WH Op.toV mh.length (wishesP rows) L mh.length mh' -> ((wishesP rows).length <= 300 /\ ∀ p ∈ wishesP rows, p.2.length <= 300) -> Q (.ref mh.length, mh')) : W (g_wishes [.ref I] mh) Q := by
  have Ilt : I < mh.length := (List.getElem?_eq_some_iff.mp hI).1
  have H0 : WH Op.toV mh.length [] [] mh.length (mkO mh (.dictI [])) := ⟨rfl, ob_mk_new _ _, fun p hp => (nomatch hp), ⟨Nat.le_refl _, fun p hp => (nomatch hp)⟩, .nil, .nil⟩
  have q1 := (Kp.mk mh (.dictI [])).at hI (by simp)
  refine QS.start q_wishes rfl rfl ?_
  simp_all only [ItB_list q1]
  refine W_loop Row.toV (I := WSi I mh) ⟨[], none, none, none, none, rfl, H0, Kp.mk _ _, by simp, by simp⟩ ?_ ?_ ?_
  . rintro d loc m ⟨L, w2, w3, w4, w5, rfl, H, K, _⟩
    exact stamp_of K hI (by simp)
  . rintro d x r loc m e ⟨L, w2, w3, w4, w5, rfl, H, K, N⟩
    have hd : d.length + 1 <= rows.length := by have := congrArg List.length e; simp at this; omega
    have N' := wishRow_len (d.foldl wishRow []) x _ N
    have dl : 2 * (d ++ [x]).length = 2 * d.length + 2 := by rw [List.length_append]; simp only [List.length_cons, List.length_nil]; omega
    have K' : ∀ {m'}, (∃ T, Kp T m m' /\ ∀ j ∈ T, mh.length <= j) -> Kp [] mh m' := fun ⟨T, k, h⟩ => K.step k fun j hj => .inr (h j hj)
    refine ⟨_, rfl, ?_⟩
    generalize htl : (rSeq (rIf (rTOr (rT (rOp2 (rOp2 (rLoc 5) (rConst (.int 0)) gItem) (rConst (.str "y")) gEq)) (rTOr (rT (rOp2 (rOp2 (rLoc 4) (rConst (.int 0)) gItem) (rConst (.str "y")) gEq)) (rTC false))) (rSeq rCont rSkip) rSkip) (rSeq (rIf (rT (rOp2 (rOp2 (rLoc 4) (rConst (.int 0)) gItem) (rConst (.str "t")) gEq)) (rSeq (rExpr (rBMeth "list" (rBMeth "dict" (rLoc 1) (rCons (rOp2 (rLoc 4) (rConst (.int 1)) gItem) (rCons (rList rNil) rNil)) gSetdefault) (rCons (rLoc 5) rNil) gAppend)) rSkip) rSkip) (rSeq (rIf (rT (rOp2 (rOp2 (rLoc 5) (rConst (.int 0)) gItem) (rConst (.str "t")) gEq)) (rSeq (rExpr (rBMeth "list" (rBMeth "dict" (rLoc 1) (rCons (rOp2 (rLoc 5) (rConst (.int 1)) gItem) (rCons (rList rNil) rNil)) gSetdefault) (rCons (rLoc 4) rNil) gAppend)) rSkip) rSkip) rSkip))) = tl
    refine QS.go (by and_intros) ?_
    cases x with
    | getVariable p q =>
      simp_all only []
      rw [<- htl]
      refine wish_two (I := I) (w := mh.length) (tg := p) (sc := q) H K.1 N (by omega) fun l m' h h2 hl => ?_
      obtain ⟨L', H', h⟩ := h
      subst hl
      refine And.intro ?a ?a
      exact ⟨L', _, _, _, _, rfl, by rw [List.foldl_append]; exact H', K' h, by rw [List.foldl_append, dl]; exact N'⟩
    | putValue p q =>
      simp_all only []
      rw [<- htl]
      refine wish_two (I := I) (w := mh.length) (tg := q) (sc := p) H K.1 N (by omega) fun l m' h h2 hl => ?_
      obtain ⟨L', H', h⟩ := h
      subst hl
      refine And.intro ?b ?b
      exact ⟨L', _, _, _, _, rfl, by rw [List.foldl_append]; exact H', K' h, by rw [List.foldl_append, dl]; exact N'⟩
    | _ =>
      simp_all only []
      exact ⟨L, _, _, _, _, rfl, by rw [List.foldl_append]; exact H, K, by rw [List.foldl_append, dl]; exact N'⟩
  . rintro loc m ⟨L, w2, w3, w4, w5, rfl, H, K, N⟩
    exact hq m L K H ⟨by have := N.1; unfold wishesP; omega, fun p hp => by have := N.2 p hp; omega⟩
end Mini.L2
namespace Mini.L2
open Mini
noncomputable abbrev Tb := List (Int × List (Nat × Occ))
noncomputable def freeP (tb : Tb) (r : Int) (o : Occ) : Bool := ((getA r tb).getD []).all fun q => !(o.over q.2)
noncomputable def regOf (home : List (Int × Nat)) (p : Op) : Nat := if p.k = .t then (getA (p.n : Int) home).getD 0 else p.n
noncomputable def wishedP (tb : Tb) (home : List (Int × Nat)) (o : Occ) : List Op -> Nat
  | [] => 0
  | p :: ps => if 0 < regOf home p /\ freeP tb (regOf home p) o = true then regOf home p else wishedP tb home o ps
noncomputable def rfF (tk hm : Nat) : List (String × V) := [("taken", .ref tk), ("home", .ref hm)]
noncomputable abbrev oref (p : Nat × Occ) : V := .ref p.1
structure RF (X : Nat -> Prop) (L0 rf tk hm N : Nat) (tb : Tb) (home : List (Int × Nat)) (mh : MH) : Prop where
  self : ob mh rf = some (.inst 278 (rfF tk hm))
  wh : ∃ L, WH oref L0 tb L tk mh /\ ∀ p ∈ L, ¬ X p.2.1
  hom : ob mh hm = some (.dictI (home.map fun p => (p.1, V.int ((p.2 : Nat) : Int))))
  occ : ∀ p ∈ tb, ∀ q ∈ p.2, OccAt mh q.1 q.2
  l0 : L0 <= rf /\ L0 <= hm /\ L0 <= mh.length
  xn : ¬ X tk /\ ¬ X hm
  xs : ∀ j, X j -> j < mh.length
  sz : (tb.length <= N /\ ∀ p ∈ tb, p.2.length <= N) /\ home.length <= N
  ne : hm ≠ tk
theorem RF.kp {X : Nat -> Prop} {L0 rf tk hm N : Nat} {tb : Tb} {home : List (Int × Nat)} {mh mh' : MH} (R : RF X L0 rf tk hm N tb home mh) (k : Kp [] mh mh') : RF X L0 rf tk hm N tb home mh' := by
  obtain ⟨L, w, x⟩ := R.wh
  exact ⟨k.ob R.self (by simp), ⟨L, w.kp k (by simp) (fun p hp => by simp), x⟩, k.ob R.hom (by simp), fun p hp q hq => (R.occ p hp q hq).kp k (by simp), ⟨R.l0.1, R.l0.2.1, Nat.le_trans R.l0.2.2 k.1⟩, R.xn, fun j h => Nat.lt_of_lt_of_le (R.xs j h) k.1, R.sz, R.ne⟩
theorem rf_get (tk hm : Nat) : getA "taken" (rfF tk hm) = some (.ref tk) /\ getA "home" (rfF tk hm) = some (.ref hm) := by simp [rfF, getA]
noncomputable def q_RegisterFile_is_free : QS r_RegisterFile_is_free := by
  delta r_RegisterFile_is_free r_RegisterFile_is_free_0 r_RegisterFile_is_free_1
  and_intros
theorem isfree_spec {X : Nat -> Prop} {L0 rf tk hm N : Nat} {tb : Tb} {home : List (Int × Nat)} {mh : MH} {r : Int} {a : Nat} {o : Occ} {Q : V × MH -> Prop} (R : RF X L0 rf tk hm N tb home mh) (ho : OccAt mh a o) (hq : ∀ mh', Kp [] mh mh' -> Q (.bool (freeP tb r o), mh')) :
    W (g_RegisterFile_is_free [.ref rf, .int r, .ref a] mh) Q := by
  obtain ⟨L, H, hX⟩ := R.wh
  obtain ⟨g1, g2⟩ := rf_get tk hm
  have self := R.self
  have d1 := ob_mk (.list []) H.dic
  have hty : (MObj.dictI (L.map fun p => (p.1, V.ref p.2.1))).ty = some "dict" := rfl
  have nov : getA "overlaps" o.fs = none := by simp [Occ.fs, getA]
  have k1 := Kp.mk mh (.list [])
  have loop : ∀ (Q' : SR -> Prop), (∀ w, freeP tb r o = true -> Q' (.next [some (.ref rf), some (.int r), some (.ref a), w] (mkO mh (.list [])))) -> (freeP tb r o = false -> Q' (.ret (.bool false) (mkO mh (.list [])))) -> ∀ (l : List (Nat × Occ)) (w : Option V) (st pl : Nat), (∀ q ∈ l, OccAt (mkO mh (.list [])) q.1 q.2) -> (mkO mh (.list []))[pl]? = some (.list (l.map oref), st) -> freeP tb r o = l.all (fun q => !(o.over q.2)) ->
      W (rLoop (tName 3) (rSeq (rIf (rT (rMeth 217 "overlaps" (rLoc 2) (rCons (rLoc 3) rNil) g_Occupation_overlaps)) (rSeq (rRet (rConst (.bool false))) rSkip) rSkip) rSkip) (stampIs pl st) (l.map oref) [some (.ref rf), some (.int r), some (.ref a), w] (mkO mh (.list []))) Q' := by
    intro Q' hn hr l w st pl hl hpl hf
    refine W_loop oref (I := fun d loc m => ∃ w, loc = [some (.ref rf), some (.int r), some (.ref a), w] /\ m = mkO mh (.list []) /\ ∀ q ∈ d, o.over q.2 = false) ⟨w, rfl, rfl, by simp⟩ ?_ ?_ ?_
    . rintro d loc m ⟨w, rfl, rfl, _⟩
      unfold stampIs; rw [hpl]; simp
    . rintro d x r' loc m e ⟨w, rfl, rfl, hd⟩
      have hx : x ∈ l := by rw [e]; simp
      have ho' : ob (mkO mh (.list [])) a = some (.inst 217 o.fs) := ho.kp k1 (by simp)
      refine ⟨_, rfl, ?_⟩
      refine QS.go (by and_intros) ?_
      simp_all only []
      refine over_spec (ho.kp k1 (by simp)) (hl x hx) ?_
      cases hov : o.over x.2 with
      | true =>
        exact hr (by rw [hf, e]; simp [hov])
      | false =>
        simp_all only []
        refine ⟨_, rfl, rfl, fun q hq => ?_⟩
        rcases List.mem_append.mp hq with h | h
        . exact hd q h
        . rw [List.mem_singleton.mp h]; exact hov
    . rintro loc m ⟨w, rfl, rfl, hd⟩
      exact hn _ (by rw [hf]; simp only [List.all_eq_true, Bool.not_eq_true']; exact hd)
  have d0 := H.dic
  have yes : freeP tb r o = true -> Q (.bool true, mkO mh (.list [])) := fun h => by have := hq _ k1; rw [h] at this; exact this
  have no : freeP tb r o = false -> Q (.bool false, mkO mh (.list [])) := fun h => by have := hq _ k1; rw [h] at this; exact this
  refine QS.start q_RegisterFile_is_free rfl rfl ?_
  simp_all only [hty]
  rw [getA_map (fun q : Nat × List (Nat × Occ) => V.ref q.1)]
  cases hg : getA r L with
  | none =>
    simp_all only [ItB_list (at_new mh (.list []))]
    refine loop _ (fun w h => yes h) no [] _ 0 mh.length (by simp) (at_new mh (.list [])) ?_
    unfold freeP
    rw [<- H.td, getA_map (fun q : Nat × List (Nat × Occ) => q.2), hg]; rfl
  | some q =>
    obtain ⟨pl, l⟩ := q
    have hm := mem_of_getA hg
    obtain ⟨st, hst⟩ := ob_some (ob_mk (.list []) (H.lst _ hm))
    simp only at hst
    simp_all only [ItB_list hst]
    refine loop _ (fun w h => yes h) no l _ st pl (fun q hq => (R.occ (r, l) ?_ q hq).kp k1 (by simp)) hst ?_
    . rw [<- H.td]; exact List.mem_map.mpr ⟨_, hm, rfl⟩
    . unfold freeP
      rw [<- H.td, getA_map (fun q : Nat × List (Nat × Occ) => q.2), hg]; rfl
end Mini.L2
namespace Mini.L2
open Mini
variable {X : Nat -> Prop} {L0 rf tk hm N : Nat} {tb : Tb} {home : List (Int × Nat)} {mh : MH}
noncomputable def q_RegisterFile___init : QS r_RegisterFile___init := by
  delta r_RegisterFile___init r_RegisterFile___init_0 r_RegisterFile___init_1
  and_intros
theorem rf_new {Q : V × MH -> Prop} {mh : MH} (hq : ∀ mh', Kp [] mh mh' -> RF (fun _ => False) mh.length mh.length (mh.length + 1) (mh.length + 2) 0 [] [] mh' -> Q (.ref mh.length, mh')) : W (gNew 278 g_RegisterFile___init [] mh) Q := by
  have a0 := ob_mk_new mh (.inst 278 [])
  have a1 := ob_mk (.dictI []) a0
  have a2 := ob_put_self (o := .inst 278 [("taken", .ref (mh.length + 1))]) a1
  have a3 := ob_mk (.dictI []) a2
  have a4 := ob_put_self (o := .inst 278 (rfF (mh.length + 1) (mh.length + 2))) a3
  have l1 : (putO (mkO (mkO mh (.inst 278 [])) (.dictI [])) mh.length (.inst 278 [("taken", .ref (mh.length + 1))])).length = mh.length + 2 := by rw [put_length, len_mk, len_mk]
  have b1 : ob (mkO (mkO mh (.inst 278 [])) (.dictI [])) (mh.length + 1) = some (.dictI []) := by have := ob_mk_new (mkO mh (.inst 278 [])) (.dictI []); rw [len_mk] at this; exact this
  have b2 : ob (putO (mkO (mkO mh (.inst 278 [])) (.dictI [])) mh.length (.inst 278 [("taken", .ref (mh.length + 1))])) (mh.length + 1) = some (.dictI []) := by rw [ob_put_ne _ _ (by omega)]; exact b1
  have c1 := ob_mk_new (putO (mkO (mkO mh (.inst 278 [])) (.dictI [])) mh.length (.inst 278 [("taken", .ref (mh.length + 1))])) (.dictI [])
  rw [l1] at c1
  have k := ((((Kp.mk mh (.inst 278 [])).stepMk (.dictI [])).stepPut (.inst 278 [("taken", .ref (mh.length + 1))]) a1 (fun q => by simp) (.inr (Nat.le_refl _))).stepMk (.dictI [])).stepPut (.inst 278 (rfF (mh.length + 1) (mh.length + 2))) a3 (fun q => by simp) (.inr (Nat.le_refl _))
  have d1 : ob (putO (mkO (putO (mkO (mkO mh (.inst 278 [])) (.dictI [])) mh.length (.inst 278 [("taken", .ref (mh.length + 1))])) (.dictI [])) mh.length (.inst 278 (rfF (mh.length + 1) (mh.length + 2)))) (mh.length + 1) = some (.dictI []) := by rw [ob_put_ne _ _ (by omega)]; exact ob_mk _ b2
  have d2 : ob (putO (mkO (putO (mkO (mkO mh (.inst 278 [])) (.dictI [])) mh.length (.inst 278 [("taken", .ref (mh.length + 1))])) (.dictI [])) mh.length (.inst 278 (rfF (mh.length + 1) (mh.length + 2)))) (mh.length + 2) = some (.dictI []) := by rw [ob_put_ne _ _ (by omega)]; exact c1
  refine w_mk (QS.start q_RegisterFile___init rfl rfl ?_)
  refine w_putAttr rfl a1 (Nat.le_of_ble_eq_true rfl) ?_
  rw [len_mk]
  refine w_putAttr rfl a3 (Nat.le_of_ble_eq_true rfl) ?_
  rw [put_length, len_mk, len_mk]
  refine And.intro rfl ?_
  refine hq _ k ⟨a4, ⟨[], ⟨rfl, d1, fun p hp => (nomatch hp), ⟨by omega, fun p hp => (nomatch hp)⟩, .nil, .nil⟩, fun p hp => (nomatch hp)⟩, d2, fun p hp => (nomatch hp), ⟨Nat.le_refl _, by omega, k.1⟩, ⟨id, id⟩, fun j h => h.elim, ⟨⟨Nat.zero_le _, fun p hp => (nomatch hp)⟩, Nat.zero_le _⟩, by omega⟩
theorem RF.grow {mh' : MH} (R : RF X L0 rf tk hm N tb home mh) (k : Kp [] mh mh') : RF (fun j => X j \/ (mh.length <= j /\ j < mh'.length)) L0 rf tk hm N tb home mh' := by
  obtain ⟨L, w, x⟩ := R.wh
  have h1 := ob_lt w.dic
  have h2 := ob_lt R.hom
  have R' := R.kp k
  exact ⟨R'.self, ⟨L, w.kp k (by simp) (fun p hp => by simp), fun p hp => fun z => z.elim (x p hp) fun z => by have := ob_lt (w.lst p hp); omega⟩, R'.hom, R'.occ, R'.l0, ⟨fun z => z.elim R.xn.1 fun z => by omega, fun z => z.elim R.xn.2 fun z => by omega⟩,
    fun j h => h.elim (R'.xs j) fun z => z.2, R.sz, R.ne⟩
theorem RF.kpT {mh' : MH} {T : List Nat} (R : RF X L0 rf tk hm N tb home mh) (k : Kp T mh mh') (h : ∀ j ∈ T, j < L0 /\ ∀ fs, ob mh j ≠ some (.inst 217 fs)) : RF X L0 rf tk hm N tb home mh' := by
  obtain ⟨L, w, x⟩ := R.wh
  have hh : ∀ j, L0 <= j -> j ∉ T := fun j hj z => by have := (h j z).1; omega
  exact ⟨k.ob R.self (hh _ R.l0.1), ⟨L, w.kp k (hh _ w.lo.1) (fun p hp => hh _ (w.lo.2 p hp)), x⟩, k.ob R.hom (hh _ R.l0.2.1), fun p hp q hq => (R.occ p hp q hq).kp k fun z => (h _ z).2 _ (R.occ p hp q hq), ⟨R.l0.1, R.l0.2.1, Nat.le_trans R.l0.2.2 k.1⟩, R.xn, fun j hj => Nat.lt_of_lt_of_le (R.xs j hj) k.1, R.sz, R.ne⟩
theorem occupy_spec {r a : Nat} {o : Occ} {Q : V × MH -> Prop} (R : RF X L0 rf tk hm N tb home mh) (hN : N <= 900) (ho : OccAt mh a o) (hq : ∀ mh' T, RF X L0 rf tk hm (N + 1) (addW r (a, o) tb) home mh' -> Kp T mh mh' -> (∀ j ∈ T, ¬ X j /\ L0 <= j /\ ∀ fs, ob mh j ≠ some (.inst 217 fs)) -> Q (.none, mh')) :
    W (g_RegisterFile_occupy [.ref rf, .int r, .ref a] mh) Q := by
  obtain ⟨L, H, hX⟩ := R.wh
  obtain ⟨g1, g2⟩ := rf_get tk hm
  have self := R.self
  refine QS.start (QS.seq QS.any QS.skip : QS (rSeq r_RegisterFile_occupy_0 rSkip)) rfl rfl ?_
  refine e_W (x := r_RegisterFile_occupy_0 _ _) ?_
  unfold r_RegisterFile_occupy_0
  refine W_sdApp (f := oref) (x := (a, o)) (w := tk) (n := r) (N := N) (W_eq.mp (by refine QE.go (by and_intros) ?_; simp_all only []; rfl)) (by rfl) (fun mh => by rfl) H R.l0.2.2 R.sz.1 hN fun mh' L' H' K' N' P' => ?_
  have inst : ∀ j ∈ (tk :: L.map fun p => p.2.1), ∀ c fs, ob mh j ≠ some (.inst c fs) := fun j hj c fs e => by
    rcases List.mem_cons.mp hj with rfl | hj
    . rw [H.dic] at e; cases e
    . obtain ⟨p, hp, rfl⟩ := List.mem_map.mp hj
      rw [H.lst p hp] at e; cases e
  have hmT : hm ∉ (tk :: L.map fun p => p.2.1) := fun z => by
    rcases List.mem_cons.mp z with z | z
    . exact R.ne z
    . obtain ⟨p, hp, e⟩ := List.mem_map.mp z
      have := H.lst p hp
      rw [e, R.hom] at this; cases this
  have hx' : ∀ p ∈ L', ¬ X p.2.1 := fun p hp z => by
    rcases P' p hp with w | w
    . obtain ⟨q, hq', e⟩ := List.mem_map.mp w
      exact hX q hq' (by rw [e]; exact z)
    . have := R.xs _ z; omega
  refine hq mh' _ ⟨K'.ob self fun z => inst _ z _ _ self, ⟨L', H', hx'⟩, K'.ob R.hom hmT, fun p hp q hq => ?_, ⟨R.l0.1, R.l0.2.1, Nat.le_trans R.l0.2.2 K'.1⟩, R.xn, fun j h => Nat.lt_of_lt_of_le (R.xs j h) K'.1, ⟨N', Nat.le_succ_of_le R.sz.2⟩, R.ne⟩ K' fun j hj => ⟨fun z => ?_, ?_, fun fs => inst j hj _ fs⟩
  . have old : ∀ p ∈ tb, ∀ q ∈ p.2, OccAt mh' q.1 q.2 := fun p hp q hq => (R.occ p hp q hq).kp K' fun z => inst _ z _ _ (R.occ p hp q hq)
    rcases putA_mem hp with m | m
    . exact old p m q hq
    . rw [m] at hq
      simp only [List.mem_append, List.mem_singleton] at hq
      rcases hq with hq | rfl
      . cases hg : getA (r : Int) tb with
        | none => rw [hg] at hq; simp at hq
        | some l => rw [hg] at hq; exact old _ (mem_of_getA hg) q hq
      . exact ho.kp K' fun z => inst _ z _ _ ho
  . rcases List.mem_cons.mp hj with rfl | hj
    . exact R.xn.1 z
    . obtain ⟨p, hp, e⟩ := List.mem_map.mp hj
      exact hX p hp (by rw [e]; exact z)
  . rcases List.mem_cons.mp hj with rfl | hj
    . exact H.lo.1
    . obtain ⟨p, hp, e⟩ := List.mem_map.mp hj
      rw [<- e]; exact H.lo.2 p hp
end Mini.L2
namespace Mini.L2
open Mini
variable {X : Nat -> Prop} {L0 rf tk hm N : Nat} {tb : Tb} {home : List (Int × Nat)} {mh : MH}
theorem wishedP_app {o : Occ} : ∀ {d r : List Op}, (∀ p ∈ d, ¬ (0 < regOf home p /\ freeP tb (regOf home p) o = true)) -> wishedP tb home o (d ++ r) = wishedP tb home o r
  | [], _, _ => rfl
  | p :: d, r, h => by
    simp only [List.cons_append, wishedP, if_neg (h p (.head _))]
    exact wishedP_app fun q hq => h q (.tail _ hq)
noncomputable def q_RegisterFile_wished : QS r_RegisterFile_wished := by
  delta r_RegisterFile_wished r_RegisterFile_wished_0 r_RegisterFile_wished_1
  and_intros
inductive WDi (rf a wl : Nat) (tb : Tb) (home : List (Int × Nat)) (o : Occ) (mh : MH) (d : List Op) (loc : Loc) (m : MH) : Prop
  | mk (w3 : Option V) (w4 : Option V) (h0 : loc = [some (.ref rf), some (.ref a), some (.ref wl), w3, w4]) (h1 : Kp [] mh m) (h2 : ∀ p ∈ d, ¬ (0 < regOf home p /\ freeP tb (regOf home p) o = true))
theorem wished_spec {a wl st : Nat} {o : Occ} {ops : List Op} {Q : V × MH -> Prop} (R : RF X L0 rf tk hm N tb home mh) (ho : OccAt mh a o) (hw : mh[wl]? = some (.list (ops.map Op.toV), st)) (hq : ∀ mh', Kp [] mh mh' -> Q (.int (wishedP tb home o ops), mh')) :
    W (g_RegisterFile_wished [.ref rf, .ref a, .ref wl] mh) Q := by
  obtain ⟨g1, g2⟩ := rf_get tk hm
  have nf : getA "is_free" (rfF tk hm) = none := by simp [rfF, getA]
  refine QS.start q_RegisterFile_wished rfl rfl ?_
  simp_all only [ItB_list hw]
  refine e_Q (fun Q' => (∀ m w3 w4, Kp [] mh m -> wishedP tb home o ops = 0 -> Q' (.next [some (.ref rf), some (.ref a), some (.ref wl), w3, w4] m)) /\ ∀ m, Kp [] mh m -> Q' (.ret (.int (wishedP tb home o ops)) m)) ⟨fun m w3 w4 K z => ?_, fun m K => hq m K⟩ fun Q' ⟨hn, hr⟩ => ?_
  . have := hq m K
    rw [z] at this; exact this
  refine W_loop Op.toV (I := WDi rf a wl tb home o mh) ⟨none, none, rfl, Kp.refl _ _, by simp⟩ ?_ ?_ ?_
  . rintro d loc m ⟨w3, w4, rfl, K, _⟩
    exact stamp_of K hw (by simp)
  . rintro d p r loc m e ⟨w3, w4, rfl, K, hd⟩
    have R' := R.kp K
    have self := R'.self
    have hom := R'.hom
    have hty : (MObj.dictI (home.map fun p => (p.1, V.int ((p.2 : Nat) : Int)))).ty = some "dict" := rfl
    have ho' := ho.kp K (by simp)
    have hres : wishedP tb home o ops = wishedP tb home o (p :: r) := by rw [e]; exact wishedP_app hd
    refine ⟨_, rfl, ?_⟩
    have reg : ∀ (w3 : Option V), W ((rSeq (rIf (rTAnd (rT (rOp2 (rLoc 4) (rConst (.int 0)) gGt)) (rTAnd (rT (rMeth 278 "is_free" (rLoc 0) (rCons (rLoc 4) (rCons (rLoc 1) rNil)) g_RegisterFile_is_free)) (rTC true))) (rSeq (rRet (rLoc 4)) rSkip) rSkip) rSkip) [some (.ref rf), some (.ref a), some (.ref wl), w3, some (.int (regOf home p))] m) fun y => SRl y (WDi rf a wl tb home o mh (d ++ [p])) Q' := by
      intro w3
      have fin : ¬ (0 < regOf home p /\ freeP tb (regOf home p) o = true) -> ∀ q ∈ d ++ [p], ¬ (0 < regOf home q /\ freeP tb (regOf home q) o = true) := fun h q hq => by
        rcases List.mem_append.mp hq with z | z
        . exact hd q z
        . rw [List.mem_singleton.mp z]; exact h
      by_cases h0 : 0 < regOf home p
      . have h0' : (0 : Int) < (regOf home p : Int) := by omega
        refine QS.go (by and_intros) ?_
        simp_all only []
        refine isfree_spec R' ho' fun m2 K2 => ?_
        cases hf : freeP tb (regOf home p) o with
        | true =>
          have : wishedP tb home o ops = regOf home p := by rw [hres]; unfold wishedP; rw [if_pos ⟨h0, hf⟩]
          have h := hr m2 (K.step0 K2)
          rw [this] at h; exact h
        | false =>
          simp_all only []
          exact ⟨_, _, rfl, K.step0 K2, fin (by rw [hf]; simp)⟩
      . have h0' : ¬ (0 : Int) < (regOf home p : Int) := by omega
        refine QS.go (by and_intros) ?_
        simp_all only []
        exact ⟨_, _, rfl, K, fin fun z => h0 z.1⟩
    generalize (rIf (rTAnd (rT (rOp2 (rLoc 4) (rConst (.int 0)) gGt)) (rTAnd (rT (rMeth 278 "is_free" (rLoc 0) (rCons (rLoc 4) (rCons (rLoc 1) rNil)) g_RegisterFile_is_free)) (rTC true))) (rSeq (rRet (rLoc 4)) rSkip) rSkip) = tl at reg ⊢
    obtain ⟨k, n⟩ := p
    refine QS.go (QS.seq (by and_intros) (QS.seq (by and_intros) QS.any)) ?_
    cases k with
    | t =>
      simp_all only [hty]
      have : (getA (n : Int) (home.map fun p => (p.1, V.int ((p.2 : Nat) : Int)))).getD (.int 0) = .int ((regOf home ⟨.t, n⟩ : Nat) : Int) := by
        rw [getA_map (fun q : Nat => V.int (q : Int))]
        unfold regOf
        cases getA (n : Int) home <;> simp
      rw [this]
      exact (reg _).mono fun z h => by cases z <;> exact h
    | a => exact (reg _).mono fun z h => by cases z <;> exact h
    | y => exact (reg _).mono fun z h => by cases z <;> exact h
    | x => exact (reg _).mono fun z h => by cases z <;> exact h
  . rintro loc m ⟨w3, w4, rfl, K, hd⟩
    exact hn m w3 w4 K (by have := wishedP_app (r := []) hd; rw [List.append_nil] at this; rw [this]; rfl)
theorem php : ∀ (n : Nat) (l : List Int), l.length <= n -> ∃ r : Nat, 1 <= r /\ r <= n + 1 /\ ((r : Nat) : Int) ∉ l
  | 0, l, h => ⟨1, by omega, by omega, by have : l = [] := List.length_eq_zero_iff.mp (by omega); simp [this]⟩
  | n + 1, l, h => by
    by_cases m : ((n + 2 : Nat) : Int) ∈ l
    . obtain ⟨r, h1, h2, h3⟩ := php n (l.erase ((n + 2 : Nat) : Int)) (by rw [List.length_erase_of_mem m]; omega)
      exact ⟨r, h1, by omega, fun z => h3 ((List.mem_erase_of_ne (by omega)).mpr z)⟩
    . exact ⟨n + 2, by omega, by omega, m⟩
noncomputable def ff (tb : Tb) (o : Occ) : Nat -> Nat -> Nat
  | 0, r => r
  | n + 1, r => if freeP tb r o = true then r else ff tb o n (r + 1)
theorem ff_spec (tb : Tb) (o : Occ) : ∀ (n r r0 : Nat), r <= r0 -> r0 < r + n -> freeP tb r0 o = true -> freeP tb (ff tb o n r) o = true /\ r <= ff tb o n r /\ ff tb o n r <= r0 /\ ∀ j : Nat, r <= j -> j < ff tb o n r -> freeP tb j o = false
  | 0, r, r0, h1, h2, _ => by omega
  | n + 1, r, r0, h1, h2, h3 => by
    unfold ff
    by_cases h : freeP tb r o = true
    . rw [if_pos h]; exact ⟨h, Nat.le_refl _, h1, fun j a b => by omega⟩
    . rw [if_neg h]
      have hne : r ≠ r0 := fun z => h (by rw [z]; exact h3)
      obtain ⟨a, b, c, d⟩ := ff_spec tb o n (r + 1) r0 (by omega) (by omega) h3
      refine ⟨a, by omega, c, fun j x y => ?_⟩
      by_cases z : j = r
      . rw [z]; simpa using h
      . exact d j (by omega) y
theorem free_exists (tb : Tb) (o : Occ) {n : Nat} (h : tb.length <= n) : ∃ r : Nat, 1 <= r /\ r <= n + 1 /\ freeP tb r o = true := by
  obtain ⟨r, h1, h2, h3⟩ := php n (tb.map Prod.fst) (by simpa using h)
  refine ⟨r, h1, h2, ?_⟩
  unfold freeP
  cases hg : getA ((r : Nat) : Int) tb with
  | none => rfl
  | some l => exact absurd (List.mem_map.mpr ⟨_, mem_of_getA hg, rfl⟩) h3
noncomputable def placeP (tb : Tb) (home : List (Int × Nat)) (o : Occ) (ops : List Op) : Nat := if wishedP tb home o ops = 0 then ff tb o 190 1 else wishedP tb home o ops
noncomputable def q_RegisterFile_place : QS r_RegisterFile_place := by
  delta r_RegisterFile_place
  refine QS.seq ?_ (QS.seq ?_ QS.any)
  . delta r_RegisterFile_place_0; and_intros
  . delta r_RegisterFile_place_1; and_intros
noncomputable def q_RegisterFile_place_t : QS (rSeq r_RegisterFile_place_2 (rSeq r_RegisterFile_place_3 rSkip)) := by
  delta r_RegisterFile_place_2 r_RegisterFile_place_3
  and_intros
theorem place_spec {a wl st : Nat} {o : Occ} {ops : List Op} {Q : V × MH -> Prop} (R : RF X L0 rf tk hm N tb home mh) (hN : N <= 150) (ho : OccAt mh a o) (hw : mh[wl]? = some (.list (ops.map Op.toV), st))
    (hq : ∀ mh' T, RF X L0 rf tk hm (N + 1) (addW (placeP tb home o ops) (a, o) tb) (putA (o.num : Int) (placeP tb home o ops) home) mh' -> Kp T mh mh' -> (∀ j ∈ T, ¬ X j /\ L0 <= j /\ ∀ fs, ob mh j ≠ some (.inst 217 fs)) -> Q (.none, mh')) :
    W (g_RegisterFile_place [.ref rf, .ref a, .ref wl] mh) Q := by
  obtain ⟨g1, g2⟩ := rf_get tk hm
  have n1 : getA "is_free" (rfF tk hm) = none := by simp [rfF, getA]
  have n2 : getA "wished" (rfF tk hm) = none := by simp [rfF, getA]
  have n3 : getA "occupy" (rfF tk hm) = none := by simp [rfF, getA]
  have self := R.self
  have tail : ∀ {m : MH}, Kp [] mh m -> W (rSeq r_RegisterFile_place_2 (rSeq r_RegisterFile_place_3 rSkip) [some (.ref rf), some (.ref a), some (.ref wl), some (.int ((placeP tb home o ops : Nat) : Int))] m) (Sx (fun _ m => Q (.none, m)) (fun v m => Q (v, m)) fun _ _ => False) := by
    intro m K
    have R' := R.kp K
    have self' := R'.self
    refine QS.go q_RegisterFile_place_t ?_
    simp_all only []
    refine occupy_spec R' (by omega) (ho.kp K (by simp)) fun m2 T R2 K2 hT => ?_
    have self2 := R2.self
    have ho2 : OccAt m2 a o := (ho.kp K (by simp)).kp K2 fun z => (hT a z).2.2 _ (ho.kp K (by simp))
    obtain ⟨og1, og2, og3, og4⟩ := occ_fs_get o
    have ho3 := ho2
    unfold OccAt at ho3
    have hlen : (home.map fun p => (p.1, V.int ((p.2 : Nat) : Int))).length <= 1000 := by rw [List.length_map]; have := R.sz.2; omega
    simp_all only [W_store_dict R2.hom hlen]
    have K3 := Kp.put (.dictI (putA (o.num : Int) (.int ((placeP tb home o ops : Nat) : Int)) (home.map fun p => (p.1, V.int ((p.2 : Nat) : Int))))) R2.hom (fun q => by simp)
    obtain ⟨L, w, x⟩ := R2.wh
    have hne : ∀ j c fs, ob m2 j = some (.inst c fs) -> j ∉ [hm] := fun j c fs e z => by
      rw [List.mem_singleton.mp z, R2.hom] at e; cases e
    refine hq _ (T ++ [hm]) ⟨K3.ob self2 (hne _ _ _ self2), ⟨L, w.kp K3 (by simp [Ne.symm R.ne]) (fun p hp z => ?_), x⟩, ?_, fun p hp q hq => (R2.occ p hp q hq).kp K3 (hne _ _ _ (R2.occ p hp q hq)), ⟨R2.l0.1, R2.l0.2.1, Nat.le_trans R2.l0.2.2 K3.1⟩, R2.xn, fun j h => Nat.lt_of_lt_of_le (R2.xs j h) K3.1, ⟨R2.sz.1, ?_⟩, R2.ne⟩ ?_ ?_
    . have := w.lst p hp
      rw [List.mem_singleton.mp z, R2.hom] at this; cases this
    . rw [ob_put_self R2.hom]
      congr 2
      exact putA_map (fun q : Nat => V.int (q : Int)) (o.num : Int) _ home
    . have := putA_len (o.num : Int) (placeP tb home o ops) home; have := R.sz.2; omega
    . have k0 : Kp (T ++ [hm]) mh m := K.nil
      exact (k0.step K2 fun j hj => .inl (List.mem_append_left _ hj)).step K3 fun j hj => .inl (List.mem_append_right _ hj)
    . intro j hj
      rcases List.mem_append.mp hj with h | h
      . obtain ⟨a1, a2, a3⟩ := hT j h
        refine ⟨a1, a2, fun fs e => a3 fs (K.ob e (by simp))⟩
      . rw [List.mem_singleton.mp h]
        exact ⟨R.xn.2, R.l0.2.1, fun fs e => by rw [R.hom] at e; cases e⟩
  refine QS.start q_RegisterFile_place rfl rfl ?_
  simp_all only []
  refine wished_spec R ho hw fun m1 K1 => ?_
  have R1 := R.kp K1
  by_cases hz : wishedP tb home o ops = 0
  . have hz' : ((wishedP tb home o ops : Nat) : Int) = 0 := by omega
    obtain ⟨r0, h1, h2, h3⟩ := free_exists tb o R.sz.1.1
    obtain ⟨f1, f2, f3, f4⟩ := ff_spec tb o 190 1 r0 h1 (by omega) h3
    have hp : placeP tb home o ops = ff tb o 190 1 := by unfold placeP; rw [if_pos hz]
    simp_all only [hz']
    refine W_while (I := fun j loc m => loc = [some (.ref rf), some (.ref a), some (.ref wl), some (.int ((j + 1 : Nat) : Int))] /\ Kp [] mh m) (ff tb o 190 1 - 1) (by omega) ⟨rfl, K1⟩ ?_ ?_
    . rintro j loc m hj ⟨rfl, K⟩
      have self' := (R.kp K).self
      refine QT.go (by and_intros) ?_
      simp_all only []
      refine isfree_spec (R.kp K) (ho.kp K (by simp)) fun m2 K2 => ?_
      have := f4 (j + 1) (by omega) (by omega)
      rw [this]
      refine And.intro rfl (QS.go (by and_intros) ?_)
      exact ⟨_, _, rfl, rfl, K.step0 K2⟩
    . rintro loc m ⟨rfl, K⟩
      have self' := (R.kp K).self
      refine QT.go (by and_intros) ?_
      simp_all only []
      refine isfree_spec (R.kp K) (ho.kp K (by simp)) fun m2 K2 => ?_
      have e : ff tb o 190 1 - 1 + 1 = placeP tb home o ops := by rw [hp]; omega
      rw [e]
      have : freeP tb ((placeP tb home o ops : Nat) : Int) o = true := by rw [hp]; exact f1
      rw [this]
      exact ⟨rfl, tail (K.step0 K2)⟩
  . have hz' : (((wishedP tb home o ops : Nat) : Int) == 0) = false := by
      rw [beq_eq_false_iff_ne]; omega
    have hp : placeP tb home o ops = wishedP tb home o ops := by unfold placeP; rw [if_neg hz]
    simp_all only [hz']
    rw [<- hp]
    exact tail K1
end Mini.L2
namespace Mini.L2
open Mini
noncomputable def lamQ : String := "by_start.<locals>.<lambda>"
noncomputable def TabOk (mh : MH) : Prop := ob mh 0 = some (.tab 284 none) \/ ∃ j, ob mh 0 = some (.tab 284 (some (j, 208, 35))) /\ ob mh j = some (.code lamQ)
theorem TabOk.kp {T : List Nat} {mh mh' : MH} (h : TabOk mh) (k : Kp T mh mh') (n : 0 ∉ T) : TabOk mh' := by
  rcases h with h | ⟨j, h1, h2⟩
  . exact .inl (k.ob h n)
  . exact .inr ⟨j, k.ob h1 n, k.2.2 j _ h2⟩
noncomputable def insBy {α : Type} (key : α -> Int × Int) (x : α) : List α -> List α
  | [] => [x]
  | y :: r => if ltK (key x) (key y) then x :: y :: r else y :: insBy key x r
noncomputable def sortBy {α : Type} (key : α -> Int × Int) (l : List α) : List α := l.foldr (insBy key) []
theorem insBy_map {α β : Type} (f : α -> β) (key : β -> Int × Int) (x : α) : ∀ l : List α, insBy key (f x) (l.map f) = (insBy (fun a => key (f a)) x l).map f
  | [] => rfl
  | y :: r => by
    simp only [List.map_cons, insBy]
    split
    . rfl
    . rw [insBy_map f key x r]; rfl
theorem sortBy_map {α β : Type} (f : α -> β) (key : β -> Int × Int) : ∀ l : List α, sortBy key (l.map f) = (sortBy (fun a => key (f a)) l).map f
  | [] => rfl
  | y :: r => by
    have := sortBy_map f key r
    unfold sortBy at this ⊢
    simp only [List.map_cons, List.foldr_cons]
    rw [this, insBy_map]
theorem sortK_eq (l : List ((Int × Int) × V)) : sortK l = sortBy Prod.fst l := by
  have : ∀ x (l : List ((Int × Int) × V)), insK x l = insBy Prod.fst x l := fun x l => by
    induction l with
    | nil => rfl
    | cons y r ih => unfold insK insBy; rw [ih]
  unfold sortK sortBy
  congr 1
  funext x l
  exact this x l
noncomputable def oKey (o : Occ) : Int × Int := (o.st, (o.num : Int))
noncomputable def sortO (l : List Occ) : List Occ := sortBy oKey l
noncomputable def sortG (l : Adr) : Adr := sortBy (fun p => oKey p.2) l
theorem sortG_snd (l : Adr) : (sortG l).map Prod.snd = sortO (l.map Prod.snd) := (sortBy_map Prod.snd oKey l).symm
theorem insBy_mem {α : Type} {key : α -> Int × Int} {x y : α} : ∀ {l : List α}, y ∈ insBy key x l ↔ y = x \/ y ∈ l
  | [] => by simp [insBy]
  | z :: r => by
    unfold insBy
    split
    . simp
    . simp only [List.mem_cons, insBy_mem]; constructor <;> (intro h; rcases h with h | h | h <;> simp [h])
theorem sortBy_mem {α : Type} {key : α -> Int × Int} {y : α} : ∀ {l : List α}, y ∈ sortBy key l ↔ y ∈ l
  | [] => by simp [sortBy]
  | z :: r => by
    have := sortBy_mem (key := key) (y := y) (l := r)
    unfold sortBy at this ⊢
    simp only [List.foldr_cons, insBy_mem, this, List.mem_cons]
theorem sortBy_len {α : Type} (key : α -> Int × Int) : ∀ l : List α, (sortBy key l).length = l.length
  | [] => rfl
  | z :: r => by
    have ins : ∀ (x : α) (l : List α), (insBy key x l).length = l.length + 1 := fun x l => by
      induction l with
      | nil => rfl
      | cons y r ih => unfold insBy; split <;> simp [ih]
    have := sortBy_len key r
    unfold sortBy at this ⊢
    simp only [List.foldr_cons, List.length_cons, ins, this]
theorem bystart_spec {i : Nat} {G : Adr} {mh : MH} {Q : V × MH -> Prop} (hl : ob mh i = some (.list (G.map oref))) (ho : ∀ p ∈ G, OccAt mh p.1 p.2) (hT : TabOk mh) (hlen : G.length < 64) (hnd : (G.map fun p => p.2.num).Nodup)
    (hq : ∀ mh' r, Kp [0] mh mh' -> TabOk mh' -> ob mh' r = some (.list ((sortG G).map oref)) -> mh.length <= r -> Q (.ref r, mh')) : W (g_by_start [.ref i] mh) Q := by
  have keys : ∀ (H : Adr), (∀ p ∈ H, OccAt mh p.1 p.2) -> keysOf 217 mh (H.map oref) = some (H.map fun p => (oKey p.2, V.ref p.1)) := by
    intro H
    induction H with
    | nil => intro _; rfl
    | cons p H ih =>
      intro h
      have hp := h p (.head _)
      unfold OccAt at hp
      obtain ⟨g1, g2, g3, g4⟩ := occ_fs_get p.2
      exact keysOf_cons (occKey_of hp g3 g2) (ih fun q hq => h q (.tail _ hq))
  have k0 := keys G ho
  have nd : ((G.map fun p => (oKey p.2, V.ref p.1)).map (·.1)).Nodup := by
    rw [List.map_map]
    have : (G.map fun p => p.2.num) = (G.map ((fun x : (Int × Int) × V => x.1) ∘ fun p => (oKey p.2, V.ref p.1))).map fun k => k.2.toNat := by
      rw [List.map_map]
      refine List.map_congr_left fun p _ => ?_
      simp [oKey]
    rw [this] at hnd
    exact (List.pairwise_map.mp hnd).imp fun h e => h (congrArg (fun k : Int × Int => k.2.toNat) e)
  have srt : ((sortK (G.map fun p => (oKey p.2, V.ref p.1))).map (·.2)) = (sortG G).map oref := by
    rw [sortK_eq, sortBy_map (fun p : Nat × Occ => (oKey p.2, V.ref p.1)) Prod.fst G, List.map_map]; rfl
  have hlen' : (G.map oref).length < 64 := by simpa using hlen
  have tabs : ∃ m, tabNext 284 208 35 lamQ mh = some m /\ Kp [0] mh m /\ TabOk m := by
    rcases hT with h | ⟨j, h1, h2⟩
    . have h' := ob_mk (.code lamQ) h
      have n0 : mh.length ≠ 0 := by have := ob_lt h; omega
      refine ⟨putO (mkO mh (.code lamQ)) 0 (.tab 284 (some (mh.length, 208, 35))), ?_, ?_, ?_⟩
      . unfold tabNext; simp [h]
      . exact ((Kp.refl _ _).stepMk _).stepPut _ h' (fun q => by simp) (.inl (by simp))
      . exact .inr ⟨mh.length, ob_put_self h', by rw [ob_put_ne _ _ (Ne.symm n0)]; exact ob_mk_new _ _⟩
    . refine ⟨mh, ?_, Kp.refl _ _, .inr ⟨j, h1, h2⟩⟩
      unfold tabNext; simp [h1, h2]
  obtain ⟨m, tm, K, Tm⟩ := tabs
  have run : rBS 284 217 208 35 "by_start.<locals>.<lambda>" [some (.ref i)] mh = some (.ref m.length, mkO m (.list ((sortG G).map oref))) := by
    have tm' : tabNext 284 208 35 "by_start.<locals>.<lambda>" mh = some m := tm
    show oL mh i _ = _
    delta oL; rw [hl]
    show gd _ _ = _
    delta gd; rw [if_pos hlen', k0]
    show bo (tabNext _ _ _ _ _) _ = _
    rw [tm']
    show ite _ _ _ = _
    rw [if_pos nd, srt]
  refine QS.start (QS.seq (QS.ret QE.any) QS.skip : QS r_by_start) rfl rfl ?_
  refine (W_of run).mpr ?_
  exact hq _ _ (K.stepMk _) (Tm.kp (Kp.mk _ _) (by simp)) (ob_mk_new _ _) K.1
noncomputable def realOp (home : List (Int × Nat)) (o : Op) : Op := match o.k with
  | .t => ⟨.x, (getA (o.n : Int) home).getD 0⟩
  | .a => ⟨.x, o.n⟩
  | _ => o
noncomputable def q_real_operand : QS r_real_operand := by
  delta r_real_operand r_real_operand_0 r_real_operand_1
  and_intros
theorem real_spec {hm : Nat} {home : List (Int × Nat)} {p : Part} {m : MH} {Q : V × MH -> Prop} (hh : ob m hm = some (.dictI (home.map fun p => (p.1, V.int ((p.2 : Nat) : Int))))) (ht : ∀ n, p = .o ⟨.t, n⟩ -> ∃ k, getA (n : Int) home = some k)
    (hq : Q ((p.map (realOp home)).toV, m)) : W (g_real_operand [p.toV, .ref hm] m) Q := by
  refine QS.start q_real_operand rfl rfl ?_
  cases p with
  | i n => exact hq
  | o q =>
    obtain ⟨k, n⟩ := q
    cases k with
    | t =>
      obtain ⟨k, hk⟩ := ht n rfl
      have it : ∀ Q, W (gItem (.ref hm) (.int n) m) Q ↔ Q (.int ((k : Nat) : Int), m) := fun Q => W_item_dict hh (by rw [getA_map (fun q : Nat => V.int (q : Int)), hk]; rfl)
      simp_all only [it]
      have : (Part.map (realOp home) (.o ⟨.t, n⟩)).toV = .tup [.str "x", .int ((k : Nat) : Int)] := by
        simp [Part.map, realOp, hk, Part.toV, Op.toV, Kd.s]
      rw [this] at hq
      exact hq
    | a =>
      simp_all only []
      exact hq
    | y =>
      simp_all only []
      exact hq
    | x =>
      simp_all only []
      exact hq
noncomputable def grStep (m : Nat) (x : Int × Op) : Nat := if x.2.k = .x /\ m < x.2.n then x.2.n else m
noncomputable def grRow (m : Nat) (r : Row) : Nat := r.roles.foldl grStep m
noncomputable def greatP (rows : List Row) : Nat := rows.foldl grRow 0
noncomputable def q_greatest : QS r_greatest := by
  delta r_greatest r_greatest_0 r_greatest_1 r_greatest_2
  and_intros
inductive GRi1 (I : Nat) (mh : MH) (d : List Row) (loc : Loc) (m : MH) : Prop
  | mk (w2 : Option V) (w3 : Option V) (w4 : Option V) (h0 : loc = [some (.ref I), some (.int ((d.foldl grRow 0 : Nat) : Int)), w2, w3, w4]) (h1 : Kp [] mh m)
inductive GRi2 (I : Nat) (a0 : Nat) (rv : V) (m : MH) (l : List V) (dd : List (Int × Op)) (loc : Loc) (m' : MH) : Prop
  | mk (w3 w4 : Option V) (h0 : loc = [some (.ref I), some (.int ((dd.foldl grStep a0 : Nat) : Int)), some rv, w3, w4]) (h1 : m' = mkO m (.list l))
theorem GRi2.app {I a0 z : Nat} {rv : V} {m : MH} {l : List V} {dd : List (Int × Op)} {x : Int × Op} {w3 w4 : Option V} (h : grStep (dd.foldl grStep a0) x = z) : GRi2 I a0 rv m l (dd ++ [x]) [some (.ref I), some (.int (z : Int)), some rv, w3, w4] (mkO m (.list l)) :=
  ⟨w3, w4, by rw [List.foldl_append, List.foldl_cons, List.foldl_nil, h], rfl⟩
theorem greatest_spec {mh : MH} {I st : Nat} {rows : List Row} {Q : V × MH -> Prop} (hI : mh[I]? = some (.list (rows.map Row.toV), st)) (hq : ∀ mh', Kp [] mh mh' -> Q (.int (greatP rows), mh')) : W (g_greatest [.ref I] mh) Q := by
  refine QS.start q_greatest rfl rfl ?_
  simp_all only [ItB_list hI]
  refine W_loop Row.toV (I := GRi1 I mh) ⟨none, none, none, rfl, Kp.refl _ _⟩ ?_ ?_ ?_
  . rintro d loc m ⟨w2, w3, w4, rfl, K⟩
    exact stamp_of K hI (by simp)
  . rintro d r rs loc m e ⟨w2, w3, w4, rfl, K⟩
    refine ⟨_, rfl, ?_⟩
    refine QS.go (by and_intros) ?_
    refine roles_spec ?_
    simp_all only [ItB_list (at_new _ _)]
    refine W_loop roleV (I := GRi2 I (d.foldl grRow 0) r.toV m (r.roles.map roleV)) ⟨w3, w4, rfl, rfl⟩ ?_ ?_ ?_
    . rintro dd loc m' ⟨w3, w4, rfl, rfl⟩
      unfold stampIs; rw [at_new]; simp
    . rintro dd x xs loc m' e2 ⟨w3, w4, rfl, rfl⟩
      obtain ⟨ro, ⟨k, n⟩⟩ := x
      refine ⟨_, rfl, ?_⟩
      have other : k ≠ .x -> grStep (dd.foldl grStep (d.foldl grRow 0)) (ro, ⟨k, n⟩) = dd.foldl grStep (d.foldl grRow 0) := fun h => by unfold grStep; simp [h]
      cases k with
      | x =>
        generalize hM : dd.foldl grStep (d.foldl grRow 0) = M
        by_cases h : M < n
        . have h' : (M : Int) < n := by omega
          refine QS.go (by and_intros) ?_
          simp_all only []
          exact .app (by rw [hM]; unfold grStep; simp [h])
        . have h' : ¬ (M : Int) < n := by omega
          refine QS.go (by and_intros) ?_
          simp_all only []
          exact .app (by rw [hM]; unfold grStep; simp [h])
      | t => refine QS.go (by and_intros) ?_; simp_all only []; exact .app (other (by decide))
      | a => refine QS.go (by and_intros) ?_; simp_all only []; exact .app (other (by decide))
      | y => refine QS.go (by and_intros) ?_; simp_all only []; exact .app (other (by decide))
    . rintro loc m' ⟨w3, w4, rfl, rfl⟩
      simp_all only []
      exact ⟨_, _, _, by rw [List.foldl_append]; rfl, K.stepMk _⟩
  . rintro loc m ⟨w2, w3, w4, rfl, K⟩
    exact hq m K
end Mini.L2
namespace Mini.L2
open Mini
noncomputable abbrev TbO := List (Int × List Occ)
noncomputable def freeO (tb : TbO) (r : Int) (o : Occ) : Bool := ((getA r tb).getD []).all fun q => !(o.over q)
noncomputable def wishedO (tb : TbO) (home : List (Int × Nat)) (o : Occ) : List Op -> Nat
  | [] => 0
  | p :: ps => if 0 < regOf home p /\ freeO tb (regOf home p) o = true then regOf home p else wishedO tb home o ps
noncomputable def ffO (tb : TbO) (o : Occ) : Nat -> Nat -> Nat
  | 0, r => r
  | n + 1, r => if freeO tb r o = true then r else ffO tb o n (r + 1)
noncomputable def placeO (tb : TbO) (home : List (Int × Nat)) (o : Occ) (ops : List Op) : Nat := if wishedO tb home o ops = 0 then ffO tb o 190 1 else wishedO tb home o ops
noncomputable def othersO (l : List Occ) : TbO := l.foldl (fun tb o => if o.kd = "temp" then tb else addW o.num o tb) []
noncomputable def placeStep (wants : List (Int × List Op)) (s : TbO × List (Int × Nat)) (o : Occ) : TbO × List (Int × Nat) :=
  (addW (placeO s.1 s.2 o ((getA (o.num : Int) wants).getD [])) o s.1, putA (o.num : Int) (placeO s.1 s.2 o ((getA (o.num : Int) wants).getD [])) s.2)
noncomputable def tempsO (l : List Occ) : List Occ := l.filter fun o => o.kd == "temp"
noncomputable def homesP (rows : List Row) (ar : Nat) : List (Int × Nat) := ((sortO (tempsO (occsP rows ar))).foldl (placeStep (wishesP rows)) (othersO (occsP rows ar), [])).2
noncomputable def realP (rows : List Row) (ar : Nat) : List Row := rows.map (Row.map (realOp (homesP rows ar)))
noncomputable def stripT (tb : Tb) : TbO := tb.map fun p => (p.1, p.2.map Prod.snd)
theorem strip_free (tb : Tb) (r : Int) (o : Occ) : freeP tb r o = freeO (stripT tb) r o := by
  unfold freeP freeO stripT
  rw [getA_map (fun l : List (Nat × Occ) => l.map Prod.snd)]
  cases getA r tb with
  | none => rfl
  | some l => simp [List.all_map, Function.comp_def]
theorem strip_wished (tb : Tb) (home : List (Int × Nat)) (o : Occ) : ∀ ops, wishedP tb home o ops = wishedO (stripT tb) home o ops
  | [] => rfl
  | p :: ps => by unfold wishedP wishedO; rw [strip_free, strip_wished tb home o ps]
theorem strip_ff (tb : Tb) (o : Occ) : ∀ n r, ff tb o n r = ffO (stripT tb) o n r
  | 0, r => rfl
  | n + 1, r => by unfold ff ffO; rw [strip_free, strip_ff tb o n]
theorem strip_place (tb : Tb) (home : List (Int × Nat)) (o : Occ) (ops : List Op) : placeP tb home o ops = placeO (stripT tb) home o ops := by
  unfold placeP placeO; rw [strip_wished, strip_ff]
theorem strip_add (tb : Tb) (r a : Nat) (o : Occ) : stripT (addW r (a, o) tb) = addW r o (stripT tb) := by
  unfold stripT addW
  rw [getA_map (fun l : List (Nat × Occ) => l.map Prod.snd), <- putA_map (fun l : List (Nat × Occ) => l.map Prod.snd)]
  congr 1
  cases getA (r : Int) tb <;> simp
noncomputable def othersG (l : Adr) : Tb := l.foldl (fun tb p => if p.2.kd = "temp" then tb else addW p.2.num p tb) []
theorem othersG_strip (l : Adr) : stripT (othersG l) = othersO (l.map Prod.snd) := by
  have : ∀ (l : Adr) (tb : Tb), stripT (l.foldl (fun tb p => if p.2.kd = "temp" then tb else addW p.2.num p tb) tb) = (l.map Prod.snd).foldl (fun tb o => if o.kd = "temp" then tb else addW o.num o tb) (stripT tb) := by
    intro l
    induction l with
    | nil => intro tb; rfl
    | cons p l ih =>
      intro tb
      simp only [List.foldl_cons, List.map_cons]
      rw [ih]
      split
      . rfl
      . rw [show addW p.2.num p tb = addW p.2.num (p.1, p.2) tb from rfl, strip_add]
  exact this l []
noncomputable def placeStepG (wants : List (Int × List Op)) (s : Tb × List (Int × Nat)) (p : Nat × Occ) : Tb × List (Int × Nat) :=
  (addW (placeP s.1 s.2 p.2 ((getA (p.2.num : Int) wants).getD [])) p s.1, putA (p.2.num : Int) (placeP s.1 s.2 p.2 ((getA (p.2.num : Int) wants).getD [])) s.2)
theorem placeG_strip (wants : List (Int × List Op)) : ∀ (l : Adr) (s : Tb × List (Int × Nat)), (stripT (l.foldl (placeStepG wants) s).1, (l.foldl (placeStepG wants) s).2) = (l.map Prod.snd).foldl (placeStep wants) (stripT s.1, s.2)
  | [], s => rfl
  | p :: l, s => by
    simp only [List.foldl_cons, List.map_cons]
    rw [placeG_strip wants l]
    congr 1
    unfold placeStepG placeStep
    simp only
    rw [strip_place, <- strip_add]
variable {X : Nat -> Prop} {L0 rf tk hm N : Nat} {tb : Tb} {home : List (Int × Nat)} {mh : MH}
theorem RF.kpX {mh' : MH} {T : List Nat} (R : RF X L0 rf tk hm N tb home mh) (k : Kp T mh mh') (h : ∀ j ∈ T, X j /\ ∀ c fs, ob mh j ≠ some (.inst c fs)) : RF X L0 rf tk hm N tb home mh' := by
  obtain ⟨L, w, x⟩ := R.wh
  exact ⟨k.ob R.self fun z => (h _ z).2 _ _ R.self, ⟨L, w.kp k (fun z => R.xn.1 (h _ z).1) (fun p hp z => x p hp (h _ z).1), x⟩, k.ob R.hom fun z => R.xn.2 (h _ z).1, fun p hp q hq => (R.occ p hp q hq).kp k fun z => (h _ z).2 _ _ (R.occ p hp q hq), ⟨R.l0.1, R.l0.2.1, Nat.le_trans R.l0.2.2 k.1⟩, R.xn, fun j hj => Nat.lt_of_lt_of_le (R.xs j hj) k.1, R.sz, R.ne⟩
theorem RF.growT {mh' : MH} {T : List Nat} (R : RF X L0 rf tk hm N tb home mh) (k : Kp T mh mh') (h : ∀ j ∈ T, j < L0 /\ ∀ fs, ob mh j ≠ some (.inst 217 fs)) : RF (fun j => X j \/ (mh.length <= j /\ j < mh'.length)) L0 rf tk hm N tb home mh' := by
  obtain ⟨L, w, x⟩ := R.wh
  have h1 := ob_lt w.dic
  have h2 := ob_lt R.hom
  have hh : ∀ j, L0 <= j -> j ∉ T := fun j hj z => by have := (h j z).1; omega
  have R' := R.kpT k h
  exact ⟨R'.self, ⟨L, w.kp k (hh _ w.lo.1) (fun p hp => hh _ (w.lo.2 p hp)), fun p hp => fun z => z.elim (x p hp) fun z => by have := ob_lt (w.lst p hp); omega⟩, R'.hom, R'.occ, R'.l0, ⟨fun z => z.elim R.xn.1 fun z => by omega, fun z => z.elim R.xn.2 fun z => by omega⟩,
    fun j h => h.elim (R'.xs j) fun z => z.2, R.sz, R.ne⟩
inductive AOi (X : Nat -> Prop) (L0 rf tk hm I ar tl il st : Nat) (lim : Int) (G : Adr) (m0 : MH) (d : Adr) (loc : Loc) (m : MH) : Prop
  | mk (w6 : Option V) (h0 : loc = [some (.ref 3), some (.ref I), some (.int ar), some (.int lim), some (.ref rf), some (.ref tl), w6, none, none, none, none, none]) (h1 : RF X L0 rf tk hm d.length (othersG d) [] m) (h2 : Kp [] m0 m) (h3 : ob m tl = some (.list ((d.filter fun p => p.2.kd == "temp").map oref))) (h4 : (∀ p ∈ G, OccAt m p.1 p.2)) (h5 : m[il]? = some (.list (G.map oref), st))
theorem alloc_others {lim : Int} {I ar rf tk hm tl L0 il st : Nat} {G : Adr} {m0 m3 : MH} {w6 : Option V} {Q : SR -> Prop} (R : RF X L0 rf tk hm 0 [] [] m3) (K : Kp [] m0 m3) (hm0 : m0.length = L0) (htl : ob m3 tl = some (.list [])) (hX : X tl /\ X il) (hil : m3[il]? = some (.list (G.map oref), st)) (hne : il ≠ tl) (htl0 : L0 <= tl)
    (hG : ∀ p ∈ G, OccAt m3 p.1 p.2) (hlen : G.length <= 150)
    (hq : ∀ m w6, RF X L0 rf tk hm G.length (othersG G) [] m -> Kp [] m0 m -> ob m tl = some (.list ((G.filter fun p => p.2.kd == "temp").map oref)) -> (∀ p ∈ G, OccAt m p.1 p.2) -> Q (.next [some (.ref 3), some (.ref I), some (.int ar), some (.int lim), some (.ref rf), some (.ref tl), w6, none, none, none, none, none] m)) :
    W (rLoop (tName 6) (rSeq (rIf (rT (rOp2 (rOp1 (rLoc 6) (gAttr 217 "kind")) (rConst (.str "temp")) gEq)) (rSeq (rExpr (rBMeth "list" (rLoc 5) (rCons (rLoc 6) rNil) gAppend)) rSkip) (rSeq (rExpr (rMeth 278 "occupy" (rLoc 4) (rCons (rOp1 (rLoc 6) (gAttr 217 "number")) (rCons (rLoc 6) rNil)) g_RegisterFile_occupy)) rSkip)) rSkip) (stampIs il st) (G.map oref) [some (.ref 3), some (.ref I), some (.int ar), some (.int lim), some (.ref rf), some (.ref tl), w6, none, none, none, none, none] m3) Q := by
  refine W_loop oref (I := AOi X L0 rf tk hm I ar tl il st lim G m0) ⟨w6, rfl, R, K, htl, hG, hil⟩ ?_ ?_ ?_
  . rintro d loc m ⟨w6, rfl, R, K, ht, hG, hi⟩
    unfold stampIs; rw [hi]; simp
  . rintro d p r loc m e ⟨w6, rfl, R, K, ht, hG, hi⟩
    have hp : p ∈ G := by rw [e]; simp
    have hd : d.length + 1 <= G.length := by have := congrArg List.length e; simp at this; omega
    have hA := hG p hp
    have hA' := hA
    unfold OccAt at hA'
    obtain ⟨og1, og2, og3, og4⟩ := occ_fs_get p.2
    have self := R.self
    have nocc : getA "occupy" (rfF tk hm) = none := by simp [rfF, getA]
    have hty : ∀ vs, (MObj.list vs).ty = some "list" := fun _ => rfl
    have ol : othersG (d ++ [p]) = if p.2.kd = "temp" then othersG d else addW p.2.num p (othersG d) := by unfold othersG; rw [List.foldl_append]; rfl
    refine ⟨_, rfl, ?_⟩
    by_cases hk : p.2.kd = "temp"
    . have hk' : (p.2.kd == "temp") = true := by simp [hk]
      have hl : ((d.filter fun p => p.2.kd == "temp").map oref).length <= 1000 := by
        rw [List.length_map]; have := List.length_filter_le (fun p : Nat × Occ => p.2.kd == "temp") d; omega
      refine QS.go (by and_intros) ?_
      simp_all only [hk', hty]
      have Kt := Kp.put (.list ((d.filter fun p => p.2.kd == "temp").map oref ++ [.ref p.1])) ht (fun q => by simp)
      have tn : ∀ j ∈ [tl], X j /\ ∀ c fs, ob m j ≠ some (.inst c fs) := fun j hj => by rw [List.mem_singleton.mp hj]; exact ⟨hX.1, fun c fs z => by rw [ht] at z; cases z⟩
      have R2 := R.kpX Kt tn
      refine ⟨_, rfl, ?_, K.step Kt (fun j hj => .inr (by rw [List.mem_singleton.mp hj, hm0]; exact htl0)), ?_, fun q hq => (hG q hq).kp Kt fun z => (tn _ z).2 _ _ (hG q hq), Kt.at hi (by simpa using hne)⟩
      . rw [ol, if_pos hk]
        exact ⟨R2.self, R2.wh, R2.hom, R2.occ, R2.l0, R2.xn, R2.xs, ⟨⟨by have := R2.sz.1.1; simp; omega, fun p hp => by have := R2.sz.1.2 p hp; simp; omega⟩, by have := R2.sz.2; simp⟩, R2.ne⟩
      . rw [ob_put_self ht, List.filter_append, List.map_append]
        simp [hk']
    . have hk' : (p.2.kd == "temp") = false := by simp [hk]
      refine QS.go (by and_intros) ?_
      simp_all only [hk']
      refine occupy_spec R (by omega) hA fun m2 T R2 K2 hT => ?_
      simp_all only []
      refine ⟨_, rfl, ?_, K.step K2 (fun j hj => .inr (by rw [hm0]; exact (hT j hj).2.1)), ?_, fun q hq => (hG q hq).kp K2 fun z => (hT _ z).2.2 _ (hG q hq), K2.at hi fun z => (hT _ z).1 hX.2⟩
      . rw [ol, if_neg hk]
        simpa using R2
      . rw [List.filter_append]
        simp only [List.filter_cons, hk', List.filter_nil, List.append_nil, Bool.false_eq_true, if_false]
        exact K2.ob ht fun z => (hT _ z).1 hX.1
  . rintro loc m ⟨w6, rfl, R, K, ht, hG, hi⟩
    exact hq m w6 R K ht hG
end Mini.L2
namespace Mini.L2
open Mini
variable {X : Nat -> Prop} {L0 rf tk hm N : Nat} {tb : Tb} {home : List (Int × Nat)} {mh : MH}
inductive APi (X : Nat -> Prop) (L0 rf tk hm I ar tl sl st wl N0 LW0 : Nat) (lim : Int) (G : Adr) (tb0 : Tb) (wants : List (Int × List Op)) (LW : WL' Op) (m0 : MH) (d : Adr) (loc : Loc) (m : MH) : Prop
  | mk (w6 : Option V) (h0 : loc = [some (.ref 3), some (.ref I), some (.int ar), some (.int lim), some (.ref rf), some (.ref tl), w6, some (.ref wl), none, none, none, none]) (h1 : RF X L0 rf tk hm (N0 + d.length) (d.foldl (placeStepG wants) (tb0, [])).1 (d.foldl (placeStepG wants) (tb0, [])).2 m) (h2 : Kp [0] m0 m) (h3 : (∀ p ∈ G, OccAt m p.1 p.2)) (h4 : m[sl]? = some (.list (G.map oref), st)) (h5 : WH Op.toV LW0 wants LW wl m) (h6 : TabOk m)
theorem alloc_place {lim : Int} {I ar rf tk hm tl L0 sl st wl N0 LW0 : Nat} {G : Adr} {m0 m3 : MH} {w6 : Option V} {tb0 : Tb} {wants : List (Int × List Op)} {LW : WL' Op} {Q : SR -> Prop} (R : RF X L0 rf tk hm N0 tb0 [] m3) (K : Kp [0] m0 m3) (hm0 : m0.length = L0) (hX : X sl /\ X wl /\ ∀ p ∈ LW, X p.2.1) (hsl : m3[sl]? = some (.list (G.map oref), st))
    (hG : ∀ p ∈ G, OccAt m3 p.1 p.2) (hlen : N0 + G.length <= 150) (hW : WH Op.toV LW0 wants LW wl m3) (hT : TabOk m3) (h0 : 0 < L0)
    (hq : ∀ m w6 X', RF X' L0 rf tk hm (N0 + G.length) (G.foldl (placeStepG wants) (tb0, [])).1 (G.foldl (placeStepG wants) (tb0, [])).2 m -> Kp [0] m0 m -> TabOk m -> Q (.next [some (.ref 3), some (.ref I), some (.int ar), some (.int lim), some (.ref rf), some (.ref tl), w6, some (.ref wl), none, none, none, none] m)) :
    W (rLoop (tName 6) (rSeq (rExpr (rMeth 278 "place" (rLoc 4) (rCons (rLoc 6) (rCons (rBMeth "dict" (rLoc 7) (rCons (rOp1 (rLoc 6) (gAttr 217 "number")) (rCons (rList rNil) rNil)) gGet) rNil)) g_RegisterFile_place)) rSkip) (stampIs sl st) (G.map oref) [some (.ref 3), some (.ref I), some (.int ar), some (.int lim), some (.ref rf), some (.ref tl), w6, some (.ref wl), none, none, none, none] m3) Q := by
  refine W_loop oref (I := APi X L0 rf tk hm I ar tl sl st wl N0 LW0 lim G tb0 wants LW m0) ⟨w6, rfl, R, K, hG, hsl, hW, hT⟩ ?_ ?_ ?_
  . rintro d loc m ⟨w6, rfl, R, K, hG, hi, _⟩
    unfold stampIs; rw [hi]; simp
  . rintro d p r loc m e ⟨w6, rfl, R, K, hG, hi, hW, hT⟩
    have hp : p ∈ G := by rw [e]; simp
    have hd : d.length + 1 <= G.length := by have := congrArg List.length e; simp at this; omega
    have hA := hG p hp
    have hA' := hA
    unfold OccAt at hA'
    obtain ⟨og1, og2, og3, og4⟩ := occ_fs_get p.2
    have self := R.self
    have npl : getA "place" (rfF tk hm) = none := by simp [rfF, getA]
    have hdw := hW.dic
    have hdw1 := ob_mk (.list []) hdw
    have hty : (MObj.dictI (LW.map fun p => (p.1, V.ref p.2.1))).ty = some "dict" := rfl
    have Kn := Kp.mk m (.list [])
    have R1 := R.kp Kn
    refine ⟨_, rfl, ?_⟩
    refine QS.go (by and_intros) ?_
    simp_all only [hty]
    rw [getA_map (fun q : Nat × List Op => V.ref q.1)]
    have go : ∀ (l : List Op) (pl st' : Nat), (mkO m (.list []))[pl]? = some (.list (l.map Op.toV), st') -> l = (getA (p.2.num : Int) wants).getD [] ->
        ∀ Q' : V × MH -> Prop, (∀ v m2, APi X L0 rf tk hm I ar tl sl st wl N0 LW0 lim G tb0 wants LW m0 (d ++ [p]) [some (.ref 3), some (.ref I), some (.int ar), some (.int lim), some (.ref rf), some (.ref tl), some (.ref p.1), some (.ref wl), none, none, none, none] m2 -> Q' (v, m2)) -> W (g_RegisterFile_place [.ref rf, .ref p.1, .ref pl] (mkO m (.list []))) Q' := by
      intro l pl st' hpl hl Q' hQ
      refine place_spec R1 (by omega) (hA.kp Kn (by simp)) hpl fun m2 T R2 K2 hT2 => ?_
      have KT : Kp T m m2 := Kn.nil.step K2 fun j hj => .inl hj
      refine hQ _ _ ⟨_, rfl, ?_, K.step KT fun j hj => .inr ?_, fun q hq => ((hG q hq).kp Kn (by simp)).kp K2 fun z => (hT2 _ z).2.2 _ ((hG q hq).kp Kn (by simp)), KT.at hi fun z => (hT2 _ z).1 hX.1, hW.kp KT (fun z => (hT2 _ z).1 hX.2.1) (fun q hq z => (hT2 _ z).1 (hX.2.2 q hq)), (hT.kp Kn (by simp)).kp K2 fun z => ?_⟩
      . rw [List.foldl_append, List.foldl_cons, List.foldl_nil]
        have : (d ++ [p]).length = d.length + 1 := by simp
        rw [this, <- Nat.add_assoc]
        unfold placeStepG
        simp only
        rw [<- hl]; exact R2
      . rw [hm0]; exact (hT2 j hj).2.1
      . have := (hT2 _ z).2.1; omega
    cases hg : getA (p.2.num : Int) LW with
    | none =>
      refine go [] _ 0 (at_new m (.list [])) ?_ _ fun v m2 h => h
      rw [<- hW.td, getA_map (fun q : Nat × List Op => q.2), hg]; rfl
    | some q =>
      obtain ⟨pl, l⟩ := q
      obtain ⟨st', hst⟩ := ob_some (ob_mk (.list []) (hW.lst _ (mem_of_getA hg)))
      refine go l pl st' hst ?_ _ fun v m2 h => h
      rw [<- hW.td, getA_map (fun q : Nat × List Op => q.2), hg]; rfl
  . rintro loc m ⟨w6, rfl, R, K, hG, hi, hW, hT⟩
    exact hq m w6 X R K hT
inductive ARi (I ar rf tl wl rl : Nat) (lim : Int) (home : List (Int × Nat)) (w6 : Option V) (m0 m3 : MH) (d : List Row) (loc : Loc) (m : MH) : Prop
  | mk (w9 : Option V) (w10 : Option V) (w11 : Option V) (h0 : loc = [some (.ref 3), some (.ref I), some (.int ar), some (.int lim), some (.ref rf), some (.ref tl), w6, some (.ref wl), some (.ref rl), w9, w10, w11]) (h1 : ob m rl = some (.list ((d.map (Row.map (realOp home))).map Row.toV))) (h2 : Kp [0] m0 m) (h3 : Kp [rl] m3 m) (h4 : TabOk m)
inductive TPi (I rf tl wl rl ar : Nat) (lim : Int) (home : List (Int × Nat)) (m : MH) (r : Row) (w6 : Option V) (dd : List Part) (loc : Loc) (m' : MH) : Prop
  | mk (w11 : Option V) (h0 : loc = [some (.ref 3), some (.ref I), some (.int ar), some (.int lim), some (.ref rf), some (.ref tl), w6, some (.ref wl), some (.ref rl), some (.tup (.str r.name :: r.parts.map Part.toV)), some (.ref m.length), w11]) (h1 : ob m' m.length = some (.list (.str r.name :: (dd.map (Part.map (realOp home))).map Part.toV))) (h2 : Kp [] m m')
theorem alloc_real {lim : Int} {I ar rf hm tl wl rl st tk : Nat} {rows : List Row} {m0 m3 : MH} {w6 : Option V} {home : List (Int × Nat)} {Q : SR -> Prop} (K : Kp [0] m0 m3) (hT : TabOk m3) (hI : m3[I]? = some (.list (rows.map Row.toV), st)) (hrl : ob m3 rl = some (.list [])) (hrl0 : m0.length <= rl) (hrI : rl ≠ I) (self : ob m3 rf = some (.inst 278 (rfF tk hm))) (hom : ob m3 hm = some (.dictI (home.map fun p => (p.1, V.int ((p.2 : Nat) : Int)))))
    (hlen : rows.length <= 100) (h0 : 0 < m0.length) (hh : ∀ r ∈ rows, ∀ n, Part.o ⟨.t, n⟩ ∈ r.parts -> ∃ k, getA (n : Int) home = some k)
    (hq : ∀ m w9 w10 w11, ob m rl = some (.list ((rows.map (Row.map (realOp home))).map Row.toV)) -> Kp [0] m0 m -> TabOk m -> Q (.next [some (.ref 3), some (.ref I), some (.int ar), some (.int lim), some (.ref rf), some (.ref tl), w6, some (.ref wl), some (.ref rl), w9, w10, w11] m)) :
    W (rLoop (tName 9) (rSeq (rSet 10 (rList (rCons (rOp2 (rLoc 9) (rConst (.int 0)) gItem) rNil))) (rSeq (rFor (rIt (rOp1 (rLoc 9) gTail)) (tName 11) (rSeq (rExpr (rBMeth "list" (rLoc 10) (rCons (rCallN (rCons (rLoc 11) (rCons (rOp1 (rLoc 4) (gAttr 278 "home")) rNil)) g_real_operand) rNil) gAppend)) rSkip)) (rSeq (rExpr (rBMeth "list" (rLoc 8) (rCons (rCallN (rCons (rLoc 10) rNil) gTuple) rNil) gAppend)) rSkip))) (stampIs I st) (rows.map Row.toV) [some (.ref 3), some (.ref I), some (.int ar), some (.int lim), some (.ref rf), some (.ref tl), w6, some (.ref wl), some (.ref rl), none, none, none] m3) Q := by
  obtain ⟨g1, g2⟩ := rf_get tk hm
  refine W_loop Row.toV (I := ARi I ar rf tl wl rl lim home w6 m0 m3) ⟨none, none, none, rfl, hrl, K, Kp.refl _ _, hT⟩ ?_ ?_ ?_
  . rintro d loc m ⟨w9, w10, w11, rfl, hr, K, K3, _⟩
    exact stamp_of K3 hI (by simp [Ne.symm hrI])
  . rintro d r rs loc m e ⟨w9, w10, w11, rfl, hr, K, K3, hT⟩
    have hrr : r ∈ rows := by rw [e]; simp
    have hd : d.length + 1 <= rows.length := by have := congrArg List.length e; simp at this; omega
    have rlm := ob_lt hr
    have notI : ∀ {m' : MH} {j o}, Kp [rl] m3 m' -> ob m3 j = some o -> (∀ vs, o ≠ .list vs) -> ob m' j = some o := fun k h hn => k.ob h fun z => by
      rw [List.mem_singleton.mp z, hrl] at h; cases h; exact hn _ rfl
    have hty : ∀ vs, (MObj.list vs).ty = some "list" := fun _ => rfl
    have pl : r.parts.length <= 2 := by cases r <;> simp [Row.parts]
    have pl1 : (r.parts.map Part.toV).length + 1 <= 1000 := by rw [List.length_map]; omega
    have pl2 : 1 <= (r.parts.map Part.toV).length + 1 := by omega
    refine ⟨_, rfl, ?_⟩
    refine QS.go (by and_intros) ?_
    simp_all only [(And.intro pl2 pl1)]
    refine W_loop Part.toV (I := TPi I rf tl wl rl ar lim home m r w6) ⟨_, rfl, ob_mk_new _ _, Kp.mk _ _⟩ (fun _ _ _ _ => rfl) ?_ ?_
    . rintro dd p ps loc m' e2 ⟨w11, rfl, hp, Km⟩
      have hpp : p ∈ r.parts := by rw [e2]; simp
      have hdd : dd.length + 1 <= 2 := by have := congrArg List.length e2; simp at this; omega
      have K3' : Kp [rl] m3 m' := K3.step0 Km
      have self' := notI K3' self (fun vs => by simp)
      have hom' := notI K3' hom (fun vs => by simp)
      have hl2 : ((dd.map (Part.map (realOp home))).map Part.toV).length + 1 <= 1000 := by simp; omega
      refine ⟨_, rfl, ?_⟩
      refine QS.go (by and_intros) ?_
      simp_all only [hty]
      refine real_spec hom' (fun n hn => hh r hrr n (hn ▸ hpp)) ?_
      simp_all only [hl2]
      refine ⟨_, rfl, ?_, Km.stepPut _ hp (fun q => by simp) (.inr (Nat.le_refl _))⟩
      rw [ob_put_self hp]; simp
    . rintro loc m' ⟨w11, rfl, hp, Km⟩
      have hr' := Km.ob hr (by simp)
      have hl2 : ((r.parts.map (Part.map (realOp home))).map Part.toV).length + 1 <= 1000 := by simp; omega
      have hl3 : ((d.map (Row.map (realOp home))).map (fun r => V.tup (.str r.name :: r.parts.map Part.toV))).length <= 1000 := by simp; omega
      have hr'' : ob m' rl = some (.list ((d.map (Row.map (realOp home))).map (fun r => V.tup (.str r.name :: r.parts.map Part.toV)))) := hr'
      simp_all only [hty, hl2, hl3]
      have K4 := Kp.put (.list ((d.map (Row.map (realOp home))).map (fun r => V.tup (.str r.name :: r.parts.map Part.toV)) ++ [.tup (.str r.name :: (r.parts.map (Part.map (realOp home))).map Part.toV)])) hr'' (fun q => by simp)
      refine ⟨_, _, _, rfl, ?_, (K.step0 Km).step K4 fun j hj => .inr (by rw [List.mem_singleton.mp hj]; exact hrl0), (K3.step0 Km).step K4 fun j hj => .inl hj, (hT.kp Km (by simp)).kp K4 (by simp; omega)⟩
      rw [ob_put_self hr'', List.map_append, List.map_append]
      simp [Row.name_map, Row.parts_map, Row.toV]
  . rintro loc m ⟨w9, w10, w11, rfl, hr, K, K3, hT⟩
    exact hq m w9 w10 w11 hr K hT
end Mini.L2
namespace Mini.L2
open Mini
theorem W_gNew {c : Nat} {g : ON} {as : List V} {mh : MH} {Q : V × MH -> Prop} (h : W (gNew c g as mh) (Un fun _ m => Q (.none, m))) : W (g (.ref mh.length :: as) (mkO mh (.inst c []))) Q := by
  exact (w_newmp h).mono fun p ⟨h1, h2⟩ => by
    obtain ⟨a, b⟩ := p
    simp only at h1
    subst h1; exact h2
structure RowsOk (rows : List Row) (ar : Nat) : Prop where
  hv : ∀ r ∈ rows, ∀ x ∈ r.roles, x.2.k = .a -> x.1 ≠ 2 -> 1 <= x.2.n /\ x.2.n <= ar
  hb : ar + 2 * rows.length <= 75
  hlen : (tempsO (occsP rows ar)).length < 64
  hnd : ((tempsO (occsP rows ar)).map fun o => o.num).Nodup
  hh : ∀ r ∈ rows, ∀ n, Part.o ⟨.t, n⟩ ∈ r.parts -> ∃ k, getA (n : Int) (homesP rows ar) = some k
theorem homesP_eq {G : Adr} {rows : List Row} {ar : Nat} (hG : G.map Prod.snd = occsP rows ar) : ((sortG (G.filter fun p => p.2.kd == "temp")).foldl (placeStepG (wishesP rows)) (othersG G, [])).2 = homesP rows ar := by
  have h := placeG_strip (wishesP rows) (sortG (G.filter fun p => p.2.kd == "temp")) (othersG G, [])
  have h2 := congrArg Prod.snd h
  simp only at h2
  rw [h2, sortG_snd, othersG_strip, hG]
  unfold homesP
  congr 4
  unfold tempsO
  rw [<- hG, List.filter_map]; rfl
noncomputable def q_allocate_p : QS (rSeq r_allocate_0 (rSeq r_allocate_1 (rSeq r_allocate_2 (rSeq r_allocate_3 (rSeq r_allocate_4 (rSeq r_allocate_5 (rSeq r_allocate_6 rSkip))))))) := by
  delta r_allocate_0 r_allocate_1 r_allocate_2 r_allocate_3 r_allocate_4 r_allocate_5 r_allocate_6
  and_intros
theorem alloc_pre {mh : MH} {I st ar : Nat} {lim : Int} {rows : List Row} {Q : SR -> Prop} (hI : mh[I]? = some (.list (rows.map Row.toV), st)) (hT : TabOk mh) (ok : RowsOk rows ar)
    (hq : ∀ m rf tl w6 wl rl w9 w10 w11, ob m rl = some (.list ((realP rows ar).map Row.toV)) -> mh.length <= rl -> Kp [0] mh m -> TabOk m -> Q (.next [some (.ref 3), some (.ref I), some (.int ar), some (.int lim), some (.ref rf), some (.ref tl), w6, some (.ref wl), some (.ref rl), w9, w10, w11] m)) :
    W (rSeq r_allocate_0 (rSeq r_allocate_1 (rSeq r_allocate_2 (rSeq r_allocate_3 (rSeq r_allocate_4 (rSeq r_allocate_5 (rSeq r_allocate_6 rSkip)))))) [some (.ref 3), some (.ref I), some (.int ar), some (.int lim), none, none, none, none, none, none, none, none] mh) Q := by
  have I0 : I ≠ 0 := fun z => by
    have h : ob mh 0 = some (.list (rows.map Row.toV)) := by unfold ob; rw [<- z, hI]
    rcases hT with t | ⟨j, t, _⟩ <;> (rw [t] at h; cases h)
  have Ilt : I < mh.length := (List.getElem?_eq_some_iff.mp hI).1
  have h0 : 0 < mh.length := by omega
  refine QS.go q_allocate_p ?_
  refine W_gNew (rf_new fun m1 K1 R1 => And.intro rfl ?_)
  have K2 := Kp.mk m1 (.list [])
  have hI2 : (mkO m1 (.list []))[I]? = some (.list (rows.map Row.toV), st) := (K1.step0 K2).at hI (by simp)
  refine intervals_spec hI2 ok.hv (by have := ok.hb; omega) fun il m3 G K3 hil lil hG hocc hGnd => ?_
  obtain ⟨sti, hst⟩ := ob_some hil
  simp_all only [ItB_list hst]
  have K13 : Kp [] m1 m3 := K2.step0 K3
  have R3 := R1.grow K13
  have htl3 : ob m3 m1.length = some (.list []) := K3.ob (ob_mk_new m1 (.list [])) (by simp)
  have l12 : (mkO m1 (.list [])).length = m1.length + 1 := len_mk _ _
  have il3 := ob_lt hil
  have lil2 : (mkO m1 (.list [])).length <= il := lil
  rw [l12] at lil2
  have tl3 := ob_lt htl3
  have lenG : G.length <= 75 := by
    have h1 : G.length = (occsP rows ar).length := by rw [<- hG, List.length_map]
    have h2 := List.length_filter_le (fun o : Occ => decide (o.st < o.en)) (ivRows rows 0 (ivIn ar)).found
    have h3 := ivRows_len rows 0 (ivIn ar)
    have h4 : (ivIn ar).found.length = ar := by simp [ivIn]
    have := ok.hb
    unfold occsP at h1
    omega
  refine alloc_others (w6 := none) R3 (K1.step0 K13) rfl htl3 ⟨.inr ⟨Nat.le_refl _, tl3⟩, .inr ⟨by omega, il3⟩⟩ hst (by omega) K1.1 (fun p hp => (hocc p hp).1) (by omega) fun m4 w6 R4 K4 htl4 hG4 => ?_
  obtain ⟨st4, hI4⟩ : ∃ st4, m4[I]? = some (.list (rows.map Row.toV), st4) := ⟨st, K4.at hI (by simp)⟩
  refine wishes_spec hI4 (by have := ok.hb; omega) fun m5 LW K5 W5 _ => ?_
  have R5 := R4.grow K5
  have wl5 := ob_lt W5.dic
  have hT4 : TabOk m4 := hT.kp K4 (by simp)
  have hT5 := hT4.kp K5 (by simp)
  have tempsG : (G.filter fun p => p.2.kd == "temp").map Prod.snd = tempsO (occsP rows ar) := by
    unfold tempsO; rw [<- hG, List.filter_map]; rfl
  have lenT : (G.filter fun p => p.2.kd == "temp").length = (tempsO (occsP rows ar)).length := by rw [<- tempsG, List.length_map]
  have hnum : ((G.filter fun p => p.2.kd == "temp").map fun p => p.2.num).Nodup := by
    have : ((G.filter fun p => p.2.kd == "temp").map fun p => p.2.num) = (tempsO (occsP rows ar)).map fun o => o.num := by rw [<- tempsG, List.map_map]; rfl
    rw [this]; exact ok.hnd
  refine bystart_spec (K5.ob htl4 (by simp)) (fun p hp => ((hG4 p (List.mem_filter.mp hp).1).kp K5 (by simp))) hT5 (by rw [lenT]; exact ok.hlen) hnum fun m6 sl K6 hT6 hsl lsl => ?_
  obtain ⟨st6, hst6⟩ := ob_some hsl
  simp_all only [ItB_list hst6]
  have t0 : ∀ j ∈ [0], j < mh.length /\ ∀ fs, ob m5 j ≠ some (.inst 217 fs) := fun j hj => by
    rw [List.mem_singleton.mp hj]
    refine ⟨h0, fun fs z => ?_⟩
    rcases hT5 with t | ⟨j, t, _⟩ <;> (rw [t] at z; cases z)
  have R6 := R5.growT K6 t0
  have sl6 := ob_lt hsl
  have m45 := K5.1
  have K46 : Kp [0] mh m6 := (K4.nil.step0 K5).step K6 fun j hj => .inl hj
  have nz : ∀ {j o}, ob m5 j = some o -> (∃ l, o = .list l) \/ (∃ l, o = .dictI l) -> j ∉ [0] := fun h hh z => by
    rw [List.mem_singleton.mp z] at h
    rcases hT5 with t | ⟨j, t, _⟩ <;> (rw [t] at h; rcases hh with ⟨l, rfl⟩ | ⟨l, rfl⟩ <;> cases h)
  have W6 : WH Op.toV m4.length (wishesP rows) LW m4.length m6 := W5.kp K6 (nz W5.dic (.inr ⟨_, rfl⟩)) fun p hp => nz (W5.lst p hp) (.inl ⟨_, rfl⟩)
  have sm : ∀ p, p ∈ sortG (G.filter fun p => p.2.kd == "temp") -> p ∈ G := fun p hp => (List.mem_filter.mp (sortBy_mem.mp hp)).1
  refine alloc_place (w6 := w6) (N0 := G.length) R6 K46 rfl ⟨.inr ⟨lsl, sl6⟩, .inl (.inr ⟨Nat.le_refl _, wl5⟩), fun p hp => .inl (.inr ⟨W5.lo.2 p hp, ob_lt (W5.lst p hp)⟩)⟩ hst6 (fun p hp => ?_) ?_ W6 hT6 h0 fun m7 w6' X' R7 K7 hT7 => ?_
  . have h4 := hG4 p (sm p hp)
    exact (h4.kp K5 (by simp)).kp K6 fun z => (t0 _ z).2 _ (h4.kp K5 (by simp))
  . rw [show (sortG (G.filter fun p => p.2.kd == "temp")).length = (G.filter fun p => p.2.kd == "temp").length from sortBy_len _ _]
    have := List.length_filter_le (fun p : Nat × Occ => p.2.kd == "temp") G
    omega
  obtain ⟨st7, hI7⟩ : ∃ st7, m7[I]? = some (.list (rows.map Row.toV), st7) := ⟨st, K7.at hI (by simpa using I0)⟩
  have K8 := Kp.mk m7 (.list [])
  have q1 := K8.at hI7 (by simp)
  simp_all only [ItB_list q1]
  rw [homesP_eq hG] at R7
  refine alloc_real (w6 := w6') (K7.step0 K8) (hT7.kp K8 (by simp)) q1 (ob_mk_new _ _) K7.1 (by have := (List.getElem?_eq_some_iff.mp hI7).1; omega) (K8.ob R7.self (by simp)) (K8.ob R7.hom (by simp)) (by have := ok.hb; omega) h0 ok.hh fun m9 w9 w10 w11 hr K9 hT9 => ?_
  exact hq m9 _ _ _ _ _ w9 w10 w11 hr K7.1 K9 hT9
end Mini.L2
namespace Mini.L2
open Mini
theorem W_loop1 {v : V} {vs : List V} {chk : MH -> Bool} {tg : Loc -> V -> Option Loc} {q : RS} {loc loc1 : Loc} {mh : MH} {Q : SR -> Prop} (hc : chk mh = true) (ht : tg loc v = some loc1) (h : W (q loc1 mh) fun y => SRl y (fun l m => W (rLoop tg q chk vs l m) Q) Q) : W (rLoop tg q chk (v :: vs) loc mh) Q := by
  obtain ⟨y, ey, hy⟩ := h
  simp only [rLoop, hc, if_true, ht, ey]
  cases y with
  | next l m => exact hy
  | cont l m => exact hy
  | ret v m => exact (W_some _ _).mpr hy
theorem W_loop0 {chk : MH -> Bool} {tg : Loc -> V -> Option Loc} {q : RS} {loc : Loc} {mh : MH} {Q : SR -> Prop} (hc : chk mh = true) (h : Q (.next loc mh)) : W (rLoop tg q chk [] loc mh) Q := by
  simp only [rLoop, hc, if_true]; exact (W_some _ _).mpr h
theorem W_ifX {c : Nat} {t : RT} {r : RE} {loc : Loc} {mh : MH} {Q : Nat × MH -> Prop} (h : W (t loc mh) fun p => p.1 = true /\ W (r loc p.2) fun p2 => ∃ j, p2.1 = .ref j /\ ∃ fs, ob p2.2 j = some (.exc c fs false) /\ Q (j, p2.2)) : W (rIfX c t r loc mh) Q := by
  obtain ⟨⟨b, m⟩, e1, e2, ⟨v, m2⟩, e3, j, e4, fs, e5, hq⟩ := h
  simp only at e2 e3 e4 e5
  subst e2 e4
  unfold rIfX
  simp only [e1, bd, cd, e3, vref, exF, oEx, e5, bo, gd, if_true]
  exact (W_some _ _).mpr hq
theorem W_runX {c k n : Nat} {rx : RX} {as : List V} {mh : MH} {Q : Nat × MH -> Prop} (hl : as.length = k) (h : W (rx (as.map some ++ List.replicate n none) mh) fun p => ∃ fs, ob p.2 p.1 = some (.exc c fs false) /\ Q (p.1, putO p.2 p.1 (.exc c fs true))) : W (runX c rx k n as mh) Q := by
  obtain ⟨⟨j, m⟩, e1, fs, e2, hq⟩ := h
  simp only at e2
  unfold runX
  simp only [hl, if_true, e1, e2, gd, bo, oEx, cd]
  exact (W_some _ _).mpr hq
noncomputable def formalV (f a : Nat) : V := .tup [.str "s", .int f, .tup [.tup [.str "a", .int a]]]
noncomputable def ballV (f a : Nat) : V := .tup [.str "s", .int 16, .tup [formalV f a, .tup [.str "a", .int 25]]]
noncomputable def q_representation_error : QS r_representation_error := by
  delta r_representation_error r_representation_error_0
  and_intros
noncomputable def q_formal_of : QS r_formal_of := by
  delta r_formal_of r_formal_of_0 r_formal_of_1 r_formal_of_2
  and_intros
theorem rep_any {mh : MH} {Q : V × MH -> Prop} {N : Nat} (hS : Sym N mh) (hN : N <= 700) (hq : ∀ a f j m, Sym (N + 3) m -> Kp [4, 5, 6, 7] mh m -> ob m j = some (.exc 51 [("ball", ballV f a)] false) -> mh.length <= j -> Q (.ref j, m)) : W (g_representation_error [.ref 3, .str "max_registers"] mh) Q := by
  have S3 := hS.1
  have n1 : getA "atom" symF = none := by simp [symF, getA]
  have n2 : getA "func" symF = none := by simp [symF, getA]
  have l7 : 7 < mh.length := by
    obtain ⟨h3, ts, ka, fs, kf, h4, h5, h6, h7, r⟩ := hS
    exact ob_lt h7
  refine QS.start q_representation_error rfl rfl ?_
  refine QS.start q_formal_of rfl rfl ?_
  simp_all only []
  refine W_loop1 rfl rfl ?_
  have ol := ob_mk_new mh (.list [])
  have s3' := ob_mk (.list []) S3
  have hty : ∀ vs, (MObj.list vs).ty = some "list" := fun _ => rfl
  refine QS.go (by and_intros) ?_
  simp_all only [hty]
  refine atom_spec (hS.kp (Kp.mk mh (.list [])) (by simp)) (by omega) fun a m1 S1 K1 A1 _ => ?_
  have K1w : Kp [4, 5, 6, 7] mh m1 := ((Kp.mk mh (.list [])).nil).step K1 (by simp)
  have ol1 := K1.ob ol (by simp; omega)
  simp_all only []
  have ol2 := ob_put_self (o := .list ([] ++ [.tup [.str "a", .int a]])) ol1
  have KL := Kp.put (.list ([V.tup [.str "a", .int a]])) ol1 (fun q => by simp)
  have ol2' : ob (putO m1 mh.length (.list [V.tup [.str "a", .int a]])) mh.length = some (.list [V.tup [.str "a", .int a]]) := ol2
  have S3b' : ob (putO m1 mh.length (.list [V.tup [.str "a", .int a]])) 3 = some (.inst 154 symF) := by rw [ob_put_ne _ _ (by omega)]; exact S1.1
  refine W_loop0 rfl ?_
  have one : (1 : Nat) <= 1000 := by omega
  simp_all only []
  refine func_spec (k := 1) (S1.kp KL (by simp; omega)) (by omega) fun b f m3 S3 K3 A3 F3 _ _ => ?_
  have KW : Kp [4, 5, 6, 7] mh m3 := (K1w.step KL (fun j hj => .inr (by rw [List.mem_singleton.mp hj]; exact Nat.le_refl _))).step K3 (by simp)
  have ol3 := K3.ob ol2' (by simp; omega)
  simp_all only []
  have KX := KW.stepMk (.exc 51 [("ball", ballV f a)] false)
  exact hq a f _ _ ((S3.mono (by omega)).kp (Kp.mk _ _) (by simp)) KX (ob_mk_new _ _) KW.1
end Mini.L2
namespace Mini.L2
open Mini
noncomputable def hmI (home : List (Int × Nat)) (v : Int) : Nat := (getA v home).getD 0
noncomputable def sPre (l : List RS) (K : RS) : RS := l.foldr rSeq K
theorem sPre_eq : ∀ (l : List RS) {loc loc' : Loc} {mh mh' : MH} (K : RS), sPre l rSkip loc mh = some (.next loc' mh') -> sPre l K loc mh = K loc' mh'
  | [], loc, loc', mh, mh', K, h => by
    have h : some (SR.next loc mh) = some (SR.next loc' mh') := h
    cases h; rfl
  | r :: l, loc, loc', mh, mh', K, h => by
    have h : rSeq r (sPre l rSkip) loc mh = _ := h
    show rSeq r (sPre l K) loc mh = _
    unfold rSeq at h ⊢
    cases e : r loc mh with
    | none => rw [e] at h; cases h
    | some x =>
      cases x with
      | next l1 m1 => rw [e] at h; exact sPre_eq l K h
      | cont l1 m1 => rw [e] at h; cases h
      | ret v m1 => rw [e] at h; cases h
theorem sPreX_eq : ∀ (l : List RS) {loc loc' : Loc} {mh mh' : MH} (K : RX), sPre l rSkip loc mh = some (.next loc' mh') -> l.foldr rSeqX K loc mh = K loc' mh'
  | [], loc, loc', mh, mh', K, h => by
    have h : some (SR.next loc mh) = some (SR.next loc' mh') := h
    cases h; rfl
  | r :: l, loc, loc', mh, mh', K, h => by
    have h : rSeq r (sPre l rSkip) loc mh = _ := h
    show rSeqX r (l.foldr rSeqX K) loc mh = _
    unfold rSeq at h
    unfold rSeqX
    cases e : r loc mh with
    | none => rw [e] at h; cases h
    | some x =>
      cases x with
      | next l1 m1 => rw [e] at h; exact sPreX_eq l K h
      | cont l1 m1 => rw [e] at h; cases h
      | ret v m1 => rw [e] at h; cases h
noncomputable def aPre : List RS := [r_allocate_0, r_allocate_1, r_allocate_2, r_allocate_3, r_allocate_4, r_allocate_5, r_allocate_6]
noncomputable def Fits (rows : List Row) (ar : Nat) (lim : Int) : Prop := (ar : Int) <= lim /\ (greatP (realP rows ar) : Int) <= lim
theorem alloc_mid {mh : MH} {I st ar : Nat} {lim : Int} {rows : List Row} (hI : mh[I]? = some (.list (rows.map Row.toV), st)) (hT : TabOk mh) (ok : RowsOk rows ar) :
    ∃ m rf tl w6 wl rl w9 w10 w11, sPre aPre rSkip [some (.ref 3), some (.ref I), some (.int ar), some (.int lim), none, none, none, none, none, none, none, none] mh = some (.next [some (.ref 3), some (.ref I), some (.int ar), some (.int lim), some (.ref rf), some (.ref tl), w6, some (.ref wl), some (.ref rl), w9, w10, w11] m) /\
      ob m rl = some (.list ((realP rows ar).map Row.toV)) /\ mh.length <= rl /\ Kp [0] mh m /\ TabOk m := by
  have h := alloc_pre (lim := lim) (Q := fun x => ∃ m rf tl w6 wl rl w9 w10 w11, x = .next [some (.ref 3), some (.ref I), some (.int ar), some (.int lim), some (.ref rf), some (.ref tl), w6, some (.ref wl), some (.ref rl), w9, w10, w11] m /\ ob m rl = some (.list ((realP rows ar).map Row.toV)) /\ mh.length <= rl /\ Kp [0] mh m /\ TabOk m) hI hT ok fun m rf tl w6 wl rl w9 w10 w11 a b c d => ⟨m, rf, tl, w6, wl, rl, w9, w10, w11, rfl, a, b, c, d⟩
  obtain ⟨x, e, m, rf, tl, w6, wl, rl, w9, w10, w11, rfl, a, b, c, d⟩ := h
  exact ⟨m, rf, tl, w6, wl, rl, w9, w10, w11, e, a, b, c, d⟩
noncomputable def q_allocate_t : QS (rSeq r_allocate_7 (rSeq r_allocate_8 rSkip)) := by
  delta r_allocate_7 r_allocate_8
  and_intros
theorem alloc_ok {mh : MH} {I st ar : Nat} {lim : Int} {rows : List Row} {Q : V × MH -> Prop} (hI : mh[I]? = some (.list (rows.map Row.toV), st)) (hT : TabOk mh) (ok : RowsOk rows ar) (fit : Fits rows ar lim)
    (hq : ∀ rl m, ob m rl = some (.list ((realP rows ar).map Row.toV)) -> mh.length <= rl -> Kp [0] mh m -> TabOk m -> Q (.ref rl, m)) : W (g_allocate [.ref 3, .ref I, .int ar, .int lim] mh) Q := by
  obtain ⟨m, rf, tl, w6, wl, rl, w9, w10, w11, e, hr, lr, K, T⟩ := alloc_mid (lim := lim) hI hT ok
  unfold g_allocate
  refine w_body rfl rfl ?_
  show W (sPre aPre (rSeq r_allocate_7 (rSeq r_allocate_8 rSkip)) [some (.ref 3), some (.ref I), some (.int ar), some (.int lim), none, none, none, none, none, none, none, none] mh) fun x => SRe x Q
  rw [sPre_eq aPre _ e]
  obtain ⟨f1, f2⟩ := fit
  have f1' : ¬ lim < (ar : Int) := by omega
  have f2' : ¬ lim < (greatP (realP rows ar) : Int) := by omega
  obtain ⟨st', hst⟩ := ob_some hr
  refine QS.go q_allocate_t ?_
  simp_all only []
  refine greatest_spec hst fun m2 K2 => ?_
  simp_all only []
  exact hq rl m2 (K2.ob hr (by simp)) lr (K.step0 K2) (T.kp K2 (by simp))
theorem alloc_none {mh : MH} {I st ar : Nat} {lim : Int} {rows : List Row} (hI : mh[I]? = some (.list (rows.map Row.toV), st)) (hT : TabOk mh) (ok : RowsOk rows ar) (fit : ¬ Fits rows ar lim) : g_allocate [.ref 3, .ref I, .int ar, .int lim] mh = none := by
  obtain ⟨m, rf, tl, w6, wl, rl, w9, w10, w11, e, hr, lr, K, T⟩ := alloc_mid (lim := lim) hI hT ok
  have e2 : sPre aPre (rSeq r_allocate_7 (rSeq r_allocate_8 rSkip)) [some (.ref 3), some (.ref I), some (.int ar), some (.int lim), none, none, none, none, none, none, none, none] mh = none := by
    rw [sPre_eq aPre _ e]
    obtain ⟨st', hst⟩ := ob_some hr
    have test : W ((rTOr (rT (rOp2 (rLoc 2) (rLoc 3) gGt)) (rTOr (rT (rOp2 (rCallN (rCons (rLoc 8) rNil) g_greatest) (rLoc 3) gGt)) (rTC false))) [some (.ref 3), some (.ref I), some (.int ar), some (.int lim), some (.ref rf), some (.ref tl), w6, some (.ref wl), some (.ref rl), w9, w10, w11] m) fun p => p.1 = true := by
      refine QT.go (by and_intros) ?_
      by_cases f1 : lim < (ar : Int)
      . simp_all only []
        exact rfl
      . have f2 : lim < (greatP (realP rows ar) : Int) := by
          unfold Fits at fit; omega
        simp_all only []
        refine greatest_spec hst fun m2 K2 => ?_
        simp_all only []
        exact rfl
    obtain ⟨⟨b, m2⟩, eb, hb⟩ := test
    simp only at hb
    subst hb
    unfold r_allocate_7
    simp only [rSeq, rIf, eb, bd, cd, rNever]
  unfold g_allocate runBody
  rw [if_pos (show ([.ref 3, .ref I, .int ar, .int lim] : List V).length = 4 from rfl)]
  show (match sPre aPre (rSeq r_allocate_7 (rSeq r_allocate_8 rSkip)) [some (.ref 3), some (.ref I), some (.int ar), some (.int lim), none, none, none, none, none, none, none, none] mh with | some (.ret v mh') => some (v, mh') | some (.next _ mh') => some (.none, mh') | _ => none) = none
  rw [e2]
theorem alloc_raise {mh : MH} {I st ar : Nat} {lim : Int} {rows : List Row} {Q : Nat × MH -> Prop} (hI : mh[I]? = some (.list (rows.map Row.toV), st)) (hT : TabOk mh) (ok : RowsOk rows ar) (fit : ¬ Fits rows ar lim)
    (hq : ∀ m, Kp [0] mh m -> TabOk m -> W (g_representation_error [.ref 3, .str "max_registers"] m) fun p2 => ∃ j, p2.1 = .ref j /\ ∃ fs, ob p2.2 j = some (.exc 51 fs false) /\ Q (j, putO p2.2 j (.exc 51 fs true))) : W (gx_allocate [.ref 3, .ref I, .int ar, .int lim] mh) Q := by
  obtain ⟨m, rf, tl, w6, wl, rl, w9, w10, w11, e, hr, lr, K, T⟩ := alloc_mid (lim := lim) hI hT ok
  unfold gx_allocate
  refine W_runX rfl ?_
  show W (aPre.foldr rSeqX (rIfX 51 (rTOr (rT (rOp2 (rLoc 2) (rLoc 3) gGt)) (rTOr (rT (rOp2 (rCallN (rCons (rLoc 8) rNil) g_greatest) (rLoc 3) gGt)) (rTC false))) (rCallN (rCons (rLoc 0) (rCons (rConst (.str "max_registers")) rNil)) g_representation_error)) [some (.ref 3), some (.ref I), some (.int ar), some (.int lim), none, none, none, none, none, none, none, none] mh) _
  rw [sPreX_eq aPre _ e]
  obtain ⟨st', hst⟩ := ob_some hr
  refine W_ifX ?_
  have fin : ∀ m2, Kp [0] mh m2 -> TabOk m2 -> W (g_representation_error [.ref 3, .str "max_registers"] m2) fun p2 => ∃ j, p2.1 = .ref j /\ ∃ fs, ob p2.2 j = some (.exc 51 fs false) /\ ∃ fs', ob p2.2 j = some (.exc 51 fs' false) /\ Q (j, putO p2.2 j (.exc 51 fs' true)) := fun m2 k t => (hq m2 k t).mono fun p2 ⟨j, h1, fs, h2, h3⟩ => ⟨j, h1, fs, h2, fs, h2, h3⟩
  refine QT.go (by and_intros) ?_
  by_cases f1 : lim < (ar : Int)
  . simp_all only []
    refine QE.go (by and_intros) ?_
    exact fin m K T
  . have f2 : lim < (greatP (realP rows ar) : Int) := by
      unfold Fits at fit; omega
    simp_all only []
    refine greatest_spec hst fun m2 K2 => ?_
    simp_all only []
    refine QE.go (by and_intros) ?_
    exact fin m2 (K.step0 K2) (T.kp K2 (by simp))
end Mini.L2
namespace Mini.L2
open Mini
structure Gd (s : Ist) : Prop where
  a : ∀ (i : Nat) (o : Occ), s.found[i]? = some o -> o.kd = "temp" -> getA (o.num : Int) s.tmp = some i
  b : ∀ (n : Int) (i : Nat), getA n s.tmp = some i -> ∃ o : Occ, s.found[i]? = some o /\ o.kd = "temp" /\ (o.num : Int) = n
  c : ∀ p ∈ s.out ++ s.inc, ∃ o : Occ, s.found[p.2]? = some o /\ o.kd ≠ "temp"
  d : ∀ (i : Nat) (o : Occ), s.found[i]? = some o -> o.kd = "temp" -> o.st + 1 <= o.en
noncomputable def vw (s : Ist) (n : Int) : Option (Int × Int) := (getA n s.tmp).bind fun i => (s.found[i]?).map fun o => (o.st, o.en)
theorem setEn_get (l : List Occ) (i : Nat) (e : Int) (j : Nat) : (setEn l i e)[j]? = if i = j then (l[j]?).map (fun o => { o with en := e }) else l[j]? := by
  unfold setEn
  cases h : l[i]? with
  | none =>
    by_cases z : i = j
    . subst z; simp [h]
    . simp [z]
  | some o =>
    simp only
    rw [List.getElem?_set]
    by_cases z : i = j
    . subst z
      have := (List.getElem?_eq_some_iff.mp h).1
      rw [if_pos rfl, if_pos rfl, if_pos this, h]; rfl
    . simp [z]
theorem Gd.other {s : Ist} (G : Gd s) {i : Nat} {o : Occ} (hi : s.found[i]? = some o) (hk : o.kd ≠ "temp") (e : Int) : Gd { s with found := setEn s.found i e } /\ ∀ n, vw { s with found := setEn s.found i e } n = vw s n := by
  have get : ∀ (j : Nat) (o' : Occ), (setEn s.found i e)[j]? = some o' -> ∃ o0 : Occ, s.found[j]? = some o0 /\ o0.kd = o'.kd /\ o0.num = o'.num /\ o0.st = o'.st /\ (o'.kd = "temp" -> o0 = o') := fun j o' h => by
    rw [setEn_get] at h
    by_cases z : i = j
    . subst z
      rw [if_pos rfl, hi] at h
      cases h
      exact ⟨o, hi, rfl, rfl, rfl, fun z => absurd z hk⟩
    . rw [if_neg z] at h; exact ⟨o', h, rfl, rfl, rfl, fun _ => rfl⟩
  have put : ∀ (j : Nat) (o0 : Occ), s.found[j]? = some o0 -> ∃ o' : Occ, (setEn s.found i e)[j]? = some o' /\ o'.kd = o0.kd /\ o'.num = o0.num /\ (o0.kd = "temp" -> o' = o0) := fun j o0 h => by
    rw [setEn_get]
    by_cases z : i = j
    . subst z
      rw [hi] at h; cases h
      rw [if_pos rfl, hi]
      exact ⟨_, rfl, rfl, rfl, fun z => absurd z hk⟩
    . rw [if_neg z]; exact ⟨o0, h, rfl, rfl, fun _ => rfl⟩
  refine ⟨⟨fun j o' h k => ?_, fun n j h => ?_, fun p hp => ?_, fun j o' h k => ?_⟩, fun n => ?_⟩
  . obtain ⟨o0, h0, k0, n0, _, _⟩ := get j o' h
    have := G.a j o0 h0 (by rw [k0]; exact k)
    rw [n0] at this; exact this
  . obtain ⟨o0, h0, k0, n0⟩ := G.b n j h
    obtain ⟨o', h', k', n', _⟩ := put j o0 h0
    exact ⟨o', h', by rw [k']; exact k0, by rw [n']; exact n0⟩
  . obtain ⟨o0, h0, k0⟩ := G.c p hp
    obtain ⟨o', h', k', _, _⟩ := put p.2 o0 h0
    exact ⟨o', h', by rw [k']; exact k0⟩
  . obtain ⟨o0, h0, k0, n0, _, q⟩ := get j o' h
    have := G.d j o0 h0 (by rw [k0]; exact k)
    rw [q k] at this; exact this
  . unfold vw
    show (getA n s.tmp).bind _ = _
    cases hg : getA n s.tmp with
    | none => rfl
    | some j =>
      obtain ⟨o0, h0, k0, n0⟩ := G.b n j hg
      obtain ⟨o', h', k', _, q⟩ := put j o0 h0
      simp only [Option.bind_some, h', h0, Option.map_some, q k0]
noncomputable def stF (t : Int) : Option (Int × Int) -> Option (Int × Int)
  | none => some (t, t + 1)
  | some (b, e) => some (b, if e < t then t else e)
theorem Gd.role {s : Ist} (G : Gd s) (t : Int) (x : Int × Op) : Gd (stepRole t s x) /\ ∀ m, vw (stepRole t s x) m = if x.2.k = .t /\ (x.2.n : Int) = m then stF t (vw s m) else vw s m := by
  obtain ⟨ro, ⟨k, n⟩⟩ := x
  have app : ∀ (o : Occ) (j : Nat) (o' : Occ), (s.found ++ [o])[j]? = some o' -> s.found[j]? = some o' \/ (j = s.found.length /\ o' = o) := fun o j o' h => by
    rw [List.getElem?_append] at h
    split at h
    . exact .inl h
    . right
      have : j - s.found.length = 0 := by
        have := (List.getElem?_eq_some_iff.mp h).1
        simp at this; omega
      rw [this] at h
      simp at h
      exact ⟨by omega, h.symm⟩
  have left : ∀ (o : Occ) (j : Nat) (o' : Occ), s.found[j]? = some o' -> (s.found ++ [o])[j]? = some o' := fun o j o' h => by
    rw [List.getElem?_append_left (List.getElem?_eq_some_iff.mp h).1]; exact h
  have last : ∀ (o : Occ), (s.found ++ [o])[s.found.length]? = some o := fun o => by simp
  cases k with
  | t =>
    cases hg : getA (n : Int) s.tmp with
    | none =>
      rw [sr_tn hg]
      refine ⟨⟨fun i o h hk => ?_, fun m i h => ?_, fun p hp => ?_, fun i o h hk => ?_⟩, fun m => ?_⟩
      . show getA (o.num : Int) (putA (n : Int) s.found.length s.tmp) = some i
        rw [getA_putA]
        rcases app _ i o h with h | ⟨rfl, rfl⟩
        . have := G.a i o h hk
          rw [if_neg (fun z => by rw [<- z, hg] at this; cases this)]; exact this
        . rw [if_pos rfl]
      . have h : getA m (putA (n : Int) s.found.length s.tmp) = some i := h
        rw [getA_putA] at h
        split at h
        . rename_i z
          cases h
          exact ⟨_, last _, rfl, z⟩
        . obtain ⟨o, h1, h2⟩ := G.b m i h
          exact ⟨o, left _ _ _ h1, h2⟩
      . obtain ⟨o, h1, h2⟩ := G.c p hp
        exact ⟨o, left _ _ _ h1, h2⟩
      . rcases app _ i o h with h | ⟨rfl, rfl⟩
        . exact G.d i o h hk
        . exact Int.le_refl _
      . unfold vw
        show (getA m (putA (n : Int) s.found.length s.tmp)).bind (fun i => ((s.found ++ [_])[i]?).map fun o => (o.st, o.en)) = _
        rw [getA_putA]
        by_cases z : (n : Int) = m
        . rw [if_pos z, if_pos ⟨rfl, z⟩]
          simp only [Option.bind_some, last, Option.map_some]
          rw [<- z, hg]; rfl
        . rw [if_neg z, if_neg fun w => z w.2]
          cases hm : getA m s.tmp with
          | none => rfl
          | some j =>
            obtain ⟨o, h1, _⟩ := G.b m j hm
            simp only [Option.bind_some, left _ _ _ h1, h1]
    | some i =>
      obtain ⟨o, hi, hk, hn⟩ := G.b _ i hg
      rw [sr_ts hg hi]
      have hv : vw s (n : Int) = some (o.st, o.en) := by unfold vw; rw [hg]; simp [hi]
      by_cases hlt : o.en < t
      . rw [if_pos hlt]
        have inj : ∀ m j, getA m s.tmp = some j -> j = i -> m = (n : Int) := fun m j h e => by
          obtain ⟨o', h1, _, h3⟩ := G.b m j h
          rw [e, hi] at h1; cases h1
          rw [<- h3, hn]
        refine ⟨⟨fun j o' h k' => ?_, fun m j h => ?_, fun p hp => ?_, fun j o' h k' => ?_⟩, fun m => ?_⟩
        . have h : (setEn s.found i t)[j]? = some o' := h
          rw [setEn_get] at h
          by_cases z : i = j
          . subst z
            rw [if_pos rfl, hi] at h; cases h
            exact G.a i o hi hk
          . rw [if_neg z] at h; exact G.a j o' h k'
        . obtain ⟨o', h1, h2, h3⟩ := G.b m j h
          show ∃ o, (setEn s.found i t)[j]? = some o /\ _
          rw [setEn_get]
          by_cases z : i = j
          . subst z
            rw [hi] at h1; cases h1
            rw [if_pos rfl, hi]
            exact ⟨_, rfl, h2, h3⟩
          . rw [if_neg z]; exact ⟨o', h1, h2, h3⟩
        . obtain ⟨o', h1, h2⟩ := G.c p hp
          show ∃ o, (setEn s.found i t)[p.2]? = some o /\ _
          rw [setEn_get]
          by_cases z : i = p.2
          . rw [<- z, hi] at h1; cases h1; exact absurd hk h2
          . rw [if_neg z]; exact ⟨o', h1, h2⟩
        . have h : (setEn s.found i t)[j]? = some o' := h
          rw [setEn_get] at h
          by_cases z : i = j
          . subst z
            rw [if_pos rfl, hi] at h; cases h
            have := G.d i o hi hk
            simp only; omega
          . rw [if_neg z] at h; exact G.d j o' h k'
        . unfold vw
          show (getA m s.tmp).bind (fun i_1 => ((setEn s.found i t)[i_1]?).map fun o => (o.st, o.en)) = _
          by_cases z : (n : Int) = m
          . rw [if_pos ⟨rfl, z⟩, <- z, hg]
            simp only [Option.bind_some, setEn_get, if_true, hi, Option.map_some, stF, hlt]
          . rw [if_neg fun w => z w.2]
            cases hm : getA m s.tmp with
            | none => rfl
            | some j =>
              have : i ≠ j := fun e => z (inj m j hm e.symm).symm
              simp only [Option.bind_some, setEn_get, if_neg this]
      . rw [if_neg hlt]
        refine ⟨G, fun m => ?_⟩
        by_cases z : (n : Int) = m
        . rw [if_pos ⟨rfl, z⟩, <- z, hv]; simp [stF, hlt]
        . rw [if_neg fun w => z w.2]
  | a =>
    have nv : ∀ m, (if (Kd.a = Kd.t /\ (n : Int) = m) then stF t (vw s m) else vw s m) = vw s m := fun m => if_neg fun w => by cases w.1
    by_cases h2 : ro = 2
    . subst h2
      rw [sr_aw]
      refine ⟨⟨fun i o h hk => ?_, fun m i h => ?_, fun p hp => ?_, fun i o h hk => ?_⟩, fun m => ?_⟩
      . rcases app _ i o h with h | ⟨rfl, rfl⟩
        . exact G.a i o h hk
        . simp at hk
      . obtain ⟨o, h1, h2⟩ := G.b m i h
        exact ⟨o, left _ _ _ h1, h2⟩
      . rcases List.mem_append.mp hp with h | h
        . rcases putA_mem h with h | h
          . obtain ⟨o, h1, h2⟩ := G.c p (List.mem_append_left _ h)
            exact ⟨o, left _ _ _ h1, h2⟩
          . rw [h]; exact ⟨_, last _, by simp⟩
        . obtain ⟨o, h1, h2⟩ := G.c p (List.mem_append_right _ h)
          exact ⟨o, left _ _ _ h1, h2⟩
      . rcases app _ i o h with h | ⟨rfl, rfl⟩
        . exact G.d i o h hk
        . simp at hk
      . rw [nv]
        unfold vw
        show (getA m s.tmp).bind (fun i => ((s.found ++ [_])[i]?).map fun o => (o.st, o.en)) = _
        cases hm : getA m s.tmp with
        | none => rfl
        | some j =>
          obtain ⟨o, h1, _⟩ := G.b m j hm
          simp only [Option.bind_some, left _ _ _ h1, h1]
    . cases hg : getA (n : Int) s.inc with
      | none =>
        have : stepRole t s (ro, ⟨.a, n⟩) = s := by unfold stepRole; simp [hg, h2]
        rw [this]
        exact ⟨G, fun m => (nv m).symm⟩
      | some i =>
        rw [sr_ar hg h2]
        obtain ⟨o, h1, h3⟩ := G.c _ (List.mem_append_right _ (mem_of_getA hg))
        obtain ⟨A, B⟩ := G.other h1 h3 t
        exact ⟨A, fun m => (B m).trans (nv m).symm⟩
  | y => rw [sr_y]; exact ⟨G, fun m => (if_neg fun w => by cases w.1).symm⟩
  | x => rw [sr_x]; exact ⟨G, fun m => (if_neg fun w => by cases w.1).symm⟩
theorem Gd.ends {s : Ist} (G : Gd s) (t : Int) : Gd (stepEnds t s) /\ ∀ m, vw (stepEnds t s) m = vw s m := by
  have : ∀ (l : List (Int × Nat)) (s' : Ist), (∀ p ∈ l, p ∈ s'.out) -> Gd s' -> Gd { s' with found := l.foldl (fun f p => setEn f p.2 t) s'.found } /\ ∀ m, vw { s' with found := l.foldl (fun f p => setEn f p.2 t) s'.found } m = vw s' m := by
    intro l
    induction l with
    | nil => intro s' _ G; exact ⟨G, fun _ => rfl⟩
    | cons p l ih =>
      intro s' hl G
      obtain ⟨o, h1, h2⟩ := G.c p (List.mem_append_left _ (hl p (.head _)))
      obtain ⟨A, B⟩ := G.other h1 h2 t
      obtain ⟨A', B'⟩ := ih { s' with found := setEn s'.found p.2 t } (fun q hq => hl q (.tail _ hq)) A
      exact ⟨A', fun m => (B' m).trans (B m)⟩
  obtain ⟨A, B⟩ := this s.out s (fun _ h => h) G
  refine ⟨⟨A.a, A.b, fun p hp => A.c p (List.mem_append_right _ (by simpa [stepEnds] using hp)), A.d⟩, fun m => B m⟩
noncomputable def tnums (r : Row) : List Int := r.roles.filterMap fun x => if x.2.k = .t then some (x.2.n : Int) else none
theorem stF_idem (t : Int) (x : Option (Int × Int)) : stF t (stF t x) = stF t x := by
  cases x with
  | none => simp [stF]; omega
  | some p =>
    obtain ⟨b, e⟩ := p
    simp only [stF]
    by_cases h : e < t
    . simp [h]
    . simp [h]
theorem Gd.row {s : Ist} (G : Gd s) (t : Int) (r : Row) : Gd (stepRow t s r) /\ ∀ m, vw (stepRow t s r) m = if m ∈ tnums r then stF t (vw s m) else vw s m := by
  have fold : ∀ (l : List (Int × Op)) (s : Ist), Gd s -> Gd (l.foldl (stepRole t) s) /\ ∀ m, vw (l.foldl (stepRole t) s) m = if m ∈ l.filterMap (fun x => if x.2.k = .t then some (x.2.n : Int) else none) then stF t (vw s m) else vw s m := by
    intro l
    induction l with
    | nil => intro s G; exact ⟨G, fun m => by simp⟩
    | cons x l ih =>
      intro s G
      obtain ⟨A, B⟩ := G.role t x
      obtain ⟨A', B'⟩ := ih _ A
      refine ⟨A', fun m => ?_⟩
      rw [List.foldl_cons, B' m, B m]
      by_cases h1 : x.2.k = .t
      . by_cases h2 : (x.2.n : Int) = m
        . have : m ∈ List.filterMap (fun x : Int × Op => if x.2.k = .t then some (x.2.n : Int) else none) (x :: l) := by simp [h1, h2]
          rw [if_pos this, if_pos (show x.2.k = .t /\ (x.2.n : Int) = m from ⟨h1, h2⟩)]
          split
          . rw [stF_idem]
          . rfl
        . have : m ∈ List.filterMap (fun x : Int × Op => if x.2.k = .t then some (x.2.n : Int) else none) (x :: l) ↔ m ∈ List.filterMap (fun x : Int × Op => if x.2.k = .t then some (x.2.n : Int) else none) l := by
            simp only [List.filterMap_cons, h1, if_true, List.mem_cons]
            exact ⟨fun z => z.resolve_left fun w => h2 w.symm, .inr⟩
          rw [if_neg (show ¬ (x.2.k = .t /\ (x.2.n : Int) = m) from fun w => h2 w.2)]
          by_cases h3 : m ∈ List.filterMap (fun x : Int × Op => if x.2.k = .t then some (x.2.n : Int) else none) l
          . rw [if_pos h3, if_pos (this.mpr h3)]
          . rw [if_neg h3, if_neg fun w => h3 (this.mp w)]
      . have : List.filterMap (fun x : Int × Op => if x.2.k = .t then some (x.2.n : Int) else none) (x :: l) = List.filterMap (fun x : Int × Op => if x.2.k = .t then some (x.2.n : Int) else none) l := by simp [h1]
        rw [this, if_neg (show ¬ (x.2.k = .t /\ (x.2.n : Int) = m) from fun w => h1 w.1)]
  unfold stepRow
  cases r.ends with
  | true =>
    obtain ⟨A, B⟩ := G.ends t
    obtain ⟨A', B'⟩ := fold r.roles _ A
    exact ⟨A', fun m => by rw [if_pos rfl, B' m, B m]; rfl⟩
  | false =>
    obtain ⟨A', B'⟩ := fold r.roles _ G
    exact ⟨A', fun m => by rw [if_neg (by decide), B' m]; rfl⟩
theorem Gd.start (ar : Nat) : Gd (ivIn ar) /\ ∀ m, vw (ivIn ar) m = none := by
  refine ⟨⟨fun i o h k => ?_, fun n i h => by simp [ivIn, getA] at h, fun p hp => ?_, fun i o h k => ?_⟩, fun m => rfl⟩
  . have := List.mem_of_getElem? h
    simp only [ivIn, List.mem_map] at this
    obtain ⟨j, _, rfl⟩ := this
    simp at k
  . simp only [ivIn, List.nil_append, List.mem_map, List.mem_range] at hp
    obtain ⟨j, hj, rfl⟩ := hp
    exact ⟨⟨"in", j + 1, -1, -1⟩, by simp [ivIn, hj], by simp⟩
  . have := List.mem_of_getElem? h
    simp only [ivIn, List.mem_map] at this
    obtain ⟨j, _, rfl⟩ := this
    simp at k
noncomputable def vwRows : List Row -> Int -> (Int -> Option (Int × Int)) -> (Int -> Option (Int × Int))
  | [], _, g => g
  | r :: rs, t, g => vwRows rs (t + 1) fun m => if m ∈ tnums r then stF t (g m) else g m
theorem Gd.rows : ∀ (rs : List Row) (t : Int) (s : Ist), Gd s -> Gd (ivRows rs t s) /\ ∀ m, vw (ivRows rs t s) m = vwRows rs t (vw s) m
  | [], t, s, G => ⟨G, fun _ => rfl⟩
  | r :: rs, t, s, G => by
    obtain ⟨A, B⟩ := G.row t r
    obtain ⟨A', B'⟩ := Gd.rows rs (t + 1) _ A
    refine ⟨A', fun m => ?_⟩
    show vw (ivRows rs (t + 1) (stepRow t s r)) m = vwRows rs (t + 1) _ m
    rw [B' m]
    congr 1
    funext m
    exact B m
theorem temps_mem {rows : List Row} {ar : Nat} (o : Occ) : o ∈ tempsO (occsP rows ar) ↔ o.kd = "temp" /\ ∃ i : Nat, (ivRows rows 0 (ivIn ar)).found[i]? = some o := by
  have G := (Gd.rows rows 0 _ (Gd.start ar).1).1
  unfold tempsO occsP
  simp only [List.mem_filter, beq_iff_eq, decide_eq_true_eq]
  constructor
  . rintro ⟨⟨h1, _⟩, h3⟩
    obtain ⟨i, hi⟩ := List.getElem?_of_mem h1
    exact ⟨h3, i, hi⟩
  . rintro ⟨h3, i, hi⟩
    exact ⟨⟨List.mem_of_getElem? hi, by have := G.d i o hi h3; omega⟩, h3⟩
noncomputable def viewP (rows : List Row) : Int -> Option (Int × Int) := vwRows rows 0 fun _ => none
theorem temps_view {rows : List Row} {ar : Nat} {o : Occ} (h : o ∈ tempsO (occsP rows ar)) : viewP rows o.num = some (o.st, o.en) /\ o.kd = "temp" := by
  have G := Gd.rows rows 0 _ (Gd.start ar).1
  obtain ⟨hk, i, hi⟩ := (temps_mem o).mp h
  refine ⟨?_, hk⟩
  have : viewP rows o.num = vw (ivRows rows 0 (ivIn ar)) o.num := by
    rw [G.2]; unfold viewP; congr 1
  rw [this]
  unfold vw
  rw [G.1.a i o hi hk]
  simp [hi]
theorem view_temps {rows : List Row} {ar : Nat} {n : Int} {b e : Int} (h : viewP rows n = some (b, e)) : ∃ o ∈ tempsO (occsP rows ar), (o.num : Int) = n /\ o.st = b /\ o.en = e := by
  have G := Gd.rows rows 0 _ (Gd.start ar).1
  have : viewP rows n = vw (ivRows rows 0 (ivIn ar)) n := by
    rw [G.2]; unfold viewP; congr 1
  rw [this] at h
  unfold vw at h
  cases hg : getA n (ivRows rows 0 (ivIn ar)).tmp with
  | none => rw [hg] at h; cases h
  | some i =>
    obtain ⟨o, hi, hk, hn⟩ := G.1.b n i hg
    rw [hg] at h
    simp only [Option.bind_some, hi, Option.map_some, Option.some.injEq, Prod.mk.injEq] at h
    exact ⟨o, (temps_mem o).mpr ⟨hk, i, hi⟩, hn, h.1, h.2⟩
theorem temps_nodup (rows : List Row) (ar : Nat) : ((tempsO (occsP rows ar)).map fun o => o.num).Nodup := by
  have G := (Gd.rows rows 0 _ (Gd.start ar).1).1
  have key : ∀ l : List Occ, List.Sublist l (ivRows rows 0 (ivIn ar)).found -> (∀ o ∈ l, o.kd = "temp") -> (l.map fun o => o.num).Nodup := by
    intro l hl hk
    have pw : List.Pairwise (fun a b : Occ => a.kd = "temp" -> b.kd = "temp" -> a.num ≠ b.num) (ivRows rows 0 (ivIn ar)).found := by
      rw [List.pairwise_iff_getElem]
      intro i j hi hj hij ka kb e
      have h1 := G.a i _ (List.getElem?_eq_getElem hi) ka
      have h2 := G.a j _ (List.getElem?_eq_getElem hj) kb
      rw [e, h2] at h1
      cases h1; omega
    have pl := pw.sublist hl
    rw [List.Nodup, List.pairwise_map]
    refine List.Pairwise.imp_of_mem ?_ pl
    intro a b ha hb h
    exact h (hk a ha) (hk b hb)
  refine key _ ?_ fun o ho => ?_
  . unfold tempsO occsP
    exact (List.filter_sublist).trans List.filter_sublist
  . exact ((temps_mem o).mp ho).1
end Mini.L2
namespace Mini.L2
open Mini
theorem mem_tnums (r : Row) (m : Int) : m ∈ tnums r ↔ ∃ n : Nat, m = (n : Int) /\ Part.o ⟨.t, n⟩ ∈ r.parts := by
  unfold tnums
  rw [List.mem_filterMap]
  constructor
  . rintro ⟨⟨i, ⟨k, n⟩⟩, hx, h⟩
    by_cases hk : k = .t
    . subst hk
      exact ⟨n, (Option.some.inj h).symm, (Row.mem_roles r _).mp ⟨_, hx, rfl⟩⟩
    . rw [if_neg hk] at h; cases h
  . rintro ⟨n, rfl, h⟩
    obtain ⟨⟨i, q⟩, hx, e⟩ := (Row.mem_roles r _).mpr h
    cases e
    exact ⟨_, hx, rfl⟩
noncomputable def Bd (t : Int) (g : Int -> Option (Int × Int)) : Prop := ∀ n b e, g n = some (b, e) -> 0 <= b /\ b + 1 <= e /\ b < t /\ e <= t
theorem Bd.step {t : Int} {g : Int -> Option (Int × Int)} (ht : 0 <= t) (h : Bd t g) (r : Row) : Bd (t + 1) fun m => if m ∈ tnums r then stF t (g m) else g m := fun n b e h1 => by
  simp only at h1
  split at h1
  . cases hg : g n with
    | none => rw [hg] at h1; simp only [stF, Option.some.injEq, Prod.mk.injEq] at h1; omega
    | some p =>
      obtain ⟨b0, e0⟩ := p
      have := h n b0 e0 hg
      rw [hg] at h1
      simp only [stF, Option.some.injEq, Prod.mk.injEq] at h1
      obtain ⟨rfl, h2⟩ := h1
      split at h2 <;> omega
  . have := h n b e h1; omega
theorem Bd.rows : ∀ (rs : List Row) (t : Int) (g : Int -> Option (Int × Int)), 0 <= t -> Bd t g -> Bd (t + rs.length) (vwRows rs t g)
  | [], t, g, _, h => by simpa [vwRows] using h
  | r :: rs, t, g, ht, h => by
    have := Bd.rows rs (t + 1) _ (by omega) (h.step ht r)
    have e : t + 1 + (rs.length : Int) = t + ((r :: rs).length : Int) := by simp; omega
    rw [e] at this
    exact this
theorem view_bd {rows : List Row} {n b e : Int} (h : viewP rows n = some (b, e)) : 0 <= b /\ b + 1 <= e /\ b < rows.length /\ e <= rows.length := by
  have := Bd.rows rows 0 (fun _ => none) (by omega) (fun _ _ _ h => by cases h)
  rw [Int.zero_add] at this
  exact this n b e h
theorem vwRows_some : ∀ (rs : List Row) (t : Int) (g : Int -> Option (Int × Int)) (n : Int), (vwRows rs t g n).isSome = true ↔ (g n).isSome = true \/ ∃ r ∈ rs, n ∈ tnums r
  | [], t, g, n => by simp [vwRows]
  | r :: rs, t, g, n => by
    show (vwRows rs (t + 1) _ n).isSome = true ↔ _
    rw [vwRows_some rs]
    have : ∀ x, (stF t x).isSome = true := fun x => by cases x <;> rfl
    simp only [List.mem_cons, exists_eq_or_imp]
    by_cases h : n ∈ tnums r
    . simp [h, this]
    . simp [h]
theorem view_some (rows : List Row) (n : Int) : (viewP rows n).isSome = true ↔ ∃ r ∈ rows, n ∈ tnums r := by
  unfold viewP; rw [vwRows_some]; simp
theorem placed_keys (wants : List (Int × List Op)) (n : Int) : ∀ (l : List Occ) (s : TbO × List (Int × Nat)), (getA n (l.foldl (placeStep wants) s).2).isSome = true ↔ (getA n s.2).isSome = true \/ ∃ o ∈ l, (o.num : Int) = n
  | [], s => by simp
  | o :: l, s => by
    rw [List.foldl_cons, placed_keys wants n l]
    unfold placeStep
    simp only [getA_putA, List.mem_cons, exists_eq_or_imp]
    by_cases h : (o.num : Int) = n
    . simp [h]
    . simp [h]
theorem homes_keys {rows : List Row} {ar : Nat} {n : Int} : (getA n (homesP rows ar)).isSome = true ↔ ∃ o ∈ tempsO (occsP rows ar), (o.num : Int) = n := by
  unfold homesP
  rw [placed_keys]
  simp only [getA, Option.isSome_none, Bool.false_eq_true, false_or]
  constructor <;> (rintro ⟨o, ho, e⟩; exact ⟨o, by first | exact sortBy_mem.mp ho | exact sortBy_mem.mpr ho, e⟩)
theorem rowsOk_of {rows : List Row} {ar : Nat} (hv : ∀ r ∈ rows, ∀ x ∈ r.roles, x.2.k = .a -> x.1 ≠ 2 -> 1 <= x.2.n /\ x.2.n <= ar) (hb : ar + 2 * rows.length <= 63) : RowsOk rows ar := by
  refine ⟨hv, by omega, ?_, temps_nodup rows ar, fun r hr n hn => ?_⟩
  . have h1 := List.length_filter_le (fun o : Occ => o.kd == "temp") (occsP rows ar)
    have h2 := List.length_filter_le (fun o : Occ => decide (o.st < o.en)) (ivRows rows 0 (ivIn ar)).found
    have h3 := ivRows_len rows 0 (ivIn ar)
    have h4 : (ivIn ar).found.length = ar := by simp [ivIn]
    unfold tempsO
    unfold occsP at h1 ⊢
    omega
  . have : (viewP rows n).isSome = true := (view_some rows n).mpr ⟨r, hr, (mem_tnums r n).mpr ⟨n, rfl, hn⟩⟩
    obtain ⟨⟨b, e⟩, hbe⟩ := Option.isSome_iff_exists.mp this
    obtain ⟨o, ho, hon, _⟩ := view_temps (ar := ar) hbe
    exact Option.isSome_iff_exists.mp (homes_keys.mpr ⟨o, ho, hon⟩)
end Mini.L2
namespace Mini.L2
open Mini
theorem getA_addW {n : Nat} {o : Occ} {tb : TbO} {r : Int} {q : Occ} : q ∈ (getA r (addW n o tb)).getD [] ↔ q ∈ (getA r tb).getD [] \/ ((n : Int) = r /\ q = o) := by
  unfold addW
  rw [getA_putA]
  by_cases h : (n : Int) = r
  . subst h; simp
  . simp [h]
theorem freeO_iff {tb : TbO} {r : Int} {o : Occ} : freeO tb r o = true ↔ ∀ q ∈ (getA r tb).getD [], o.over q = false := by
  unfold freeO; simp [List.all_eq_true]
structure Col (D : List Occ) (most : Nat) (s : TbO × List (Int × Nat)) : Prop where
  tb : ∀ (r : Int) (q : Occ), q ∈ (getA r s.1).getD [] ↔ q ∈ D /\ ((hmI s.2 q.num : Nat) : Int) = r
  rng : ∀ o ∈ D, 1 <= hmI s.2 o.num /\ hmI s.2 o.num <= most
  ap : ∀ o ∈ D, ∀ q ∈ D, o.num ≠ q.num -> hmI s.2 o.num = hmI s.2 q.num -> o.over q = false
  ks : ∀ n, (getA n s.2).isSome = true -> ∃ o ∈ D, (o.num : Int) = n
  sz : s.1.length <= D.length
end Mini.L2
namespace Mini.L2
open Mini
structure RowC (ar : Nat) (r : Row) : Prop where
  rd : ∀ x ∈ r.roles, x.2.k = .a -> x.1 ≠ 2 -> 1 <= x.2.n /\ x.2.n <= ar
  tn : ∀ n, Part.o ⟨.t, n⟩ ∈ r.parts -> n < 5
  nx : ∀ o, Part.o o ∈ r.parts -> o.k ≠ .x
noncomputable def L15 (a b k : Nat) (s : Op) : List Row := [.putVoid ⟨.t, a⟩, .putValue ⟨.t, a⟩ ⟨.a, 1 + k⟩, .getVariable ⟨.t, a⟩ s, .putValue ⟨.t, a⟩ ⟨.t, b⟩, .putVariable ⟨.t, a⟩ ⟨.a, 1 + k⟩, .putVariable ⟨.t, a⟩ ⟨.t, b⟩, .getStructure s, .putList ⟨.a, 1 + k⟩, .unifyLocal ⟨.t, a⟩, .setValue ⟨.t, a⟩, .putValue ⟨.y, 1⟩ ⟨.t, a⟩, .getList s, .builtin, .mark ⟨.t, a⟩, .getValue ⟨.t, a⟩ s]
noncomputable def RoC (ar : Nat) (x : Int × Op) : Prop := (x.2.k = .a -> x.1 ≠ 2 -> 1 <= x.2.n /\ x.2.n <= ar) /\ (x.2.k = .t -> x.2.n < 5) /\ x.2.k ≠ .x
theorem RowC.of {ar : Nat} {r : Row} (h : ∀ x ∈ r.roles, RoC ar x) : RowC ar r :=
  ⟨fun x hx => (h x hx).1, fun n hn => by
    obtain ⟨x, hx, e⟩ := (Row.mem_roles r _).mpr hn
    have := (h x hx).2.1; rw [e] at this; exact this rfl, fun o ho => by
    obtain ⟨x, hx, rfl⟩ := (Row.mem_roles r o).mpr ho
    exact (h x hx).2.2⟩
theorem L15_ok {a b k ar : Nat} {s : Op} (ha : a < 5) (hb : b < 5) (hs : (s.k = .t /\ s.n < 5) \/ (s.k = .a /\ 1 <= s.n /\ s.n <= ar)) : ∀ r ∈ L15 a b k s, RowC ar r := by
  have pt : ∀ {i : Int} {n}, n < 5 -> RoC ar (i, ⟨.t, n⟩) := fun h => ⟨fun z => (nomatch z), fun _ => h, by simp⟩
  have py : ∀ {i : Int} {n}, RoC ar (i, ⟨.y, n⟩) := ⟨fun z => (nomatch z), fun z => (nomatch z), by simp⟩
  have pa : ∀ {n}, RoC ar (2, ⟨.a, n⟩) := ⟨fun _ z => absurd rfl z, fun z => (nomatch z), by simp⟩
  have ps : ∀ {i : Int}, RoC ar (i, s) := by
    intro i
    rcases hs with ⟨h1, h2⟩ | ⟨h1, h2⟩
    . exact ⟨fun z => (nomatch (h1.symm.trans z)), fun _ => h2, by rw [h1]; decide⟩
    . exact ⟨fun _ _ => h2, fun z => (nomatch (h1.symm.trans z)), by rw [h1]; decide⟩
  have h : ∀ x ∈ (L15 a b k s).flatMap Row.roles, RoC ar x := by
    repeat first | refine mem2 (pt ha) ?_ | refine mem2 (pt hb) ?_ | refine mem2 ps ?_ | refine mem2 pa ?_ | refine mem2 py ?_
    exact fun y hy => (nomatch hy)
  exact fun r hr => .of fun x hx => h x (List.mem_flatMap.mpr ⟨r, hr, hx⟩)
end Mini.L2
namespace Mini.L2
open Mini
theorem TapeOk.kp {T : List Nat} {mh mh' : MH} (h : TapeOk mh) (k : Kp T mh mh') (n1 : 1 ∉ T) (n2 : 2 ∉ T) : TapeOk mh' := by
  obtain ⟨xs, p, c, h1, h2, h3, h4⟩ := h
  exact ⟨xs, p, c, k.ob h1 n1, h2, k.ob h3 n2, h4⟩
theorem rangeV_eq (n : Nat) : rangeV 0 n = (List.range n).map fun (i : Nat) => V.int i := by
  unfold rangeV; simp
theorem range_split {n : Nat} {d r : List Nat} {x : Nat} (e : List.range n = d ++ x :: r) : d = List.range x /\ x < n := by
  have hx : (List.range n)[d.length]? = some x := by rw [e]; simp
  have hlt : d.length < n := by have := congrArg List.length e; simp at this; omega
  rw [List.getElem?_range hlt] at hx
  cases hx
  refine ⟨?_, hlt⟩
  have := congrArg (List.take d.length) e
  rw [List.take_range] at this
  rw [List.take_left' rfl] at this
  rw [<- this, Nat.min_eq_left (by omega)]
  simp
noncomputable def q_law_chunk : QS r_law_chunk := by
  delta r_law_chunk r_law_chunk_0 r_law_chunk_1 r_law_chunk_2 r_law_chunk_3
  and_intros
inductive CHi (ar : Nat) (mh : MH) (d : List Nat) (loc : Loc) (m : MH) : Prop
  | mk (w3 : Option V) (w4 : Option V) (w5 : Option V) (w6 : Option V) (w7 : Option V) (w8 : Option V) (w9 : Option V) (rows : List Row) (h0 : loc = [some (.ref 2), some (.int ar), some (.ref mh.length), w3, w4, w5, w6, w7, w8, w9]) (h1 : ob m mh.length = some (.list ((rows : List Row).map Row.toV))) (h2 : rows.length = d.length) (h3 : (∀ r ∈ rows, RowC ar r)) (h4 : TapeOk m) (h5 : Kp [1, 2] mh m)
theorem chunk_spec {mh : MH} {ar : Nat} {Q : V × MH -> Prop} (hT : TapeOk mh) (h3 : 3 <= mh.length) (har : ar < 900) (hq : ∀ c (rows : List Row) mh', ob mh' c = some (.list ((rows ++ [Row.call]).map Row.toV)) -> rows.length <= 6 -> (∀ r ∈ rows, RowC ar r) -> mh.length <= c -> TapeOk mh' -> Kp [1, 2] mh mh' -> Q (.ref c, mh')) : W (g_law_chunk [.ref 2, .int ar] mh) Q := by
  refine QS.start q_law_chunk rfl rfl ?_
  have K0 := Kp.mk mh (.list [])
  refine digit_spec (hT.kp K0 (by simp) (by simp)) (by decide) (by decide) fun d1 m1 hd1 T1 K1 => ?_
  have sm : small (1 + (d1 : Int)) = true := by unfold small; simp; omega
  refine And.intro sm (e_W ?_)
  clear sm
  rw [show (1 : Int) + (d1 : Int) = ((1 + d1 : Nat) : Int) from by omega, rangeV_eq]
  have c1 : ob m1 mh.length = some (.list (([] : List Row).map Row.toV)) := K1.ob (ob_mk_new mh _) (by simp; omega)
  have K01 : Kp [1, 2] mh m1 := K0.nil.step K1 fun j hj => .inl hj
  refine W_loop (fun (i : Nat) => V.int i) (I := CHi ar mh) ⟨none, none, none, none, none, none, none, [], rfl, c1, rfl, by simp, T1, K01⟩ (fun _ _ _ _ => rfl) ?_ ?_
  . rintro d i r loc m e ⟨w3, w4, w5, w6, w7, w8, w9, rows, rfl, hc, hl, hR, hT, K⟩
    have hd : d.length + 1 <= 1 + d1 := by have := congrArg List.length e; simp at this; omega
    refine ⟨_, rfl, ?_⟩
    refine QS.go (by and_intros) ?_
    refine digit_spec hT (by decide) (by decide) fun way m2 hw T2 K2 => ?_
    refine digit_spec T2 (by decide) (by decide) fun a m3 ha T3 K3 => ?_
    refine digit_spec T3 (by decide) (by decide) fun b m4 hb T4 K4 => ?_
    refine digit_spec T4 (by decide) (by decide) fun k m5 hk T5 K5 => ?_
    have K25 : Kp [1, 2] m m5 := ((K2.step K3 (by simp)).step K4 (by simp)).step K5 (by simp)
    have hty : ∀ vs, (MObj.list vs).ty = some "list" := fun _ => rfl
    have k1 : (1 : Int) + (k : Int) = ((1 + k : Nat) : Int) := by omega
    have fin : ∀ (s : Op) (m6 : MH), ((s.k = .t /\ s.n < 5) \/ (s.k = .a /\ 1 <= s.n /\ s.n <= ar)) -> TapeOk m6 -> Kp [1, 2] m m6 -> ∀ (Q' : V × MH -> Prop), (∀ r m7, RowC ar r -> TapeOk m7 -> Kp [1, 2] m m7 -> Q' (r.toV, m7)) -> W (gItem (.ref m6.length) (.int way) (mkO m6 (.list ((L15 a b k s).map Row.toV)))) Q' := fun s m6 hs T6 K6 Q' hq' => by
      have ol := ob_mk_new m6 (.list ((L15 a b k s).map Row.toV))
      have hw' : way < (L15 a b k s).length := by simp [L15]; omega
      refine (W_item_list ol (by omega) (v := ((L15 a b k s)[way]).toV) (by simp [List.getElem?_map, List.getElem?_eq_getElem hw'])).mpr ?_
      exact hq' _ _ (L15_ok (by omega) (by omega) hs _ (List.getElem_mem hw')) (T6.kp (Kp.mk _ _) (by simp) (by simp)) (K6.stepMk _)
    have tail : ∀ (r : Row) (m7 : MH) (w5 w6 w7 w8 w9 : Option V), RowC ar r -> TapeOk m7 -> Kp [1, 2] m m7 -> ∃ vs, ob m7 mh.length = some (.list vs) /\ vs.length <= 1000 /\ CHi ar mh (d ++ [i]) [some (.ref 2), some (.int ar), some (.ref mh.length), some (.int i), some (.int way), w5, w6, w7, w8, w9] (putO m7 mh.length (.list (vs ++ [r.toV]))) := fun r m7 w5 w6 w7 w8 w9 hr T7 K7 => by
      have c7 := K7.ob hc (by simp; omega)
      have Kp' := Kp.put (.list (rows.map Row.toV ++ [r.toV])) c7 (fun q => by simp)
      refine ⟨_, c7, by simp; omega, _, _, _, _, _, _, _, rows ++ [r], rfl, by rw [ob_put_self c7]; simp, by simp [hl], fun x hx => ?_, T7.kp Kp' (by simp; omega) (by simp; omega), (K.step K7 (by simp)).step Kp' fun j hj => .inr (by rw [List.mem_singleton.mp hj]; exact Nat.le_refl _)⟩
      rcases List.mem_append.mp hx with h | h
      . exact hR x h
      . rw [List.mem_singleton.mp h]; exact hr
    have c5 := K25.ob hc (by simp; omega)
    by_cases h0 : (0 : Int) < (ar : Int)
    . simp_all only []
      refine digit_spec T5 (by decide) (by decide) fun j m6 hj T6 K6 => ?_
      have hmod : (0 : Int) < (ar : Int) /\ (ar : Int) < 1000 := by omega
      have jm : (1 : Int) + (j : Int).fmod (ar : Int) = ((1 + j % ar : Nat) : Int) := by
        rw [Int.fmod_eq_emod_of_nonneg _ (by omega)]
        omega
      have jlt : j % ar < ar := Nat.mod_lt _ (by omega)
      have c6 := (K25.step K6 (by simp)).ob hc (by simp; omega)
      refine And.intro hmod (kN.mk (ob_mk _ c6) rfl (e_W ?_))
      rw [jm, k1]
      refine fin ⟨.a, 1 + j % ar⟩ m6 (.inr ⟨rfl, by simp; omega⟩) T6 (K25.step K6 (by simp)) _ fun r m7 hr T7 K7 => ?_
      obtain ⟨vs, o7, l7, h7⟩ := tail r m7 _ _ _ _ _ hr T7 K7
      exact w_append o7 l7 h7
    . simp_all only []
      refine kN.mk (ob_mk _ c5) rfl (e_W ?_)
      rw [k1]
      refine fin ⟨.t, b⟩ m5 (.inl ⟨rfl, by simp; omega⟩) T5 K25 _ fun r m7 hr T7 K7 => ?_
      obtain ⟨vs, o7, l7, h7⟩ := tail r m7 _ _ _ _ _ hr T7 K7
      exact w_append o7 l7 h7
  . rintro loc m ⟨w3, w4, w5, w6, w7, w8, w9, rows, rfl, hc, hl, hR, hT, K⟩
    have hty : ∀ vs, (MObj.list vs).ty = some "list" := fun _ => rfl
    have hlen : (rows.map Row.toV).length <= 1000 := by simp at hl ⊢; omega
    simp_all only [hty]
    have Kp' := Kp.put (.list (rows.map Row.toV ++ [Row.call.toV])) hc (fun q => by simp)
    refine hq _ rows _ ?_ (by simp at hl; omega) hR (Nat.le_refl _) (hT.kp Kp' (by simp; omega) (by simp; omega)) (K.step Kp' fun j hj => .inr (by rw [List.mem_singleton.mp hj]; exact Nat.le_refl _))
    show ob (putO m mh.length (.list (rows.map Row.toV ++ [Row.call.toV]))) mh.length = _
    rw [ob_put_self hc]; simp
noncomputable def liftOp (k : Nat) (o : Op) : Op := if o.k = .t then ⟨.t, o.n + k⟩ else o
noncomputable def q_law_lifted : QS r_law_lifted := by
  delta r_law_lifted r_law_lifted_0 r_law_lifted_1 r_law_lifted_2
  and_intros
inductive LFi (c k st : Nat) (rows : List Row) (mh : MH) (d : List Row) (loc : Loc) (m : MH) : Prop
  | mk (w3 : Option V) (w4 : Option V) (w5 : Option V) (h0 : loc = [some (.ref c), some (.int k), some (.ref mh.length), w3, w4, w5]) (h1 : ob m mh.length = some (.list ((d.map (Row.map (liftOp k))).map Row.toV))) (h2 : Kp [] mh m) (h3 : m[c]? = some (.list (rows.map Row.toV), st))
theorem lifted_spec {mh : MH} {c k : Nat} {rows : List Row} {Q : V × MH -> Prop} (hc : ob mh c = some (.list (rows.map Row.toV))) (hb : rows.length <= 100) (hq : ∀ mh', Kp [] mh mh' -> ob mh' mh.length = some (.list ((rows.map (Row.map (liftOp k))).map Row.toV)) -> Q (.ref mh.length, mh')) : W (g_law_lifted [.ref c, .int k] mh) Q := by
  have K0 := Kp.mk mh (.list [])
  have clt := ob_lt hc
  obtain ⟨st, hst⟩ := ob_some (K0.ob hc (by simp))
  have hty : ∀ vs, (MObj.list vs).ty = some "list" := fun _ => rfl
  refine QS.start q_law_lifted rfl rfl ?_
  simp_all only [ItB_list hst]
  refine W_loop Row.toV (I := LFi c k st rows mh) ⟨none, none, none, rfl, ob_mk_new _ _, K0, hst⟩ ?_ ?_ ?_
  . rintro d loc m ⟨w3, w4, w5, rfl, hr, K, hst⟩
    unfold stampIs; rw [hst]; simp
  . rintro d r rs loc m e ⟨w3, w4, w5, rfl, hr, K, hst⟩
    have hd : d.length + 1 <= rows.length := by have := congrArg List.length e; simp at this; omega
    have pl : r.parts.length <= 2 := by cases r <;> simp [Row.parts]
    have hm := ob_lt hr
    refine ⟨_, rfl, ?_⟩
    refine QS.go (by and_intros) ?_
    simp_all only []
    have elems : ∀ (l : List Part) (dd : List V) (Q : SR -> Prop) (m' : MH) (w5 : Option V), ob m' m.length = some (.list dd) -> dd.length <= 10 -> l.length <= 10 -> Kp [] m m' -> (∀ m'' w5, ob m'' m.length = some (.list (dd ++ (l.map (Part.map (liftOp k))).map Part.toV)) -> Kp [] m m'' -> Q (.next [some (.ref c), some (.int k), some (.ref mh.length), some (.tup (.str r.name :: r.parts.map Part.toV)), some (.ref m.length), w5] m'')) ->
        W (rLoop (tName 5) (rSeq (rIf (rTAnd (rT (rIsi isT (rLoc 5))) (rTAnd (rT (rOp2 (rOp2 (rLoc 5) (rConst (.int 0)) gItem) (rConst (.str "t")) gEq)) (rTC true))) (rSeq (rSet 5 (rTup (rCons (rConst (.str "t")) (rCons (rOp2 (rOp2 (rLoc 5) (rConst (.int 1)) gItem) (rLoc 1) gAdd) rNil)))) rSkip) rSkip) (rSeq (rExpr (rBMeth "list" (rLoc 4) (rCons (rLoc 5) rNil) gAppend)) rSkip)) (fun _ => true) (l.map Part.toV) [some (.ref c), some (.int k), some (.ref mh.length), some (.tup (.str r.name :: r.parts.map Part.toV)), some (.ref m.length), w5] m') Q := by
      intro l dd Q m' w5 ho hdl hll Km hq'
      refine W_loop Part.toV (I := fun ee loc m'' => ∃ w5, loc = [some (.ref c), some (.int k), some (.ref mh.length), some (.tup (.str r.name :: r.parts.map Part.toV)), some (.ref m.length), w5] /\ ob m'' m.length = some (.list (dd ++ (ee.map (Part.map (liftOp k))).map Part.toV)) /\ Kp [] m m'') ⟨w5, rfl, by simpa using ho, Km⟩ (fun _ _ _ _ => rfl) ?_ ?_
      . rintro ee p ps loc m'' e2 ⟨w5, rfl, hp, Km⟩
        have hee : ee.length + 1 <= l.length := by have := congrArg List.length e2; simp at this; omega
        have hl2 : (dd ++ (ee.map (Part.map (liftOp k))).map Part.toV).length <= 1000 := by simp; omega
        have fin : ∀ v, v = (p.map (liftOp k)).toV -> ∃ w5_1, ([some (.ref c), some (.int k), some (.ref mh.length), some (.tup (.str r.name :: r.parts.map Part.toV)), some (.ref m.length), some v] : Loc) = [some (.ref c), some (.int k), some (.ref mh.length), some (.tup (.str r.name :: r.parts.map Part.toV)), some (.ref m.length), w5_1] /\ ob (putO m'' m.length (.list ((dd ++ (ee.map (Part.map (liftOp k))).map Part.toV) ++ [v]))) m.length = some (.list (dd ++ ((ee ++ [p]).map (Part.map (liftOp k))).map Part.toV)) /\ Kp [] m (putO m'' m.length (.list ((dd ++ (ee.map (Part.map (liftOp k))).map Part.toV) ++ [v]))) := fun v hv => by
          refine ⟨_, rfl, ?_, Km.stepPut _ hp (fun q => by simp) (.inr (Nat.le_refl _))⟩
          rw [ob_put_self hp, hv]; simp
        refine ⟨_, rfl, ?_⟩
        refine QS.go (by and_intros) ?_
        cases p with
        | i n =>
          simp_all only [hty]
          exact fin (.int n) rfl
        | o q =>
          obtain ⟨kd, n⟩ := q
          cases kd with
          | t =>
            have ca : (n : Int) + (k : Int) = ((n + k : Nat) : Int) := by omega
            simp_all only [hty]
            rw [ca]
            exact fin _ rfl
          | y => simp_all only [hty]; exact fin _ rfl
          | a => simp_all only [hty]; exact fin _ rfl
          | x => simp_all only [hty]; exact fin _ rfl
      . rintro loc m'' ⟨w5, rfl, hp, Km⟩
        exact hq' m'' w5 hp Km
    have ol := ob_mk_new m (.list [])
    refine W_loop1 rfl rfl ?_
    refine QS.go (by and_intros) ?_
    simp_all only [hty, Nat.zero_le]
    have ol1 := ob_put_self (o := .list ([] ++ [V.str r.name])) ol
    have K1 : Kp [] m (putO (mkO m (.list [])) m.length (.list ([] ++ [V.str r.name]))) := (Kp.mk m _).stepPut _ ol (fun q => by simp) (.inr (Nat.le_refl _))
    refine elems r.parts [V.str r.name] _ _ _ ol1 (by simp) (by omega) K1 fun m2 w5 h2 K2 => ?_
    have hr2 := K2.ob hr (by simp)
    have hlen : ([V.str r.name] ++ (r.parts.map (Part.map (liftOp k))).map Part.toV).length <= 1000 := by simp; omega
    have hl3 : ((d.map (Row.map (liftOp k))).map (fun r => V.tup (.str r.name :: r.parts.map Part.toV))).length <= 1000 := by simp; omega
    have hr2' : ob m2 mh.length = some (.list ((d.map (Row.map (liftOp k))).map (fun r => V.tup (.str r.name :: r.parts.map Part.toV)))) := hr2
    simp_all only [hty, hl3]
    have K3 := Kp.put (.list ((d.map (Row.map (liftOp k))).map (fun r => V.tup (.str r.name :: r.parts.map Part.toV)) ++ [.tup (.str r.name :: (r.parts.map (Part.map (liftOp k))).map Part.toV)])) hr2' (fun q => by simp)
    refine ⟨_, _, _, rfl, ?_, (K.step0 K2).step K3 fun j hj => .inr (by rw [List.mem_singleton.mp hj]; exact Nat.le_refl _), K3.at (K2.at hst (by simp)) (by simp; omega)⟩
    rw [ob_put_self hr2']
    simp [Row.name_map, Row.parts_map, Row.toV]
  . rintro loc m ⟨w3, w4, w5, rfl, hr, K, hst⟩
    exact hq m K hr
end Mini.L2
namespace Mini.L2
open Mini
theorem given_ok {mh : MH} {I st ar : Nat} {lim : Int} {rows : List Row} {Q : V × MH -> Prop} (hI : mh[I]? = some (.list (rows.map Row.toV), st)) (hT : TabOk mh) (ok : RowsOk rows ar) (fit : Fits rows ar lim)
    (hq : ∀ rl m, ob m rl = some (.list ((realP rows ar).map Row.toV)) -> mh.length <= rl -> Kp [0] mh m -> TabOk m -> Q (.ref rl, m)) : W (g_law_given [.ref 3, .ref I, .int ar, .int lim] mh) Q := by
  obtain ⟨x, e, q⟩ := alloc_ok hI hT ok fit hq
  refine ⟨x, ?_, q⟩
  unfold g_law_given gCatch
  rw [if_pos (show ([.ref 3, .ref I, .int ar, .int lim] : List V).length = 4 from rfl)]
  show (match g_allocate [.ref 3, .ref I, .int ar, .int lim] mh with | some x => some x | none => _) = some x
  rw [e]
theorem given_bad {mh : MH} {I st ar N : Nat} {lim : Int} {rows : List Row} {Q : V × MH -> Prop} (hI : mh[I]? = some (.list (rows.map Row.toV), st)) (hT : TabOk mh) (hS : Sym N mh) (hN : N <= 700) (ok : RowsOk rows ar) (fit : ¬ Fits rows ar lim)
    (hq : ∀ m, Sym (N + 3) m -> Kp [0, 4, 5, 6, 7] mh m -> TabOk m -> Q (.none, m)) : W (g_law_given [.ref 3, .ref I, .int ar, .int lim] mh) Q := by
  have h := alloc_raise (Q := fun p => Q (.none, noteO p.2 p.1)) hI hT ok fit fun m K T => by
    refine rep_any (hS.kp K (by simp)) hN fun a f j m2 S2 K2 hj hj0 => ?_
    refine ⟨j, rfl, _, hj, ?_⟩
    have hj2 := ob_put_self (o := .exc 51 [("ball", ballV f a)] true) hj
    have KA := Kp.put (.exc 51 [("ball", ballV f a)] true) hj (fun q => by simp)
    have jn : 7 < j := by
      obtain ⟨h3, ts, ka, fs, kf, h4, h5, h6, h7, r⟩ := hS.kp K (by simp)
      have := ob_lt h7; omega
    have mm : mh.length <= j := Nat.le_trans K.1 hj0
    have K02 : Kp [0, 4, 5, 6, 7] mh m2 := ((Kp.refl _ _).step K (by simp)).step K2 (by simp)
    have j7 : ∀ i ∈ [3, 4, 5, 6, 7], i ∉ [j] := fun i hi z => by
      simp only [List.mem_cons, List.not_mem_nil, or_false] at hi z; omega
    have T2 := T.kp K2 (by simp)
    have z0 : (0 : Nat) ∉ [j] := by simp; omega
    have S3 := S2.kp KA j7
    have T3 := T2.kp KA z0
    have K3 : Kp [0, 4, 5, 6, 7] mh (putO m2 j (.exc 51 [("ball", ballV f a)] true)) := K02.step KA fun i hi => .inr (by rw [List.mem_singleton.mp hi]; exact mm)
    have KB := Kp.put (.exc 51 [("ball", ballV f a)] true) hj2 (fun q => by simp)
    have hn : noteO (putO m2 j (.exc 51 [("ball", ballV f a)] true)) j = putO (putO m2 j (.exc 51 [("ball", ballV f a)] true)) j (.exc 51 [("ball", ballV f a)] true) := by
      unfold noteO; rw [hj2]
    simp only
    rw [hn]
    exact hq _ (S3.kp KB j7) (K3.step KB fun i hi => .inr (by rw [List.mem_singleton.mp hi]; exact mm)) (T3.kp KB z0)
  obtain ⟨⟨j, m⟩, e, q⟩ := h
  refine ⟨_, ?_, q⟩
  have en := alloc_none hI hT ok fit
  unfold g_law_given gCatch
  rw [if_pos (show ([.ref 3, .ref I, .int ar, .int lim] : List V).length = 4 from rfl)]
  show (match g_allocate [.ref 3, .ref I, .int ar, .int lim] mh with | some x => some x | none => (match gx_allocate [.ref 3, .ref I, .int ar, .int lim] mh with | some (j, mh₂) => some (V.none, noteO mh₂ j) | none => none)) = _
  rw [en]
  simp only [e]
theorem Part.toV_pl (p : Part) : V.pl 6 p.toV = true := by cases p <;> rfl
theorem toV_pl (r : Row) : r.toV.pl 7 = true := V.pl_tup (n := 6) fun x hx => by
  rcases List.mem_cons.mp hx with rfl | hx
  . rfl
  . obtain ⟨p, _, rfl⟩ := List.mem_map.mp hx; exact p.toV_pl
theorem beqs_rows (rows : List Row) : V.beqs (rows.map Row.toV) (rows.map Row.toV) = true := V.beqs_self fun x hx => by
  obtain ⟨r, _, rfl⟩ := List.mem_map.mp hx; exact V.beq_self 7 _ (toV_pl r)
theorem pl_rows (rows : List Row) : (rows.map Row.toV).all (V.pl 7) = true := List.all_eq_true.mpr fun v hv => by
  obtain ⟨r, _, rfl⟩ := List.mem_map.mp hv; exact toV_pl r
theorem eq_rows {i j : Nat} {rows : List Row} {m : MH} (hi : ob m i = some (.list (rows.map Row.toV))) (hj : ob m j = some (.list (rows.map Row.toV))) (Q) : W (gEq (.ref i) (.ref j) m) Q ↔ Q (.bool true, m) := by
  have : gEq (.ref i) (.ref j) m = some (.bool true, m) := by
    rw [gEq_of (asD_list hi (pl_rows rows)) (asD_list hj (pl_rows rows)), show D.beq (.l _) (.l _) = true from beqs_rows rows]
  rw [this]; exact W_some _ _
theorem eq_none (m : MH) (Q) : W (gEq .none .none m) Q ↔ Q (.bool true, m) := by
  have : gEq .none .none m = some (.bool true, m) := rfl
  rw [this]; exact W_some _ _
theorem isNone_ref (i : Nat) (m : MH) (Q) : W (gIsNone (.ref i) .none m) Q ↔ Q (.bool false, m) := by
  simp only [gIsNone]; exact W_some _ _
theorem isNone_none (m : MH) (Q) : W (gIsNone .none .none m) Q ↔ Q (.bool true, m) := by
  simp only [gIsNone]; exact W_some _ _
structure RowsC (ar k : Nat) (rows : List Row) : Prop where
  rd : ∀ r ∈ rows, ∀ x ∈ r.roles, x.2.k = .a -> x.1 ≠ 2 -> 1 <= x.2.n /\ x.2.n <= ar
  tn : ∀ r ∈ rows, ∀ n, Part.o ⟨.t, n⟩ ∈ r.parts -> n < k
  nx : ∀ r ∈ rows, ∀ o, Part.o o ∈ r.parts -> o.k ≠ .x
  cl : ∃ l, rows = l ++ [Row.call]
noncomputable def lifted (k : Nat) (C : List Row) : List Row := C.map (Row.map (liftOp k))
theorem liftOp0 (o : Op) : liftOp 0 o = o := by
  obtain ⟨k, n⟩ := o
  cases k <;> simp [liftOp]
theorem lifted0 (C : List Row) : lifted 0 C = C := by
  unfold lifted
  have : ∀ r : Row, r.map (liftOp 0) = r := fun r => by cases r <;> simp [Row.map, liftOp0]
  rw [List.map_congr_left (g := id) (fun r _ => this r), List.map_id]
theorem RowsC.app {ar k : Nat} {A C : List Row} (hA : RowsC ar k A) (hC : RowsC 0 5 C) : RowsC ar (k + 5) (A ++ lifted k C) := by
  refine ⟨fun r hr x hx h1 h2 => ?_, fun r hr n hn => ?_, fun r hr o ho => ?_, ?_⟩
  . rcases List.mem_append.mp hr with h | h
    . exact hA.rd r h x hx h1 h2
    . obtain ⟨r0, h0, rfl⟩ := List.mem_map.mp h
      rw [Row.roles_map] at hx
      obtain ⟨y, hy, rfl⟩ := List.mem_map.mp hx
      obtain ⟨ro, ⟨yk, yn⟩⟩ := y
      cases yk <;> simp [liftOp] at h1 h2 ⊢
      have := hC.rd r0 h0 _ hy rfl h2
      simp at this; omega
  . rcases List.mem_append.mp hr with h | h
    . have := hA.tn r h n hn; omega
    . obtain ⟨r0, h0, rfl⟩ := List.mem_map.mp h
      rw [Row.parts_map] at hn
      obtain ⟨p, hp, e⟩ := List.mem_map.mp hn
      cases p with
      | i m => simp [Part.map] at e
      | o q =>
        obtain ⟨qk, qn⟩ := q
        cases qk <;> simp [Part.map, liftOp] at e
        have := hC.tn r0 h0 qn hp; omega
  . rcases List.mem_append.mp hr with h | h
    . exact hA.nx r h o ho
    . obtain ⟨r0, h0, rfl⟩ := List.mem_map.mp h
      rw [Row.parts_map] at ho
      obtain ⟨p, hp, e⟩ := List.mem_map.mp ho
      cases p with
      | i m => simp [Part.map] at e
      | o q =>
        have := hC.nx r0 h0 q hp
        simp only [Part.map, Part.o.injEq] at e
        subst e
        unfold liftOp
        split
        . simp
        . exact this
  . obtain ⟨l, e⟩ := hC.cl
    exact ⟨A ++ lifted k l, by rw [e]; simp [lifted, Row.map]⟩
end Mini.L2
namespace Mini.L2
open Mini
noncomputable def Math2 : Prop := ∀ (A C : List Row) (ar k : Nat), RowsC ar k A -> RowsC 0 5 C -> A.length <= 14 -> C.length <= 7 -> ar <= 3 -> realP (A ++ lifted k C) ar = realP A ar ++ realP C 0 /\ ∀ lim : Int, (Fits (A ++ lifted k C) ar lim ↔ Fits A ar lim /\ Fits C 0 lim)
theorem rowsC_ok {ar k : Nat} {rows : List Row} (h : RowsC ar k rows) (hb : ar + 2 * rows.length <= 63) : RowsOk rows ar := rowsOk_of h.rd hb
noncomputable def Due (whole : List Row) (ar : Nat) (lim : Int) (n : Nat) (m : MH) (v : V) : Prop :=
  (v = .none /\ 0 < n /\ ¬ Fits whole ar lim) \/ ∃ dI, v = .ref dI /\ ob m dI = some (.list ((realP whole ar).map Row.toV)) /\ (n = 0 \/ Fits whole ar lim) /\ 8 <= dI
theorem Due.kp {T : List Nat} {whole : List Row} {ar : Nat} {lim : Int} {n : Nat} {m m' : MH} {v : V} (h : Due whole ar lim n m v) (k : Kp T m m') (hT : ∀ j ∈ T, j < 8 \/ (∃ q, ob m j = some q /\ ∀ i, v = .ref i -> i ≠ j)) : Due whole ar lim n m' v := by
  rcases h with h | ⟨dI, h1, h2, h3, h4⟩
  . exact .inl h
  . refine .inr ⟨dI, h1, k.ob h2 fun z => ?_, h3, h4⟩
    rcases hT dI z with w | ⟨q, _, w⟩
    . omega
    . exact w dI h1 rfl
noncomputable def q_law : QS r_law := by
  delta r_law r_law_1 r_law_2 r_law_3 r_law_4 r_law_5 r_law_6 r_law_7 r_law_8
  and_intros
inductive LPi (ar d1 M : Nat) (lim : Int) (k : Nat) (loc : Loc) (m : MH) : Prop
  | mk (w8 w9 w10 w11 : Option V) (dv : V) (whole : List Row) (e : loc = [none, some (.ref 2), some (.ref 3), some (.int ((2 + d1 : Nat) : Int)), some (.int ar), some (.int lim), some (.ref M), some dv, w8, w9, w10, w11]) (hw : ob m M = some (.list (whole.map Row.toV))) (due : Due whole ar lim k m dv) (z : k = 0 -> whole = []) (R : 0 < k -> RowsC ar (5 * k) whole) (len : whole.length <= 7 * k) (dn : dv ≠ .ref M) (T : TapeOk m) (S : Sym (100 + 3 * k) m) (B : TabOk m)
theorem plain_of_math (math : Math2) (nn : List Int) (hn : nn.length <= 60) : W (r_law (loc0 12) (mh0 nn)) fun x => ∃ mh' kk, x = .ret (.bool true) mh' /\ ob mh' 0 = some (.tab 284 kk) := by
  have l0 : (loc0 12) = [none, some (.ref 2), none, none, none, none, none, none, none, none, none, none] := rfl
  rw [l0]
  have T0 : TapeOk (mh0 nn) := ⟨nn, 0, 0, rfl, hn, rfl, by omega, by omega⟩
  have B0 : TabOk (mh0 nn) := .inl rfl
  refine QS.go q_law ?_
  refine W_gNew (names_spec rfl fun m1 S1 K1 => And.intro rfl ?_)
  refine digit_spec (T0.kp K1 (by simp) (by simp)) (by decide) (by decide) fun d1 m2 h1 T2 K2 => ?_
  refine digit_spec T2 (by decide) (by decide) fun ar m3 har T3 K3 => ?_
  refine digit_spec T3 (by decide) (by decide) fun d3 m4 h3 T4 K4 => ?_
  have B4 : TabOk m4 := (((B0.kp K1 (by simp)).kp K2 (by simp)).kp K3 (by simp)).kp K4 (by simp)
  have S4 : Sym 100 m4 := ((S1.kp K2 (by simp)).kp K3 (by simp)).kp K4 (by simp)
  have l8 : 8 <= m4.length := by
    obtain ⟨h3, ts, ka, fs, kf, h4, h5, h6, h7, r⟩ := S4
    exact ob_lt h7
  have sm : small (2 + (d1 : Int)) = true := by unfold small; simp; omega
  refine And.intro sm (e_W ?_)
  clear sm
  rw [len_mk]
  generalize hlim : (9 : Int) - (d3 : Int) = lim
  rw [show (2 : Int) + (d1 : Int) = ((2 + d1 : Nat) : Int) from by omega, rangeV_eq]
  have Ka := Kp.mk m4 (.list [])
  have Kb := Kp.mk (mkO m4 (.list [])) (.list [])
  have K6 : Kp [] m4 (mkO (mkO m4 (.list [])) (.list [])) := Ka.step0 Kb
  have w0 : ob (mkO (mkO m4 (.list [])) (.list [])) m4.length = some (.list (([] : List Row).map Row.toV)) := ob_mk _ (ob_mk_new m4 _)
  have e0 : ob (mkO (mkO m4 (.list [])) (.list [])) (m4.length + 1) = some (.list ((realP [] ar).map Row.toV)) := by have := ob_mk_new (mkO m4 (.list [])) (.list []); rw [len_mk] at this; exact this
  refine W_loop (fun (i : Nat) => V.int i) (I := fun d => LPi ar d1 m4.length lim d.length) ⟨none, none, none, none, .ref (m4.length + 1), [], rfl, w0, .inr ⟨_, rfl, e0, .inl rfl, by omega⟩, fun _ => rfl, fun h => by simp at h, by simp, by simp, T4.kp K6 (by simp) (by simp), S4.kp K6 (by simp), B4.kp K6 (by simp)⟩ (fun _ _ _ _ => rfl) ?_ ?_
  . rintro d i r loc m e ⟨w8, w9, w10, w11, dv, whole, rfl, hw, hdue, hz, hR, hlen, hdv, hT, hS, hB⟩
    obtain ⟨hd, hi⟩ := range_split e
    have dl : d.length = i := by rw [hd]; simp
    rw [dl] at hdue hz hR hlen hS
    have dl1 : (d ++ [i]).length = i + 1 := by simp [dl]
    rw [dl1]
    have wm := ob_lt hw
    have hty : ∀ vs, (MObj.list vs).ty = some "list" := fun _ => rfl
    refine ⟨_, rfl, ?_⟩
    have lap : ∀ (tk : Nat) (Q' : SR -> Prop), (tk = if i = 0 then ar else 0) -> (∀ l m', LPi ar d1 m4.length lim (i + 1) l m' -> Q' (.next l m')) ->
        W ((rSeq (rSet 10 (rCallN (rCons (rLoc 1) (rCons (rLoc 9) rNil)) g_law_chunk)) (rSeq (rExpr (rBMeth "list" (rLoc 6) (rCons (rCallN (rCons (rLoc 10) (rCons (rOp2 (rConst (.int 5)) (rLoc 8) gMul) rNil)) g_law_lifted) rNil) gExtend)) (rSeq (rSet 11 (rCallN (rCons (rLoc 2) (rCons (rLoc 10) (rCons (rLoc 9) (rCons (rLoc 5) rNil)))) g_law_given)) (rSeq (rSet 7 (rIfE (rTOr (rT (rOp2 (rLoc 7) (rConst .none) gIsNone)) (rTOr (rT (rOp2 (rLoc 11) (rConst .none) gIsNone)) (rTC false))) (rConst .none) (rOp2 (rLoc 7) (rLoc 11) gCat))) rSkip)))) [none, some (.ref 2), some (.ref 3), some (.int ((2 + d1 : Nat) : Int)), some (.int ar), some (.int lim), some (.ref m4.length), some dv, some (.int i), some (.int tk), w10, w11] m) Q' := by
      intro tk Q' htk hQ
      have t0 : tk <= 3 := by rw [htk]; split <;> omega
      refine QS.go (by and_intros) ?_
      refine chunk_spec hT (by omega) (by omega) fun c rows m5 hc hcl hcR hcm T5 K5 => ?_
      have hw5 := K5.ob hw (by simp; omega)
      have hmul : -1000 < (5 : Int) /\ (5 : Int) < 1000 := by omega
      have h5 : (5 : Int) * (i : Int) = ((5 * i : Nat) : Int) := by omega
      simp_all only [hty, hmul]
      show W (g_law_lifted [.ref c, .int ((5 : Int) * (i : Int))] m5) _
      rw [h5]
      refine lifted_spec hc (by simp; omega) fun m6 K6 h6 => ?_
      have hw6 := K6.ob hw5 (by simp)
      have hc6 := K6.ob hc (by simp)
      have cl5 := ob_lt hc
      have l1 : (whole.map Row.toV).length <= 1000 := by simp; omega
      have l2 : (((rows ++ [Row.call]).map (Row.map (liftOp (5 * i)))).map Row.toV).length <= 1000 := by simp; omega
      have l12 : (whole.map Row.toV).length <= 1000 /\ (((rows ++ [Row.call]).map (Row.map (liftOp (5 * i)))).map Row.toV).length <= 1000 := ⟨l1, l2⟩
      simp_all only [l12]
      have K7 := Kp.put (.list (whole.map Row.toV ++ ((rows ++ [Row.call]).map (Row.map (liftOp (5 * i)))).map Row.toV)) hw6 (fun q => by simp)
      have hw7 : ob (putO m6 m4.length (.list (whole.map Row.toV ++ ((rows ++ [Row.call]).map (Row.map (liftOp (5 * i)))).map Row.toV))) m4.length = some (.list ((whole ++ lifted (5 * i) (rows ++ [Row.call])).map Row.toV)) := by
        rw [ob_put_self hw6]
        unfold lifted
        rw [List.map_append (l₁ := whole)]
      have cw : c ≠ m4.length := by omega
      have hc7 := K7.ob hc6 (by simpa using cw)
      obtain ⟨st7, hst7⟩ := ob_some hc7
      have n17 : ∀ j ∈ [3, 4, 5, 6, 7], j ∉ [m4.length] := fun j hj z => by simp at hj z; omega
      have S7 : Sym (100 + 3 * i) (putO m6 m4.length (.list (whole.map Row.toV ++ ((rows ++ [Row.call]).map (Row.map (liftOp (5 * i)))).map Row.toV))) := ((hS.kp K5 (by simp)).kp K6 (by simp)).kp K7 n17
      have B7 := ((hB.kp K5 (by simp)).kp K6 (by simp)).kp K7 (by simp; omega)
      have T7 := (T5.kp K6 (by simp) (by simp)).kp K7 (by simp; omega) (by simp; omega)
      have due7 : Due whole ar lim i (putO m6 m4.length (.list (whole.map Row.toV ++ ((rows ++ [Row.call]).map (Row.map (liftOp (5 * i)))).map Row.toV))) dv := by
        have a := hdue.kp K5 fun j hj => .inl (by simp at hj; omega)
        have b := a.kp K6 fun j hj => (nomatch hj)
        refine b.kp K7 fun j hj => ?_
        have hj' := List.mem_singleton.mp hj
        subst hj'
        exact .inr ⟨_, hw6, fun i hi z => hdv (by rw [hi, z])⟩
      have CC : RowsC tk 5 (rows ++ [Row.call]) := by
        have callC : RowC tk Row.call := ⟨fun x hx => by simp [Row.roles] at hx, fun n hn => by simp [Row.parts] at hn, fun o ho => by simp [Row.parts] at ho⟩
        have all : ∀ r ∈ rows ++ [Row.call], RowC tk r := fun r hr => by
          rcases List.mem_append.mp hr with h | h
          . exact hcR r h
          . rw [List.mem_singleton.mp h]; exact callC
        exact ⟨fun r hr => (all r hr).rd, fun r hr => (all r hr).tn, fun r hr => (all r hr).nx, ⟨rows, rfl⟩⟩
      have clen : (rows ++ [Row.call]).length <= 7 := by simp; omega
      generalize hC : rows ++ [Row.call] = C at *
      have two : realP (whole ++ lifted (5 * i) C) ar = realP whole ar ++ realP C tk /\ (Fits (whole ++ lifted (5 * i) C) ar lim ↔ (i = 0 \/ Fits whole ar lim) /\ Fits C tk lim) /\ RowsC ar (5 * (i + 1)) (whole ++ lifted (5 * i) C) := by
        by_cases hi0 : i = 0
        . rw [if_pos hi0] at htk
          subst htk
          have := hz hi0
          subst this
          rw [hi0, Nat.mul_zero, lifted0]
          exact ⟨rfl, ⟨fun h => ⟨.inl rfl, h⟩, fun h => h.2⟩, CC⟩
        . rw [if_neg hi0] at htk
          subst htk
          have RA := hR (by omega)
          obtain ⟨a, b⟩ := math whole C ar (5 * i) RA CC (by omega) clen (by omega)
          refine ⟨a, ⟨fun h => ?_, fun h => (b lim).mpr ⟨h.1.resolve_left hi0, h.2⟩⟩, RA.app CC⟩
          have := (b lim).mp h
          exact ⟨.inr this.1, this.2⟩
      obtain ⟨two1, two2, two3⟩ := two
      have okC : RowsOk C tk := rowsC_ok CC (by omega)
      have wlen : (whole ++ lifted (5 * i) C).length <= 7 * (i + 1) := by simp [lifted]; omega
      have rlen : ∀ R a, (realP R a).length = R.length := fun R a => by simp [realP]
      by_cases fitC : Fits C tk lim
      . refine given_ok hst7 B7 okC fitC fun gl m8 hg hgl K8 B8 => ?_
        have n0 : ∀ {j o}, ob (putO m6 m4.length (.list (whole.map Row.toV ++ (C.map (Row.map (liftOp (5 * i)))).map Row.toV))) j = some o -> (∀ P k, o ≠ .tab P k) -> j ∉ [0] := fun h hne z => by
          rw [List.mem_singleton.mp z] at h
          rcases B7 with t | ⟨j, t, _⟩ <;> (rw [t] at h; cases h; exact hne _ _ rfl)
        have hw8 := K8.ob hw7 (n0 hw7 (fun P k => by simp))
        have S8 := S7.kp K8 (by simp)
        have T8 := T7.kp K8 (by simp) (by simp)
        have due8 := due7.kp K8 fun j hj => .inl (by simp at hj; omega)
        rcases due8 with ⟨rfl, hn0, hnf⟩ | ⟨dI, rfl, hd1, hd2, hd3⟩
        . simp_all only [isNone_none]
          refine hQ _ _ ⟨_, _, _, _, .none, _, rfl, hw8, .inl ⟨rfl, by omega, fun h => ?_⟩, by simp, fun _ => two3, wlen, by simp, T8, S8.mono (by omega), B8⟩
          exact ((two2.mp h).1.resolve_left (by omega) |> hnf)
        . have lc : ((realP whole ar).map Row.toV).length + ((realP C tk).map Row.toV).length <= 1000 := by
            rw [List.length_map, List.length_map, rlen, rlen]; omega
          simp_all only [isNone_ref, lc]
          have K9 := Kp.mk m8 (.list ((realP whole ar).map Row.toV ++ (realP C tk).map Row.toV))
          have m8l : 8 <= m8.length := by have := K8.1; rw [put_length] at this; have := K6.1; have := K5.1; omega
          refine hQ _ _ ⟨_, _, _, _, .ref m8.length, _, rfl, ob_mk _ hw8, .inr ⟨_, rfl, ?_, .inr ?_, m8l⟩, by simp, fun _ => two3, wlen, ?_, T8.kp K9 (by simp) (by simp), (S8.mono (by omega)).kp K9 (by simp), B8.kp K9 (by simp)⟩
          . rw [ob_mk_new, two1, List.map_append]
          . exact two2.mpr ⟨hd2, fitC⟩
          . have := ob_lt hw8; simp; omega
      . refine given_bad hst7 B7 S7 (by omega) okC fitC fun m8 S8 K8 B8 => ?_
        have hw8 := K8.ob hw7 (fun z => by simp only [List.mem_cons, List.not_mem_nil, or_false] at z; omega)
        have T8 := T7.kp K8 (by simp) (by simp)
        have fin : ∀ (w8 w9 w10 w11 : Option V), LPi ar d1 m4.length lim (i + 1) [none, some (.ref 2), some (.ref 3), some (.int ((2 + d1 : Nat) : Int)), some (.int ar), some (.int lim), some (.ref m4.length), some .none, w8, w9, w10, w11] m8 := fun w8 w9 w10 w11 =>
          ⟨_, _, _, _, .none, _, rfl, hw8, .inl ⟨rfl, by omega, fun h => fitC (two2.mp h).2⟩, by simp, fun _ => two3, wlen, by simp, T8, S8.mono (by omega), B8⟩
        rcases due7 with ⟨rfl, _⟩ | ⟨dI, rfl, _⟩
        . simp_all only [isNone_none]
          exact hQ _ _ (fin _ _ _ _)
        . simp_all only [isNone_ref, isNone_none]
          exact hQ _ _ (fin _ _ _ _)
    generalize (rSeq (rSet 10 (rCallN (rCons (rLoc 1) (rCons (rLoc 9) rNil)) g_law_chunk)) (rSeq (rExpr (rBMeth "list" (rLoc 6) (rCons (rCallN (rCons (rLoc 10) (rCons (rOp2 (rConst (.int 5)) (rLoc 8) gMul) rNil)) g_law_lifted) rNil) gExtend)) (rSeq (rSet 11 (rCallN (rCons (rLoc 2) (rCons (rLoc 10) (rCons (rLoc 9) (rCons (rLoc 5) rNil)))) g_law_given)) (rSeq (rSet 7 (rIfE (rTOr (rT (rOp2 (rLoc 7) (rConst .none) gIsNone)) (rTOr (rT (rOp2 (rLoc 11) (rConst .none) gIsNone)) (rTC false))) (rConst .none) (rOp2 (rLoc 7) (rLoc 11) gCat))) rSkip)))) = body at lap ⊢
    refine QS.go (QS.seq (by and_intros) QS.any) ?_
    by_cases hi0 : i = 0
    . have b0 : ((i : Int) == 0) = true := by simp [hi0]
      simp_all only []
      exact lap ar _ (by rw [if_pos hi0]) fun l m' h => h
    . have b0 : ((i : Int) == 0) = false := by simp; omega
      simp_all only []
      exact lap 0 _ (by rw [if_neg hi0]) fun l m' h => h
  . rintro loc m ⟨w8, w9, w10, w11, dv, whole, rfl, hw, hdue, hz, hR, hlen, hdv, hT, hS, hB⟩
    rw [List.length_range] at *
    obtain ⟨st, hst⟩ := ob_some hw
    have RA := hR (by omega)
    have ok : RowsOk whole ar := rowsC_ok RA (by omega)
    have tab : ∀ {m : MH}, TabOk m -> ∃ kk, ob m 0 = some (.tab 284 kk) := fun h => by
      rcases h with t | ⟨_, t, _⟩ <;> exact ⟨_, t⟩
    by_cases fit : Fits whole ar lim
    . refine given_ok hst hB ok fit fun gl m8 hg hgl K8 B8 => ?_
      have due8 := hdue.kp K8 fun j hj => .inl (by simp at hj; omega)
      rcases due8 with ⟨rfl, _, hnf⟩ | ⟨dI, rfl, hd1, hd2, hd3⟩
      . exact absurd fit hnf
      . simp_all only [(eq_rows hg hd1)]
        obtain ⟨kk, t⟩ := tab B8
        exact ⟨_, kk, rfl, t⟩
    . refine given_bad hst hB hS (by omega) ok fit fun m8 S8 K8 B8 => ?_
      rcases hdue with ⟨rfl, _, hnf⟩ | ⟨dI, rfl, hd1, hd2, hd3⟩
      . simp_all only [eq_none]
        obtain ⟨kk, t⟩ := tab B8
        exact ⟨_, kk, rfl, t⟩
      . exact absurd (hd2.resolve_left (by omega)) fit
end Mini.L2
namespace Mini.L2
open Mini
theorem ivRows_app : ∀ (a b : List Row) (t : Int) (s : Ist), ivRows (a ++ b) t s = ivRows b (t + a.length) (ivRows a t s)
  | [], b, t, s => by simp [ivRows]
  | r :: a, b, t, s => by
    simp only [List.cons_append, ivRows, ivRows_app a b]
    rw [show t + 1 + (a.length : Int) = t + ((r :: a).length : Int) from by simp; omega]
theorem getA_append {K β : Type} [DecidableEq K] (k : K) : ∀ (a b : List (K × β)), getA k (a ++ b) = match getA k a with | some v => some v | none => getA k b
  | [], b => rfl
  | (x, y) :: a, b => by
    simp only [List.cons_append, getA]
    by_cases h : x = k
    . simp [h]
    . simp only [h, if_false]; exact getA_append k a b
theorem getA_shift {β γ : Type} (K k : Int) (g : β -> γ) : ∀ (l : List (Int × β)), getA (k + K) (l.map fun p => (p.1 + K, g p.2)) = (getA k l).map g
  | [] => rfl
  | (x, y) :: l => by
    simp only [List.map_cons, getA]
    by_cases h : x = k
    . simp [h]
    . have : ¬ x + K = k + K := by omega
      simp only [h, this, if_false]; exact getA_shift K k g l
section
variable (n K F : Nat)
noncomputable def sh (o : Occ) : Occ := { kd := o.kd, num := if o.kd = "temp" then o.num + K else o.num, st := o.st + n, en := o.en + n }
variable {n K F}
theorem sh_over (a b : Occ) : (sh n K a).over (sh n K b) = a.over b := by
  unfold Occ.over sh
  simp only
  congr 1 <;> (apply decide_eq_decide.mpr; omega)
theorem setEn_sh (X : List Occ) (i : Nat) (e : Int) : setEn (X.map (sh n K)) i (e + n) = (setEn X i e).map (sh n K) := by
  unfold setEn
  rw [List.getElem?_map]
  cases h : X[i]? with
  | none => rfl
  | some o => simp only [Option.map_some, List.map_set]; rfl
theorem setEn_app (Y X : List Occ) (i : Nat) (e : Int) : setEn (Y ++ X) (i + Y.length) e = Y ++ setEn X i e := by
  unfold setEn
  rw [List.getElem?_append_right (by omega), Nat.add_sub_cancel]
  cases h : X[i]? with
  | none => rfl
  | some o => simp only; rw [List.set_append_right _ _ (by omega), Nat.add_sub_cancel]
structure Sim (sA s s' : Ist) : Prop where
  f : s'.found = sA.found ++ s.found.map (sh n K)
  o : s'.out = s.out.map fun p => (p.1, p.2 + sA.found.length)
  t : s'.tmp = sA.tmp ++ s.tmp.map fun p => (p.1 + (K : Int), p.2 + sA.found.length)
  i : s.inc = []
theorem Sim.role {sA s s' : Ist} (hk : ∀ p ∈ sA.tmp, p.1 < (K : Int)) (S : Sim (n := n) (K := K) sA s s') (t : Int) (x : Int × Op) (hx : x.2.k = .a -> x.1 = 2) : Sim (n := n) (K := K) sA (stepRole t s x) (stepRole (t + n) s' (x.1, liftOp K x.2)) := by
  obtain ⟨ro, ⟨k, m⟩⟩ := x
  have len : s'.found.length = s.found.length + sA.found.length := by rw [S.f, List.length_append, List.length_map]; omega
  cases k with
  | t =>
    show Sim sA (stepRole t s (ro, ⟨.t, m⟩)) (stepRole (t + n) s' (ro, ⟨.t, m + K⟩))
    have hA : getA ((m + K : Nat) : Int) sA.tmp = none := by
      cases h : getA ((m + K : Nat) : Int) sA.tmp with
      | none => rfl
      | some v => have := hk _ (mem_of_getA h); simp only at this; omega
    have hg : getA ((m + K : Nat) : Int) s'.tmp = (getA (m : Int) s.tmp).map (· + sA.found.length) := by
      rw [S.t, getA_append, hA]
      simp only
      rw [show ((m + K : Nat) : Int) = (m : Int) + (K : Int) from by omega]
      exact getA_shift (K : Int) (m : Int) (· + sA.found.length) s.tmp
    cases h : getA (m : Int) s.tmp with
    | none =>
      rw [h] at hg
      have hg : getA ((m + K : Nat) : Int) s'.tmp = none := hg
      rw [sr_tn h, sr_tn hg]
      refine ⟨?_, S.o, ?_, S.i⟩
      . show s'.found ++ _ = _
        rw [S.f, List.map_append, List.append_assoc]
        congr 2
        simp [sh]; omega
      . show putA _ s'.found.length s'.tmp = sA.tmp ++ (putA _ s.found.length s.tmp).map _
        rw [putA_app hg, putA_app h, List.map_append, S.t, List.append_assoc, len]
        simp
    | some i =>
      rw [h] at hg
      have hg : getA ((m + K : Nat) : Int) s'.tmp = some (i + sA.found.length) := hg
      have hf : s'.found[i + sA.found.length]? = (s.found[i]?).map (sh n K) := by
        rw [S.f, List.getElem?_append_right (by omega), Nat.add_sub_cancel, List.getElem?_map]
      cases ho : s.found[i]? with
      | none =>
        rw [ho] at hf
        have e1 : stepRole t s (ro, ⟨.t, m⟩) = s := by unfold stepRole; simp [h, ho]
        have e2 : stepRole (t + n) s' (ro, ⟨.t, m + K⟩) = s' := by
          unfold stepRole
          have hf : s'.found[i + sA.found.length]? = none := hf
          simp only [if_true, hg, hf]
        rw [e1, e2]; exact S
      | some o =>
        rw [ho] at hf
        rw [sr_ts h ho, sr_ts hg hf]
        have : (sh n K o).en < t + n ↔ o.en < t := by unfold sh; simp only; omega
        by_cases hlt : o.en < t
        . rw [if_pos hlt, if_pos (this.mpr hlt)]
          refine ⟨?_, S.o, S.t, S.i⟩
          show setEn s'.found (i + sA.found.length) (t + n) = sA.found ++ (setEn s.found i t).map (sh n K)
          rw [S.f, setEn_app, setEn_sh]
        . rw [if_neg hlt, if_neg fun z => hlt (this.mp z)]; exact S
  | a =>
    have h2 := hx rfl
    simp only at h2
    subst h2
    show Sim sA (stepRole t s (2, ⟨.a, m⟩)) (stepRole (t + n) s' (2, ⟨.a, m⟩))
    rw [sr_aw, sr_aw]
    refine ⟨?_, ?_, S.t, S.i⟩
    . show s'.found ++ _ = _
      rw [S.f, List.map_append, List.append_assoc]
      congr 2
      simp [sh]; omega
    . show putA _ s'.found.length s'.out = (putA _ s.found.length s.out).map _
      rw [S.o, len]
      exact putA_map (· + sA.found.length) (m : Int) s.found.length s.out
  | y =>
    show Sim sA (stepRole t s (ro, ⟨.y, m⟩)) (stepRole (t + n) s' (ro, ⟨.y, m⟩))
    rw [sr_y, sr_y]; exact S
  | x =>
    show Sim sA (stepRole t s (ro, ⟨.x, m⟩)) (stepRole (t + n) s' (ro, ⟨.x, m⟩))
    rw [sr_x, sr_x]; exact S
theorem Sim.row {sA s s' : Ist} (hk : ∀ p ∈ sA.tmp, p.1 < (K : Int)) (S : Sim (n := n) (K := K) sA s s') (t : Int) (r : Row) (hr : ∀ x ∈ r.roles, x.2.k = .a -> x.1 = 2) : Sim (n := n) (K := K) sA (stepRow t s r) (stepRow (t + n) s' (r.map (liftOp K))) := by
  have fold : ∀ (l : List (Int × Op)) (s s' : Ist), (∀ x ∈ l, x.2.k = .a -> x.1 = 2) -> Sim (n := n) (K := K) sA s s' -> Sim (n := n) (K := K) sA (l.foldl (stepRole t) s) ((l.map fun x => (x.1, liftOp K x.2)).foldl (stepRole (t + n)) s') := by
    intro l
    induction l with
    | nil => intro s s' _ S; exact S
    | cons x l ih => intro s s' h S; exact ih _ _ (fun y hy => h y (.tail _ hy)) (S.role hk t x (h x (.head _)))
  have ends : (r.map (liftOp K)).ends = r.ends := by cases r <;> rfl
  unfold stepRow
  rw [ends, Row.roles_map]
  refine fold r.roles _ _ hr ?_
  cases r.ends with
  | false => exact S
  | true =>
    rw [if_pos rfl, if_pos rfl]
    unfold stepEnds
    refine ⟨?_, rfl, S.t, S.i⟩
    have : ∀ (l : List (Int × Nat)) (X : List Occ), (l.map fun p => (p.1, p.2 + sA.found.length)).foldl (fun f p => setEn f p.2 (t + n)) (sA.found ++ X.map (sh n K)) = sA.found ++ (l.foldl (fun f p => setEn f p.2 t) X).map (sh n K) := by
      intro l
      induction l with
      | nil => intro X; rfl
      | cons p l ih => intro X; simp only [List.map_cons, List.foldl_cons]; rw [setEn_app, setEn_sh, ih]
    show s'.out.foldl _ s'.found = _
    rw [S.o, S.f]
    exact this s.out s.found
theorem Sim.rows {sA : Ist} (hk : ∀ p ∈ sA.tmp, p.1 < (K : Int)) : ∀ (C : List Row) (t : Int) (s s' : Ist), (∀ r ∈ C, ∀ x ∈ r.roles, x.2.k = .a -> x.1 = 2) -> Sim (n := n) (K := K) sA s s' -> Sim (n := n) (K := K) sA (ivRows C t s) (ivRows (lifted K C) (t + n) s')
  | [], _, _, _, _, S => S
  | r :: C, t, s, s', h, S => by
    show Sim sA (ivRows C (t + 1) (stepRow t s r)) (ivRows (lifted K C) (t + n + 1) (stepRow (t + n) s' (r.map (liftOp K))))
    rw [show t + (n : Int) + 1 = t + 1 + n from by omega]
    exact Sim.rows hk C _ _ _ (fun r hr => h r (.tail _ hr)) (S.row hk t r (h r (.head _)))
end
theorem out_nil (l : List Row) (t : Int) (s : Ist) : (ivRows (l ++ [Row.call]) t s).out = [] := by
  rw [ivRows_snoc]; rfl
theorem en_le : ∀ (rs : List Row) (t : Int) (s : Ist), (∀ o ∈ s.found, o.en <= t) -> ∀ o ∈ (ivRows rs t s).found, o.en <= t + rs.length
  | [], t, s, h => by simpa [ivRows] using h
  | r :: rs, t, s, h => fun o ho => by
    have set : ∀ (l : List Occ) (i : Nat), (∀ o ∈ l, o.en <= t + 1) -> ∀ o ∈ setEn l i t, o.en <= t + 1 := fun l i h o ho => by
      unfold setEn at ho
      split at ho
      . rcases List.mem_or_eq_of_mem_set ho with z | z
        . exact h o z
        . rw [z]; show t <= t + 1; omega
      . exact h o ho
    have role : ∀ (s : Ist) (x : Int × Op), (∀ o ∈ s.found, o.en <= t + 1) -> ∀ o ∈ (stepRole t s x).found, o.en <= t + 1 := fun s x h o ho => by
      unfold stepRole at ho
      repeat' split at ho
      all_goals first
        | exact h o ho
        | exact set _ _ h o ho
        | (rcases List.mem_append.mp ho with z | z
           . exact h o z
           . rw [List.mem_singleton.mp z]; exact Int.le_refl _)
    have roles : ∀ (l : List (Int × Op)) (s : Ist), (∀ o ∈ s.found, o.en <= t + 1) -> ∀ o ∈ (l.foldl (stepRole t) s).found, o.en <= t + 1 := by
      intro l
      induction l with
      | nil => intro s h; exact h
      | cons x l ih => intro s h; exact ih _ (role s x h)
    have row : ∀ o ∈ (stepRow t s r).found, o.en <= t + 1 := by
      unfold stepRow
      refine roles _ _ ?_
      have h1 : ∀ o ∈ s.found, o.en <= t + 1 := fun o ho => by have := h o ho; omega
      split
      . unfold stepEnds
        have : ∀ (l : List (Int × Nat)) (f : List Occ), (∀ o ∈ f, o.en <= t + 1) -> ∀ o ∈ l.foldl (fun f p => setEn f p.2 t) f, o.en <= t + 1 := by
          intro l
          induction l with
          | nil => intro f h; exact h
          | cons p l ih => intro f h; exact ih _ (set f p.2 h)
        exact this s.out s.found h1
      . exact h1
    have := en_le rs (t + 1) (stepRow t s r) row o ho
    simp only [List.length_cons]; omega
theorem st_ge : ∀ (rs : List Row) (t : Int) (s : Ist), 0 <= t -> (∀ o ∈ s.found, 0 <= o.st) -> ∀ o ∈ (ivRows rs t s).found, 0 <= o.st
  | [], t, s, _, h => h
  | r :: rs, t, s, ht, h => by
    have set : ∀ (l : List Occ) (i : Nat), (∀ o ∈ l, 0 <= o.st) -> ∀ o ∈ setEn l i t, 0 <= o.st := fun l i h o ho => by
      unfold setEn at ho
      split at ho
      . rename_i o0 h0
        rcases List.mem_or_eq_of_mem_set ho with z | z
        . exact h o z
        . rw [z]; exact h o0 (List.mem_of_getElem? h0)
      . exact h o ho
    have role : ∀ (s : Ist) (x : Int × Op), (∀ o ∈ s.found, 0 <= o.st) -> ∀ o ∈ (stepRole t s x).found, 0 <= o.st := fun s x h o ho => by
      unfold stepRole at ho
      repeat' split at ho
      all_goals first
        | exact h o ho
        | exact set _ _ h o ho
        | (rcases List.mem_append.mp ho with z | z
           . exact h o z
           . rw [List.mem_singleton.mp z]; exact ht)
    have roles : ∀ (l : List (Int × Op)) (s : Ist), (∀ o ∈ s.found, 0 <= o.st) -> ∀ o ∈ (l.foldl (stepRole t) s).found, 0 <= o.st := by
      intro l
      induction l with
      | nil => intro s h; exact h
      | cons x l ih => intro s h; exact ih _ (role s x h)
    refine st_ge rs (t + 1) _ (by omega) ?_
    unfold stepRow
    refine roles _ _ ?_
    split
    . unfold stepEnds
      have : ∀ (l : List (Int × Nat)) (f : List Occ), (∀ o ∈ f, 0 <= o.st) -> ∀ o ∈ l.foldl (fun f p => setEn f p.2 t) f, 0 <= o.st := by
        intro l
        induction l with
        | nil => intro f h; exact h
        | cons p l ih => intro f h; exact ih _ (set f p.2 h)
      exact this s.out s.found h
    . exact h
theorem tmp_lt {A : List Row} {ar k : Nat} (hA : RowsC ar k A) : ∀ p ∈ (ivRows A 0 (ivIn ar)).tmp, p.1 < (k : Int) := by
  have role : ∀ (t : Int) (s : Ist) (x : Int × Op), (x.2.k = .t -> x.2.n < k) -> (∀ p ∈ s.tmp, p.1 < (k : Int)) -> ∀ p ∈ (stepRole t s x).tmp, p.1 < (k : Int) := fun t s x hx h p hp => by
    obtain ⟨ro, ⟨kk, m⟩⟩ := x
    cases kk with
    | t =>
      have := hx rfl
      unfold stepRole at hp
      repeat' split at hp
      all_goals first
        | exact h p hp
        | (rcases putA_mem hp with z | z
           . exact h p z
           . rw [z]; simp only at this ⊢; omega)
    | a =>
      unfold stepRole at hp
      repeat' split at hp
      all_goals first
        | exact h p hp
        | exact absurd (‹_ = Kd.t› : Kd.a = Kd.t) (by decide)
    | y => rw [sr_y] at hp; exact h p hp
    | x => rw [sr_x] at hp; exact h p hp
  have rows : ∀ (rs : List Row) (t : Int) (s : Ist), (∀ r ∈ rs, ∀ n, Part.o ⟨.t, n⟩ ∈ r.parts -> n < k) -> (∀ p ∈ s.tmp, p.1 < (k : Int)) -> ∀ p ∈ (ivRows rs t s).tmp, p.1 < (k : Int) := by
    intro rs
    induction rs with
    | nil => intro t s _ h; exact h
    | cons r rs ih =>
      intro t s hr h
      refine ih _ _ (fun r h => hr r (.tail _ h)) ?_
      have fold : ∀ (l : List (Int × Op)) (s : Ist), (∀ x ∈ l, x.2.k = .t -> x.2.n < k) -> (∀ p ∈ s.tmp, p.1 < (k : Int)) -> ∀ p ∈ (l.foldl (stepRole t) s).tmp, p.1 < (k : Int) := by
        intro l
        induction l with
        | nil => intro s _ h; exact h
        | cons x l ih => intro s hl h; exact ih _ (fun y hy => hl y (.tail _ hy)) (role t s x (hl x (.head _)) h)
      unfold stepRow
      refine fold _ _ (fun x hx hk => ?_) ?_
      . have : Part.o x.2 ∈ r.parts := by
          cases r <;> simp only [Row.roles, List.mem_cons, List.not_mem_nil, or_false] at hx <;> first | (rcases hx with rfl | rfl <;> simp [Row.parts]) | (subst hx; simp [Row.parts]) | exact hx.elim
        obtain ⟨ro, ⟨kk, m⟩⟩ := x
        simp only at hk
        subst hk
        exact hr r (.head _) m this
      . split
        . exact h
        . exact h
  exact rows A 0 _ hA.tn (fun p hp => by simp [ivIn] at hp)
theorem occs_two {A C : List Row} {ar K : Nat} (hA : RowsC ar K A) (hC : RowsC 0 5 C) : occsP (A ++ lifted K C) ar = occsP A ar ++ (occsP C 0).map (sh A.length K) := by
  have S0 : Sim (n := A.length) (K := K) (ivRows A 0 (ivIn ar)) (ivIn 0) (ivRows A 0 (ivIn ar)) := by
    obtain ⟨l, e⟩ := hA.cl
    refine ⟨by simp [ivIn], ?_, by simp [ivIn], rfl⟩
    rw [e, out_nil]; rfl
  have S := S0.rows (tmp_lt hA) C 0 _ _ fun r hr x hx h => by
    by_cases h2 : x.1 = 2
    . exact h2
    . have := hC.rd r hr x hx h h2; omega
  unfold occsP
  rw [ivRows_app, show (0 : Int) + (A.length : Int) = 0 + (A.length : Int) from rfl, S.f, List.filter_append, List.filter_map]
  congr 2
  refine List.filter_congr fun o _ => ?_
  simp only [Function.comp, sh]
  apply decide_eq_decide.mpr; omega
end Mini.L2
namespace Mini.L2
open Mini
theorem insBy_app {α : Type} {key : α -> Int × Int} {x : α} {l2 : List α} (h : ∀ y ∈ l2, ltK (key x) (key y) = true) : ∀ l1 : List α, insBy key x (l1 ++ l2) = insBy key x l1 ++ l2
  | [] => by
    cases l2 with
    | nil => rfl
    | cons y r => show insBy key x (y :: r) = x :: y :: r; unfold insBy; rw [if_pos (h y (.head _))]
  | y :: r => by
    simp only [List.cons_append, insBy]
    split
    . rfl
    . rw [insBy_app h r]; rfl
theorem sortBy_app {α : Type} {key : α -> Int × Int} : ∀ (l1 l2 : List α), (∀ x ∈ l1, ∀ y ∈ l2, ltK (key x) (key y) = true) -> sortBy key (l1 ++ l2) = sortBy key l1 ++ sortBy key l2
  | [], l2, _ => rfl
  | x :: l1, l2, h => by
    show insBy key x (sortBy key (l1 ++ l2)) = insBy key x (sortBy key l1) ++ sortBy key l2
    rw [sortBy_app l1 l2 fun a ha => h a (.tail _ ha)]
    exact insBy_app (fun y hy => h x (.head _) y (sortBy_mem.mp hy)) _
theorem insBy_congr {α : Type} {k1 k2 : α -> Int × Int} {x : α} : ∀ {l : List α}, (∀ y ∈ l, ltK (k1 x) (k1 y) = ltK (k2 x) (k2 y)) -> insBy k1 x l = insBy k2 x l
  | [], _ => rfl
  | y :: r, h => by
    unfold insBy
    rw [h y (.head _), insBy_congr fun z hz => h z (.tail _ hz)]
theorem sortBy_congr {α : Type} {k1 k2 : α -> Int × Int} : ∀ {l : List α}, (∀ x ∈ l, ∀ y ∈ l, ltK (k1 x) (k1 y) = ltK (k2 x) (k2 y)) -> sortBy k1 l = sortBy k2 l
  | [], _ => rfl
  | x :: l, h => by
    show insBy k1 x (sortBy k1 l) = insBy k2 x (sortBy k2 l)
    rw [sortBy_congr (l := l) fun a ha b hb => h a (.tail _ ha) b (.tail _ hb)]
    exact insBy_congr fun y hy => h x (.head _) y (.tail _ (sortBy_mem.mp hy))
theorem sort_two {A C : List Row} {ar K : Nat} (hA : RowsC ar K A) (hC : RowsC 0 5 C) : sortO (tempsO (occsP (A ++ lifted K C) ar)) = sortO (tempsO (occsP A ar)) ++ (sortO (tempsO (occsP C 0))).map (sh A.length K) := by
  have t : tempsO (occsP (A ++ lifted K C) ar) = tempsO (occsP A ar) ++ (tempsO (occsP C 0)).map (sh A.length K) := by
    rw [occs_two hA hC]
    unfold tempsO
    rw [List.filter_append, List.filter_map]; rfl
  have ge : ∀ o ∈ tempsO (occsP C 0), 0 <= o.st /\ o.kd = "temp" := fun o ho => by
    obtain ⟨h1, h2⟩ := temps_view ho
    exact ⟨(view_bd h1).1, h2⟩
  have cg : sortBy (fun a => oKey (sh A.length K a)) (tempsO (occsP C 0)) = sortBy oKey (tempsO (occsP C 0)) := sortBy_congr fun x hx y hy => by
    have a := ge x hx
    have b := ge y hy
    apply Bool.eq_iff_iff.mpr
    rw [ltK_spec, ltK_spec]
    simp only [oKey, sh, a.2, b.2, if_true]
    omega
  rw [t]
  unfold sortO
  rw [sortBy_app _ _ fun x hx y hy => ?_, sortBy_map, cg]
  obtain ⟨z, hz, rfl⟩ := List.mem_map.mp hy
  have a := view_bd (temps_view hx).1
  have b := ge z hz
  rw [ltK_spec]
  simp only [oKey, sh]
  omega
theorem others_mem (l : List Occ) (r : Int) (q : Occ) : q ∈ (getA r (othersO l)).getD [] ↔ q ∈ l /\ q.kd ≠ "temp" /\ (q.num : Int) = r := by
  have : ∀ (l : List Occ) (tb : TbO), q ∈ (getA r (l.foldl (fun tb o => if o.kd = "temp" then tb else addW o.num o tb) tb)).getD [] ↔ q ∈ (getA r tb).getD [] \/ (q ∈ l /\ q.kd ≠ "temp" /\ (q.num : Int) = r) := by
    intro l
    induction l with
    | nil => intro tb; simp
    | cons o l ih =>
      intro tb
      rw [List.foldl_cons, ih]
      by_cases h : o.kd = "temp"
      . rw [if_pos h]
        constructor
        . rintro (a | ⟨a, b⟩)
          . exact .inl a
          . exact .inr ⟨.tail _ a, b⟩
        . rintro (a | ⟨a, b⟩)
          . exact .inl a
          . rcases List.mem_cons.mp a with rfl | a
            . exact absurd h b.1
            . exact .inr ⟨a, b⟩
      . rw [if_neg h, getA_addW]
        constructor
        . rintro ((a | ⟨a, rfl⟩) | ⟨a, b⟩)
          . exact .inl a
          . exact .inr ⟨.head _, h, a⟩
          . exact .inr ⟨.tail _ a, b⟩
        . rintro (a | ⟨a, b⟩)
          . exact .inl (.inl a)
          . rcases List.mem_cons.mp a with rfl | a
            . exact .inl (.inr ⟨b.2, rfl⟩)
            . exact .inr ⟨a, b⟩
  unfold othersO
  rw [this]; simp [getA]
structure Wis (K : Nat) (WA WC W : List (Int × List Op)) : Prop where
  lo : ∀ m : Nat, m < K -> getA (m : Int) W = getA (m : Int) WA
  hi : ∀ m : Nat, getA ((m : Int) + (K : Int)) W = (getA (m : Int) WC).map (List.map (liftOp K))
theorem addW_get {α : Type} (n : Nat) (o : α) (l : List (Int × List α)) (r : Int) : getA r (addW n o l) = if (n : Int) = r then some ((getA (n : Int) l).getD [] ++ [o]) else getA r l := by
  unfold addW; rw [getA_putA]
theorem Wis.add {K : Nat} {WA WC W : List (Int × List Op)} (h : Wis K WA WC W) (n : Nat) (o : Op) : Wis K WA (addW n o WC) (addW (n + K) (liftOp K o) W) := by
  refine ⟨fun m hm => ?_, fun m => ?_⟩
  . rw [addW_get, if_neg (by omega)]; exact h.lo m hm
  . rw [addW_get, addW_get]
    by_cases e : n = m
    . subst e
      rw [if_pos (by omega), if_pos rfl, show ((n + K : Nat) : Int) = (n : Int) + (K : Int) from by omega, h.hi]
      cases getA (n : Int) WC <;> simp
    . rw [if_neg (by omega), if_neg (by omega)]; exact h.hi m
theorem Wis.pair {K : Nat} {WA WC W : List (Int × List Op)} (h : Wis K WA WC W) (tg sc : Op) : Wis K WA (wishPair tg sc WC) (wishPair (liftOp K tg) (liftOp K sc) W) := by
  obtain ⟨k1, n1⟩ := tg
  obtain ⟨k2, n2⟩ := sc
  cases k1 <;> cases k2 <;> first
    | exact h
    | exact (h.add n1 ⟨.t, n2⟩).add n2 ⟨.t, n1⟩
    | exact h.add n1 _
    | exact h.add n2 _
theorem Wis.rows {K : Nat} {WA : List (Int × List Op)} : ∀ (C : List Row) (WC W : List (Int × List Op)), Wis K WA WC W -> Wis K WA (C.foldl wishRow WC) ((lifted K C).foldl wishRow W)
  | [], _, _, h => h
  | r :: C, WC, W, h => by
    show Wis K WA (C.foldl wishRow (wishRow WC r)) ((lifted K C).foldl wishRow (wishRow W (r.map (liftOp K))))
    refine Wis.rows C _ _ ?_
    cases r <;> first | exact h | exact h.pair _ _
theorem wishes_keys {A : List Row} {ar K : Nat} (hA : RowsC ar K A) : ∀ (m : Nat), K <= m -> getA (m : Int) (wishesP A) = none := by
  have pair : ∀ (tg sc : Op) (W : List (Int × List Op)), (tg.k = .t -> tg.n < K) -> (sc.k = .t -> sc.n < K) -> (∀ m : Nat, K <= m -> getA (m : Int) W = none) -> ∀ m : Nat, K <= m -> getA (m : Int) (wishPair tg sc W) = none := by
    rintro ⟨k1, n1⟩ ⟨k2, n2⟩ W h1 h2 h m hm
    have add : ∀ (n : Nat) (o : Op) (W : List (Int × List Op)), n < K -> getA (m : Int) W = none -> getA (m : Int) (addW n o W) = none := fun n o W hn h => by
      rw [addW_get, if_neg (by omega)]; exact h
    cases k1 <;> cases k2 <;> first
      | exact h m hm
      | exact add _ _ _ (h2 rfl) (add _ _ _ (h1 rfl) (h m hm))
      | exact add _ _ _ (h1 rfl) (h m hm)
      | exact add _ _ _ (h2 rfl) (h m hm)
  have rowsF : ∀ (rs : List Row) (W : List (Int × List Op)), (∀ r ∈ rs, ∀ n, Part.o ⟨.t, n⟩ ∈ r.parts -> n < K) -> (∀ m : Nat, K <= m -> getA (m : Int) W = none) -> ∀ m : Nat, K <= m -> getA (m : Int) (rs.foldl wishRow W) = none := by
    intro rs
    induction rs with
    | nil => intro W _ h; exact h
    | cons r rs ih =>
      intro W hr h
      refine ih _ (fun r h => hr r (.tail _ h)) ?_
      have h0 := hr r (.head _)
      have op : ∀ p : Op, Part.o p ∈ r.parts -> p.k = .t -> p.n < K := fun p hp hk => by
        obtain ⟨k, n⟩ := p
        simp only at hk
        subst hk
        exact h0 n hp
      cases r <;> first | exact h | exact pair _ _ _ (op _ (by simp [Row.parts])) (op _ (by simp [Row.parts])) h
  exact rowsF A [] hA.tn fun m _ => rfl
theorem wishes_two {A : List Row} {ar K : Nat} (hA : RowsC ar K A) (C : List Row) : Wis K (wishesP A) (wishesP C) (wishesP (A ++ lifted K C)) := by
  unfold wishesP
  rw [List.foldl_append]
  refine Wis.rows C _ _ ⟨fun _ _ => rfl, fun m => ?_⟩
  have := wishes_keys hA (m + K) (by omega)
  rw [show (m : Int) + (K : Int) = ((m + K : Nat) : Int) from by omega]
  exact this
theorem freeO_congr {tb tb' : TbO} {r : Int} {o o' : Occ} (h : (∀ q ∈ (getA r tb).getD [], o.over q = false) ↔ ∀ q ∈ (getA r tb').getD [], o'.over q = false) : freeO tb r o = freeO tb' r o' := by
  apply Bool.eq_iff_iff.mpr
  rw [freeO_iff, freeO_iff]; exact h
theorem ffO_congr {tb tb' : TbO} {o o' : Occ} (h : ∀ r : Int, freeO tb r o = freeO tb' r o') : ∀ n r : Nat, ffO tb o n r = ffO tb' o' n r
  | 0, _ => rfl
  | n + 1, r => by unfold ffO; rw [h, ffO_congr h n]
theorem wishedO_congr {tb tb' : TbO} {hm hm' : List (Int × Nat)} {o o' : Occ} (h : ∀ r : Int, freeO tb r o = freeO tb' r o') (f : Op -> Op) : ∀ ops : List Op, (∀ p ∈ ops, regOf hm p = regOf hm' (f p)) -> wishedO tb hm o ops = wishedO tb' hm' o' (ops.map f)
  | [], _ => rfl
  | p :: ps, hr => by
    simp only [List.map_cons, wishedO]
    rw [h, hr p (.head _), wishedO_congr h f ps fun q hq => hr q (.tail _ hq)]
theorem placeO_congr {tb tb' : TbO} {hm hm' : List (Int × Nat)} {o o' : Occ} (h : ∀ r : Int, freeO tb r o = freeO tb' r o') (f : Op -> Op) (ops : List Op) (hr : ∀ p ∈ ops, regOf hm p = regOf hm' (f p)) : placeO tb hm o ops = placeO tb' hm' o' (ops.map f) := by
  unfold placeO
  rw [wishedO_congr h f ops hr, ffO_congr h]
structure PhA (n : Nat) (s s' : TbO × List (Int × Nat)) : Prop where
  hm : s'.2 = s.2
  sub : ∀ (r : Int) (q : Occ), q ∈ (getA r s.1).getD [] -> q ∈ (getA r s'.1).getD []
  sup : ∀ (r : Int) (q : Occ), q ∈ (getA r s'.1).getD [] -> q ∈ (getA r s.1).getD [] \/ (n : Int) <= q.st
theorem PhA.step {n K : Nat} {WA W : List (Int × List Op)} (hw : ∀ m : Nat, m < K -> getA (m : Int) W = getA (m : Int) WA) {s s' : TbO × List (Int × Nat)} (P : PhA n s s') {o : Occ} (h1 : o.en <= n) (h2 : o.num < K) : PhA n (placeStep WA s o) (placeStep W s' o) := by
  have fr : ∀ r : Int, freeO s.1 r o = freeO s'.1 r o := fun r => freeO_congr ⟨fun h q hq => by
    rcases P.sup r q hq with z | z
    . exact h q z
    . unfold Occ.over
      simp only [Bool.and_eq_false_iff, decide_eq_false_iff_not]; omega, fun h q hq => h q (P.sub r q hq)⟩
  have pl : placeO s'.1 s'.2 o ((getA (o.num : Int) W).getD []) = placeO s.1 s.2 o ((getA (o.num : Int) WA).getD []) := by
    rw [hw _ h2, P.hm, placeO_congr fr id ((getA (o.num : Int) WA).getD []) (fun p _ => rfl), List.map_id]
  unfold placeStep
  rw [pl]
  refine ⟨?_, fun r q hq => ?_, fun r q hq => ?_⟩
  . show putA _ _ s'.2 = putA _ _ s.2
    rw [P.hm]
  . rw [getA_addW] at hq ⊢
    rcases hq with z | z
    . exact .inl (P.sub r q z)
    . exact .inr z
  . rw [getA_addW] at hq ⊢
    rcases hq with z | z
    . rcases P.sup r q z with y | y
      . exact .inl (.inl y)
      . exact .inr y
    . exact .inl (.inr z)
theorem PhA.all {n K : Nat} {WA W : List (Int × List Op)} (hw : ∀ m : Nat, m < K -> getA (m : Int) W = getA (m : Int) WA) : ∀ (l : List Occ) (s s' : TbO × List (Int × Nat)), (∀ o ∈ l, o.en <= n /\ o.num < K) -> PhA n s s' -> PhA n (l.foldl (placeStep WA) s) (l.foldl (placeStep W) s')
  | [], _, _, _, P => P
  | o :: l, s, s', h, P => PhA.all hw l _ _ (fun o ho => h o (.tail _ ho)) (P.step hw (h o (.head _)).1 (h o (.head _)).2)
structure PhB (n K : Nat) (h0 : List (Int × Nat)) (s s' : TbO × List (Int × Nat)) : Prop where
  lo : ∀ m : Nat, m < K -> getA (m : Int) s'.2 = getA (m : Int) h0
  hi : ∀ m : Nat, getA ((m : Int) + (K : Int)) s'.2 = getA (m : Int) s.2
  sub : ∀ (r : Int) (q : Occ), q ∈ (getA r s.1).getD [] -> sh n K q ∈ (getA r s'.1).getD []
  sup : ∀ (r : Int) (q : Occ), q ∈ (getA r s'.1).getD [] -> (∃ p ∈ (getA r s.1).getD [], q = sh n K p) \/ q.en <= (n : Int)
theorem PhB.step {n K : Nat} {h0 : List (Int × Nat)} {WC W : List (Int × List Op)} (hw : ∀ m : Nat, getA ((m : Int) + (K : Int)) W = (getA (m : Int) WC).map (List.map (liftOp K))) {s s' : TbO × List (Int × Nat)} (P : PhB n K h0 s s') {o : Occ} (h1 : 0 <= o.st) (h2 : o.kd = "temp") : PhB n K h0 (placeStep WC s o) (placeStep W s' (sh n K o)) := by
  have fr : ∀ r : Int, freeO s.1 r o = freeO s'.1 r (sh n K o) := fun r => freeO_congr ⟨fun h q hq => by
    rcases P.sup r q hq with ⟨p, z, rfl⟩ | z
    . rw [sh_over]; exact h p z
    . unfold Occ.over sh
      simp only [Bool.and_eq_false_iff, decide_eq_false_iff_not]; omega, fun h q hq => by
    have := h _ (P.sub r q hq)
    rw [sh_over] at this; exact this⟩
  have num : (sh n K o).num = o.num + K := by unfold sh; simp [h2]
  have reg : ∀ p : Op, regOf s.2 p = regOf s'.2 (liftOp K p) := fun p => by
    obtain ⟨k, m⟩ := p
    cases k
    . show (getA (m : Int) s.2).getD 0 = (getA ((m + K : Nat) : Int) s'.2).getD 0
      rw [show ((m + K : Nat) : Int) = (m : Int) + (K : Int) from by omega, P.hi]
    . rfl
    . rfl
    . rfl
  have pl : placeO s'.1 s'.2 (sh n K o) ((getA ((sh n K o).num : Int) W).getD []) = placeO s.1 s.2 o ((getA (o.num : Int) WC).getD []) := by
    rw [num, show ((o.num + K : Nat) : Int) = (o.num : Int) + (K : Int) from by omega, hw, placeO_congr fr (liftOp K) ((getA (o.num : Int) WC).getD []) (fun p _ => reg p)]
    cases getA (o.num : Int) WC <;> rfl
  unfold placeStep
  rw [pl]
  refine ⟨fun m hm => ?_, fun m => ?_, fun r q hq => ?_, fun r q hq => ?_⟩
  . simp only
    rw [getA_putA, if_neg (by rw [num]; omega)]; exact P.lo m hm
  . simp only
    rw [getA_putA, getA_putA]
    by_cases e : o.num = m
    . rw [if_pos (by rw [num]; omega), if_pos (by omega)]
    . rw [if_neg (by rw [num]; omega), if_neg (by omega)]; exact P.hi m
  . rw [getA_addW] at hq ⊢
    rcases hq with z | ⟨z, rfl⟩
    . exact .inl (P.sub r q z)
    . exact .inr ⟨z, rfl⟩
  . rw [getA_addW] at hq
    rcases hq with z | ⟨z, rfl⟩
    . rcases P.sup r q z with ⟨p, y, rfl⟩ | y
      . exact .inl ⟨p, getA_addW.mpr (.inl y), rfl⟩
      . exact .inr y
    . exact .inl ⟨o, getA_addW.mpr (.inr ⟨z, rfl⟩), rfl⟩
theorem PhB.all {n K : Nat} {h0 : List (Int × Nat)} {WC W : List (Int × List Op)} (hw : ∀ m : Nat, getA ((m : Int) + (K : Int)) W = (getA (m : Int) WC).map (List.map (liftOp K))) : ∀ (l : List Occ) (s s' : TbO × List (Int × Nat)), (∀ o ∈ l, 0 <= o.st /\ o.kd = "temp") -> PhB n K h0 s s' -> PhB n K h0 (l.foldl (placeStep WC) s) ((l.map (sh n K)).foldl (placeStep W) s')
  | [], _, _, _, P => P
  | o :: l, s, s', h, P => PhB.all hw l _ _ (fun o ho => h o (.tail _ ho)) (P.step hw (h o (.head _)).1 (h o (.head _)).2)
theorem homes_two {A C : List Row} {ar K : Nat} (hA : RowsC ar K A) (hC : RowsC 0 5 C) : (∀ m : Nat, m < K -> getA (m : Int) (homesP (A ++ lifted K C) ar) = getA (m : Int) (homesP A ar)) /\ ∀ m : Nat, getA ((m : Int) + (K : Int)) (homesP (A ++ lifted K C) ar) = getA (m : Int) (homesP C 0) := by
  have W := wishes_two hA C
  have enA : ∀ o ∈ occsP A ar, o.en <= (A.length : Int) := fun o ho => by
    have h := (List.mem_filter.mp ho).1
    have := en_le A 0 (ivIn ar) (fun o ho => by
      obtain ⟨i, _, rfl⟩ := List.mem_map.mp ho
      show (-1 : Int) <= 0; omega) o h
    omega
  have stC : ∀ o ∈ occsP C 0, 0 <= o.st := fun o ho => by
    have h := (List.mem_filter.mp ho).1
    exact st_ge C 0 (ivIn 0) (by omega) (fun o ho => by simp [ivIn] at ho) o h
  have tA : ∀ o ∈ sortO (tempsO (occsP A ar)), o.en <= (A.length : Int) /\ o.num < K := fun o ho => by
    have ho := sortBy_mem.mp ho
    have hv := (temps_view ho).1
    refine ⟨(view_bd hv).2.2.2, ?_⟩
    obtain ⟨r, hr, hm⟩ := (view_some A o.num).mp (by rw [hv]; rfl)
    obtain ⟨n, e, hn⟩ := (mem_tnums r _).mp hm
    have := hA.tn r hr n hn
    omega
  have tC : ∀ o ∈ sortO (tempsO (occsP C 0)), 0 <= o.st /\ o.kd = "temp" := fun o ho => by
    have ho := sortBy_mem.mp ho
    obtain ⟨hv, hk⟩ := temps_view ho
    exact ⟨(view_bd hv).1, hk⟩
  have P0 : PhA A.length (othersO (occsP A ar), ([] : List (Int × Nat))) (othersO (occsP (A ++ lifted K C) ar), []) := by
    refine ⟨rfl, fun r q hq => ?_, fun r q hq => ?_⟩
    . rw [others_mem] at hq ⊢
      rw [occs_two hA hC]
      exact ⟨List.mem_append_left _ hq.1, hq.2⟩
    . rw [others_mem, occs_two hA hC] at hq
      obtain ⟨h, h2⟩ := hq
      rcases List.mem_append.mp h with z | z
      . exact .inl ((others_mem _ _ _).mpr ⟨z, h2⟩)
      . obtain ⟨p, hp, rfl⟩ := List.mem_map.mp z
        have := stC p hp
        exact .inr (by unfold sh; simp only; omega)
  have PA := PhA.all W.lo _ _ _ tA P0
  have keysA : ∀ m : Nat, K <= m -> getA (m : Int) ((sortO (tempsO (occsP A ar))).foldl (placeStep (wishesP A)) (othersO (occsP A ar), [])).2 = none := fun m hm => by
    cases h : getA (m : Int) ((sortO (tempsO (occsP A ar))).foldl (placeStep (wishesP A)) (othersO (occsP A ar), [])).2 with
    | none => rfl
    | some v =>
      rcases (placed_keys (wishesP A) (m : Int) _ _).mp (by rw [h]; rfl) with z | ⟨o, ho, z⟩
      . simp [getA] at z
      . have := (tA o ho).2; omega
  have tbA : ∀ (l : List Occ) (s : TbO × List (Int × Nat)), (∀ o ∈ l, o.en <= (A.length : Int)) -> (∀ (r : Int) (q : Occ), q ∈ (getA r s.1).getD [] -> q.en <= (A.length : Int) \/ ∃ p ∈ occsP C 0, p.kd ≠ "temp" /\ (p.num : Int) = r /\ q = sh A.length K p) -> ∀ (r : Int) (q : Occ), q ∈ (getA r (l.foldl (placeStep (wishesP (A ++ lifted K C))) s).1).getD [] -> q.en <= (A.length : Int) \/ ∃ p ∈ occsP C 0, p.kd ≠ "temp" /\ (p.num : Int) = r /\ q = sh A.length K p := by
    intro l
    induction l with
    | nil => intro s _ h; exact h
    | cons o l ih =>
      intro s hl h
      refine ih _ (fun o ho => hl o (.tail _ ho)) fun r q hq => ?_
      unfold placeStep at hq
      rw [getA_addW] at hq
      rcases hq with z | ⟨_, rfl⟩
      . exact h r q z
      . exact .inl (hl _ (.head _))
  have tbW : ∀ (l : List Occ) (s : TbO × List (Int × Nat)) (r : Int) (q : Occ), q ∈ (getA r s.1).getD [] -> q ∈ (getA r (l.foldl (placeStep (wishesP (A ++ lifted K C))) s).1).getD [] := by
    intro l
    induction l with
    | nil => intro s r q h; exact h
    | cons o l ih =>
      intro s r q h
      refine ih _ r q ?_
      unfold placeStep
      rw [getA_addW]; exact .inl h
  have B0 : PhB A.length K (homesP A ar) (othersO (occsP C 0), ([] : List (Int × Nat))) ((sortO (tempsO (occsP A ar))).foldl (placeStep (wishesP (A ++ lifted K C))) (othersO (occsP (A ++ lifted K C) ar), [])) := by
    refine ⟨fun m _ => by rw [PA.hm]; rfl, fun m => ?_, fun r q hq => ?_, fun r q hq => ?_⟩
    . rw [PA.hm, show (m : Int) + (K : Int) = ((m + K : Nat) : Int) from by omega, keysA _ (by omega)]; rfl
    . rw [others_mem] at hq
      obtain ⟨h1, h2, h3⟩ := hq
      refine tbW _ _ r _ ?_
      rw [others_mem, occs_two hA hC]
      refine ⟨List.mem_append_right _ (List.mem_map.mpr ⟨q, h1, rfl⟩), h2, ?_⟩
      unfold sh; simp only [h2, if_false]; exact h3
    . rcases tbA _ _ (fun o ho => (tA o ho).1) (fun r q hq => by
        rw [others_mem, occs_two hA hC] at hq
        obtain ⟨h, h2, h3⟩ := hq
        rcases List.mem_append.mp h with z | z
        . exact .inl (enA q z)
        . obtain ⟨p, hp, rfl⟩ := List.mem_map.mp z
          refine .inr ⟨p, hp, h2, ?_, rfl⟩
          have h2' : p.kd ≠ "temp" := h2
          unfold sh at h3
          simp only [h2', if_false] at h3
          exact h3) r q hq with z | ⟨p, h1, h2, h3, rfl⟩
      . exact .inr z
      . exact .inl ⟨p, (others_mem _ _ _).mpr ⟨h1, h2, h3⟩, rfl⟩
  have PB := PhB.all W.hi _ _ _ tC B0
  have e : homesP (A ++ lifted K C) ar = (((sortO (tempsO (occsP C 0))).map (sh A.length K)).foldl (placeStep (wishesP (A ++ lifted K C))) ((sortO (tempsO (occsP A ar))).foldl (placeStep (wishesP (A ++ lifted K C))) (othersO (occsP (A ++ lifted K C) ar), []))).2 := by
    unfold homesP
    rw [sort_two hA hC, List.foldl_append]
  rw [e]
  exact ⟨PB.lo, PB.hi⟩
theorem row_congr {f g : Op -> Op} {r : Row} (h : ∀ o, Part.o o ∈ r.parts -> f o = g o) : r.map f = r.map g := by
  cases r <;> simp only [Row.parts, List.mem_cons, List.not_mem_nil, or_false] at h <;> simp only [Row.map] <;> first
    | rw [h _ (.inl rfl), h _ (.inr rfl)]
    | rw [h _ rfl]
    | rw [h _ (.inr rfl)]
    | rfl
theorem row_map2 (f g : Op -> Op) (r : Row) : (r.map f).map g = r.map fun o => g (f o) := by cases r <;> rfl
theorem real_two {A C : List Row} {ar K : Nat} (hA : RowsC ar K A) (hC : RowsC 0 5 C) : realP (A ++ lifted K C) ar = realP A ar ++ realP C 0 := by
  obtain ⟨lo, hi⟩ := homes_two hA hC
  unfold realP
  rw [List.map_append]
  generalize homesP (A ++ lifted K C) ar = H at *
  have a : A.map (Row.map (realOp H)) = A.map (Row.map (realOp (homesP A ar))) := List.map_congr_left fun r hr => row_congr fun o ho => by
    obtain ⟨k, n⟩ := o
    cases k with
    | t => simp only [realOp]; rw [lo n (hA.tn r hr n ho)]
    | a => rfl
    | y => rfl
    | x => rfl
  have c : (lifted K C).map (Row.map (realOp H)) = C.map (Row.map (realOp (homesP C 0))) := by
    unfold lifted
    rw [List.map_map]
    refine List.map_congr_left fun r hr => ?_
    show (r.map (liftOp K)).map _ = _
    rw [row_map2]
    refine row_congr fun o ho => ?_
    obtain ⟨k, n⟩ := o
    cases k with
    | t =>
      show realOp _ ⟨.t, n + K⟩ = _
      simp only [realOp]
      rw [show ((n + K : Nat) : Int) = (n : Int) + (K : Int) from by omega, hi]
    | a => rfl
    | y => rfl
    | x => rfl
  rw [a, c]
theorem great_fold : ∀ (l : List (Int × Op)) (m M : Nat), (l.foldl grStep m <= M ↔ m <= M /\ ∀ x ∈ l, x.2.k = .x -> x.2.n <= M)
  | [], m, M => by simp
  | x :: l, m, M => by
    rw [List.foldl_cons, great_fold l]
    simp only [List.mem_cons, forall_eq_or_imp]
    unfold grStep
    by_cases h : x.2.k = .x /\ m < x.2.n
    . rw [if_pos h]; simp only [h.1, forall_const]; constructor
      . rintro ⟨a, b⟩; exact ⟨by omega, a, b⟩
      . rintro ⟨a, b, c⟩; exact ⟨b, c⟩
    . rw [if_neg h]; constructor
      . rintro ⟨a, b⟩
        refine ⟨a, fun z => ?_, b⟩
        have : ¬ m < x.2.n := fun w => h ⟨z, w⟩
        omega
      . rintro ⟨a, b, c⟩; exact ⟨a, c⟩
theorem great_le {rows : List Row} {M : Nat} : greatP rows <= M ↔ ∀ r ∈ rows, ∀ x ∈ r.roles, x.2.k = .x -> x.2.n <= M := by
  have : ∀ (rs : List Row) (m : Nat), (rs.foldl grRow m <= M ↔ m <= M /\ ∀ r ∈ rs, ∀ x ∈ r.roles, x.2.k = .x -> x.2.n <= M) := by
    intro rs
    induction rs with
    | nil => intro m; simp
    | cons r rs ih =>
      intro m
      rw [List.foldl_cons, ih]
      unfold grRow
      rw [great_fold]
      simp only [List.mem_cons, forall_eq_or_imp, and_assoc]
  unfold greatP
  rw [this]; simp
theorem great_app (X Y : List Row) (M : Nat) : greatP (X ++ Y) <= M ↔ greatP X <= M /\ greatP Y <= M := by
  rw [great_le, great_le, great_le]
  constructor
  . intro h; exact ⟨fun r hr => h r (List.mem_append_left _ hr), fun r hr => h r (List.mem_append_right _ hr)⟩
  . rintro ⟨h1, h2⟩ r hr
    rcases List.mem_append.mp hr with z | z
    . exact h1 r z
    . exact h2 r z
theorem math2 : Math2 := fun A C ar k hA hC _ _ _ => by
  have e := real_two hA hC
  refine ⟨e, fun lim => ?_⟩
  unfold Fits
  rw [e]
  have := great_app (realP A ar) (realP C 0) lim.toNat
  omega
theorem plain (nn : List Int) (h : nn.length <= 60) : ∃ mh' kk, r_law (loc0 12) (mh0 nn) = some (.ret (.bool true) mh') /\ ob mh' 0 = some (.tab 284 kk) := by
  obtain ⟨x, e, mh', kk, rfl, ht⟩ := plain_of_math math2 nn h
  exact ⟨mh', kk, e, ht⟩
end Mini.L2
open Mini Mini.L2
theorem PySem.Challenge.cw_rh0076_02_holds : PySem.Challenge.rw_rh0076_02.Holds := by
  refine hd2 ?_
  w_strict (k_go0; (all_goals try k_fold); (refine' law_go (k := 12) (by assumption) (by assumption) (by assumption) (by assumption) ?hm (by assumption) (by assumption) (by assumption) ?hlen ?hat ?hsc ?hk ?hcell ?hkl ?hrest (Mini.L2.plain _ ?hl) ?hq); (case hm => rfl); (case hlen => omega); (case hat => kernel_rfl); (case hsc => decide +kernel); (case hk => rfl); (case hcell => decide +kernel); (case hkl => decide); (case hl => rw [List.length_take]; omega); (case hq => intro s' h1 h2 h3 h4; refine ⟨⟨.inl ⟨_, .bool true, [], rfl, by intro cls; rfl, .bool _, ?_, (fun _ => ⟨List.nodup_nil, fun a ha => nomatch ha⟩)⟩, h1, h4, h3.trans (by assumption)⟩, h2, trivial⟩; first | wrow_post | kc_post); (case hrest => intro par C A hC hK La hr hfrm; refine SemSA.cons (show SemSA1 _ _ _ _ _ r_law_1 from (SemS1.on (SemS1.assign 2 (by kernel_rfl) (SemE.call hC (Stands.glo hC (by kernel_rfl) (by rw [hK]; exact glo_Symbols _)) (Keepable.ref (by rw [hK]; exact keep_154 _)) SemEs.nil (SemF.up (SemF.newF hC (cls_Symbols hK) (by rw [hK, me_Symbols_init]; rfl) (by rw [hK]; exact fo_81 _) (s_Symbols___init hC hK La)) (by decide)))) hr)) ?_; refine SemSA.cons (show SemSA1 _ _ _ _ _ r_law_2 from (SemS1.on (SemS1.assign 3 (by kernel_rfl) (SemE.bin SemE.int (SemE.call hC (Stands.glo hC (by kernel_rfl) (by rw [hK]; exact glo_law_digit _)) (Keepable.ref (by rw [hK]; exact keep_317 _)) (SemEs.cP (SemE.loc 1 (by kernel_rfl)) (SemEs.cP SemE.int SemEs.nil)) (SemF.up (s_law_digit hC hK La) (by decide))) Op2.add)) hr)) ?_; refine SemSA.cons (show SemSA1 _ _ _ _ _ r_law_3 from (SemS1.on (SemS1.assign 4 (by kernel_rfl) (SemE.call hC (Stands.glo hC (by kernel_rfl) (by rw [hK]; exact glo_law_digit _)) (Keepable.ref (by rw [hK]; exact keep_317 _)) (SemEs.cP (SemE.loc 1 (by kernel_rfl)) (SemEs.cP SemE.int SemEs.nil)) (SemF.up (s_law_digit hC hK La) (by decide)))) hr)) ?_; refine SemSA.cons (show SemSA1 _ _ _ _ _ r_law_4 from (SemS1.on (SemS1.assign 5 (by kernel_rfl) (SemE.bin SemE.int (SemE.call hC (Stands.glo hC (by kernel_rfl) (by rw [hK]; exact glo_law_digit _)) (Keepable.ref (by rw [hK]; exact keep_317 _)) (SemEs.cP (SemE.loc 1 (by kernel_rfl)) (SemEs.cP SemE.int SemEs.nil)) (SemF.up (s_law_digit hC hK La) (by decide))) Op2.sub)) hr)) ?_; refine SemSA.cons (show SemSA1 _ _ _ _ _ r_law_5 from (SemS1.on (SemS1.assign 6 (by kernel_rfl) (SemE.list SemEs.nil)) hr)) ?_; refine SemSA.cons (show SemSA1 _ _ _ _ _ r_law_6 from (SemS1.on (SemS1.assign 7 (by kernel_rfl) (SemE.list SemEs.nil)) hr)) ?_; refine SemSA.cons (show SemSA1 _ _ _ _ _ r_law_7 from (SemSA1.for hr (SemIt.range1 hC (Stands.bi hC (by kernel_rfl) (by rw [hK]; exact glo_range _) (bb_range par) (by decide)) (SemE.loc 3 (by kernel_rfl))) (SemA.name 8 (by kernel_rfl)) (SemSA.cons (SemS1.on (SemS1.assign 9 (by kernel_rfl) (SemE.ite (SemT.cmp (SemE.loc 8 (by kernel_rfl)) SemE.int Op2.eq) (SemE.loc 4 (by kernel_rfl)) SemE.int)) hr) (SemSA.cons (SemS1.on (SemS1.assign 10 (by kernel_rfl) (SemE.call hC (Stands.glo hC (by kernel_rfl) (by rw [hK]; exact glo_law_chunk _)) (Keepable.ref (by rw [hK]; exact keep_324 _)) (SemEs.cP (SemE.loc 1 (by kernel_rfl)) (SemEs.cP (SemE.loc 9 (by kernel_rfl)) SemEs.nil)) (SemF.up (s_law_chunk hC hK La) (by decide)))) hr) (SemSA.cons (SemS1.on (SemS1.expr (SemE.bmeth hC PySem.F.plainAttrs_list PySem.F.slot_list_extend (by rfl) (SemE.loc 6 (by kernel_rfl)) (SemEs.cP (SemE.call hC (Stands.glo hC (by kernel_rfl) (by rw [hK]; exact glo_law_lifted _)) (Keepable.ref (by rw [hK]; exact keep_331 _)) (SemEs.cP (SemE.loc 10 (by kernel_rfl)) (SemEs.cP (SemE.bin SemE.int (SemE.loc 8 (by kernel_rfl)) Op2.mul) SemEs.nil)) (SemF.up (s_law_lifted hC hK La) (by decide))) SemEs.nil) SemF.extend)) hr) (SemSA.cons (SemSA1.assignG hC 11 (by kernel_rfl) (Stands.glo hC (by kernel_rfl) (by rw [hK]; exact glo_law_given _)) (Keepable.ref (by rw [hK]; exact keep_338 _)) (SemEs.cP (SemE.loc 2 (by kernel_rfl)) (SemEs.cP (SemE.loc 10 (by kernel_rfl)) (SemEs.cP (SemE.loc 9 (by kernel_rfl)) (SemEs.cP (SemE.loc 5 (by kernel_rfl)) SemEs.nil)))) (SemG.up (s_law_given hC hK La) (by decide)) hr hfrm rfl rfl (by intro z; cases z) rfl) (SemSA.cons (SemS1.on (SemS1.assign 7 (by kernel_rfl) (SemE.ite (SemT.bool (SemTs.or (SemT.cmp (SemE.loc 7 (by kernel_rfl)) SemE.none Op2.is) (SemTs.or (SemT.cmp (SemE.loc 11 (by kernel_rfl)) SemE.none Op2.is) SemTs.or_nil))) SemE.none (SemE.bin (SemE.loc 7 (by kernel_rfl)) (SemE.loc 11 (by kernel_rfl)) Op2.cat))) hr) SemSA.nil))))))) ?_; refine SemSA.cons (show SemSA1 _ _ _ _ _ r_law_8 from (SemSA1.retG hC (Stands.glo hC (by kernel_rfl) (by rw [hK]; exact glo_law_given _)) (Keepable.ref (by rw [hK]; exact keep_338 _)) (SemEs.cP (SemE.loc 2 (by kernel_rfl)) (SemEs.cP (SemE.loc 6 (by kernel_rfl)) (SemEs.cP (SemE.loc 4 (by kernel_rfl)) (SemEs.cP (SemE.loc 5 (by kernel_rfl)) SemEs.nil)))) (SemG.up (s_law_given hC hK La) (by decide)) (SemE.loc 7 (by kernel_rfl)) Op2.eq hr hfrm rfl rfl (by intro z; cases z))) ?_; exact SemSA.nil))
