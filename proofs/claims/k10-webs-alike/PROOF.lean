import PyProof.Rows.All
import Wide.All
import OpenK.AllK
import Wide.FinOn
import HandS.ForMost
import HandS.TupAny
import HandS.Deep
import HandS.IsInst
import HandS.Conv
import HandS.Style
import HandS.Strs
import KE.SortData
import KE.DataEq
import KE.DataCmp
import KE.DataIsa
import KE.DataMinMax
import HandS.Exc
import HandS.ExcOwn
import HandS.ExcInit
import HandS.TryOnly
import HandS.TryMany
import HandS.CallSlots
import HandS.WordsExc
import PyProof.SeqIndex
import KE.DataFind
import HandS.ExcField
import HandS.ExcIs
import HandS.ExcValue
import HandS.Defaults
import HandS.HeadHook1
import KE.KeyNested
import HandS.Walk
import HandS.Zip
import HandS.Dict
import KE.KDictDisplayH
import PyProof.DictRoadsH
import PyProof.FactsAll.dict
import KE.SortCalls
import PyProof.SumWalkG
import PyProof.Rows.SumAny
import HandS.TupSets
import HandS.SetFor
import HandS.SetKeys
import KE.KDictKeyed
import KE.GoesMore
import PyProof.EnumMake
import PyProof.Draws
import PyProof.FactsLen
import PyProof.Rows.FactsT3
import PyProof.Rows.FactsN_isinstance
import HandS.HeadEnd
import HandS.HeadHook2
import HandS.Replace
import HandS.ReplaceLit
import HandS.ReplaceDef
import PyProof.FitsInt
import PyProof.StrLawsRepr
import HandS.Head0
import HandS.Head1
import HandS.Head2
import PySem.Challenge.RW_addedattacks_k10_webs_alike
set_option Elab.async false
set_option linter.all false
set_option maxRecDepth 100000
set_option autoImplicit false
namespace Ad
open PySem

/-! ### outcomes -/
abbrev D := PyData
/-- an exception: its class by name, its fields -/
structure XV where
  cls : Str
  fs : List (Str × D)

/-- what is wanted may depend on how many numbers may still be drawn -/
structure M (α : Type) where
  run : (α → Nat → Prop) → (XV → Nat → Prop) → Nat → Prop
  mono : ∀ {Q Q' : α → Nat → Prop} {R R' : XV → Nat → Prop}, (∀ a {b}, Q a b → Q' a b) → (∀ x {b}, R x b → R' x b) → ∀ {b}, run Q R b → run Q' R' b

theorem M.ext {α : Type} {m n : M α} (h : m.run = n.run) : m = n := by
  cases m; cases n; cases h; rfl
def M.ret {α : Type} (a : α) : M α := ⟨fun Q _ => Q a, fun h _ _ q => h _ q⟩
def M.bnd {α β : Type} (m : M α) (f : α → M β) : M β :=
  ⟨fun Q R => m.run (fun a => (f a).run Q R) R, fun h k _ q => m.mono (fun a _ z => (f a).mono h k z) k q⟩
def M.fail {α : Type} : M α := ⟨fun _ _ _ => False, fun _ _ _ q => q⟩
def M.grd (p : Prop) : M Unit := ⟨fun Q _ b => p ∧ Q () b, fun h _ _ q => ⟨q.1, h _ q.2⟩⟩
def M.draw (n : Nat) : M Nat := ⟨fun Q _ b => 0 < b ∧ ∀ k, k < n → Q k (b - 1), fun h _ _ q => ⟨q.1, fun k hk => h _ (q.2 k hk)⟩⟩
def M.thr {α : Type} (x : XV) : M α := ⟨fun _ R => R x, fun _ k _ q => k _ q⟩
/-- any whole number -/
def M.anyInt : M Int := ⟨fun Q _ b => ∀ i, Q i b, fun h _ _ q i => h _ (q i)⟩
/-- the deck's parts: how many cells, the turn -/
def M.dk : M (Nat × Int) := ⟨fun Q _ b => ∀ (L : Nat) (t : Int), 0 < L → L ≤ 63 → 0 ≤ t → t + b ≤ 4294967296 → Q (L, t) b, fun h _ _ q L t h1 h2 h3 h4 => h _ (q L t h1 h2 h3 h4)⟩
/-- one more is drawn: the turn is v -/
def M.take (v : Int) : M Unit := ⟨fun Q _ b => 0 < b ∧ 0 ≤ v ∧ v + (b - 1 : Nat) ≤ 4294967296 ∧ Q () (b - 1), fun h _ _ q => ⟨q.1, q.2.1, q.2.2.1, h _ q.2.2.2⟩⟩
/-- nothing is raised -/
def M.quiet {α : Type} (m : M α) : M α := ⟨fun Q _ => m.run Q fun _ _ => False, fun h _ _ q => m.mono h (fun _ _ z => z) q⟩
instance : Monad M where
  pure := M.ret
  bind := M.bnd
theorem M.pure_run {α : Type} (a : α) (Q : α → Nat → Prop) (R : XV → Nat → Prop) : (pure a : M α).run Q R = Q a := rfl
theorem M.bind_run {α β : Type} (m : M α) (f : α → M β) (Q : β → Nat → Prop) (R : XV → Nat → Prop) : (m >>= f).run Q R = m.run (fun a => (f a).run Q R) R := rfl
theorem M.grd_run (p : Prop) (Q : Unit → Nat → Prop) (R : XV → Nat → Prop) (b : Nat) : (M.grd p).run Q R b = (p ∧ Q () b) := rfl
theorem M.draw_run (n : Nat) (Q : Nat → Nat → Prop) (R : XV → Nat → Prop) (b : Nat) : (M.draw n).run Q R b = (0 < b ∧ ∀ k, k < n → Q k (b - 1)) := rfl
theorem M.fail_run {α : Type} (Q : α → Nat → Prop) (R : XV → Nat → Prop) (b : Nat) : (M.fail : M α).run Q R b = False := rfl
theorem M.pb {α β : Type} (a : α) (f : α → M β) : (pure a >>= f : M β) = f a := rfl
instance : LawfulMonad M := LawfulMonad.mk' M
  (id_map := fun x => M.ext rfl)
  (pure_bind := fun a f => rfl)
  (bind_assoc := fun x f g => rfl)
theorem M.quiet_pure {α : Type} (a : α) : M.quiet (pure a) = pure a := rfl
theorem M.grd_of {p : Prop} (h : p) : M.grd p = pure () := M.ext (by
  funext Q R b
  show (p ∧ Q () b) = Q () b
  exact propext ⟨fun q => q.2, fun q => ⟨h, q⟩⟩)
theorem M.grd_bind {α : Type} {p : Prop} (h : p) (f : Unit → M α) : (M.grd p >>= f) = f () := by rw [M.grd_of h]; rfl

def mapE {α β : Type} (f : α → M β) : List α → M (List β)
  | [] => pure []
  | a :: as => do
    let b ← f a
    let bs ← mapE f as
    pure (b :: bs)
def addO {β : Type} : Option β → List β → List β
  | some b, bs => b :: bs
  | none, bs => bs
/-- a comprehension: none where the test falls -/
def lcE {α β : Type} (f : α → M (Option β)) : List α → M (List β)
  | [] => pure []
  | a :: as => do
    let b ← f a
    let bs ← lcE f as
    pure (addO b bs)
theorem mapE_pure {α β : Type} {f : α → M β} {g : α → β} : ∀ {as : List α}, (∀ a, a ∈ as → f a = pure (g a)) → mapE f as = pure (as.map g)
  | [], _ => rfl
  | a :: as, h => by
    unfold mapE
    rw [h a List.mem_cons_self, mapE_pure fun b hb => h b (List.mem_cons_of_mem _ hb)]
    rfl
theorem lcE_pure {α β : Type} {f : α → M (Option β)} {g : α → Option β} : ∀ {as : List α}, (∀ a, a ∈ as → f a = pure (g a)) → lcE f as = pure (as.filterMap g)
  | [], _ => rfl
  | a :: as, h => by
    unfold lcE
    rw [h a List.mem_cons_self, lcE_pure fun b hb => h b (List.mem_cons_of_mem _ hb)]
    rw [List.filterMap_cons]
    cases g a <;> rfl

/-! ### the slots -/
/-- a slot: its value, and whether it is a list of the def's own that nothing else knows -/
abbrev Ev := List (Option (D × Bool))
def look (ρ : Ev) (i : Nat) : M D := match ρ[i]? with
  | some (some (d, false)) => pure d
  | _ => M.fail
def lookB (ρ : Ev) (i : Nat) : M D := match ρ[i]? with
  | some (some (d, _)) => pure d
  | _ => M.fail
def lookO (ρ : Ev) (i : Nat) : M (List D) := match ρ[i]? with
  | some (some (.list ds, true)) => pure ds
  | _ => M.fail
def wipeE (ρ : Ev) : List Nat → Ev
  | [] => ρ
  | v :: vs => (wipeE ρ vs).set v none
/-- the deck of a law -/
def deckD : D := .dict [(.none, .none)]
/-- the deck's cells (false), its rests (true), so many -/
def volD (t : Bool) (L : Nat) : D := .dict [(.bool t, .int L)]
def volL : D → M (Bool × Int)
  | .dict [(.bool t, .int L)] => pure (t, L)
  | _ => M.fail
def isDeck : D → Bool
  | .dict [(.none, .none)] => true
  | _ => false

/-! ### operations on values -/
def asBool : D → M Bool
  | .bool b => pure b
  | _ => M.fail
def asInt : D → M Int
  | .int i => pure i
  | _ => M.fail
def asStr : D → M Str
  | .str x => pure x
  | _ => M.fail
def itemsOf : D → M (List D)
  | .list xs => pure xs
  | .tuple xs => pure xs
  | _ => M.fail
mutual
/-- plain data: no deck within, no dict but the empty one -/
def okD : D → Bool
  | .list xs => okAll xs
  | .tuple xs => okAll xs
  | .dict [] => true
  | .dict _ => false
  | _ => true
def okAll : List D → Bool
  | [] => true
  | x :: xs => okD x && okAll xs
end
mutual
/-- no list, no dict within -/
def fixedD : D → Bool
  | .list _ => false
  | .tuple xs => fixedAll xs
  | .dict _ => false
  | _ => true
def fixedAll : List D → Bool
  | [] => true
  | x :: xs => fixedD x && fixedAll xs
end
/-- may be compared by == : plain, without dicts, of small depth -/
def eqOk (d : D) : Prop := d.plain = true ∧ d.depth ≤ 64
/-- two lists of different lengths, a tuple and (): what lies in them is not looked at -/
def lenNe : D → D → Bool
  | .list xs, .list ys => decide (xs.length ≠ ys.length)
  | .tuple (_ :: _), .tuple [] => true
  | _, _ => false
/-- what may be compared by == -/
def eqG (a b : D) : Prop := (eqOk a ∧ eqOk b) ∨ (okD a = true ∧ okD b = true ∧ lenNe a b = true)
def eqD (a b : D) : M Bool := do
  M.grd (eqG a b)
  pure (PyData.eqv a b)
/-- an item of a list that is looked through, and what is looked for: {} may be one of both -/
def eqI (z a : D) : Prop := (eqOk z ∧ eqOk a) ∨ (z = .dict [] ∧ eqOk a) ∨ (eqOk z ∧ a = .dict [])
def inG (a : D) (xs : List D) : Prop := (eqOk a ∧ eqOk (.list xs)) ∨ (okD a = true ∧ okAll xs = true ∧ ∀ z, z ∈ xs → eqI z a)
/-- a tuple of ints -/
def tupD (ns : List Int) : D := .tuple (ns.map .int)
/-- a dict of ints by ints, as data (marked, so that it is no plain data) -/
def dkD (kvs : List (Int × Int)) : D := .dict ((.str "ints", .none) :: kvs.map fun p => (.int p.1, .int p.2))
/-- a dict whose keys are tuples of ints, all with True -/
def dtD (ks : List (List Int)) : D := .dict ((.str "tuples", .none) :: ks.map fun k => (tupD k, .bool true))
def inD (a b : D) : M Bool := match b with
  | .list xs => do M.grd (inG a xs); pure (xs.any fun z => PyData.eqv z a)
  | .tuple xs => do M.grd (eqOk a ∧ eqOk (.tuple xs)); pure (xs.any fun z => PyData.eqv z a)
  | .str y => match a with
    | .str x => pure (!(Builtin.Str.occurrences y x 0 y.length 1).isEmpty)
    | _ => M.fail
  | .dict kvs => do M.grd (∃ k ks, a = tupD k ∧ PyData.dict kvs = dtD ks); pure (kvs.any fun p => PyData.eqv p.1 a)
  | _ => M.fail
end Ad
namespace Ad
open PySem PySem.Calls PySem.W PySem.Spec PyProof.Rows L2
open Builtin Builtin.ObjectAttr

/-! ### own exception classes over ValueError or LookupError -/
def isOwnC : Value → Bool
  | .ref _ => true
  | _ => false
/-- what a built-in class of exceptions gives those over it -/
structure BaseX (B newId initId : String) (tail : List Value) : Prop where
  F : ExcBaseFacts B newId initId tail
  ne : tail.isEmpty = false
  ob : tail.contains (.type "object") = true
  ps : ∀ self : Value, refuseLoop self "__setattr__" tail = pure ()
abbrev leTail : List Value := [.type "LookupError", .type "Exception", .type "BaseException", .type "object"]
theorem base_VE : BaseX "ValueError" "ValueError.__new__" "ValueError.__init__" HandSPX.veTail := ⟨F.excBase_ValueError, by decide, by decide +kernel, F.store_ValueError.passes⟩
theorem base_LE : BaseX "LookupError" "LookupError.__new__" "LookupError.__init__" leTail := ⟨F.excBase_LookupError, by decide, by decide +kernel, fun self => by kernel_rfl⟩
theorem ownC_ref {a : Value} (h : isOwnC a = true) : ∃ c, a = .ref c := by
  cases a <;> first | exact ⟨_, rfl⟩ | cases h
theorem tail_contains (X : String) {tail : List Value} : ∀ {l : List Value}, l.dropWhile isOwnC = tail → l.contains (.type X) = tail.contains (.type X)
  | [], h => by subst h; rfl
  | a :: r, h => by
    rw [List.dropWhile_cons] at h
    cases q : isOwnC a with
    | false =>
      rw [q, if_neg Bool.false_ne_true] at h
      rw [h]
    | true =>
      rw [q, if_pos rfl] at h
      obtain ⟨c, rfl⟩ := ownC_ref q
      rw [List.contains_cons, tail_contains X h]
      rfl
theorem tail_pass (self : Value) {tail : List Value} (hp : refuseLoop self "__setattr__" tail = pure ()) : ∀ {l : List Value}, l.dropWhile isOwnC = tail → refuseLoop self "__setattr__" l = pure ()
  | [], h => by subst h; exact hp
  | a :: r, h => by
    rw [List.dropWhile_cons] at h
    cases q : isOwnC a with
    | false =>
      rw [q, if_neg Bool.false_ne_true] at h
      rw [h]
      exact hp
    | true =>
      rw [q, if_pos rfl] at h
      obtain ⟨c, rfl⟩ := ownC_ref q
      rw [refuseLoop_ref]
      exact tail_pass self hp h
/-- an own exception class: its object, what is found in it -/
structure OexG (K : PySem.W.Frag) (C : Addr) : Prop where
  cls : ∃ B newId initId tail nm q N bs bm sn sub ab col dd k0 k1 k2 k3 k5, BaseX B newId initId tail ∧ K.lookup C = some (excClassObj nm q C N bs bm true sn sub ab col dd k0 k1 k2 k3 k5 newId) ∧ bm.dropWhile isOwnC = tail
  sa : PySem.W.findIn K (.ref C) "__setattr__" = some (some (.builtin "object.__setattr__"))
  kC : PySem.W.keepIn K (.ref C) = true
section
variable {prog : Program} {w : World} {A : Around} {R : Result → Shared → Prop} {hp : Heap} {g : Array GenState} {d : Drawn} {t : Nat} {os : OsState}
/-- the first field of an exception -/
theorem osa_first {K : W.Frag} {name : Str} {tk : Tok} {v : Value} {x C : Addr} {fv : Array Value} {cd : ClassData}
    (X : K.In hp) (hx : hp.get? x = some { cls := .ref C, data := .fields fv }) (hcd : W.clsIn K C = some cd) (ne : cd.mro.isEmpty = false) (hob : cd.mro.contains (.type "object") = true) (ps : refuseLoop (.ref x) "__setattr__" cd.mro = pure ()) (hh : cd.hasDict = true) (ha : W.findIn K (.ref C) name = some none)
    (hq : ∀ h' tk' dx, (∀ b o, b ≠ x → hp.get? b = some o → h'.get? b = some o) → hp.objs.size ≤ dx → dx ≠ x → h'.get? x = some { cls := .ref C, dict := some dx, data := .fields fv } →
      h'.Ns1 dx (fun y => if y = name then some v else none) → R (.ok (.ret .none)) ⟨h', g, d, tk', os⟩) :
    codeAny (model prog w) A (.call (.builtin "object.__setattr__") ⟨[.ref x, .str name tk, v], []⟩) R ⟨hp, g, d, t, os⟩ := by
  have I : W.InstAt hp x { cls := .ref C, data := .fields fv } C none := ⟨hx, rfl, rfl, trivial⟩
  have SF := F.store_object
  have hxs : x ≠ hp.objs.size := Nat.ne_of_lt (Heap.lt_size hx)
  have sub : W.Looks (model prog w) hp (isInstance (.ref x) (.type "object")) true := I.type.andThen (W.looks_mroIn X (by unfold W.mroIn; rw [hcd, Option.bind_some, if_neg (by rw [ne]; decide), hob]))
  refine codeAny_call_builtin SF.slot.plain SF.entry (@W.check_slot (model prog w) _ _ ⟨hp, g, d, t, os⟩ "object.__setattr__" "object" "__setattr__" (.ref x) [.str name tk, v] [] _ SF.kind SF.split sub (SF.args (.ref x) (.str name tk) v) ?_)
  have hmr : W.Looks (model prog w) hp (mroOf (.ref C)) cd.mro := (W.looks_clsIn X hcd).andThen .now
  have L3 : W.Looks (model prog w) hp (storeTaker? none) none := .now
  have hcls : W.Looks (model prog w) hp (classData C) cd := W.looks_clsIn X hcd
  rw [W.osa_eq, refuse_eq]
  refine wpAny_bind (wpAny_bind (I.type.at (wpAny_bind (hmr.at ?_))))
  rw [ps]
  refine wpAny_pure (wpAny_bind (I.type.at (wpAny_bind ((W.looks_findIn X ha).at (wpAny_bind (L3.at ?_))))))
  show wpAny _ _ (storeInOwnDict (.ref x) (.ref C) (.str name tk) name v false) _ _ _
  obtain ⟨nm, bs, mro, ns, qn, hd, sn, sb, ab, col, del⟩ := cd
  dsimp only at hh
  subst hh
  unfold storeInOwnDict ownDictForStores
  repeat (first | with_reducible refine HandSPX.store_in_new ?_ ?_ | with_reducible refine wpAny_loadPart_at hx ?_ | with_reducible refine hcls.at ?_ | wp_step)
  · exact ⟨_, #[], _, (Heap.get?_update_ne _ _ _ _ hxs.symm).trans (Heap.get?_push_at rfl rfl), rfl, fun e he => absurd he (by simp), fun _ => rfl⟩
  · intro h' tk' hn' hs
    have hx₁ : (hp.push { cls := .type "dict", data := .dict #[] }).get? x = some { cls := .ref C, data := .fields fv } := Heap.get?_push_of_some _ hx
    refine hq h' tk' hp.objs.size (fun b o hb ho => ?_) (Nat.le_refl _) hxs.symm ?_ hn'
    · exact (hs.2 b (Nat.ne_of_lt (Heap.lt_size ho))).trans ((Heap.get?_update_ne _ _ _ _ hb).trans (Heap.get?_push_of_some _ ho))
    · exact (hs.2 x hxs).trans (Heap.get?_update_self _ hx₁ rfl)
/-- a further one -/
theorem osa_next {K : W.Frag} {name : Str} {tk : Tok} {v : Value} {x C dx : Addr} {fv : Array Value} {cd : ClassData} {m0 : Str → Option Value} {nl : List Str}
    (X : K.In hp) (hx : hp.get? x = some { cls := .ref C, dict := some dx, data := .fields fv }) (hns : hp.Ns1 dx m0) (hw : Within m0 nl) (hz : nl.length ≤ 1000) (hcd : W.clsIn K C = some cd) (ne : cd.mro.isEmpty = false) (hob : cd.mro.contains (.type "object") = true) (ps : refuseLoop (.ref x) "__setattr__" cd.mro = pure ()) (hh : cd.hasDict = true)
    (ha : W.findIn K (.ref C) name = some none)
    (hq : ∀ h' tk', (∀ b o, b ≠ dx → hp.get? b = some o → h'.get? b = some o) → h'.Ns1 dx (fun y => if y = name then some v else m0 y) → R (.ok (.ret .none)) ⟨h', g, d, tk', os⟩) :
    codeAny (model prog w) A (.call (.builtin "object.__setattr__") ⟨[.ref x, .str name tk, v], []⟩) R ⟨hp, g, d, t, os⟩ := by
  obtain ⟨oD, esD, epD, hoD, hdD, _⟩ := hns.count hw
  have I : W.InstAt hp x { cls := .ref C, dict := some dx, data := .fields fv } C (some oD) := ⟨hx, rfl, rfl, hoD⟩
  have SF := F.store_object
  have sub : W.Looks (model prog w) hp (isInstance (.ref x) (.type "object")) true := I.type.andThen (W.looks_mroIn X (by unfold W.mroIn; rw [hcd, Option.bind_some, if_neg (by rw [ne]; decide), hob]))
  refine codeAny_call_builtin SF.slot.plain SF.entry (@W.check_slot (model prog w) _ _ ⟨hp, g, d, t, os⟩ "object.__setattr__" "object" "__setattr__" (.ref x) [.str name tk, v] [] _ SF.kind SF.split sub (SF.args (.ref x) (.str name tk) v) ?_)
  have hmr : W.Looks (model prog w) hp (mroOf (.ref C)) cd.mro := (W.looks_clsIn X hcd).andThen .now
  have L3 : W.Looks (model prog w) hp (storeTaker? none) none := .now
  have hcls : W.Looks (model prog w) hp (classData C) cd := W.looks_clsIn X hcd
  rw [W.osa_eq, refuse_eq]
  refine wpAny_bind (wpAny_bind (I.type.at (wpAny_bind (hmr.at ?_))))
  rw [ps]
  refine wpAny_pure (wpAny_bind (I.type.at (wpAny_bind ((W.looks_findIn X ha).at (wpAny_bind (L3.at ?_))))))
  show wpAny _ _ (storeInOwnDict (.ref x) (.ref C) (.str name tk) name v false) _ _ _
  obtain ⟨nm, bs, mro, ns, qn, hd, sn, sb, ab, col, del⟩ := cd
  dsimp only at hh
  subst hh
  unfold storeInOwnDict ownDictForStores
  repeat (first | with_reducible refine PySem.OEX.store_in_old hns hw hz ?_ | with_reducible refine wpAny_loadPart_at hx ?_ | with_reducible refine hcls.at ?_ | wp_step)
  intro h' tk' hn' hs
  exact hq h' tk' (fun b o hb ho => (hs.2 b hb).trans ho) hn'
end
section
variable {X : Cx} {pins : List (Addr × Obj)} {σ : L2.St} {H : Hp} {s : Shared} {a C dx : Addr} {f : Str} {y : V} {u : Value} {fs : List (Str × V)} {Q : Unit → Shared → Prop} {E : Value → Shared → Prop} {A : Around}
theorem OexG.mro {K : PySem.W.Frag} (T : OexG K C) : ∃ cd, PySem.W.clsIn K C = some cd ∧ cd.mro.isEmpty = false ∧ cd.mro.contains (.type "object") = true ∧ (∀ self, refuseLoop self "__setattr__" cd.mro = pure ()) ∧ cd.hasDict = true := by
  obtain ⟨B, newId, initId, tail, nm, q, N, bs, bm, sn, sub, ab, col, dd, k0, k1, k2, k3, k5, hB, hC, hbm⟩ := T.cls
  refine ⟨{ name := nm, bases := bs, mro := .ref C :: bm, ns := N, qualname := q, hasDict := true, slotNames := sn, subclasses := sub, abstract := ab, collection := col, hasDel := false }, by unfold PySem.W.clsIn; rw [hC] <;> rfl, rfl, ?_, fun self => ?_, rfl⟩
  · show (Value.ref C :: bm).contains (.type "object") = true
    rw [tail_contains "object" (l := Value.ref C :: bm) (tail := tail) (by rw [List.dropWhile_cons, if_pos (show isOwnC (.ref C) = true from rfl)]; exact hbm)]
    exact hB.ob
  · exact tail_pass self (hB.ps self) (l := Value.ref C :: bm) (tail := tail) (by rw [List.dropWhile_cons, if_pos (show isOwnC (.ref C) = true from rfl)]; exact hbm)
/-- self.f = y, the first one -/
theorem ogt_new (T : OexG X.K C) (I : Inv X pins σ H s) (e : H a = some (exo a C none)) (hno : PySem.W.findIn X.K (.ref C) f = some none) (ry : RelV y u)
    (h : ∀ dx s', H dx = none → dx ≠ a → Inv X pins σ (upd (upd H dx (exd dx [(f, y)])) a (exo a C (some dx))) s' → Q () s') : wpAny (model X.prog X.w) A (setAttr (.ref a) f u) Q E s := by
  obtain ⟨cd, hcl, ne, hob, ps, hh⟩ := T.mro
  obtain ⟨t1, ho⟩ := exo_at I.hok e
  obtain ⟨hp, g, d, t, os⟩ := s
  refine PySem.W.set_plain I.kIn (ox := { cls := .ref C, dict := none, data := .fields #[.ref t1, .none, .none, .none, .bool false, .none] }) (od := none) ⟨ho, rfl, rfl, trivial⟩ T.sa ?_
  refine osa_first I.kIn ho hcl ne hob (ps _) hh hno (fun h' tk' dx k dn dne hx hn => ?_)
  have hnd : H dx = none := I.hok.fresh dn
  have nd : ∀ {b : Addr} {o : Obj}, hp.get? b = some o → b ≠ dx := fun {b o} q => Nat.ne_of_lt (Nat.lt_of_lt_of_le (Heap.lt_size q) dn)
  have na : ∀ {b : Addr}, H b = none → b ≠ a := fun {b} n z => by
    rw [z, e] at n
    cases n
  have Un1 : Un X.fs [] H (upd (upd H dx (exd dx [(f, y)])) a (exo a C (some dx))) hp h' := {
    keep := fun b o q n _ _ => k b o (na n) q
    slot := fun b o q n _ _ => ⟨o.slots, k b o (na n) q⟩
    free := fun b o q n _ => by rw [upd_ne (na n), upd_ne (nd q)]; exact n
    there := fun b o q _ => by
      by_cases hb : b = a
      · exact ⟨_, by rw [hb]; exact hx⟩
      · exact ⟨o, k b o hb q⟩
    tups := fun b xs q => by rw [upd_ne (at_ne e q exo_tup), upd_ne (ne_of_none q hnd)]; exact q
    frzs := fun b o v q => by rw [upd_ne (at_ne e q exo_frz), upd_ne (ne_of_none q hnd)]; exact q
    tbls := fun b ps q => ⟨#[], by rw [upd_ne (at_ne e q exo_tbl), upd_ne (ne_of_none q hnd), q]; simp⟩ }
  refine h dx _ hnd dne (I.un (t' := tk') Un1 fun b o q => ?_)
  by_cases hb : b = a
  · subst hb
    rw [upd_same] at q
    cases q
    exact exo_ok hx
  · rw [upd_ne hb] at q
    by_cases hd : b = dx
    · subst hd
      rw [upd_same] at q
      cases q
      exact exd_ok hn (relO_put (fs := []) ry fun g => True.intro)
    · rw [upd_ne hd] at q
      exact (I.hok b o q).stay (fun c v hc z => k c v (by
          rcases hc with hc | hc
          · rw [hc]
            exact hb
          · exact at_ne e hc exo_own) z)
        (fun c hc => by rw [upd_ne (at_ne e hc exo_own), upd_ne (ne_of_none hc hnd)]; exact hc) (fun c xs hc => by rw [upd_ne (at_ne e hc exo_tup), upd_ne (ne_of_none hc hnd)]; exact hc)
/-- self.f = y, a further one -/
theorem ogt_old (T : OexG X.K C) (I : Inv X pins σ H s) (e : H a = some (exo a C (some dx))) (ed : H dx = some (exd dx fs)) (hl : fs.length ≤ 900) (hno : PySem.W.findIn X.K (.ref C) f = some none) (ry : RelV y u)
    (h : ∀ s', Inv X pins σ (upd H dx (exd dx ((f, y) :: fs))) s' → Q () s') : wpAny (model X.prog X.w) A (setAttr (.ref a) f u) Q E s := by
  obtain ⟨cd, hcl, ne, hob, ps, hh⟩ := T.mro
  obtain ⟨t1, ho⟩ := exo_at I.hok e
  obtain ⟨mA, hns, rel⟩ := exd_at I.hok ed
  have hw := within_of rel
  obtain ⟨hp, g, d, t, os⟩ := s
  obtain ⟨oD, _, _, hoD, _, _⟩ := hns.count hw
  refine PySem.W.set_plain I.kIn (ox := { cls := .ref C, dict := some dx, data := .fields #[.ref t1, .none, .none, .none, .bool false, .none] }) (od := some oD) ⟨ho, rfl, rfl, hoD⟩ T.sa ?_
  refine osa_next I.kIn ho hns hw (by rw [List.length_map]; omega) hcl ne hob (ps _) hh hno (fun h' tk' k hn => ?_)
  have hd : ∃ o, h'.get? dx = some o := by
    obtain ⟨o, _, _, e', _⟩ := hn
    exact ⟨o, e'⟩
  exact h _ (I.write (t' := tk') (x := dx) (e := dx) (o := exd dx ((f, y) :: fs)) (by rw [ed]; exact True.intro) (.inl rfl) k hd (exd_ok hn (relO_put ry rel)))
end
/-- self.f = e -/
def tOgt (K : PySem.W.Frag) (f : Str) (to te : TE) : TS := fun D σ H => te σ H fun y H1 => to σ H1 fun x H2 => ∃ a C : Addr, x = .ref a ∧ OexG K C ∧ PySem.W.findIn K (.ref C) f = some none ∧
  ((H2 a = some (exo a C none) ∧ ∀ dx, H2 dx = none → dx ≠ a → D.nx σ (upd (upd H2 dx (exd dx [(f, y)])) a (exo a C (some dx)))) ∨
    ∃ (dx : Addr) (fs : List (Str × V)), H2 a = some (exo a C (some dx)) ∧ H2 dx = some (exd dx fs) ∧ fs.length ≤ 900 ∧ D.nx σ (upd H2 dx (exd dx ((f, y) :: fs))))
section
variable {X : Cx} {o e : Expr} {es : List Expr} {to te : TE} {ta : TA} {f : Str} {p p' p1 p2 pos : Pos}
theorem ps_ogt (ho : PE X o to) (he : PE X e te) (hs : swapsWith e (some (.Attribute o f p')) pos.line X.env = pure false := by rfl) : PS X (.Assign [.Attribute o f p'] e pos) (tOgt X.K f to te) := by
  refine ⟨fun pins s σ H D I h => ?_⟩
  refine plainObj_wpAny_Assign_Attribute (thn (he.run pins s σ H _ I h) fun v s1 ⟨y, H1, I1, r1, q1⟩ => thn (ho.run pins s1 σ H1 _ I1 q1) fun u s2 ⟨x, H2, I2, r2, a, C, ex, T, hno, q⟩ => ?_) hs
  subst ex
  obtain rfl : u = Value.ref a := r2
  rcases q with ⟨ea, q⟩ | ⟨dx, fs, ea, ed, hl, q⟩
  · exact ogt_new T I2 ea hno r1 fun dx s' n ne J => ⟨σ, _, J, q dx n ne⟩
  · exact ogt_old T I2 ea ed hl hno r1 fun s' J => ⟨σ, _, J, q⟩
/-- C(e, ..) as a value, C's own __init__ keeping sp -/
def tMkV (C : Addr) (sp : Sp) (ta : TA) : TE := fun σ H Q => ta σ H fun vs H1 => vs.length ≤ 1000 ∧ ∀ a, H1 a = none → sp (.ref a :: vs) (upd H1 a (exo a C none)) (fun v H2 => v = .non ∧ Q (.ref a) H2) (fun _ _ _ => False)
theorem pe_mkv {CX : CXT} {x : Str} {C fI : Addr} {k : Nat} {fd : FuncData} {ps : List Str} {sp : Sp} (T : OexG X.K C) (iC : PySem.W.findIn X.K (.ref C) "__init__" = some (some (.ref fI))) (tI : PySem.W.typeIn X.K (.ref fI) = some (.type "function"))
    (F1 : FnOk X.prog X.w X.K X.mg X.base CX k fI fd ps sp) (hr : Room (k + 1) X.A) (hb : Binds X.K fd ps []) (hx : Passes CX X (fun _ _ _ => False)) (hg : Gl X x) (hm : X.mg x = some (.ref C)) (ha : PA X (e :: es) ta)
    (hdb : (x == ("__debug__" : Str)) = false) (he : starEach (e :: es) X.env = (false, eval e X.env) :: starEach es X.env) (hpl : (backTo pos (starEach es X.env)).any (·.1) = false) :
    PE X (.Call (.Name x p) (e :: es) [] pos) (tMkV C sp ta) := by
  refine ⟨fun pins s σ H Q I h => ?_⟩
  obtain ⟨B, newId, initId, tail, nm, q, N, bs, bm, sn, sub, ab, col, dd, k0, k1, k2, k3, k5, hB, hC, hbm⟩ := T.cls
  refine wpAny_Call_Name_kw (ld_glob I hg hm ?_ hdb)
  refine PySem.W.callWith_K (h₀ := X.base) I.ok.mod.kin T.kC (thn (ha.run pos pins s σ H _ I h) fun us s1 ⟨vs, H1, I1, r1, hz, q1⟩ => ⟨I1.kIn, ?_⟩) he hpl
  show wpAny _ _ (call (.ref C) us) _ _ _
  obtain ⟨hp, g, dr, tk, os⟩ := s1
  have hsz : hp.objs.size ≤ hp.objs.size + 1 := Nat.le_succ _
  have hn : H1 (hp.objs.size + 1) = none := I1.hok.fresh hsz
  have hq := q1 (hp.objs.size + 1) hn
  have kk : ∀ b o, hp.get? b = some o → ((hp.push (PySem.W.kdv_tup us)).push (PySem.HandSPX.excO C hp.objs.size)).get? b = some o := fun b o e => Heap.get?_push_of_some _ (Heap.get?_push_of_some _ e)
  have hget : ((hp.push (PySem.W.kdv_tup us)).push (PySem.HandSPX.excO C hp.objs.size)).get? (hp.objs.size + 1) = some (PySem.HandSPX.excO C hp.objs.size) := by heap_get
  have I2 : Inv X pins σ (upd H1 (hp.objs.size + 1) (exo (hp.objs.size + 1) C none)) ⟨(hp.push (PySem.W.kdv_tup us)).push (PySem.HandSPX.excO C hp.objs.size), g, dr, tk, os⟩ :=
    I1.laid (t' := tk) (a := hp.objs.size + 1) (o := exo (hp.objs.size + 1) C none) (h' := (hp.push (PySem.W.kdv_tup us)).push (PySem.HandSPX.excO C hp.objs.size)) kk hsz (exo_ok hget)
  have r2 : Vals (V.ref (hp.objs.size + 1) :: vs) (Value.ref (hp.objs.size + 1) :: us) := .cons rfl r1
  have hl : (Value.ref (hp.objs.size + 1) :: us ++ []).length = ps.length := by
    rw [List.append_nil]
    have e := r2.length
    rw [F1.len _ _ _ _ hq] at e
    exact e.symm
  have hus : us.length ≤ sizeLine := by
    rw [← Paired.length r1, sizeLine_eq]
    omega
  have hb' := hb _ (Value.ref (hp.objs.size + 1) :: us) I2.kIn hl
  rw [List.append_nil] at hb'
  refine wpAny_call (PySem.HandSPX.call_own hB.F (fun Y => tail_contains Y hbm) (I1.kIn _ _ hC) (PySem.W.looks_findIn I1.kIn iC) (fun self => PySem.W.bind_fn I1.kIn self tI) hus
    (codeAny_mono (F1.run _ X.stack _ _ ⟨Value.ref (hp.objs.size + 1) :: us, []⟩ (Value.ref (hp.objs.size + 1) :: us) _ _ (fun _ _ _ => False) (hr.make C us []) (I2.env0.make C us []) hb' r2 hq) fun r s' hq' => ?_))
  cases r with
  | error er => exact hx pins σ _ _ er s' I2 hq'
  | ok fl =>
    cases fl with
    | ret u =>
      obtain ⟨v, H2, I3, rv, ev, q2⟩ := I2.after hq'
      subst ev
      exact ⟨rv, .ref (hp.objs.size + 1), H2, I3, rfl, q2⟩
    | next => exact False.elim hq'
    | brk => exact False.elim hq'
    | cont => exact False.elim hq'
/-- C() as a value, C without an own __init__ -/
theorem pe_mkv0 {x : Str} {C : Addr} {B newId initId : String} {bmB : List Value} (F : ExcBaseFacts B newId initId bmB) (q : PySem.W.excIn X.K C bmB newId = true) (gC : X.mg x = some (.ref C)) (kC : PySem.W.keepIn X.K (.ref C) = true) (hg : Gl X x) (hdb : (x == ("__debug__" : Str)) = false) :
    PE X (.Call (.Name x p) [] [] pos) (fun σ H Q => ∀ a, H a = none → Q (.ref a) (upd H a (exo a C none))) := by
  refine ⟨fun pins s σ H Q I h => ?_⟩
  refine wpAny_Call_Name_kw (ld_glob I hg gC ?_ hdb)
  refine PySem.W.callWith_K0 I.kIn kC ?_
  obtain ⟨bm, N, nm, qn, bs, hdct, sn, sub, ab, col, dd, k0, k1, k2, k3, k5, mN, hC, hN, hni, T⟩ := exc_obj I.kIn q
  refine wpAny_call_exc_subT F T hC hN hni (fun h' a hm => ?_) (by show 0 ≤ sizeLine; omega)
  have hn : H a = none := I.hok.gone hm.new
  obtain ⟨t, ht, _, _⟩ := hm.there
  exact ⟨.ref a, upd H a (exo a C none), I.laidN hm.keeps hm.new hn (exo_ok ht), rfl, h a hn⟩
end
end Ad
namespace PySem.W
open PySem PySem.Spec PySem.Calls PyProof.Rows
section
variable {prog : Program} {w : World} {A : Around} {E : Value → Shared → Prop} {s : Shared} {K : Frag} {x D : Addr} {ox : Obj} {od : Option Obj}
/-- an exception is asked for its class, whatever its own dict holds -/
theorem adK_classE {Q : Option Value → Shared → Prop} (hga : findIn K (.ref D) "__getattribute__" = some (some (.builtin "BaseException.__getattribute__"))) (hgt : findIn K (.ref D) "__getattr__" = some none) (hsub : subIn K (.ref D) (.type "BaseException") = some true)
    (hdct : hasDictIn K D = true) (ha : findIn K (.ref D) "__class__" = some (some (.builtin "object.__class__")))
    (hn : specialIn K (.builtin "object.__class__") "__get__" = some (some (.builtin "getset_descriptor.__get__"))) (htk : takesIn K (.builtin "object.__class__") = some true) (hm : mroIn K D (.type "object") = some true)
    (X : K.In s.heap) (I : InstAt s.heap x ox D od) (h : Q (some (.ref D)) { s with toks := s.toks + 1 }) : wpAny (model prog w) A (getAttr? (.ref x) "__class__") Q E s := by
  have hc : (clsIn K D).isSome = true := by obtain ⟨cd, hc, _⟩ := any_some hdct; rw [hc]; rfl
  have hf : findObj K D od "__class__" = some (.bind (.builtin "getset_descriptor.__get__") (.builtin "object.__class__")) := by
    cases od with
    | none => exact findObj_dataN hc ha hn htk
    | some od => exact findObj_data hc ha hn htk
  obtain ⟨hp, g, d, t, os⟩ := s
  have L0 := I.type (M := model prog w)
  have L1 := looks_findIn (M := model prog w) X hga
  have L2 := looks_findIn (M := model prog w) X hgt
  have L3 := looks_find (M := model prog w) X I hf
  have sub : Looks (model prog w) hp (isInstance (.ref x) (.type "BaseException")) true := L0.andThen (looks_subIn X hsub)
  have hx0 : (false && onTheHeap (Value.builtin "BaseException.__getattribute__")) = false := rfl
  have hx2 : (Value.builtin "BaseException.__getattribute__" == Value.builtin "object.__getattribute__") = false := by decide +kernel
  have hx1 : (onTheHeap (Value.ref D) && Value.builtin "BaseException.__getattribute__" == Value.builtin "object.__getattribute__") = false := by rw [hx2]; rfl
  unfold getAttr? getAttrBy? getAttrBy
  refine wpAny_bind (wpAny_mkText (wpAny_bind (wpAny_attempt (wpAny_holding (wpAny_bind (L0.at (wpAny_bind (L1.at ?_))))))))
  show wpAny _ _ (if (onTheHeap (Value.ref D) && Value.builtin "BaseException.__getattribute__" == Value.builtin "object.__getattribute__") = true then _ else _) _ _ _
  rw [hx1, if_neg Bool.false_ne_true]
  unfold getAttrByItsOwn hookBefore
  refine wpAny_bind ?_
  rw [if_pos (show onTheHeap (Value.ref D) = true from rfl)]
  refine L2.at ?_
  refine wpAny_bind (wpAny_attempt (wpAny_holding ?_))
  unfold callGetattribute
  rw [hx0, if_neg Bool.false_ne_true]
  unfold boundAndCalled
  rw [PySem.F.excAttr_ValueError.ga.bind (.ref x)]
  refine wpAny_bind (wpAny_pure ?_)
  show wpAny _ _ (call (.builtin "BaseException.__getattribute__") [.ref x, .str "__class__" t]) _ _ _
  refine wpAny_call (codeAny_call_builtin PySem.F.excAttr_ValueError.ga.plain PySem.F.entry_bexc_ga ?_)
  refine @check_slot (model prog w) _ _ ⟨hp, g, d, t + 1, os⟩ "BaseException.__getattribute__" "BaseException" "__getattribute__" (.ref x) [.str "__class__" t] [] _ (by decide +kernel) (by decide +kernel) sub (PySem.F.args_bexc_ga (.ref x) (.str "__class__" t)) ?_
  unfold Builtin.«object.__getattribute__»
  refine wpAny_bind (wpAny_of_eq (a := ((Value.ref x : Value), [Value.str "__class__" t])) (by first | rfl | (simp only [slotArgs]; rfl)) ?_)
  refine wpAny_bind (wpAny_pure (wpAny_bind (L0.at (wpAny_bind (L3.at ?_)))))
  show wpAny _ _ (holding [Value.builtin "object.__class__"] (call (.builtin "getset_descriptor.__get__") [.builtin "object.__class__", .ref x, .ref D]) >>= ret) _ _ _
  refine wpAny_bind (wpAny_holding (wpAny_call (class_get (s := ⟨hp, g, d, t + 1, os⟩) (ox := ox) (od := od) X I hm ?_)))
  refine wpAny_pure ?_
  show wpAny _ _ (handedOut (.ref D)) _ _ _
  rw [handedOut_of (v := .ref D) rfl]
  first
    | exact wpAny_pure (wpAny_pure h)
    | exact wpAny_pure h
    | exact wpAny_pure (wpAny_bind (wpAny_pure (wpAny_pure h)))
theorem adK_kitx (hga : findIn K (.ref D) "__getattribute__" = some (some (.builtin "BaseException.__getattribute__"))) (hgt : findIn K (.ref D) "__getattr__" = some none) (hsub : subIn K (.ref D) (.type "BaseException") = some true) (hdct : hasDictIn K D = true) (ha : findIn K (.ref D) "__class__" = some (some (.builtin "object.__class__")))
    (hn : specialIn K (.builtin "object.__class__") "__get__" = some (some (.builtin "getset_descriptor.__get__"))) (htk : takesIn K (.builtin "object.__class__") = some true) (hm : mroIn K D (.type "object") = some true) :
    KitX K (.ref x) (.ref D) (fun h => InstAt h x ox D od) where
  ty := fun _ _ _ I => I.type
  it := fun _ _ X _ => by
    obtain ⟨cdD, hcD, _⟩ := any_some hdct
    unfold clsIn at hcD
    split at hcD
    · rename_i c' d' cd' sl' ho
      intro A' Q' E' s' k q
      unfold isType loadHead
      exact wpAny_bind (wpAny_loadPart (k _ _ (X _ _ ho)) (wpAny_pure q))
    · cases hcD
  ne := fun h tp dd its n sl X htp => by
    obtain ⟨cdD, hcD, _⟩ := any_some hdct
    refine Bool.eq_false_iff.mpr fun q => ?_
    have e : D = tp := Value.ref.inj (beq_iff_eq.mp q)
    subst e
    unfold clsIn at hcD
    split at hcD
    · rename_i c' d' cd' sl' ho
      have z := (X _ _ ho).symm.trans htp
      cases z
    · cases hcD
  ca := fun X I k => adK_classE hga hgt hsub hdct ha hn htk hm X I k
end
end PySem.W
namespace Ad
open PySem PySem.Calls PySem.W PySem.Spec PyProof.Rows L2

/-! ### exceptions as values: what their classes are -/
/-- a key's place -/
def keyAt : List D → Str → Option Nat
  | .str g :: ks, f => if g = f then some 0 else (keyAt ks f).map (· + 1)
  | _, _ => none
/-- is it a thing of the class n (own: one of the program's, else a built-in one)? -/
def tblAt (own : Bool) : List (D × D) → Str → Option Bool
  | (.str m, .bool b) :: r, n => if own = true ∧ m = n then some b else tblAt own r n
  | (.str m, .int i) :: r, n => if own = false ∧ m = n then some (i == 1) else tblAt own r n
  | _, _ => none
/-- a thing of the class nm: what it is, its fields' names, their values -/
def insD (nm : Str) (tbl : List (D × D)) (ks ds : List D) : D := .dict [(.str nm, .dict tbl), (.list ks, .tuple ds)]
/-- the class -/
def clsD (nm : Str) (tbl : List (D × D)) (ks : List D) : D := .dict [(.list ks, .dict tbl), (.str nm, .none)]
/-- what the written part says of the class nm of exceptions -/
structure XOk (K : PySem.W.Frag) (nm : Str) (tbl : List (D × D)) (ks : List D) : Prop where
  ec : ExcC K (He.ga K nm)
  fl : ∀ f i, keyAt ks f = some i → PySem.W.findIn K (.ref (He.ga K nm)) f = some none
  own : ∀ n b, tblAt true tbl n = some b → PySem.W.kitOne K (.ref (He.ga K nm)) (.ref (He.ga K n)) = some b
  blt : ∀ n b, tblAt false tbl n = some b → ∃ T, bootBuiltins n = some (.type T) ∧ PySem.W.kitOne K (.ref (He.ga K nm)) (.type T) = some b
theorem XOk.xf {K : PySem.W.Frag} {nm : Str} {tbl : List (D × D)} {ks : List D} (h : XOk K nm tbl ks) : XfC K (He.ga K nm) := ⟨h.ec.hg, h.ec.hk, h.ec.hs, h.ec.hd⟩
/-- an own __init__ that keeps its arguments in these fields -/
def spKeep (C : Addr) (ks : List D) : Sp := fun vs H Q _ => ∃ a ws, vs = .ref a :: ws ∧ ws.length = ks.length ∧ H a = some (exo a C none) ∧
  ∀ dx fs H', H dx = none → dx ≠ a → H' a = some (exo a C (some dx)) → H' dx = some (exd dx fs) → (∀ b, b ≠ a → b ≠ dx → H' b = H b) → (∀ f i, keyAt ks f = some i → fs.lookup f = ws[i]?) → Q .non H'
/-- how the class is called -/
def MkOk (K : PySem.W.Frag) (nm : Str) (ks : List D) : Prop :=
  (ks = [] ∧ PySem.W.keepIn K (.ref (He.ga K nm)) = true ∧ ∃ B newId initId bmB, ExcBaseFacts B newId initId bmB ∧ PySem.W.excIn K (He.ga K nm) bmB newId = true) ∨
  (ks ≠ [] ∧ OexG K (He.ga K nm) ∧ ∃ (fI : Addr) (fd : FuncData) (ps : List Str), PySem.W.findIn K (.ref (He.ga K nm)) "__init__" = some (some (.ref fI)) ∧ PySem.W.typeIn K (.ref fI) = some (.type "function") ∧ Binds K fd ps [] ∧
    ∀ (P : Program) (w : World) (mg : Str → Option Value) (base : Heap), FnOk P w K mg base CX0 1 fI fd ps (spKeep (He.ga K nm) ks))
/-- the object at a: an exception with these fields -/
def ExR (N : Addr → Prop) (H : Hp) (a C : Addr) (ks : List D) (vs : List V) : Prop := (ks = [] ∧ H a = some (exo a C none)) ∨ ∃ dx fs, H a = some (exo a C (some dx)) ∧ H dx = some (exd dx fs) ∧ ¬ N dx ∧ ∀ f i, keyAt ks f = some i → fs.lookup f = vs[i]?
theorem exo_inj {a C C' : Addr} {d d' : Option Addr} (P : Program) (w : World) : True := trivial

/-! the rules -/
section
variable {X : Cx} {e : Expr} {te : TE} {pos : Pos} {n : Str}
/-- x.f, x an exception held as a value -/
def tXfv (K : PySem.W.Frag) (n : Str) (te : TE) : TE := fun σ H Q => te σ H fun x H1 => ∃ a C dx fs v, x = .ref a ∧ XfC K C ∧ PySem.W.findIn K (.ref C) n = some none ∧ H1 a = some (exo a C (some dx)) ∧ H1 dx = some (exd dx fs) ∧ fs.lookup n = some v ∧ Q v H1
theorem pe_xfv (he : PE X e te) (hb : attributeBase e n X.env (eval e X.env) = eval e X.env) : PE X (.Attribute e n pos) (tXfv X.K n te) := by
  refine ⟨fun pins s σ H Q I h => ?_⟩
  refine attr_of hb (thn (he.run pins s σ H _ I h) fun u s1 hh => ?_)
  obtain ⟨x, H1, I1, rx, a, C, dx, fs, v, ex, T, hno, ea, ed, l, q⟩ := hh
  subst ex
  obtain rfl : u = Value.ref a := rx
  obtain ⟨t1, ho⟩ := exo_at I1.hok ea
  obtain ⟨mA, hns, hr⟩ := exd_at I1.hok ed
  obtain ⟨od, hod, hl⟩ := lookIn_ns hns
  obtain ⟨u, hu, ru⟩ := RelO.some_of (v := v) (o := mA n) (by rw [← l]; exact hr n)
  have J : PySem.W.InstAt s1.heap a _ C (some od) := ⟨ho, rfl, rfl, hod⟩
  exact HandSPX.exc_get I1.kIn J T.ga T.gg T.exC (PySem.W.findObj_own T.hdC hno rfl (by rw [hl, hu])) (handed_of ru) ⟨v, H1, I1.tok _, ru, q⟩
/-- isinstance(x, c), x an exception held as a value -/
def rIsV (K : PySem.W.Frag) : List V → Hp → VK → Prop := fun xs H Q => ∃ (a C : Addr) (d : Option Addr) (c : V) (cv : Value) (b : Bool), xs = [.ref a, c] ∧ ExcC K C ∧ H a = some (exo a C d) ∧ (d = none ∨ ∃ dx fs, d = some dx ∧ H dx = some (exd dx fs)) ∧ (∀ u, RelV c u → u = cv) ∧ PySem.W.kitOne K (.ref C) cv = some b ∧ Q (.bl b) H
theorem call_isV : CallR X (.builtin "isinstance") (rIsV X.K) := by
  intro pins s σ H xs us Q I r h
  obtain ⟨a, C, d, c, cv, b, rfl, T, ea, hd, hcv, e, q⟩ := h
  obtain ⟨u1, u2, rfl, rx, rt⟩ := Vals.two r
  cases rx
  have ec := hcv _ rt
  subst ec
  obtain ⟨t1, ho⟩ := exo_at I.hok ea
  rcases hd with rfl | ⟨dx, fs, rfl, ed⟩
  · have J : PySem.W.InstAt s.heap a _ C none := ⟨ho, rfl, rfl, trivial⟩
    exact PySem.W.kia_one (PySem.W.adK_kitx T.hg T.hk T.hs T.hd T.ha T.hn T.ht T.hm) I.kIn J e (fun z => nomatch z) fun tk => ⟨.bl b, H, I.tok tk, rfl, q⟩
  · obtain ⟨mA, ⟨od, es, ep, hod, _⟩, hr⟩ := exd_at I.hok ed
    have J : PySem.W.InstAt s.heap a _ C (some od) := ⟨ho, rfl, rfl, hod⟩
    exact PySem.W.kia_one (PySem.W.adK_kitx T.hg T.hk T.hs T.hd T.ha T.hn T.ht T.hm) I.kIn J e (fun z => nomatch z) fun tk => ⟨.bl b, H, I.tok tk, rfl, q⟩
end
end Ad
namespace Ad
open PySem

/-! ### operations, further -/
def addD : D → D → M D
  | .int i, .int j => pure (.int (i + j))
  | .str x, .str y => do M.grd (x.length + y.length ≤ sizeLine); pure (.str (x ++ y))
  | .tuple xs, .tuple ys => do M.grd (xs.length + ys.length ≤ sizeLine); pure (.tuple (xs ++ ys))
  | .list xs, .list ys => do M.grd (xs.length + ys.length ≤ sizeLine); pure (.list (xs ++ ys))
  | _, _ => M.fail
/-- a text some times -/
def timesS (x : Str) (n : Nat) : Str := ⟨(List.replicate n x.cps).foldl (· ++ ·) #[]⟩
def mulD : D → D → M D
  | .int i, .int j => do M.grd (L2.CMul i j); pure (.int (i * j))
  | .list xs, .int k => do
    M.grd (-(2 ^ 63) ≤ k ∧ k < 2 ^ 63 ∧ xs.length * k.toNat ≤ sizeLine)
    pure (.list (List.replicate k.toNat xs).flatten)
  | .str x, .int k => do
    M.grd (2 ≤ k ∧ k ≤ 1000000 ∧ 1 ≤ x.length ∧ x.length * k.toNat ≤ 16777216)
    pure (.str (timesS x k.toNat))
  | _, _ => M.fail
def intOp (c : Int → Int → Prop) (g : Int → Int → Int) : D → D → M D
  | .int i, .int j => do M.grd (c i j); pure (.int (g i j))
  | _, _ => M.fail
def binD : Operator → D → D → M D
  | .Add => addD
  | .Sub => intOp (fun _ _ => True) fun i j => i - j
  | .Mult => mulD
  | .Mod => intOp (fun _ j => 0 < j) fun i j => i % j
  | .FloorDiv => intOp L2.CDiv fun i j => i / j
  | .Pow => intOp L2.CPow fun i j => i ^ j.toNat
  | .LShift => intOp L2.CPow fun i j => i * 2 ^ j.toNat
  | _ => fun _ _ => M.fail
/-- the order of plain data that are alike -/
def ltD : D → D → M Bool
  | .int i, .int j => pure (decide (i < j))
  | a, b => do
    M.grd (W.alike a b = true ∧ a ≠ .none ∧ a.depth ≤ 40 ∧ a.plain = true ∧ b.plain = true)
    pure (W.dataLt a b)
def cmpD : CmpOp → D → D → M Bool
  | .Eq, a, b => eqD a b
  | .NotEq, a, b => do let r ← eqD a b; pure (!r)
  | .Lt, a, b => ltD a b
  | .LtE, .int i, .int j => pure (decide (i ≤ j))
  | .Gt, .int i, .int j => pure (decide (j < i))
  | .GtE, .int i, .int j => pure (decide (j ≤ i))
  | .In, a, b => inD a b
  | .NotIn, a, b => do let r ← inD a b; pure (!r)
  | .Is, a, .none => pure (match a with | .none => true | _ => false)
  | .IsNot, a, .none => pure (match a with | .none => false | _ => true)
  | .Is, .bool a, .bool b => pure (decide (a = b))
  | .IsNot, .bool a, .bool b => pure (!decide (a = b))
  | _, _, _ => M.fail
def oget {α : Type} : Option α → M α
  | some a => pure a
  | none => M.fail
/-- what is so -/
def M.exi {α : Type} (p : α → Prop) : M α := ⟨fun Q _ b => ∃ a, p a ∧ Q a b, fun h _ _ q => let ⟨a, h1, h2⟩ := q; ⟨a, h1, h _ h2⟩⟩
def dkOf (d : D) : M (List (Int × Int)) := M.exi fun kvs => d = dkD kvs
def dkGet (kvs : List (Int × Int)) (k : Int) : Option Int := (kvs.find? fun p => decide (p.1 = k)).map (·.2)
def putI (kvs : List (Int × Int)) (k v : Int) : List (Int × Int) := if (kvs.any fun p => decide (p.1 = k)) then kvs.map fun p => if p.1 = k then (p.1, v) else p else kvs ++ [(k, v)]
def ixD : D → D → M D
  | .list xs, .int i => oget (L2.atI xs i)
  | .tuple xs, .int i => oget (L2.atI xs i)
  | .str x, .int i => do
    M.grd (x.length ≤ sizeLine)
    let c ← oget (L2.atI x.cps.toList i)
    pure (.str ⟨#[c]⟩)
  | _, _ => M.fail
def cutD (xs : List D) (lo hi : Option Int) : List D := (xs.drop (HT.sIx xs.length 0 lo)).take (HT.sIx xs.length xs.length hi - HT.sIx xs.length 0 lo)
def slP (a : D) (l h : Option Int) : M D := match a with
  | .list xs => pure (.list (cutD xs l h))
  | .tuple xs => pure (.tuple (cutD xs l h))
  | .str x => do M.grd (x.length ≤ sizeLine); pure (.str (L2.cutS x l h))
  | _ => M.fail
def revD : D → M D
  | .list xs => pure (.list xs.reverse)
  | .tuple xs => pure (.tuple xs.reverse)
  | _ => M.fail

/-- what can be sorted: alike data, of small depth, all ints, all texts, or all tuples, or all lists -/
def sortable (xs : List D) : Prop :=
  W.AllAlike xs ∧ (∀ x, x ∈ xs → x ≠ .none ∧ x.depth ≤ 40 ∧ x.plain = true) ∧ ((∀ x, x ∈ xs → ∃ ys, x = .tuple ys) ∨ ∀ x, x ∈ xs → ∀ ys, x ≠ .tuple ys)
def sortD (xs : List D) : List D := xs.mergeSort (W.dataLe false id)
def sortedD (d : D) : M D := do
  let xs ← itemsOf d
  M.grd (sortable xs)
  pure (.list (sortD xs))
/-- each thing once, at its first place -/
def onceD : List D → List D
  | [] => []
  | x :: xs => x :: (onceD xs).filter fun y => !PyData.eqv y x
/-- what a set may hold here: ints alone, or tuples of ints alone, not too many -/
def setOk (xs : List D) : Prop := ((∀ x, x ∈ xs → ∃ i, x = .int i) ∧ xs.length < 4000) ∨ ((∀ x, x ∈ xs → ∃ ns, x = tupD ns) ∧ (onceD xs).length ≤ 305)
/-! nested tuples of ints, as data -/
mutual
def nums : NestedKey → Bool
  | .num _ => true
  | .tup ks => numsAll ks
  | _ => false
def numsAll : List NestedKey → Bool
  | [] => true
  | k :: ks => nums k && numsAll ks
end
mutual
def nkD : NestedKey → D
  | .none => .none
  | .num i => .int i
  | .text x => .str x
  | .tup ks => .tuple (nkDs ks)
def nkDs : List NestedKey → List D
  | [] => []
  | k :: ks => nkD k :: nkDs ks
end
/-- a tuple fit for a set, nested or not -/
def nestOk (x : D) : Prop := ∃ ks, nums (.tup ks) = true ∧ (NestedKey.tup ks).depth ≤ 8 ∧ x = nkD (.tup ks)
def setOkL (xs : List D) : Prop := setOk xs ∨ ((∀ x, x ∈ xs → nestOk x) ∧ (onceD xs).length ≤ 305)
/-- these, in any order -/
def M.anyPerm (xs : List D) : M (List D) := ⟨fun Q _ b => ∀ ys, ys.Perm xs → Q ys b, fun h _ _ q ys p => h _ (q ys p)⟩
/-- sorted(set(d)): whatever the set's order was -/
def sortedSetD (d : D) : M D := do
  let xs ← itemsOf d
  M.grd (sortable xs ∧ setOk xs)
  let ys ← M.anyPerm (onceD xs)
  pure (.list (sortD ys))
def lenSetD (d : D) : M D := do
  let xs ← itemsOf d
  M.grd (setOkL xs)
  pure (.int (onceD xs).length)
def minOf (xs : List D) : Option D := match xs with
  | [] => none
  | x :: xs => some (W.minD x xs)
def maxOf (xs : List D) : Option D := match xs with
  | [] => none
  | x :: xs => some (W.maxD x xs)

/-- the built-ins, by name and number of arguments -/
inductive Bi where
  | len | tuple | list | int1 | str1 | min1 | min2 | max1 | max2 | sorted | sortedSet | lenSet | lenSetS | sumL | repr
  | isInt | isBool | isStr | isTuple | isList
  | range1 | range2 | enum | zip | listRange | tupRange1
  deriving DecidableEq
def rangeD (a b : Int) : List D := (List.range (b - a).toNat).map fun i => .int (a + (i : Nat))
def enumD (xs : List D) : List D := xs.zipIdx.map fun p => .tuple [.int (p.2 : Nat), p.1]
def lenD : D → M Int
  | .list xs => pure xs.length
  | .tuple xs => pure xs.length
  | .str x => do M.grd (x.length ≤ sizeLine); pure x.length
  | _ => M.fail
def on1 (f : D → M D) : List D → M D
  | [d] => f d
  | _ => M.fail
def on2 (f : D → D → M D) : List D → M D
  | [d, e] => f d e
  | _ => M.fail
def int1D : D → M D
  | .int i => pure (.int i)
  | .bool b => pure (.int (if b then 1 else 0))
  | .str x => do
    let n ← oget (intText? x)
    M.grd (x.length ≤ 640)
    pure (.int n)
  | _ => M.fail
def str1D : D → M D
  | .int i => do M.grd (i.natAbs.log2 < 1920); pure (.str (toString i))
  | _ => M.fail
def ints2 (g : Int → Int → Int) : D → D → M D
  | .int i, .int j => pure (.int (g i j))
  | _, _ => M.fail
def strsOf : List D → M (List Str)
  | [] => pure []
  | .str x :: xs => do let ys ← strsOf xs; pure (x :: ys)
  | _ :: _ => M.fail
/-- the same texts -/
def sameS (xs ys : List Str) : Bool := (xs.all fun x => decide (x ∈ ys)) && ys.all fun y => decide (y ∈ xs)
def setNeD (d e : D) : M D := do
  let xs ← itemsOf d
  let ys ← itemsOf e
  let a ← strsOf xs
  let b ← strsOf ys
  M.grd (a.length < 4000 ∧ b.length < 4000)
  pure (.bool (!sameS a b))
def lenSetSD (d : D) : M D := do
  let xs ← itemsOf d
  let a ← strsOf xs
  M.grd (a.length < 4000)
  pure (.int (onceD xs).length)
/-- lists, put together -/
def listsOf : List D → M (List (List D))
  | [] => pure []
  | .list xs :: ys => do let zs ← listsOf ys; pure (xs :: zs)
  | _ :: _ => M.fail
def sumLD : D → M D
  | .list xs => do
    let yss ← listsOf xs
    M.grd (yss.flatten.length ≤ sizeLine)
    pure (.list yss.flatten)
  | _ => M.fail
def isaD (g : D → Bool) (d : D) : M D := do M.grd (okD d = true); pure (.bool (g d))
def biD : Bi → List D → M D
  | .len => on1 fun d => do let n ← lenD d; pure (.int n)
  | .tuple => on1 fun d => do let xs ← itemsOf d; pure (.tuple xs)
  | .list => on1 fun d => do let xs ← itemsOf d; pure (.list xs)
  | .int1 => on1 int1D
  | .str1 => on1 str1D
  | .min1 => on1 fun d => do let xs ← itemsOf d; M.grd (sortable xs); oget (minOf xs)
  | .max1 => on1 fun d => do let xs ← itemsOf d; M.grd (sortable xs); oget (maxOf xs)
  | .min2 => on2 (ints2 fun i j => if j < i then j else i)
  | .max2 => on2 (ints2 fun i j => if j > i then j else i)
  | .sorted => on1 sortedD
  | .sortedSet => on1 sortedSetD
  | .lenSet => on1 lenSetD
  | .sumL => on1 sumLD
  | .lenSetS => on1 lenSetSD
  | .repr => on1 fun d => do M.grd (okD d = true ∧ d.showable = true ∧ d.depth ≤ 40 ∧ d.shown.length ≤ sizeLine); pure (.str d.shown)
  | .isInt => on1 (isaD PyData.isInt)
  | .isBool => on1 (isaD PyData.isBool)
  | .isStr => on1 (isaD PyData.isStr)
  | .isTuple => on1 (isaD PyData.isTuple)
  | .isList => on1 (isaD PyData.isList)
  | .range1 => on1 fun d => do let j ← asInt d; M.grd (j ≤ 2 ^ 24 ∧ -(2 ^ 62) ≤ j); pure (.list (rangeD 0 j))
  | .range2 => on2 fun d e => do let i ← asInt d; let j ← asInt e; M.grd (L2.RgOk i j); pure (.list (rangeD i j))
  | .enum => on1 fun d => do let xs ← itemsOf d; pure (.list (enumD xs))
  | .listRange => on1 fun d => do let j ← asInt d; M.grd (L2.RgOk 0 j); pure (.list (rangeD 0 j))
  | .tupRange1 => on1 fun d => do let j ← asInt d; M.grd (L2.RgOk 0 j); pure (.tuple (rangeD 0 j))
  | _ => fun _ => M.fail
/-- methods that change nothing -/
inductive Mt where
  | join | split | replace | count | index | tindex | get1 | get2 | geti | setNe
  deriving DecidableEq
def mtD : Mt → D → List D → M D
  | .join, .str x, [d] => do
    let xs ← itemsOf d
    let ys ← strsOf xs
    M.grd ((ys.map (·.length)).sum + ys.length * x.length ≤ 16777216)
    pure (.str (Txt.join x ys))
  | .split, .str x, [.str y] => do
    M.grd ((y.length == 0) = false ∧ x.length + 2 ≤ sizeLine ∧ (Txt.split x y).length ≤ sizeLine)
    pure (.list ((Txt.split x y).map .str))
  | .count, .str x, [.str y] => pure (.int (Txt.count x y))
  | .replace, .str x, [.str y, .str z] => do
    M.grd (x.length + (x.length + 1) * z.length ≤ 16777216)
    pure (.str (Txt.replace x y z))
  | .index, .list xs, [y] => do
    M.grd (eqOk y ∧ eqOk (.list xs) ∧ true ∈ xs.map fun z => PyData.eqv z y)
    pure (.int ((xs.map fun z => PyData.eqv z y).idxOf true : Nat))
  | .tindex, .tuple xs, [y] => do
    M.grd (eqOk y ∧ eqOk (.tuple xs) ∧ true ∈ xs.map fun z => PyData.eqv z y)
    pure (.int ((xs.map fun z => PyData.eqv z y).idxOf true : Nat))
  | .get1, d, [.int k] => do
    let l ← dkOf d
    pure (match dkGet l k with | some v => .int v | none => .none)
  | .get2, d, [.int k, .int x] => do
    let l ← dkOf d
    pure (.int ((dkGet l k).getD x))
  | .setNe, d, [e] => setNeD d e
  | .geti, d, [.int k] => do
    let l ← dkOf d
    let v ← oget (dkGet l k)
    pure (.int v)
  | _, _, _ => M.fail
/-- what a method is asked of -/
def mtG : Mt → D → M Unit
  | .index, .list _ => pure ()
  | .index, _ => M.fail
  | .tindex, .tuple _ => pure ()
  | .tindex, _ => M.fail
  | .count, .str _ => pure ()
  | .count, _ => M.fail
  | .split, .str _ => pure ()
  | .split, _ => M.fail
  | .get1, d => do let _ ← dkOf d; pure ()
  | .get2, d => do let _ ← dkOf d; pure ()
  | .geti, d => do let _ ← dkOf d; pure ()
  | .setNe, d => do let xs ← itemsOf d; let a ← strsOf xs; M.grd (a.length < 4000)
  | _, _ => pure ()

/-! ### the syntax -/
inductive Tg where
  | n (i : Nat)
  | t (is : List Nat)
mutual
inductive E where
  | v (i : Nat)
  | w (i : Nat)
  | k (d : D)
  | g (nm : Str) (d : D)
  | tup (es : Es)
  | lst (es : Es)
  | dic
  | dkn
  | dtn
  | bin (op : Operator) (a b : E)
  | neg (a : E)
  | not (a : E)
  | and (a b : E)
  | or (a b : E)
  | cmp (op : CmpOp) (a b : E)
  | cmp2 (o1 o2 : CmpOp) (a b c : E)
  | ife (c a b : E)
  | ix (a i : E)
  | sl (lo : Bool) (a b : E)
  | rev (a : E)
  | lc (own : List Nat) (tg : Tg) (it tst elt : E)
  | call (nm : Str) (f : List D → M D) (es : Es)
  | callB (nm : Str) (f : List D → M D) (es : Es)
  | bi (b : Bi) (es : Es)
  | mt (m : Mt) (o : E) (es : Es)
  | vlen (i : Nat)
  | vg (i : Nat) (e : E)
  | mkx (nm : Str) (tbl : List (D × D)) (ks : List D) (es : Es)
  | fld (f : Str) (e : E)
  | xis (nm : Str) (own : Bool) (e : E)
inductive Es where
  | nil
  | cons (e : E) (es : Es)
end
/-- a value to a target -/
def bindT (ρ : Ev) : Tg → D → M Ev
  | .n i, d => pure (ρ.set i (some (d, false)))
  | .t is, .tuple xs => do
    M.grd (xs.length = is.length)
    pure ((is.zip xs).foldl (fun ρ p => ρ.set p.1 (some (p.2, false))) ρ)
  | .t is, .list xs => do
    M.grd (xs.length = is.length)
    pure ((is.zip xs).foldl (fun ρ p => ρ.set p.1 (some (p.2, false))) ρ)
  | _, _ => M.fail
/-- i, (js) = d -/
def bindN (ρ : Ev) (i : Nat) (js : List Nat) : D → M Ev
  | .tuple [x, y] => bindT (ρ.set i (some (x, false))) (.t js) y
  | _ => M.fail
def walked : D → M (List D)
  | .list xs => pure xs
  | .tuple xs => pure xs
  | .str x => pure (x.cps.toList.map fun c => .str ⟨#[c]⟩)
  | _ => M.fail
def noOwn (ρ : Ev) (own : List Nat) : Bool := own.all fun i => match ρ[i]? with
  | some (some (_, true)) => false
  | _ => true
/-- a result without lists, nothing raised -/
def fixM (m : M D) : M D := do
  let r ← M.quiet m
  M.grd (fixedD r = true)
  pure r
def asList : D → M (List D)
  | .list xs => pure xs
  | _ => M.fail
def fitsD (xs : List D) : Prop := xs.length ≤ sizeLine
/-- a field of a thing of a class -/
def fldD (f : Str) : D → M D
  | .dict [(.str _, .dict _), (.list ks, .tuple ds)] => do let i ← oget (keyAt ks f); oget ds[i]?
  | _ => M.fail
/-- is it of that class? -/
def isxD (own : Bool) (n : Str) : D → M D
  | .dict [(.str _, .dict tbl), (.list _, .tuple _)] => do let b ← oget (tblAt own tbl n); pure (.bool b)
  | _ => M.fail

mutual
def dE : E → Ev → M D
  | .v i, ρ => look ρ i
  | .w i, ρ => lookB ρ i
  | .k d, _ => pure d
  | .g _ d, _ => pure d
  | .tup es, ρ => do let ds ← dEs es ρ; pure (.tuple ds)
  | .lst es, ρ => do let ds ← dEs es ρ; pure (.list ds)
  | .dic, _ => pure (.dict [])
  | .dkn, _ => pure (dkD [])
  | .dtn, _ => pure (dtD [[]])
  | .bin op a b, ρ => do let x ← dE a ρ; let y ← dE b ρ; binD op x y
  | .neg a, ρ => do let x ← dE a ρ; let i ← asInt x; pure (.int (-i))
  | .not a, ρ => do let x ← dE a ρ; let b ← asBool x; pure (.bool (!b))
  | .and a b, ρ => do
    let x ← dE a ρ
    let c ← asBool x
    if c then (do let y ← dE b ρ; let d ← asBool y; pure (.bool d)) else pure (.bool false)
  | .or a b, ρ => do
    let x ← dE a ρ
    let c ← asBool x
    if c then pure (.bool true) else (do let y ← dE b ρ; let d ← asBool y; pure (.bool d))
  | .cmp op a b, ρ => do let x ← dE a ρ; let y ← dE b ρ; let r ← cmpD op x y; pure (.bool r)
  | .cmp2 o1 o2 a b c, ρ => do
    let x ← dE a ρ
    let y ← dE b ρ
    let r ← cmpD o1 x y
    if r then (do let z ← dE c ρ; let q ← cmpD o2 y z; pure (.bool q)) else pure (.bool false)
  | .ife c a b, ρ => do
    let x ← dE c ρ
    let r ← asBool x
    if r then dE a ρ else dE b ρ
  | .ix a i, ρ => do let x ← dE a ρ; let y ← dE i ρ; ixD x y
  | .sl lo a b, ρ => do let x ← dE a ρ; let y ← dE b ρ; let i ← asInt y; if lo then slP x (some i) none else slP x none (some i)
  | .rev a, ρ => do let x ← dE a ρ; revD x
  | .lc own tg it tst elt, ρ => do
    let s ← dE it ρ
    let xs ← walked s
    M.grd (noOwn ρ own = true ∧ fitsD xs)
    let ys ← M.quiet (lcE (fun d => do
      let ρ1 ← bindT (wipeE ρ own) tg d
      let t ← dE tst ρ1
      let b ← asBool t
      if b then (do let y ← dE elt ρ1; pure (some y)) else pure none) xs)
    pure (.list ys)
  | .call _ f es, ρ => do let ds ← dEs es ρ; f ds
  | .callB _ f es, ρ => do let ds ← dEs es ρ; fixM (f ds)
  | .bi b es, ρ => do let ds ← dEs es ρ; biD b ds
  | .mt m o es, ρ => do let x ← dE o ρ; mtG m x; let ds ← dEs es ρ; mtD m x ds
  | .vlen i, ρ => do let d ← look ρ i; let p ← volL d; pure (.int p.2)
  | .vg i e, ρ => do
    let d ← look ρ i
    let p ← volL d
    let x ← dE e ρ
    let j ← asInt x
    M.grd (0 ≤ j ∧ j < p.2)
    let k ← M.anyInt
    pure (.int k)
  | .mkx nm tbl ks es, ρ => do let ds ← dEs es ρ; M.grd (ds.length = ks.length); pure (insD nm tbl ks ds)
  | .fld f e, ρ => do let d ← dE e ρ; fldD f d
  | .xis nm own e, ρ => do let d ← dE e ρ; isxD own nm d
def dEs : Es → Ev → M (List D)
  | .nil, _ => pure []
  | .cons e es, ρ => do let x ← dE e ρ; let xs ← dEs es ρ; pure (x :: xs)
end

/-- what stands in the list that the suite of an except clause makes -/
inductive Hi where
  | s (z : Str)
  | f (nm : Str)
/-- an except clause: its class, its name's slot, the classes that it takes, those that it does not, where its list is kept, the list -/
structure Hd where
  cls : Str
  slot : Option Nat
  yes : List Str
  no : List Str
  out : Nat
  its : List Hi
def hiV (x : XV) : Hi → M D
  | .s z => pure (.str z)
  | .f nm => oget (x.fs.lookup nm)
def slotIn (ρ : Ev) : Option Nat → Prop
  | none => True
  | some i => i < ρ.length
def wipeO (ρ : Ev) : Option Nat → Ev
  | none => ρ
  | some i => ρ.set i none
/-- what is caught -/
def M.cat {α β : Type} (m : M α) (k : α → M β) (h : XV → M β) : M β :=
  ⟨fun Q R => m.run (fun a => (k a).run Q R) (fun x => (h x).run Q R), fun g g' _ q => m.mono (fun a _ z => (k a).mono g g' z) (fun x _ z => (h x).mono g g' z) q⟩
mutual
inductive S where
  | asg (i : Nat) (e : E)
  | asgO (i : Nat) (e : E)
  | pop (i w : Nat)
  | asgT (is : List Nat) (e : E)
  | asgN (i : Nat) (js : List Nat) (e : E)
  | par (is : List (Nat × Bool)) (es : Es)
  | app (w : Nat) (e : E)
  | appPop (w u : Nat) (e : E)
  | rot (w : Nat) (e : E)
  | rem (w : Nat) (e : E)
  | ext (w : Nat) (e : E)
  | set (w : Nat) (i e : E)
  | aug (i : Nat) (e : E)
  | ex (e : E)
  | ite (c : E) (a b : Ss)
  | for (tg : Tg) (it : E) (b : Ss)
  | forPop (tg : Tg) (a : E) (w : Nat) (b : Ss)
  | whl (c : E) (b : Ss)
  | ret (e : E)
  | retn
  | brk
  | pass
  | nev
  | frz (i : Nat)
  | dkUn (ic it ir w : Nat)
  | dkInc (w : Nat) (e : E)
  | vset (i : Nat) (j e : E)
  | dput (w : Nat) (i e : E)
  | dtput (w : Nat) (e : E)
  | rse (cls : Str) (fs : List Str) (es : Es)
  | tri (i : Nat) (e : E) (rest : Ss) (hs : List Hd)
inductive Ss where
  | nil
  | cons (s : S) (ss : Ss)
end
inductive Rz where
  | nx (ρ : Ev)
  | rt (d : D)
  | bk (ρ : Ev)
def Rz.go (k : Ev → M Rz) : Rz → M Rz
  | .nx ρ => k ρ
  | .bk ρ => pure (.nx ρ)
  | .rt r => pure (.rt r)
def Rz.sq (k : Ev → M Rz) : Rz → M Rz
  | .nx ρ => k ρ
  | .bk ρ => pure (.bk ρ)
  | .rt r => pure (.rt r)
def Rz.out : Rz → M D
  | .rt d => pure d
  | .nx _ => pure .none
  | .bk _ => M.fail
def forE (f : D → Ev → M Rz) : List D → Ev → M Rz
  | [], ρ => pure (.nx ρ)
  | d :: ds, ρ => f d ρ >>= Rz.go (forE f ds)
def whN (c : Ev → M Bool) (f : Ev → M Rz) : Nat → Ev → M Rz
  | 0, _ => M.fail
  | n + 1, ρ => do
    let b ← c ρ
    if b then f ρ >>= Rz.go (whN c f n) else pure (.nx ρ)
def whE (c : Ev → M Bool) (f : Ev → M Rz) (ρ : Ev) : M Rz :=
  ⟨fun Q R b => ∃ n, (whN c f n ρ).run Q R b, fun h k _ q => let ⟨n, z⟩ := q; ⟨n, (whN c f n ρ).mono h k z⟩⟩
def setO (ρ : Ev) (w : Nat) (xs : List D) : Ev := ρ.set w (some (.list xs, true))
/-- the except clauses, one after another -/
def hdE (x : XV) (ρ : Ev) : List Hd → M Rz
  | [] => M.thr x
  | h :: hs => if h.yes.contains x.cls then (do M.grd (slotIn ρ h.slot); let ds ← mapE (hiV x) h.its; pure (.nx (wipeO (ρ.set h.out (some (.list ds, false))) h.slot))) else if h.no.contains x.cls then hdE x ρ hs else M.fail
def setAll : Ev → List (Nat × Bool) → List D → Ev
  | ρ, (i, o) :: is, d :: ds => (setAll ρ is ds).set i (some (d, o))
  | ρ, _, _ => ρ
/-- a list, or a marked dict -/
def isOwn : D → Bool
  | .list _ => true
  | .dict (_ :: _) => true
  | _ => false
def ownD : Bool → D → M D
  | true, .list xs => pure (.list xs)
  | true, .dict (x :: kvs) => pure (.dict (x :: kvs))
  | true, _ => M.fail
  | false, d => pure d
def dPar : List (Nat × Bool) → Es → Ev → M (List D)
  | [], .nil, _ => pure []
  | i :: is, .cons e es, ρ => do
    let d ← dE e ρ
    let d ← ownD i.2 d
    let ds ← dPar is es ρ
    pure (d :: ds)
  | _, _, _ => M.fail

mutual
def dS : S → Ev → M Rz
  | .asg i e, ρ => do let d ← dE e ρ; pure (.nx (ρ.set i (some (d, false))))
  | .asgO i e, ρ => do let d ← dE e ρ; let xs ← asList d; pure (.nx (setO ρ i xs))
  | .pop i w, ρ => do
    let xs ← lookO ρ w
    let d ← oget xs[xs.length - 1]?
    pure (.nx ((setO ρ w xs.dropLast).set i (some (d, false))))
  | .asgT is e, ρ => do
    let d ← dE e ρ
    let ρ' ← bindT ρ (.t is) d
    pure (.nx ρ')
  | .asgN i js e, ρ => do
    let d ← dE e ρ
    let ρ' ← bindN ρ i js d
    pure (.nx ρ')
  | .par is es, ρ => do
    let ds ← dPar is es ρ
    pure (.nx (setAll ρ is ds))
  | .app w e, ρ => do
    let xs ← lookO ρ w
    let d ← dE e ρ
    M.grd (xs.length < sizeLine)
    pure (.nx (setO ρ w (xs ++ [d])))
  | .appPop w u e, ρ => do
    let xs ← lookO ρ w
    let ys ← lookO ρ u
    let d ← dE e ρ
    let i ← asInt d
    M.grd (0 ≤ i ∧ i < ys.length ∧ w ≠ u)
    let y ← oget ys[i.toNat]?
    M.grd (xs.length < sizeLine)
    pure (.nx (setO (setO ρ u (ys.eraseIdx i.toNat)) w (xs ++ [y])))
  | .rot w e, ρ => do
    let xs ← lookO ρ w
    let d ← dE e ρ
    let i ← asInt d
    M.grd (0 ≤ i ∧ i < xs.length)
    let y ← oget xs[i.toNat]?
    pure (.nx (setO ρ w (xs.eraseIdx i.toNat ++ [y])))
  | .rem w e, ρ => do
    let xs ← lookO ρ w
    let d ← dE e ρ
    M.grd (eqOk d ∧ eqOk (.list xs))
    let j ← oget (xs.findIdx? fun z => PyData.eqv z d)
    pure (.nx (setO ρ w (xs.eraseIdx j)))
  | .ext w e, ρ => do
    let xs ← lookO ρ w
    let d ← dE e ρ
    let ys ← asList d
    M.grd (xs.length + ys.length ≤ sizeLine)
    pure (.nx (setO ρ w (xs ++ ys)))
  | .set w i e, ρ => do
    let d ← dE e ρ
    let xs ← lookO ρ w
    let j ← dE i ρ
    let k ← asInt j
    let n ← oget (L2.ixN xs.length k)
    pure (.nx (setO ρ w (xs.set n d)))
  | .aug i e, ρ => do
    let x ← look ρ i
    let a ← asInt x
    let y ← dE e ρ
    let b ← asInt y
    pure (.nx (ρ.set i (some (.int (a + b), false))))
  | .ex e, ρ => do let _ ← dE e ρ; pure (.nx ρ)
  | .ite c a b, ρ => do
    let x ← dE c ρ
    let r ← asBool x
    if r then dSs a ρ else dSs b ρ
  | .for tg it b, ρ => do
    let s ← dE it ρ
    let xs ← walked s
    forE (fun d ρ => do let ρ1 ← bindT ρ tg d; dSs b ρ1) xs ρ
  | .forPop tg a w b, ρ => do
    let ys ← lookO ρ w
    let x ← dE a ρ
    let y ← oget ys[ys.length - 1]?
    let s ← ixD x y
    let xs ← walked s
    forE (fun d ρ => do let ρ1 ← bindT ρ tg d; dSs b ρ1) xs (setO ρ w ys.dropLast)
  | .whl c b, ρ => whE (fun ρ => do let x ← dE c ρ; asBool x) (fun ρ => dSs b ρ) ρ
  | .ret e, ρ => do let d ← dE e ρ; pure (.rt d)
  | .retn, _ => pure (.rt .none)
  | .brk, ρ => pure (.bk ρ)
  | .pass, ρ => pure (.nx ρ)
  | .nev, _ => M.fail
  | .frz i, ρ => match ρ[i]? with
    | some (some (d, _)) => pure (.nx (ρ.set i (some (d, false))))
    | _ => M.fail
  | .dkUn ic it ir w, ρ => do
    let d ← look ρ w
    M.grd (isDeck d = true)
    let p ← M.dk
    pure (.nx (((ρ.set ic (some (volD false p.1, false))).set it (some (.int p.2, false))).set ir (some (volD true p.1, false))))
  | .dkInc w e, ρ => do
    let x ← dE e ρ
    let v ← asInt x
    let d ← look ρ w
    M.grd (isDeck d = true)
    M.take v
    pure (.nx ρ)
  | .vset i j e, ρ => do
    let x ← dE e ρ
    let v ← asInt x
    let d ← look ρ i
    let p ← volL d
    M.grd (p.1 = true)
    let y ← dE j ρ
    let k ← asInt y
    M.grd (0 ≤ k ∧ k < p.2)
    pure (.nx ρ)
  | .dput w i e, ρ => do
    let d ← dE e ρ
    let v ← asInt d
    let kvs ← M.exi fun kvs => ρ[w]? = some (some (dkD kvs, true))
    let j ← dE i ρ
    let k ← asInt j
    M.grd (kvs.length < sizeLine)
    pure (.nx (ρ.set w (some (dkD (putI kvs k v), true))))
  | .dtput w e, ρ => do
    let ks ← M.exi fun ks => ρ[w]? = some (some (dtD ks, true))
    let d ← dE e ρ
    let k ← M.exi fun k => d = tupD k
    M.grd (k ∉ ks ∧ ks.length < sizeLine)
    pure (.nx (ρ.set w (some (dtD (ks ++ [k]), true))))
  | .rse cls fs es, ρ => do
    let ds ← dEs es ρ
    M.grd (ds.length = fs.length ∧ fs ≠ [])
    M.thr ⟨cls, fs.zip ds⟩
  | .tri i e rest hs, ρ => M.cat (dE e ρ) (fun d => M.quiet (dSs rest (ρ.set i (some (d, false))))) fun x => hdE x ρ hs
def dSs : Ss → Ev → M Rz
  | .nil, ρ => pure (.nx ρ)
  | .cons s ss, ρ => dS s ρ >>= Rz.sq fun ρ => dSs ss ρ
end
/-- a def: n slots, its parameters first -/
def dFn (np n : Nat) (b : Ss) (ds : List D) : M D := do
  M.grd (ds.length = np)
  let r ← dSs b (ds.map (fun d => some (d, false)) ++ List.replicate (n - ds.length) none)
  r.out
end Ad
/-! tuples that are made: the very object is known, so that its methods can be called -/
namespace Ad
open PySem PySem.Calls PySem.W PySem.SeqAt PySem.Spec PyProof.Rows L2

/-- a made tuple: its object is known and has no dict -/
def TupR (H : Hp) (a : Addr) (vs : List V) : Prop := ∃ o : Obj, H a = some (.frz o (.tup vs)) ∧ o.dict = none
theorem TupR.rd {H : Hp} {a : Addr} {vs : List V} (h : TupR H a vs) : Rd H a (.tup vs) := .inr ⟨h.choose, h.choose_spec.1⟩
/-- what is wanted of a new tuple -/
def NewT (H : Hp) (Q : VK) (vs : List V) : Prop := ∀ (p : Addr) (o : Obj), H p = none → o.dict = none → Q (.ref p) (upd H p (.frz o (.tup vs)))
section
variable {X : Cx} {pins : List (Addr × Obj)} {σ : L2.St} {H : Hp} {s : Shared} {Q : VK} {vs : List V} {us : List Value}
theorem frz_new {P : Program} {w : World} {H' : Hp} {h : Heap} {z : List V} {t : List Value} (m : z.length ≤ sizeLine) (r : Vals z t) :
    ObjOk P w H' (h.push { cls := .type "tuple", data := .seq t.toArray }) h.objs.size (.frz { cls := .type "tuple", data := .seq t.toArray } (.tup z)) :=
  ⟨Heap.get?_push_size _ rfl, m, t, r, _, Heap.get?_push_size _ rfl, rfl, _, rfl⟩
/-- the new tuple is laid at the end -/
theorem newT_end (I : Inv X pins σ H s) {h : Heap} {tk : Nat} (kp : ∀ b o, s.heap.get? b = some o → h.get? b = some o) (m : vs.length ≤ sizeLine) (r : Vals vs us) (q : NewT H Q vs) :
    EP X pins σ Q (.ref h.objs.size) { s with heap := h.push { cls := .type "tuple", data := .seq us.toArray }, toks := tk } := by
  have J : Inv X pins σ H { s with heap := h, toks := tk } := I.kept kp
  exact ⟨.ref h.objs.size, _, J.laid (t' := tk) (fun c u e => Heap.get?_push_of_some _ e) (Nat.le_refl _) (frz_new m r), rfl, q _ _ (J.hok.fresh (Nat.le_refl _)) rfl⟩
end

section
variable {X : Cx}
/-- t + u -/
def rCatS (K : PySem.W.Frag) : R2 := fun x y H Q => ∃ (c d : Addr) (l m : List V), x = .ref c ∧ y = .ref d ∧ SqT K H c l ∧ SqT K H d m ∧ l.length + m.length ≤ sizeLine ∧
  (l = [] → Q (.ref d) H) ∧ (l ≠ [] → m = [] → Q (.ref c) H) ∧ (l ≠ [] → m ≠ [] → NewT H Q (l ++ m))
theorem op_catS : OpR X (binaryOp .Add) (rCatS X.K) := by
  intro pins s σ H x y v1 v2 Q I q1 q2 hh
  obtain ⟨c, d, l, m, rfl, rfl, tc, td, zz, w0, w1, w2⟩ := hh
  by_cases hl : l = []
  · exact op_catA pins s σ H _ _ v1 v2 Q I q1 q2 ⟨c, d, l, m, rfl, rfl, tc, td, zz, w0, w1, fun n => absurd hl n⟩
  by_cases hm : m = []
  · exact op_catA pins s σ H _ _ v1 v2 Q I q1 q2 ⟨c, d, l, m, rfl, rfl, tc, td, zz, w0, w1, fun _ n => absurd hm n⟩
  cases q1
  cases q2
  obtain ⟨lt, la, lp, _⟩ := I.tuple tc
  obtain ⟨mt, ma, mp, _⟩ := I.tuple td
  refine HT.cat_tup lp mp (fun z => hl (la.nil_iff.mp z)) (fun z => absurd (ma.nil_iff.mp z) hm) (fun _ => ?_) (by rw [← la.length, ← ma.length]; exact zz)
  exact newT_end I (h := s.heap) (tk := s.toks) (fun _ _ e => e) (by rw [List.length_append]; exact zz) (la.append ma) (w2 hl hm)

/-- t[i:j] -/
def rSlS2 (K : PySem.W.Frag) : V → Option Int → Option Int → Hp → VK → Prop := fun x i j H Q => ∃ (c : Addr) (l : List V), x = .ref c ∧ SqT K H c l ∧
  (HT.sIx l.length 0 i = 0 ∧ HT.sIx l.length l.length j = l.length → Q (.ref c) H) ∧ (¬ (HT.sIx l.length 0 i = 0 ∧ HT.sIx l.length l.length j = l.length) → NewT H Q (cutV l i j))
theorem sl_tupS : SlR X (rSlS2 X.K) := by
  intro pins s σ H x v pl pu i j sl Q I rx hs hl hu hh
  obtain ⟨c, l, rfl, tc, w1, w2⟩ := hh
  by_cases whole : HT.sIx l.length 0 i = 0 ∧ HT.sIx l.length l.length j = l.length
  · exact sl_tupA pins s σ H _ v pl pu i j sl Q I rx hs hl hu ⟨c, l, rfl, tc, w1, fun n => absurd whole n⟩
  cases rx
  obtain ⟨lt, la, lp, zz⟩ := I.tuple tc
  have hlen : lt.toArray.size = l.length := by rw [List.size_toArray, la.length]
  refine ⟨"tuple", _, PyProof.Rows.slot_tuple_getitem.lookup, lp.typeIs, HT.getItem_tuple_cut lp hs hl hu (by rw [hlen]; exact whole) ?_ (by rw [hlen]; exact zz)⟩
  rw [hlen]
  exact newT_end I (h := s.heap) (tk := s.toks) (fun _ _ e => e) (Nat.le_trans (cutV_length l i j) zz) ((la.drop _).take _) (w2 whole)

/-- tuple(xs) -/
theorem call_tupS : CallR X (.type "tuple") (fun xs H Q => ∃ (c : Addr) (l : List V), xs = [.ref c] ∧ ((SqL X.K H c l ∧ NewT H Q l) ∨ (SqT X.K H c l ∧ Q (.ref c) H))) := by
  intro pins s σ H xs us Q I r hh
  obtain ⟨c, l, e, hh⟩ := hh
  rcases hh with ⟨hq, w⟩ | ⟨hq, w⟩
  · subst e
    obtain ⟨u, rfl, ru⟩ := vals1 r
    cases ru
    obtain ⟨lt, la, lp, zz⟩ := I.list hq
    exact call_tuple_list lp.isList (fun h kp => newT_end I (tk := s.toks) kp zz la w) (by rw [List.size_toArray, ← la.length]; exact zz)
  · exact call_tuple_of pins s σ H xs us Q I r ⟨c, l, e, .inr ⟨hq, w⟩⟩

/-- (x, y, ..) -/
def tTupS (t : TA) : TE := fun σ H Q => t σ H fun xs H1 => xs.length ≤ sizeLine ∧ NewT H1 Q xs
theorem pe_tupS {es : List Expr} {t : TA} {pos : Pos} {k : Nat} (h : PA X es t) : PE X (.Tuple es k pos) (tTupS t) :=
  ⟨fun pins s σ H Q I hh => wpAny_Tuple_spliced (thn (h.run pos pins s σ H _ I hh) fun us t ⟨xs, H2, I2, r, m, w⟩ =>
    ⟨by rw [← r.length]; exact m, newT_end I2 (h := t.heap) (tk := t.toks) (fun _ _ e => e) m r w⟩)⟩

/-- tuple(range(..)) -/
def tRgS (te : L2.St → Hp → (Int → Int → Hp → Prop) → Prop) : TE := fun σ H Q => te σ H fun i j H1 => RgOk i j ∧ NewT H1 Q (rgV i j)
theorem pe_tupRgS {e : Expr} {te : L2.St → Hp → (Int → Int → Hp → Prop) → Prop} {p pos : Pos} (hc : X.calm = true) (hg : Gl X "tuple") (hm : X.mg "tuple" = none) (he : PRg X e te)
    (na : starEach [e] X.env = (false, eval e X.env) :: starEach [] X.env) : PE X (.Call (.Name "tuple" p) [e] [] pos) (tRgS te) := by
  refine ⟨fun pins s σ H Q I hh => Call_ (ld_blt I hg hm boot_tuple (PyProof.Rows.callWith_type1 (args_cons (thn (he pins s σ H _ I hh) fun x t ⟨r, i, j, z1, z2, z3, H2, ex, hr, I2, ok, w⟩ => args_nil ?_) na) na))⟩
  subst ex
  obtain ⟨c1, c2, c3, c4, c5⟩ := ok
  refine call_tuple_range (n := (j - i).toNat) (I2.ok.hd hc) hr (small_one c1 c2 c3 c4) (rangeSize_nat i j) c5 fun h tk acc kp its => ?_
  have m : (rgV i j).length ≤ sizeLine := by rw [rgV_length, sizeLine_eq]; omega
  have := newT_end I2 (tk := tk) kp m (vals_rg its) w
  rwa [Array.toArray_toList] at this
end

/-! ### enumerate -/
/-- the object of a pair that a loop makes -/
def TwoV (T : Addr) (H H' : Hp) (x y : V) : Prop := H T = none ∧ ∃ o : Obj, o.dict = none ∧ H' = upd H T (.frz o (.tup [x, y]))
def YTwo (xs ys : Nat → Option V) : Nat → Hp → V → Hp → Prop := fun i H v H' => ∃ T x y, v = .ref T ∧ TwoV T H H' x y ∧ xs i = some x ∧ ys i = some y
theorem two_new {P : Program} {w : World} {H' : Hp} {h : Heap} {T : Addr} {x y : V} {u1 u2 : Value} (r1 : RelV x u1) (r2 : RelV y u2) (e : h.get? T = some { cls := .type "tuple", data := .seq #[u1, u2] }) :
    ObjOk P w H' h T (.frz { cls := .type "tuple", data := .seq #[u1, u2] } (.tup [x, y])) :=
  ⟨e, by show 2 ≤ sizeLine; decide, [u1, u2], .cons r1 (.cons r2 .nil), _, e, rfl, _, rfl⟩
def IteS (K : PySem.W.Frag) (a : Addr) : It :=
  ⟨fun i H => ∃ (xs : List V) (x : V), SqL K H a xs ∧ xs[i]? = some x, fun i H v H' => ∃ T x, v = .ref T ∧ TwoV T H H' (.int (i : Nat)) x ∧ ∀ xs, SqL K H a xs → xs[i]? = some x, fun i H => ∃ xs : List V, SqL K H a xs ∧ xs.length ≤ i⟩
theorem turn_enumS {P : Program} {w : World} {K : PySem.W.Frag} {elts : List Expr} {kk : Nat} {tpos : Pos} (a e it : Addr) :
    Turn P w K (.Tuple elts kk tpos) (IteS K a) [e, it] e (fun i h => (∃ old, IsEnum h e it ((i : Nat) : Int) old) ∧ h.IsListIter it a i ∧ e ≠ it) := by
  have T0 : Turn P w K (.Tuple elts kk tpos) (Ite K a) [e, it] e (fun i h => (∃ old, IsEnum h e it ((i : Nat) : Int) old) ∧ h.IsListIter it a i ∧ e ≠ it) := turn_enum a e it
  refine { mem := T0.mem, obj := T0.obj, keep := T0.keep, item := ?_, done := T0.done, self := T0.self }
  intro X hP hw hK hc i pins s σ H E I hf st hg
  subst hP hw hK
  obtain ⟨⟨was, he⟩, li, hne⟩ := st
  obtain ⟨l, x, hq, hx⟩ := hg
  obtain ⟨lt, la, lp, _⟩ := I.list hq
  obtain ⟨u, hu, ru⟩ := la.get hx
  have le : e < s.heap.objs.size := Heap.lt_size he
  have li' : it < s.heap.objs.size := by obtain ⟨_, q, _⟩ := li; exact Heap.lt_size q
  have two : ∀ b, b ∈ [e, it] → b = e ∨ b = it := fun b hb => by simpa using hb
  refine wpAny_pyNext_enum_item he li lp.isList (x := u) (by simpa using hu) hne fun h1 g1 g2 g3 g4 g5 => ⟨_, rfl, wpAny_letOwnedTupleGo_enum (s := { s with heap := h1, toks := s.toks + 1 }) g1 fun h2 g6 sb => ?_⟩
  have at2 : h2.get? s.heap.objs.size = some { cls := .type "tuple", data := .seq #[.int i s.toks, u] } := (sb.2 _ (Nat.ne_of_gt le)).trans g3
  have J : Inv X pins σ (upd H s.heap.objs.size (.frz { cls := .type "tuple", data := .seq #[.int i s.toks, u] } (.tup [.int (i : Nat), x]))) { s with heap := h2, toks := s.toks + 1 } :=
    I.turnedNew (ch := [e, it]) (fun b ob hb q => (sb.2 b (fun z => hb (by rw [z]; simp))).trans (g5 b ob (fun z => hb (by rw [z]; simp)) (fun z => hb (by rw [z]; simp)) q)) hf (Nat.le_refl _) (two_new ⟨_, rfl⟩ ru at2)
  refine ⟨.ref s.heap.objs.size, _, J, rfl, ⟨_, x, rfl, ⟨I.hok.fresh (Nat.le_refl _), _, rfl, rfl⟩, fun m hm => by rw [I.list_inj hm hq]; exact hx⟩, ⟨⟨u, ?_⟩, g2.at fun o q => (sb.2 it (Ne.symm hne)).trans q, hne⟩, fun b hb => ?_⟩
  · rw [show ((i + 1 : Nat) : Int) = (i : Int) + 1 by omega]
    exact g6
  · have lb : b < s.heap.objs.size := by
      rcases two b hb with z | z
      · rw [z]; exact le
      · rw [z]; exact li'
    rw [upd_ne (Nat.ne_of_lt lb)]
    exact (hf b hb).1
theorem walk_enumS {K : PySem.W.Frag} {a : Addr} {xs : List V} : L2.Walk (IteS K a) xs.length (fun H => SqL K H a xs) (YTwo (fun i => some (.int (i : Nat))) (fun i => xs[i]?)) :=
  ⟨fun i _ hi q => ⟨xs, xs[i], q, by simp [hi]⟩, fun _ q => ⟨xs, q, Nat.le_refl _⟩, fun i H v H' _ q y => by
    obtain ⟨T, x, z1, z2, z3⟩ := y
    exact ⟨T, .int (i : Nat), x, z1, z2, rfl, z3 xs q⟩⟩

/-! ### the call of a tuple's method -/
def tyT (K : PySem.W.Frag) (x : V) (H : Hp) : Prop := ∃ p : Addr, x = .ref p ∧ ((∃ vs, TupR H p vs) ∨ ∃ o, K.lookup p = some o ∧ o.cls = .type "tuple" ∧ o.dict = none)
theorem tyT_is {X : Cx} {pins : List (Addr × Obj)} {σ : L2.St} {H : Hp} {s : Shared} {x : V} {v : Value} (I : Inv X pins σ H s) (r : RelV x v) (h : tyT X.K x H) :
    s.TypeIs v "tuple" ∧ ∀ a, v = .ref a → ∃ ob, s.heap.get? a = some ob ∧ ob.dict = none := by
  obtain ⟨p, rfl, h⟩ := h
  cases r
  have key : ∃ o, s.heap.get? p = some o ∧ o.cls = .type "tuple" ∧ o.dict = none := by
    rcases h with ⟨vs, o, h1, h2⟩ | ⟨o, h1, h2⟩
    · obtain ⟨e, z⟩ := I.hok p _ h1
      obtain ⟨_, _, _, o', e', c, _⟩ := z
      rw [e] at e'
      cases e'
      exact ⟨o, e, c, h2⟩
    · exact ⟨o, I.kIn p o h1, h2⟩
  obtain ⟨o, e, c, d⟩ := key
  exact ⟨⟨o, e, c⟩, fun a z => by cases z; exact ⟨o, e, d⟩⟩
def tBMT (K : PySem.W.Frag) (r : V → List V → Hp → VK → Prop) (to : TE) (t : TA) : TE := fun σ H Q => to σ H fun x H1 => tyT K x H1 ∧ t σ H1 fun xs H2 => r x xs H2 Q
theorem pe_bmT {X : Cx} {o e : Expr} {es : List Expr} {to : TE} {t : TA} {name : Str} {apos cpos : Pos} {id : String} {r : V → List V → Hp → VK → Prop} (slot : Slot "tuple" name id) (hty : typeOf (.builtin id) = pure (.type "method_descriptor")) (hm : MtR X id r)
    (ho : PE X o to) (ha : PA X (e :: es) t) (hbase : attributeBase o name X.env (eval o X.env) = eval o X.env)
    (hfew : ((backTo cpos (starEach (e :: es) X.env)).all (fun x => !x.1) && (backToKw cpos (keywordEach [] X.env)).all (fun x => x.1.isSome)
      && decide ((e :: es).length + ([] : List Keyword).length + (if ([] : List Keyword).isEmpty then 0 else 1) < 30)) = true)
    (hline : (apos.endLine == cpos.line) = true) (hs : starEach (e :: es) X.env = (false, eval e X.env) :: starEach es X.env) (hplain : (backTo cpos (starEach es X.env)).any (·.1) = false) :
    PE X (.Call (.Attribute o name apos) (e :: es) [] cpos) (tBMT X.K r to t) :=
  ⟨fun pins s σ H Q I hh => wpAny_Call_method_late hbase hfew hline rfl (thn (ho.run pins s σ H _ I hh) fun v t1 ⟨x, H2, I2, rx, ty, w⟩ => by
    obtain ⟨h1, h2⟩ := tyT_is I2 rx ty
    refine ⟨"tuple", id, PySem.F.plainAttrs_tuple, slot, hty, h1, h2, ?_⟩
    have hA := ha.run cpos pins t1 σ H2 _ I2 w
    rw [hs] at hA ⊢
    exact Calls.callWith_builtin (by show (false || (backTo cpos (starEach es X.env)).any (·.1)) = false; rw [hplain]; rfl)
      (Calls.evalArgs_plain (thn hA fun us t2 ⟨ys, H3, I3, ry, z⟩ => hm pins t2 σ H3 x ys v us Q I3 rx ry z)))⟩
end Ad
namespace Ad
open PySem PySem.Spec PyProof.Rows L2

/-! ### what stands for what -/
/-- objects that defs may change under their callers' hands (the deck of a law): where, and what is always true of them -/
structure Wd where
  vol : Addr → Prop
  dk : Option Addr
  vl : Bool → Option Addr
  len : Nat
  inv : Nat → Hp → Prop
  known : ∀ b H a, inv b H → vol a → ∃ vs, H a = some (.lst vs)
  keep : ∀ b H H', inv b H → (∀ a, vol a → H' a = H a) → inv b H'
  pos : 0 < len ∧ len ≤ 63
  dkv : ∀ a, dk = some a → vol a
  vlv : ∀ t a, vl t = some a → vol a
  dkk : ∀ b H a, inv b H → dk = some a → ∃ (c r : Addr) (t : Int), H a = some (.lst [.ref c, .int t, .ref r]) ∧ vl false = some c ∧ vl true = some r ∧ 0 ≤ t ∧ t + b ≤ 4294967296
  dkw : ∀ (b b' : Nat) H a (c r : Addr) (t v : Int), inv b H → dk = some a → H a = some (.lst [.ref c, .int t, .ref r]) → 0 ≤ v → v + b' ≤ 4294967296 → inv b' (upd H a (.lst [.ref c, .int v, .ref r]))
  vlk : ∀ b H t a, inv b H → vl t = some a → ∃ ns : List Int, H a = some (.lst (ns.map V.int)) ∧ ns.length = len
  vlw : ∀ b H a (ns : List Int), inv b H → vl true = some a → ns.length = len → inv b (upd H a (.lst (ns.map V.int)))
def Ext (N : Addr → Prop) (H H' : Hp) : Prop := ∀ a o, ¬ N a → H a = some o → H' a = some o
theorem Ext.refl {N : Addr → Prop} (H : Hp) : Ext N H H := fun _ _ _ h => h
theorem Ext.trans {N : Addr → Prop} {H H1 H2 : Hp} (a : Ext N H H1) (b : Ext N H1 H2) : Ext N H H2 := fun x o n h => b x o n (a x o n h)
theorem Ext.wide {N N' : Addr → Prop} {H H' : Hp} (e : Ext N H H') (h : ∀ a, N a → N' a) : Ext N' H H' := fun a o n q => e a o (fun z => n (h a z)) q
theorem Ext.new {N : Addr → Prop} {H : Hp} {p : Addr} {o : HO} (h : H p = none) : Ext N H (upd H p o) := fun a u _ e => by
  rw [upd_ne (ne_of_none e h)]
  exact e
theorem Ext.write {N : Addr → Prop} {H : Hp} {p : Addr} {o : HO} (h : N p) : Ext N H (upd H p o) := fun a u n e => by
  have hne : a ≠ p := fun z => n (by rw [z]; exact h)
  rw [upd_ne hne]
  exact e

/-- a tuple of the program's top level -/
def StT (K : PySem.W.Frag) (a : Addr) (xs : List V) : Prop := ∃ (o : Obj) (its : Array Value) (n : Nat), (K.lookup a = some o ∧ o.cls = .type "tuple" ∧ o.data = .seq its n ∧ its.size ≤ sizeLine ∧ Vals xs its.toList) ∧ o.dict = none
theorem StT.sq {K : PySem.W.Frag} {H : Hp} {a : Addr} {xs : List V} (h : StT K a xs) : SqT K H a xs := by
  obtain ⟨o, its, n, h, _⟩ := h
  exact .inr ⟨o, its, n, h⟩
/-- a dict of ints by ints, as an object -/
def dkO (kvs : List (Int × Int)) : List (Key × V) := kvs.map fun p => (Sum.inl p.1, V.int p.2)
/-- the hash of a tuple of ints -/
def keyHT (k : List Int) : Int := reduceHash (Builtin.Tuple.tupleHashOf (k.map hashInt))
/-- a dict at a whose keys are tuples of ints (with their places), all with True -/
def DtP (a : Addr) (xs : List (List Int × Addr)) : Heap → Prop := fun h => ∃ o es ep, h.get? a = some o ∧ o.ExactDict ∧ o.data = .dict es ep ∧ es.toList = xs.map (fun x => ⟨keyHT x.1, .ref x.2, .bool true⟩) ∧ (xs.map (·.1)).Nodup ∧ (a == sysModules) = false
/-- objects that may change -/
def MutO : HO → Prop
  | .lst _ => True
  | .dK _ => True
  | .dT _ => True
  | .ext _ => True
  | _ => False
/-- a tuple, of the heap or of the top level -/
def TupN (K : PySem.W.Frag) (N : Addr → Prop) (H : Hp) (a : Addr) (vs : List V) : Prop := (TupR H a vs ∧ ¬ N a) ∨ StT K a vs
theorem TupN.sq {K : PySem.W.Frag} {N : Addr → Prop} {H : Hp} {a : Addr} {vs : List V} (h : TupN K N H a vs) : SqT K H a vs := by
  rcases h with h | h
  · exact .inl h.1.rd
  · exact h.sq
theorem TupN.to {K : PySem.W.Frag} {N N' : Addr → Prop} {H H' : Hp} {a : Addr} {vs : List V} (f : ∀ a, ¬ N a → H a ≠ none → ¬ N' a) (e : Ext N H H') (h : TupN K N H a vs) : TupN K N' H' a vs := by
  rcases h with ⟨⟨o, h1, h2⟩, h3⟩ | h
  · exact .inl ⟨⟨o, e a _ h3 h1, h2⟩, f a h3 (by rw [h1]; simp)⟩
  · exact .inr h
theorem TupN.anti {K : PySem.W.Frag} {N N' : Addr → Prop} {H : Hp} {a : Addr} {vs : List V} (f : ∀ a, N' a → N a) (h : TupN K N H a vs) : TupN K N' H a vs := h.imp (fun h => ⟨h.1, fun q => h.2 (f _ q)⟩) id
mutual
inductive Rep (K : PySem.W.Frag) (W : Wd) (N : Addr → Prop) (H : Hp) : V → D → Prop
  | non : Rep K W N H .non .none
  | bl (b : Bool) : Rep K W N H (.bl b) (.bool b)
  | int (i : Int) : Rep K W N H (.int i) (.int i)
  | str (x : Str) : Rep K W N H (.str x) (.str x)
  | lst {a : Addr} {vs : List V} {ds : List D} : H a = some (.lst vs) → ¬ N a → ds.length ≤ sizeLine → RepL K W N H vs ds → Rep K W N H (.ref a) (.list ds)
  | tup {a : Addr} {vs : List V} {ds : List D} : TupR H a vs → ¬ N a → ds.length ≤ sizeLine → RepL K W N H vs ds → Rep K W N H (.ref a) (.tuple ds)
  | stp {a : Addr} {vs : List V} {ds : List D} : StT K a vs → ds.length ≤ sizeLine → RepL K W N H vs ds → Rep K W N H (.ref a) (.tuple ds)
  | dic {a : Addr} : H a = some (.dK []) → ¬ N a → Rep K W N H (.ref a) (.dict [])
  | dci {a : Addr} {kvs : List (Int × Int)} : H a = some (.dK (dkO kvs)) → ¬ N a → kvs.length ≤ sizeLine → Rep K W N H (.ref a) (dkD kvs)
  | dct {a : Addr} {xs : List (List Int × Addr)} : H a = some (.ext (DtP a xs)) → ¬ N a → xs.length ≤ sizeLine → (∀ x, x ∈ xs → TupN K N H x.2 (x.1.map V.int)) → Rep K W N H (.ref a) (dtD (xs.map (·.1)))
  | exo {a : Addr} {nm : Str} {tbl : List (D × D)} {ks ds : List D} {vs : List V} : XOk K nm tbl ks → ExR N H a (He.ga K nm) ks vs → ¬ N a → RepL K W N H vs ds → Rep K W N H (.ref a) (insD nm tbl ks ds)
  | cls {nm : Str} {tbl : List (D × D)} {ks : List D} : XOk K nm tbl ks → MkOk K nm ks → Rep K W N H (.ref (He.ga K nm)) (clsD nm tbl ks)
  | dck {a : Addr} : W.dk = some a → Rep K W N H (.ref a) deckD
  | vls {a : Addr} {t : Bool} : W.vl t = some a → Rep K W N H (.ref a) (volD t W.len)
inductive RepL (K : PySem.W.Frag) (W : Wd) (N : Addr → Prop) (H : Hp) : List V → List D → Prop
  | nil : RepL K W N H [] []
  | cons {v : V} {vs : List V} {d : D} {ds : List D} : Rep K W N H v d → RepL K W N H vs ds → RepL K W N H (v :: vs) (d :: ds)
end
section
variable {K : PySem.W.Frag} {W : Wd} {N N' : Addr → Prop} {H H' : Hp}
theorem rd_some {a : Addr} {o : HO} (h : Rd H a o) : H a ≠ none := by
  rcases h with h | ⟨_, h⟩ <;> rw [h] <;> simp
theorem TupR.some {a : Addr} {vs : List V} (h : TupR H a vs) : H a ≠ none := rd_some h.rd
theorem TupR.ext {a : Addr} {vs : List V} (e : Ext N H H') (n : ¬ N a) (h : TupR H a vs) : TupR H' a vs := by
  obtain ⟨o, h1, h2⟩ := h
  exact ⟨o, e a _ n h1, h2⟩
theorem rd_ext {a : Addr} {o : HO} (e : Ext N H H') (n : ¬ N a) (h : Rd H a o) : Rd H' a o := by
  rcases h with h | ⟨o, h⟩
  · exact .inl (e a _ n h)
  · exact .inr ⟨o, e a _ n h⟩
theorem Rep.tupS {a : Addr} {vs : List V} {ds : List D} (h : TupN K N H a vs) (z : ds.length ≤ sizeLine) (l : RepL K W N H vs ds) : Rep K W N H (.ref a) (.tuple ds) := by
  rcases h with h | h
  · exact .tup h.1 h.2 z l
  · exact .stp h z l
theorem ExR.to {a C : Addr} {ks : List D} {vs : List V} (f : ∀ a, ¬ N a → H a ≠ none → ¬ N' a) (e : Ext N H H') (n : ¬ N a) (h : ExR N H a C ks vs) : ExR N' H' a C ks vs := by
  rcases h with ⟨h1, h2⟩ | ⟨dx, fs, h1, h2, h3, h4⟩
  · exact .inl ⟨h1, e _ _ n h2⟩
  · exact .inr ⟨dx, fs, e _ _ n h1, e _ _ h3 h2, f _ h3 (by rw [h2]; simp), h4⟩
theorem ExR.some {a C : Addr} {ks : List D} {vs : List V} (h : ExR N H a C ks vs) : H a ≠ none := by
  rcases h with ⟨_, h⟩ | ⟨_, _, h, _⟩ <;> rw [h] <;> simp
mutual
theorem Rep.to (f : ∀ a, ¬ N a → H a ≠ none → ¬ N' a) (e : Ext N H H') : ∀ (d : D) (v : V), Rep K W N H v d → Rep K W N' H' v d
  | .none, _, h => by cases h; exact .non
  | .bool b, _, h => by cases h; exact .bl b
  | .int b, _, h => by cases h; exact .int b
  | .str b, _, h => by cases h; exact .str b
  | .list ds, _, h => by
    cases h with
    | lst h1 h2 h3 h4 => exact .lst (e _ _ h2 h1) (f _ h2 (by rw [h1]; simp)) h3 (RepL.to f e ds _ h4)
  | .tuple ds, _, h => by
    cases h with
    | tup h1 h2 h3 h4 => exact .tup (h1.ext e h2) (f _ h2 h1.some) h3 (RepL.to f e ds _ h4)
    | stp h1 h3 h4 => exact .stp h1 h3 (RepL.to f e ds _ h4)
  | .dict kvs, _, h => by
    generalize hk : PyData.dict kvs = d at h ⊢
    cases h with
    | dic h1 h2 => exact .dic (e _ _ h2 h1) (f _ h2 (by rw [h1]; simp))
    | dci h1 h2 h3 => exact .dci (e _ _ h2 h1) (f _ h2 (by rw [h1]; simp)) h3
    | dct h1 h2 h3 h4 => exact .dct (e _ _ h2 h1) (f _ h2 (by rw [h1]; simp)) h3 fun x m => (h4 x m).to f e
    | exo h1 h2 h3 h4 =>
      have hs := congrArg sizeOf hk
      exact .exo h1 (h2.to f e h3) (f _ h3 h2.some) (RepL.to f e _ _ h4)
    | cls h1 h2 => exact .cls h1 h2
    | dck h1 => exact .dck h1
    | vls h1 => exact .vls h1
    | _ => cases hk
termination_by d => sizeOf d
decreasing_by all_goals first | (simp; done) | (simp [insD] at hs ⊢; omega)
theorem RepL.to (f : ∀ a, ¬ N a → H a ≠ none → ¬ N' a) (e : Ext N H H') : ∀ (ds : List D) (vs : List V), RepL K W N H vs ds → RepL K W N' H' vs ds
  | [], _, h => by cases h; exact .nil
  | d :: ds, _, h => by
    cases h with
    | cons h1 h2 => exact .cons (Rep.to f e d _ h1) (RepL.to f e ds _ h2)
termination_by ds => sizeOf ds
decreasing_by all_goals (simp; try omega)
end
theorem Rep.ext {v : V} {d : D} (e : Ext N H H') (h : Rep K W N H v d) : Rep K W N H' v d := Rep.to (fun _ n _ => n) e d v h
theorem RepL.ext {v : List V} {d : List D} (e : Ext N H H') (h : RepL K W N H v d) : RepL K W N H' v d := RepL.to (fun _ n _ => n) e d v h
theorem Rep.anti {v : V} {d : D} (f : ∀ a, N' a → N a) (h : Rep K W N H v d) : Rep K W N' H v d := Rep.to (fun a n _ z => n (f a z)) (Ext.refl H) d v h
theorem RepL.anti {v : List V} {d : List D} (f : ∀ a, N' a → N a) (h : RepL K W N H v d) : RepL K W N' H v d := RepL.to (fun a n _ z => n (f a z)) (Ext.refl H) d v h
theorem RepL.length {vs : List V} : ∀ {ds : List D}, RepL K W N H vs ds → vs.length = ds.length := by
  intro ds h
  induction ds generalizing vs with
  | nil => cases h; rfl
  | cons d ds ih => cases h with | cons _ t => rw [List.length_cons, List.length_cons, ih t]
theorem RepL.get {vs : List V} {ds : List D} (h : RepL K W N H vs ds) {i : Nat} {d : D} (e : ds[i]? = some d) : ∃ v, vs[i]? = some v ∧ Rep K W N H v d := by
  induction ds generalizing vs i with
  | nil => simp at e
  | cons x ds ih =>
    cases h with
    | cons r t =>
      cases i with
      | zero => simp at e; subst e; exact ⟨_, rfl, r⟩
      | succ i => simpa using ih t (by simpa using e)
theorem RepL.getV {vs : List V} {ds : List D} (h : RepL K W N H vs ds) {i : Nat} {v : V} (e : vs[i]? = some v) : ∃ d, ds[i]? = some d ∧ Rep K W N H v d := by
  induction ds generalizing vs i with
  | nil => cases h; simp at e
  | cons x ds ih =>
    cases h with
    | cons r t =>
      cases i with
      | zero => simp at e; subst e; exact ⟨_, rfl, r⟩
      | succ i => simpa using ih t (by simpa using e)
theorem RepL.append {vs ws : List V} {ds es : List D} (h : RepL K W N H vs ds) (h' : RepL K W N H ws es) : RepL K W N H (vs ++ ws) (ds ++ es) := by
  induction ds generalizing vs with
  | nil => cases h; exact h'
  | cons x ds ih => cases h with | cons r t => exact .cons r (ih t)
theorem RepL.reverse {vs : List V} {ds : List D} (h : RepL K W N H vs ds) : RepL K W N H vs.reverse ds.reverse := by
  induction ds generalizing vs with
  | nil => cases h; exact .nil
  | cons x ds ih =>
    cases h with
    | cons r t =>
      rw [List.reverse_cons, List.reverse_cons]
      exact (ih t).append (.cons r .nil)
theorem RepL.drop {vs : List V} {ds : List D} (h : RepL K W N H vs ds) (n : Nat) : RepL K W N H (vs.drop n) (ds.drop n) := by
  induction n generalizing vs ds with
  | zero => exact h
  | succ n ih =>
    cases ds with
    | nil => cases h; exact .nil
    | cons x ds => cases h with | cons r t => exact ih t
theorem RepL.take {vs : List V} {ds : List D} (h : RepL K W N H vs ds) (n : Nat) : RepL K W N H (vs.take n) (ds.take n) := by
  induction n generalizing vs ds with
  | zero => exact .nil
  | succ n ih =>
    cases ds with
    | nil => cases h; exact .nil
    | cons x ds => cases h with | cons r t => exact .cons r (ih t)
theorem RepL.set {vs : List V} {ds : List D} (h : RepL K W N H vs ds) {v : V} {d : D} (r : Rep K W N H v d) (n : Nat) : RepL K W N H (vs.set n v) (ds.set n d) := by
  induction n generalizing vs ds with
  | zero =>
    cases ds with
    | nil => cases h; exact .nil
    | cons x ds => cases h with | cons _ t => exact .cons r t
  | succ n ih =>
    cases ds with
    | nil => cases h; exact .nil
    | cons x ds => cases h with | cons q t => exact .cons q (ih t)
theorem RepL.eraseIdx {vs : List V} {ds : List D} (h : RepL K W N H vs ds) (n : Nat) : RepL K W N H (vs.eraseIdx n) (ds.eraseIdx n) := by
  induction n generalizing vs ds with
  | zero =>
    cases ds with
    | nil => cases h; exact .nil
    | cons x ds => cases h with | cons _ t => exact t
  | succ n ih =>
    cases ds with
    | nil => cases h; exact .nil
    | cons x ds => cases h with | cons q t => exact .cons q (ih t)
theorem RepL.dropLast {vs : List V} {ds : List D} (h : RepL K W N H vs ds) : RepL K W N H vs.dropLast ds.dropLast := by
  rw [List.dropLast_eq_take, List.dropLast_eq_take, h.length]
  exact h.take _
theorem RepL.flat {vs : List V} {ds : List D} (h : RepL K W N H vs ds) (k : Nat) : RepL K W N H (List.replicate k vs).flatten (List.replicate k ds).flatten := by
  induction k with
  | zero => exact .nil
  | succ k ih =>
    rw [List.replicate_succ, List.replicate_succ, List.flatten_cons, List.flatten_cons]
    exact h.append ih
theorem repL_ints (ns : List Int) : RepL K W N H (ns.map V.int) (ns.map PyData.int) := by
  induction ns with
  | nil => exact .nil
  | cons n ns ih => exact .cons (.int n) ih
mutual
/-- what holds no list is told by no address that may change -/
theorem Rep.fixed : ∀ (d : D) (v : V), fixedD d = true → (∀ a vs, Rd H a (.tup vs) → ¬ N' a) → Rep K W N H v d → Rep K W N' H v d
  | .none, _, _, _, h => by cases h; exact .non
  | .bool b, _, _, _, h => by cases h; exact .bl b
  | .int b, _, _, _, h => by cases h; exact .int b
  | .str b, _, _, _, h => by cases h; exact .str b
  | .list ds, _, q, _, h => by simp [fixedD] at q
  | .tuple ds, _, q, f, h => by
    cases h with
    | tup h1 h2 h3 h4 => exact .tup h1 (f _ _ h1.rd) h3 (RepL.fixed ds _ (by simpa [fixedD] using q) f h4)
    | stp h1 h3 h4 => exact .stp h1 h3 (RepL.fixed ds _ (by simpa [fixedD] using q) f h4)
  | .dict kvs, _, q, _, h => by simp [fixedD] at q
theorem RepL.fixed : ∀ (ds : List D) (vs : List V), fixedAll ds = true → (∀ a vs, Rd H a (.tup vs) → ¬ N' a) → RepL K W N H vs ds → RepL K W N' H vs ds
  | [], _, _, _, h => by cases h; exact .nil
  | d :: ds, _, q, f, h => by
    cases h with
    | cons h1 h2 =>
      simp only [fixedAll, Bool.and_eq_true] at q
      exact .cons (Rep.fixed d _ q.1 f h1) (RepL.fixed ds _ q.2 f h2)
end
end

/-- plain values can be read off the heap -/
theorem not_mod {X : Cx} {pins : List (Addr × Obj)} {σ : L2.St} {H : Hp} {s : Shared} (I : Inv X pins σ H s) {a : Addr} {o : Obj} (h : X.K.lookup a = some o) : H a = none := (I.bs a o (I.ok.mod.kin a o h)).2
section
variable {X : Cx} {pins : List (Addr × Obj)} {σ : L2.St} {H : Hp} {s : Shared} {W : Wd} {N : Addr → Prop}
theorem dict_nil_get (I : Inv X pins σ H s) {a : Addr} (h : H a = some (.dK [])) : ∃ o n, s.heap.get? a = some o ∧ o.cls = .type "dict" ∧ o.data = .dict #[] n ∧ (a == sysModules) = false ∧ o.ExactDict := by
  obtain ⟨_, hs, vs, kv, o, es, ep, ho, hx, hd, he⟩ := I.hok a _ h
  have e0 : vs = [] := by cases kv; rfl
  subst e0
  obtain ⟨_, he, _⟩ := he
  have e1 : es = #[] := by
    have : es.toList = [] := by
      generalize es.toList = l at he
      cases he
      rfl
    exact Array.toList_eq_nil_iff.mp this
  subst e1
  exact ⟨o, ep, ho, hx.1, hd, hs, hx⟩
mutual
theorem Rep.reads (I : Inv X pins σ H s) : ∀ (d : D) (v : V) (u : Value), okD d = true → Rep X.K W N H v d → RelV v u → ∃ as, Reads s.heap u d as ∧ ((∃ o, X.base.get? sysModules = some o) → sysModules ∉ as)
  | .none, _, _, _, h, r => by cases h; cases r; exact ⟨_, Reads.none, by simp⟩
  | .bool b, _, _, _, h, r => by cases h; cases r; exact ⟨_, Reads.bool b, by simp⟩
  | .int i, _, _, _, h, r => by cases h; obtain ⟨t, rfl⟩ := r; exact ⟨_, Reads.int i t, by simp⟩
  | .str x, _, _, _, h, r => by cases h; obtain ⟨t, rfl⟩ := r; exact ⟨_, Reads.str x t, by simp⟩
  | .list ds, _, _, p, h, r => by
    cases h with
    | lst h1 h2 h3 h4 =>
      cases r
      obtain ⟨its, rv, ⟨o, n, ho, hc, _, hd⟩, _⟩ := I.list (SqL.of h1)
      obtain ⟨as, hr, hm⟩ := RepL.reads I ds _ its (by simpa [okD] using p) h4 rv
      refine ⟨_, Reads.list ho hc hd hr, ?_⟩
      intro hs hm'
      rcases List.mem_cons.mp hm' with e | e
      · obtain ⟨ob, hb⟩ := hs
        have q := (I.bs _ ob hb).2
        rw [e, h1] at q
        cases q
      · exact hm hs e
  | .tuple ds, _, _, p, h, r => by
    have go : ∀ {a : Addr} {vs : List V} {u : Value}, SqT X.K H a vs → RepL X.K W N H vs ds → RelV (.ref a) u → ∃ as, Reads s.heap u (.tuple ds) as ∧ ((∃ o, X.base.get? sysModules = some o) → sysModules ∉ as) := by
      intro a vs u h1 h4 r
      cases r
      obtain ⟨its, rv, ⟨o, ho, hc, n, hd⟩, _⟩ := I.tuple h1
      obtain ⟨as, hr, hm⟩ := RepL.reads I ds _ its (by simpa [okD] using p) h4 rv
      exact ⟨_, Reads.tuple ho hc hd hr, hm⟩
    cases h with
    | tup h1 h2 h3 h4 => exact go (.inl h1.rd) h4 r
    | stp h1 h3 h4 => exact go h1.sq h4 r
  | .dict [], _, _, p, h, r => by
    cases h with
    | dic h1 h2 =>
      cases r
      obtain ⟨o, n, ho, hc, hd, hs', _⟩ := dict_nil_get I h1
      refine ⟨_, Reads.dict (kvs := []) ho hc hd .nil .nil, ?_⟩
      simp only [List.append_nil, List.mem_singleton]
      intro _ e
      subst e
      simp at hs'
  | .dict (_ :: _), _, _, p, h, r => by simp [okD] at p
theorem RepL.reads (I : Inv X pins σ H s) : ∀ (ds : List D) (vs : List V) (us : List Value), okAll ds = true → RepL X.K W N H vs ds → Vals vs us → ∃ as, ReadsAll s.heap us ds as ∧ ((∃ o, X.base.get? sysModules = some o) → sysModules ∉ as)
  | [], _, _, _, h, r => by cases h; cases r; exact ⟨_, ReadsAll.nil, by simp⟩
  | d :: ds, _, _, p, h, r => by
    cases h with
    | cons h1 h2 =>
      cases r with
      | cons r1 r2 =>
        simp only [okAll, Bool.and_eq_true] at p
        obtain ⟨as, q1, m1⟩ := Rep.reads I d _ _ p.1 h1 r1
        obtain ⟨bs, q2, m2⟩ := RepL.reads I ds _ _ p.2 h2 r2
        exact ⟨_, ReadsAll.cons q1 q2, fun hs => by simp [m1 hs, m2 hs]⟩
end
end
end Ad
/-! dicts whose keys are tuples of ints, all with True -/
namespace Ad
open PySem PySem.Calls PySem.W PySem.SeqAt PySem.Spec PyProof.Rows L2

abbrev tkK (P : Program) (w : World) : HeapKind P w (List Int) := tupleKind (PySem.intKind P w)
def tri (x : List Int × Addr) : List Int × Addr × Value := (x.1, x.2, .bool true)
section
variable {X : Cx} {pins : List (Addr × Obj)} {σ : L2.St} {H : Hp} {s : Shared} {d b : Addr} {k : List Int} {xs : List (List Int × Addr)} {A : Around} {E : Value → Shared → Prop}
theorem ext_at (I : L2.Inv X pins σ H s) {φ : Heap → Prop} (e : H d = some (.ext φ)) : φ s.heap := by
  have x : ObjOk X.prog X.w H s.heap d (.ext φ) := I.hok d _ e
  exact x.1
theorem key_it {P : Program} {w : World} {h : Heap} {its : List Value} {o : Obj} {n : Nat} (e : h.get? b = some o) (hc : o.cls = .type "tuple") (hd : o.data = .seq its.toArray n) (r : Vals (k.map V.int) its) : (tkK P w).is h k b := by
  refine ⟨o, its.toArray, n, e, hc, hd, ?_⟩
  rw [List.toList_toArray]
  clear hd e
  induction k generalizing its with
  | nil => cases r; exact .nil
  | cons i k ih =>
    cases r with
    | cons r rs =>
      obtain ⟨t, rfl⟩ := r
      exact .cons (by show Value.isInt i (.int i t) = true; simp [Value.isInt]) (ih rs)
theorem key_tr (I : L2.Inv X pins σ H s) (h : SqT X.K H b (k.map V.int)) : (tkK X.prog X.w).is s.heap k b := by
  obtain ⟨its, rv, ⟨o, ho, hc, n, hd⟩, _⟩ := I.tuple h
  exact key_it ho hc hd rv
theorem dt_at (I : L2.Inv X pins σ H s) (e : H d = some (.ext (DtP d xs))) (hk : ∀ x, x ∈ xs → SqT X.K H x.2 (x.1.map V.int)) : s.heap.DictOfH (tkK X.prog X.w) d (xs.map tri) ∧ (d == sysModules) = false := by
  obtain ⟨o, es, ep, h1, h2, h3, h4, h5, h6⟩ := ext_at I e
  refine ⟨⟨o, es, ep, h1, h2, h3, by rw [h4, List.map_map]; rfl, fun x hx => ?_, by rw [List.map_map]; exact h5⟩, h6⟩
  obtain ⟨y, hy, rfl⟩ := List.mem_map.mp hx
  exact key_tr I (hk y hy)
theorem atKey_tri {xs : List (List Int × Addr)} {k : List Int} : (atKey (xs.map tri) k).isSome = decide (k ∈ xs.map (·.1)) := by
  induction xs with
  | nil => rfl
  | cons x xs ih =>
    unfold atKey at ih ⊢
    rw [List.map_cons, List.map_cons, List.find?_cons]
    by_cases e : x.1 = k
    · have e' : (decide ((tri x).1 = k)) = true := decide_eq_true e
      rw [e']
      simp [e]
    · have e' : (decide ((tri x).1 = k)) = false := decide_eq_false e
      rw [e']
      simp only [List.mem_cons, Ne.symm e, false_or]
      exact ih
/-- k in d, k not in d -/
def rDt (K : PySem.W.Frag) (g : Bool → Bool) : R2 := fun x y H Q => ∃ (b d : Addr) (k : List Int) (xs : List (List Int × Addr)), x = .ref b ∧ y = .ref d ∧ SqT K H b (k.map V.int) ∧ H d = some (.ext (DtP d xs)) ∧ (∀ x, x ∈ xs → SqT K H x.2 (x.1.map V.int)) ∧ Q (.bl (g (decide (k ∈ xs.map (·.1))))) H
theorem or_dtIn (hu : X.A.units + 66 < cLine) : OpR X (compareOp .In) (rDt X.K id) := by
  intro pins s σ H x y v1 v2 Q I q1 q2 hh
  obtain ⟨b, d, k, xs, rfl, rfl, hb, hd, hk, q⟩ := hh
  cases q1
  cases q2
  obtain ⟨dd, hm⟩ := dt_at I hd hk
  refine wpAny_in_heap (tupleKind_room_in1 (by omega)) (key_tr I hb) hm dd ?_
  rw [atKey_tri]
  exact ⟨.bl (decide (k ∈ xs.map (fun x : List Int × Addr => x.1))), H, I.tok _, rfl, q⟩
theorem or_dtNin (hu : X.A.units + 66 < cLine) : OpR X (compareOp .NotIn) (rDt X.K not) := by
  intro pins s σ H x y v1 v2 Q I q1 q2 hh
  obtain ⟨b, d, k, xs, rfl, rfl, hb, hd, hk, q⟩ := hh
  cases q1
  cases q2
  obtain ⟨dd, hm⟩ := dt_at I hd hk
  refine wpAny_notIn_heap (tupleKind_room_in1 (by omega)) (key_tr I hb) hm dd ?_
  rw [atKey_tri]
  exact ⟨.bl (!decide (k ∈ xs.map (fun x : List Int × Addr => x.1))), H, I.tok _, rfl, q⟩
theorem dt_ok {P : Program} {w : World} {H : Hp} {h : Heap} {xs : List (List Int × Addr)} (dd : h.DictOfH (tkK P w) d (xs.map tri)) (hm : (d == sysModules) = false) : ObjOk P w H h d (.ext (DtP d xs)) := by
  obtain ⟨o, es, ep, h1, h2, h3, h4, _, h5⟩ := dd
  refine ⟨⟨o, es, ep, h1, h2, h3, by rw [h4, List.map_map]; rfl, by rw [List.map_map] at h5; exact h5, hm⟩, ⟨o, h1⟩, fun g1 g2 z y => ?_⟩
  obtain ⟨o, es, ep, h1, r⟩ := z
  exact ⟨o, es, ep, y _ h1, r⟩
/-- d[k] = True, k is new -/
theorem dt_set {Q : Unit → Shared → Prop} (hu : A.units + 1 < cLine) (I : L2.Inv X pins σ H s) (hd : H d = some (.ext (DtP d xs))) (hk : ∀ x, x ∈ xs → SqT X.K H x.2 (x.1.map V.int)) (hb : SqT X.K H b (k.map V.int)) (hn : k ∉ xs.map (·.1)) (hz : xs.length < sizeLine)
    (h : ∀ s', L2.Inv X pins σ (upd H d (.ext (DtP d (xs ++ [(k, b)])))) s' → Q () s') : wpAny (model X.prog X.w) A (setItem (.ref d) (.ref b) (.bool true)) Q E s := by
  obtain ⟨dd, hm⟩ := dt_at I hd hk
  refine wpAny_setItem_heap (hsz := by rw [List.length_map]; omega) (tupleKind_room_in1 hu) (key_tr I hb) dd fun h' dd' hs => h _ ?_
  have e : storedH (xs.map tri) k b (.bool true) = (xs ++ [(k, b)]).map tri := by
    unfold storedH
    rw [atKey_tri, if_neg (by simpa using hn), List.map_append]
    rfl
  rw [e] at dd'
  obtain ⟨q, _, _, hq, _⟩ := id dd'
  exact d_write I (by rw [hd]; exact True.intro) hs ⟨q, hq⟩ (dt_ok dd' hm)
/-- {(): True} -/
def tDtn : TE := fun _ H Q => ∀ (d t : Addr) (o : Obj), H d = none → H t = none → t ≠ d → o.dict = none → Q (.ref d) (upd (upd H t (.frz o (.tup []))) d (.ext (DtP d [([], t)])))
theorem pe_dtn {j kk : Nat} {p1 p2 pos : Pos} (hu : X.A.units + 66 < cLine) : PE X (.Dict [some (.Tuple [] kk p1)] [.Constant (.bool true) j p2] pos) tDtn := by
  refine ⟨fun pins s σ H Q I h => ?_⟩
  rw [arm_eval_Dict]
  show wpAny _ _ (do standAt pos; dictDisplay [(some (eval (.Tuple [] kk p1) X.env), do let x ← eval (.Constant (.bool true) j p2) X.env; standAt pos; pure x)]) _ _ _
  rw [show ([(some (eval (.Tuple [] kk p1) X.env), (do let x ← eval (.Constant (.bool true) j p2) X.env; standAt pos; pure x : Sem Value))] : List (Option (Sem Value) × Sem Value)) = [(eval (.Tuple [] kk p1) X.env, (do let x ← eval (.Constant (.bool true) j p2) X.env; standAt pos; pure x : Sem Value))].map (fun p => (some p.1, p.2)) from rfl, dictDisplay_pairs _ (by simp) (by simp)]
  refine wpAny_bind (wpAny_standAt (wpAny_bind (wpAny_subDictH (knd := tkK X.prog X.w) (by show X.A.units < cLine; omega) (by simp) ?_)))
  have hd : H s.heap.objs.size = none := I.hok.fresh (Nat.le_refl _)
  have hm : (s.heap.objs.size == sysModules) = false := beq_false_of_ne (Nat.ne_of_gt I.big)
  have hn := Heap.DictOfH.new (knd := tkK X.prog X.w) s.heap
  have I1 : L2.Inv X pins σ (upd H s.heap.objs.size (.ext (DtP s.heap.objs.size []))) { s with heap := s.heap.push { cls := .type "dict", data := .dict #[] } } :=
    I.laid (t' := s.toks) (fun _ _ e => Heap.get?_push_of_some _ e) (Nat.le_refl _) (dt_ok (xs := []) hn hm)
  generalize hsz : s.heap.objs.size = d at *
  refine evalPairs_cons (wpAny_mono ((pe_tupS (X := X) (k := kk) (pos := p1) pa_nil).run pins _ σ _ (fun v H1 => ∃ t o, v = .ref t ∧ H1 = upd (upd H d (.ext (DtP d []))) t (.frz o (.tup [])) ∧ upd H d (.ext (DtP d [])) t = none ∧ o.dict = none) I1 ?_) (fun v s1 hh => ?_) fun _ _ e => e)
  · exact ⟨by show 0 ≤ sizeLine; exact Nat.zero_le _, fun t o ht ho => ⟨t, o, rfl, rfl, ht, ho⟩⟩
  · obtain ⟨v', H1, I2, r, t, o, rfl, rfl, ht, ho⟩ := hh
    cases r
    have htd : t ≠ d := fun z => by rw [z, upd_same] at ht; cases ht
    refine wpAny_bind (Constant_bool (wpAny_bind (wpAny_standAt (wpAny_pure ?_))))
    refine evalPairs_nil ?_
    have hkey : (tkK X.prog X.w).is s1.heap [] t := key_tr I2 (.inl (.inr ⟨o, upd_same⟩))
    have hD : (upd (upd H d (.ext (DtP d []))) t (.frz o (.tup []))) d = some (.ext (DtP d [])) := by rw [upd_ne (Ne.symm htd), upd_same]
    obtain ⟨dd, _⟩ := dt_at (xs := []) I2 hD (fun x m => nomatch m)
    refine ⟨[([], t, .bool true)], ⟨rfl, rfl, hkey, trivial⟩, dd, fun h' tk dd' hs => wpAny_pure ?_⟩
    have dd2 : h'.DictOfH (tkK X.prog X.w) d ([(([] : List Int), t)].map tri) := dd'
    obtain ⟨q, _, _, hq, _⟩ := id dd2
    have J : L2.Inv X pins σ _ { s1 with heap := h', toks := tk } := d_write (ob := .ext (DtP d [([], t)])) I2 (by rw [hD]; exact True.intro) hs ⟨q, hq⟩ (dt_ok dd2 hm)
    refine ⟨.ref d, _, J, rfl, ?_⟩
    have e : upd (upd (upd H d (.ext (DtP d []))) t (.frz o (.tup []))) d (.ext (DtP d [([], t)])) = upd (upd H t (.frz o (.tup []))) d (.ext (DtP d [([], t)])) := by
      funext x
      by_cases h1 : x = d
      · rw [h1, upd_same, upd_same]
      · rw [upd_ne h1, upd_ne h1]
        by_cases h2 : x = t
        · rw [h2, upd_same, upd_same]
        · rw [upd_ne h2, upd_ne h2, upd_ne h1]
    rw [e]
    exact h d t o hd (by rwa [upd_ne htd] at ht) htd ho
end
end Ad
namespace Ad
open PySem PySem.Spec PyProof.Rows L2

/-! ### a def's frame: the world, what it must not touch, the heap at its entry -/
structure Cf where
  W : Wd
  B : Addr → Prop
  H0 : Hp
  b : Nat
/-- so many may still be drawn -/
abbrev Cf.at (c : Cf) (b : Nat) : Cf := { c with b := b }
def Nn (c : Cf) (ρ : Ev) (σ : L2.St) (a : Addr) : Prop := c.B a ∨ ∃ (i : Nat) (d : D), ρ[i]? = some (some (d, true)) ∧ σ[i]? = some (some (V.ref a))
/-- a dict of the def's own, at a -/
inductive DictR (K : PySem.W.Frag) (N : Addr → Prop) (H : Hp) (a : Addr) : HO → D → Prop
  | dki {kvs : List (Int × Int)} : kvs.length ≤ sizeLine → DictR K N H a (.dK (dkO kvs)) (dkD kvs)
  | dkt {xs : List (List Int × Addr)} : xs.length ≤ sizeLine → (∀ x, x ∈ xs → TupN K N H x.2 (x.1.map V.int)) → DictR K N H a (.ext (DtP a xs)) (dtD (xs.map (·.1)))
section
variable {K : PySem.W.Frag} {N N' : Addr → Prop} {H H' : Hp} {a : Addr} {o : HO} {d : D}
theorem DictR.dict (h : DictR K N H a o d) : ∃ x kvs, d = .dict (x :: kvs) := by
  cases h with
  | dki _ => exact ⟨_, _, rfl⟩
  | dkt _ _ => exact ⟨_, _, rfl⟩
theorem DictR.mut (h : DictR K N H a o d) : MutO o := by
  cases h with
  | dki _ => exact trivial
  | dkt _ _ => exact trivial
theorem DictR.ext (e : Ext N H H') (h : DictR K N H a o d) : DictR K N H' a o d := by
  cases h with
  | dki z => exact .dki z
  | dkt z k => exact .dkt z fun x m => (k x m).to (fun _ n _ => n) e
theorem DictR.anti (f : ∀ a, N' a → N a) (h : DictR K N H a o d) : DictR K N' H a o d := by
  cases h with
  | dki z => exact .dki z
  | dkt z k => exact .dkt z fun x m => (k x m).anti f
theorem DictR.to (f : ∀ a, ¬ N a → H a ≠ none → ¬ N' a) (e : Ext N H H') (h : DictR K N H a o d) : DictR K N' H' a o d := by
  cases h with
  | dki z => exact .dki z
  | dkt z k => exact .dkt z fun x m => (k x m).to f e
end
/-- what an owned slot's object is -/
inductive OwnR (K : PySem.W.Frag) (W : Wd) (N : Addr → Prop) (H : Hp) (a : Addr) : HO → D → Prop
  | lst {vs : List V} {ds : List D} : ds.length ≤ sizeLine → RepL K W N H vs ds → OwnR K W N H a (.lst vs) (.list ds)
  | dic {o : HO} {d : D} : DictR K N H a o d → OwnR K W N H a o d
section
variable {K : PySem.W.Frag} {W : Wd} {N N' : Addr → Prop} {H H' : Hp} {a : Addr} {o : HO} {d : D}
theorem OwnR.own (h : OwnR K W N H a o d) : isOwn d = true := by
  cases h with
  | lst _ _ => rfl
  | dic h =>
    obtain ⟨_, _, e⟩ := h.dict
    rw [e]
    rfl
theorem OwnR.mut (h : OwnR K W N H a o d) : MutO o := by
  cases h with
  | lst _ _ => exact trivial
  | dic h => exact h.mut
theorem OwnR.ext (e : Ext N H H') (h : OwnR K W N H a o d) : OwnR K W N H' a o d := by
  cases h with
  | lst z l => exact .lst z (l.ext e)
  | dic h => exact .dic (h.ext e)
theorem OwnR.anti (f : ∀ a, N' a → N a) (h : OwnR K W N H a o d) : OwnR K W N' H a o d := by
  cases h with
  | lst z l => exact .lst z (l.anti f)
  | dic h => exact .dic (h.anti f)
theorem OwnR.to (f : ∀ a, ¬ N a → H a ≠ none → ¬ N' a) (e : Ext N H H') (h : OwnR K W N H a o d) : OwnR K W N' H' a o d := by
  cases h with
  | lst z l => exact .lst z (RepL.to f e _ _ l)
  | dic h => exact .dic (h.to f e)
theorem OwnR.list {ds : List D} (h : OwnR K W N H a o (.list ds)) : ∃ vs, o = .lst vs ∧ ds.length ≤ sizeLine ∧ RepL K W N H vs ds := by
  cases h with
  | lst z l => exact ⟨_, rfl, z, l⟩
  | dic h => obtain ⟨_, _, e⟩ := h.dict; cases e
end
structure EnvOk (K : PySem.W.Frag) (c : Cf) (ρ : Ev) (σ : L2.St) (H : Hp) : Prop where
  len : ρ.length = σ.length
  val : ∀ (i : Nat) (d : D), ρ[i]? = some (some (d, false)) → ∃ v, σ[i]? = some (some v) ∧ Rep K c.W (Nn c ρ σ) H v d
  own : ∀ (i : Nat) (d : D), ρ[i]? = some (some (d, true)) → ∃ a o, σ[i]? = some (some (V.ref a)) ∧ H a = some o ∧ OwnR K c.W (Nn c ρ σ) H a o d ∧ c.H0 a = none ∧ ¬ c.B a
  dist : ∀ (i j : Nat) (d e : D) (a : Addr), ρ[i]? = some (some (d, true)) → ρ[j]? = some (some (e, true)) → σ[i]? = some (some (V.ref a)) → σ[j]? = some (some (V.ref a)) → i = j
  ext : Ext c.W.vol c.H0 H
  inv : c.W.inv c.b H
  bkn : ∀ a, c.B a → ∃ o, H a = some o ∧ MutO o
  bv : ∀ a, c.W.vol a → c.B a
/-- what a value-level step needs -/
structure VC (W : Wd) (N : Addr → Prop) (H : Hp) (b : Nat) : Prop where
  kl : ∀ a, N a → ∃ o, H a = some o ∧ MutO o
  bv : ∀ a, W.vol a → N a
  inv : W.inv b H
section
variable {K : PySem.W.Frag} {mg : Str → Option Value} {c : Cf} {W : Wd} {N : Addr → Prop} {ρ : Ev} {σ : L2.St} {H H' : Hp}
theorem EnvOk.vc (e : EnvOk K c ρ σ H) : VC c.W (Nn c ρ σ) H c.b := ⟨fun a h => by
  rcases h with h | ⟨i, d, h1, h2⟩
  · exact e.bkn a h
  · obtain ⟨b, o, h3, h4, h5, _⟩ := e.own i d h1
    rw [h2] at h3
    cases h3
    exact ⟨_, h4, h5.mut⟩, fun a h => .inl (e.bv a h), e.inv⟩
theorem EnvOk.ext' (e : EnvOk K c ρ σ H) {b : Nat} (x : Ext c.W.vol H H') (i : c.W.inv b H') : EnvOk K (c.at b) ρ σ H' where
  len := e.len
  val := fun j d h => let ⟨v, h1, h2⟩ := e.val j d h; ⟨v, h1, h2.ext (x.wide e.vc.bv)⟩
  own := fun j d h => by
    obtain ⟨a, o, h2, h3, h5, h6, h7⟩ := e.own j d h
    exact ⟨a, o, h2, x a _ (fun z => h7 (e.bv a z)) h3, h5.ext (x.wide e.vc.bv), h6, h7⟩
  dist := e.dist
  ext := e.ext.trans x
  inv := i
  bkn := fun a h => by
    by_cases hv : c.W.vol a
    · obtain ⟨vs, q⟩ := c.W.known _ H' a i hv
      exact ⟨_, q, trivial⟩
    · obtain ⟨o, q, m⟩ := e.bkn a h
      exact ⟨o, x a _ hv q, m⟩
  bv := e.bv
theorem VC.kn {b : Nat} (v : VC W N H b) : ∀ a, N a → H a ≠ none := fun a h => by
  obtain ⟨o, q, _⟩ := v.kl a h
  rw [q]; simp
theorem VC.new {b : Nat} {p : Addr} {o : HO} (v : VC W N H b) (h : H p = none) : Ext W.vol H (upd H p o) ∧ W.inv b (upd H p o) ∧ ¬ N p :=
  ⟨Ext.new h, W.keep _ H _ v.inv fun a ha => upd_ne fun z => v.kn a (v.bv a ha) (z ▸ h), fun z => v.kn p z h⟩
theorem VC.ext {b b' : Nat} (v : VC W N H b) (x : Ext W.vol H H') (i : W.inv b' H') : VC W N H' b' := ⟨fun a h => by
    by_cases hv : W.vol a
    · obtain ⟨vs, q⟩ := W.known _ H' a i hv
      exact ⟨_, q, trivial⟩
    · obtain ⟨o, q, m⟩ := v.kl a h
      exact ⟨o, x a _ hv q, m⟩, v.bv, i⟩
end

/-- a value, or a list of the def's own that is lent -/
def RepB (K : PySem.W.Frag) (W : Wd) (N : Addr → Prop) (H : Hp) (v : V) (d : D) : Prop :=
  Rep K W N H v d ∨ (∃ a vs ds, v = .ref a ∧ d = .list ds ∧ H a = some (.lst vs) ∧ ds.length ≤ sizeLine ∧ RepL K W N H vs ds ∧ ¬ W.vol a) ∨ ∃ a o, v = .ref a ∧ DictR K N H a o d ∧ H a = some o ∧ ¬ W.vol a
inductive RepBL (K : PySem.W.Frag) (W : Wd) (N : Addr → Prop) (H : Hp) : List V → List D → Prop
  | nil : RepBL K W N H [] []
  | cons {v : V} {vs : List V} {d : D} {ds : List D} : RepB K W N H v d → RepBL K W N H vs ds → RepBL K W N H (v :: vs) (d :: ds)
section
variable {K : PySem.W.Frag} {W : Wd} {N N' : Addr → Prop} {H H' : Hp}
theorem RepB.ext {v : V} {d : D} (e : Ext W.vol H H') (b : ∀ a, W.vol a → N a) (h : RepB K W N H v d) : RepB K W N H' v d := by
  rcases h with h | ⟨a, vs, ds, h1, h2, h3, h4, h5, h6⟩ | ⟨a, o, h1, h2, h3, h4⟩
  · exact .inl (h.ext (e.wide b))
  · exact .inr (.inl ⟨a, vs, ds, h1, h2, e a _ h6 h3, h4, h5.ext (e.wide b), h6⟩)
  · exact .inr (.inr ⟨a, o, h1, h2.ext (e.wide b), e a _ h4 h3, h4⟩)
theorem RepBL.ext {vs : List V} {ds : List D} (e : Ext W.vol H H') (b : ∀ a, W.vol a → N a) (h : RepBL K W N H vs ds) : RepBL K W N H' vs ds := by
  induction h with
  | nil => exact .nil
  | cons h1 _ ih => exact .cons (h1.ext e b) ih
theorem RepB.list {v : V} {ds : List D} (h : RepB K W N H v (.list ds)) : ∃ a vs, v = .ref a ∧ H a = some (.lst vs) ∧ ds.length ≤ sizeLine ∧ RepL K W N H vs ds := by
  rcases h with h | ⟨a, vs, ds', h1, h2, h3, h4, h5, _⟩ | ⟨a, o, h1, h2, _⟩
  · cases h with
    | lst h1 h2 h3 h4 => exact ⟨_, _, rfl, h1, h3, h4⟩
  · cases h2
    exact ⟨a, vs, h1, h3, h4, h5⟩
  · obtain ⟨_, _, e⟩ := h2.dict
    cases e
theorem RepB.rep {v : V} {d : D} (h : RepB K W N H v d) (hn : ∀ ds, d ≠ .list ds) (hk : ∀ kvs, d ≠ .dict kvs) : Rep K W N H v d := by
  rcases h with h | ⟨a, vs, ds, h1, h2, _⟩ | ⟨a, o, h1, h2, _⟩
  · exact h
  · exact absurd h2 (hn ds)
  · obtain ⟨x, kvs, e⟩ := h2.dict
    exact absurd e (hk _)
theorem RepB.int {v : V} {i : Int} (h : RepB K W N H v (.int i)) : v = .int i := by
  have h := h.rep (fun _ z => nomatch z) (fun _ z => nomatch z)
  cases h; rfl
theorem RepB.bl {v : V} {i : Bool} (h : RepB K W N H v (.bool i)) : v = .bl i := by
  have h := h.rep (fun _ z => nomatch z) (fun _ z => nomatch z)
  cases h; rfl
theorem RepB.str {v : V} {i : Str} (h : RepB K W N H v (.str i)) : v = .str i := by
  have h := h.rep (fun _ z => nomatch z) (fun _ z => nomatch z)
  cases h; rfl
theorem RepB.non {v : V} (h : RepB K W N H v .none) : v = .non := by
  have h := h.rep (fun _ z => nomatch z) (fun _ z => nomatch z)
  cases h; rfl
theorem RepB.tup {v : V} {ds : List D} (h : RepB K W N H v (.tuple ds)) : ∃ a vs, v = .ref a ∧ SqT K H a vs ∧ TupN K N H a vs ∧ ds.length ≤ sizeLine ∧ RepL K W N H vs ds := by
  have h := h.rep (fun _ z => nomatch z) (fun _ z => nomatch z)
  cases h with
  | tup h1 h2 h3 h4 => exact ⟨_, _, rfl, .inl h1.rd, .inl ⟨h1, h2⟩, h3, h4⟩
  | stp h1 h3 h4 => exact ⟨_, _, rfl, h1.sq, .inr h1, h3, h4⟩
end

/-- an exception of a class of the program's own, with its own dict -/
def RepX (K : PySem.W.Frag) (mg : Str → Option Value) (W : Wd) (N : Addr → Prop) (H : Hp) (x : XV) (cls : Value) (d : Option Addr) : Prop :=
  ∃ C, mg x.cls = some (.ref C) ∧ cls = .ref C ∧ ((x.fs = [] ∧ d = none) ∨ (x.fs ≠ [] ∧ ∃ dd vs, d = some dd ∧ H dd = some (.xd ((x.fs.map (·.1)).zip vs)) ∧ RepL K W N H vs (x.fs.map (·.2))))

/-! ### readings -/
section
variable (K : PySem.W.Frag) (mg : Str → Option Value) (Wx : WX)
def XQ (c : Cf) (ρ : Ev) (σ : L2.St) (H : Hp) : XV → Nat → Prop := fun x b => ∀ cls d H', Ext c.W.vol H H' → c.W.inv b H' → RepX K mg c.W (Nn c ρ σ) H' x cls d → Wx cls d σ H'
def tE (m : Ev → M D) : TE := fun σ H Q => ∃ c ρ, EnvOk K c ρ σ H ∧ (m ρ).run (fun d b => ∀ v H', Ext c.W.vol H H' → c.W.inv b H' → Rep K c.W (Nn c ρ σ) H' v d → Q v H') (XQ K mg Wx c ρ σ H) c.b
def tEB (m : Ev → M D) : TE := fun σ H Q => ∃ c ρ, EnvOk K c ρ σ H ∧ (m ρ).run (fun d b => ∀ v H', Ext c.W.vol H H' → c.W.inv b H' → RepB K c.W (Nn c ρ σ) H' v d → Q v H') (XQ K mg Wx c ρ σ H) c.b
def tA (m : Ev → M (List D)) : TA := fun σ H Q => ∃ c ρ, EnvOk K c ρ σ H ∧ (m ρ).run (fun d b => ∀ v H', Ext c.W.vol H H' → c.W.inv b H' → RepL K c.W (Nn c ρ σ) H' v d → Q v H') (XQ K mg Wx c ρ σ H) c.b
def tAB (m : Ev → M (List D)) : TA := fun σ H Q => ∃ c ρ, EnvOk K c ρ σ H ∧ (m ρ).run (fun d b => ∀ v H', Ext c.W.vol H H' → c.W.inv b H' → RepBL K c.W (Nn c ρ σ) H' v d → Q v H') (XQ K mg Wx c ρ σ H) c.b
def tT (m : Ev → M D) : TT := fun σ H Q => ∃ c ρ, EnvOk K c ρ σ H ∧ (m ρ).run (fun d b => ∃ k, d = .bool k ∧ ∀ H', Ext c.W.vol H H' → c.W.inv b H' → Q k H') (XQ K mg Wx c ρ σ H) c.b
end
section
variable {K : PySem.W.Frag} {mg : Str → Option Value} {Wx : WX} {σ : L2.St} {H : Hp} {Q : VK}
theorem tE_of_B {m : Ev → M D} (h : tEB K mg Wx m σ H Q) : tE K mg Wx m σ H Q := by
  obtain ⟨c, ρ, e, h⟩ := h
  exact ⟨c, ρ, e, (m ρ).mono (fun d _ q v H' x i r => q v H' x i (.inl r)) (fun _ _ z => z) h⟩
theorem XQ.later {c : Cf} {ρ : Ev} {H' : Hp} (e : Ext c.W.vol H H') {x : XV} {b : Nat} (h : XQ K mg Wx c ρ σ H x b) : XQ K mg Wx c ρ σ H' x b := fun cls d H'' e' i r => h cls d H'' (e.trans e') i r
theorem EnvOk.novol {c : Cf} {ρ : Ev} (e : EnvOk K c ρ σ H) : True := trivial
/-- one part, then a step by values -/
theorem read1 {a : Ev → M D} {f : D → M D} {r : V → Hp → VK → Prop}
    (hv : ∀ (W : Wd) (N : Addr → Prop) (H : Hp) (b : Nat) (d : D) (v : V) (Q : VK) (R : XV → Nat → Prop), VC W N H b → RepB K W N H v d → (f d).run (fun d b => ∀ v H', Ext W.vol H H' → W.inv b H' → Rep K W N H' v d → Q v H') R b → r v H Q)
    (h : tE K mg Wx (fun ρ => a ρ >>= f) σ H Q) : tEB K mg Wx a σ H fun v H1 => r v H1 Q := by
  obtain ⟨c, ρ, e, h⟩ := h
  refine ⟨c, ρ, e, (a ρ).mono (fun d _ q v H1 x i rv => ?_) (fun _ _ z => z) h⟩
  refine hv c.W (Nn c ρ σ) H1 _ d v Q _ (e.ext' x i).vc rv ((f d).mono (fun d' _ q' v' H2 x2 i2 r2 => q' v' H2 (x.trans x2) i2 r2) (fun _ _ z => z) q)
theorem read1T {a : Ev → M D} {f : D → M D} {r : V → Hp → VK → Prop}
    (hv : ∀ (W : Wd) (N : Addr → Prop) (H : Hp) (b : Nat) (d : D) (v : V) (Q : VK) (R : XV → Nat → Prop), VC W N H b → Rep K W N H v d → (f d).run (fun d b => ∀ v H', Ext W.vol H H' → W.inv b H' → Rep K W N H' v d → Q v H') R b → r v H Q)
    (h : tE K mg Wx (fun ρ => a ρ >>= f) σ H Q) : tE K mg Wx a σ H fun v H1 => r v H1 Q := by
  obtain ⟨c, ρ, e, h⟩ := h
  refine ⟨c, ρ, e, (a ρ).mono (fun d _ q v H1 x i rv => ?_) (fun _ _ z => z) h⟩
  refine hv c.W (Nn c ρ σ) H1 _ d v Q _ (e.ext' x i).vc rv ((f d).mono (fun d' _ q' v' H2 x2 i2 r2 => q' v' H2 (x.trans x2) i2 r2) (fun _ _ z => z) q)
end
end Ad
namespace PySem.SeqAt
open PySem.AutoSeq1 (wpAny_loadPart')
open PySem.MeetsSeq

/-! ### == of a dict and a value of another kind -/
abbrev objD (es : Array DictEntry) (n : Nat) (dd : Option Addr) (sl : Array (Option Value)) : Obj := { cls := .type "dict", dict := dd, data := .dict es n, slots := sl }
abbrev objS (c : String) (items : Array Value) (n : Nat) (dd : Option Addr) (sl : Array (Option Value)) : Obj := { cls := .type c, dict := dd, data := .seq items n, slots := sl }
def DictAt (s : Shared) (l : Addr) : Prop := ∃ es n dd sl, s.heap.get? l = some (objD es n dd sl)

theorem dict_eq_declines_none (l : Addr) (es : Array DictEntry) (n : Nat) (dd : Option Addr) (sl : Array (Option Value)) :
    Meets (Builtin.«dict.__eq__» ⟨[.ref l, .none], []⟩) (fun _ R s => s.heap.get? l = some { cls := .type "dict", dict := dd, data := .dict es n, slots := sl } ∧ R (.ok (.ret .notImplemented)) s) :=
  .of_wp fun prog w A R s h => by obtain ⟨hp, g, d, tk, os⟩ := s; obtain ⟨hl, h⟩ := h; have f1 := F.sub_NoneType_dict; wp_walk using wpAny_loadPart' hl; exact ⟨_, rfl, h⟩
theorem dict_eq_declines_bool (l : Addr) (es : Array DictEntry) (n : Nat) (dd : Option Addr) (sl : Array (Option Value)) (b : Bool) :
    Meets (Builtin.«dict.__eq__» ⟨[.ref l, (.bool b)], []⟩) (fun _ R s => s.heap.get? l = some { cls := .type "dict", dict := dd, data := .dict es n, slots := sl } ∧ R (.ok (.ret .notImplemented)) s) :=
  .of_wp fun prog w A R s h => by obtain ⟨hp, g, d, tk, os⟩ := s; obtain ⟨hl, h⟩ := h; have f1 := F.sub_bool_dict; wp_walk using wpAny_loadPart' hl; exact ⟨_, rfl, h⟩
theorem bool_eq_declines_dict (b : Bool) (l : Addr) (es : Array DictEntry) (n : Nat) (dd : Option Addr) (sl : Array (Option Value)) :
    Meets (Builtin.«int.__eq__» ⟨[(.bool b), .ref l], []⟩) (fun _ R s => s.heap.get? l = some { cls := .type "dict", dict := dd, data := .dict es n, slots := sl } ∧ R (.ok (.ret .notImplemented)) s) :=
  .of_wp fun prog w A R s h => by obtain ⟨hp, g, d, tk, os⟩ := s; obtain ⟨hl, h⟩ := h; wp_walk using wpAny_loadPart' hl, wpAny_load hl; exact ⟨_, rfl, h⟩
theorem dict_eq_declines_int (l : Addr) (es : Array DictEntry) (n : Nat) (dd : Option Addr) (sl : Array (Option Value)) (b : Int) (u : Tok) :
    Meets (Builtin.«dict.__eq__» ⟨[.ref l, (.int b u)], []⟩) (fun _ R s => s.heap.get? l = some { cls := .type "dict", dict := dd, data := .dict es n, slots := sl } ∧ R (.ok (.ret .notImplemented)) s) :=
  .of_wp fun prog w A R s h => by obtain ⟨hp, g, d, tk, os⟩ := s; obtain ⟨hl, h⟩ := h; have f1 := F.sub_int_dict; wp_walk using wpAny_loadPart' hl; exact ⟨_, rfl, h⟩
theorem int_eq_declines_dict (b : Int) (u : Tok) (l : Addr) (es : Array DictEntry) (n : Nat) (dd : Option Addr) (sl : Array (Option Value)) :
    Meets (Builtin.«int.__eq__» ⟨[(.int b u), .ref l], []⟩) (fun _ R s => s.heap.get? l = some { cls := .type "dict", dict := dd, data := .dict es n, slots := sl } ∧ R (.ok (.ret .notImplemented)) s) :=
  .of_wp fun prog w A R s h => by obtain ⟨hp, g, d, tk, os⟩ := s; obtain ⟨hl, h⟩ := h; wp_walk using wpAny_loadPart' hl, wpAny_load hl; exact ⟨_, rfl, h⟩
theorem dict_eq_declines_str (l : Addr) (es : Array DictEntry) (n : Nat) (dd : Option Addr) (sl : Array (Option Value)) (b : Str) (u : Tok) :
    Meets (Builtin.«dict.__eq__» ⟨[.ref l, (.str b u)], []⟩) (fun _ R s => s.heap.get? l = some { cls := .type "dict", dict := dd, data := .dict es n, slots := sl } ∧ R (.ok (.ret .notImplemented)) s) :=
  .of_wp fun prog w A R s h => by obtain ⟨hp, g, d, tk, os⟩ := s; obtain ⟨hl, h⟩ := h; have f1 := F.sub_str_dict; wp_walk using wpAny_loadPart' hl; exact ⟨_, rfl, h⟩
theorem str_eq_declines_dict (b : Str) (u : Tok) (l : Addr) (es : Array DictEntry) (n : Nat) (dd : Option Addr) (sl : Array (Option Value)) :
    Meets (Builtin.«str.__eq__» ⟨[(.str b u), .ref l], []⟩) (fun _ R s => s.heap.get? l = some { cls := .type "dict", dict := dd, data := .dict es n, slots := sl } ∧ R (.ok (.ret .notImplemented)) s) :=
  .of_wp fun prog w A R s h => by obtain ⟨hp, g, d, tk, os⟩ := s; obtain ⟨hl, h⟩ := h; wp_walk using wpAny_loadPart' hl, wpAny_load hl; exact ⟨_, rfl, h⟩
theorem dict_eq_declines_list (l b : Addr) (es : Array DictEntry) (n : Nat) (dd : Option Addr) (sl : Array (Option Value)) (items2 : Array Value) (n2 : Nat) (dd2 : Option Addr) (sl2 : Array (Option Value)) :
    Meets (Builtin.«dict.__eq__» ⟨[.ref l, .ref b], []⟩) (fun _ R s => s.heap.get? l = some { cls := .type "dict", dict := dd, data := .dict es n, slots := sl } ∧ s.heap.get? b = some { cls := .type "list", dict := dd2, data := .seq items2 n2, slots := sl2 } ∧ R (.ok (.ret .notImplemented)) s) :=
  .of_wp fun prog w A R s h => by obtain ⟨hp, g, d, tk, os⟩ := s; obtain ⟨hl, hb, h⟩ := h; have f1 := F.sub_list_dict; wp_walk using wpAny_loadPart' hl, wpAny_loadPart' hb; exact ⟨_, rfl, h⟩
theorem list_eq_declines_dict (b l : Addr) (es : Array DictEntry) (n : Nat) (dd : Option Addr) (sl : Array (Option Value)) (items2 : Array Value) (n2 : Nat) (dd2 : Option Addr) (sl2 : Array (Option Value)) :
    Meets (Builtin.«list.__eq__» ⟨[.ref b, .ref l], []⟩) (fun _ R s => s.heap.get? b = some { cls := .type "list", dict := dd2, data := .seq items2 n2, slots := sl2 } ∧ s.heap.get? l = some { cls := .type "dict", dict := dd, data := .dict es n, slots := sl } ∧ R (.ok (.ret .notImplemented)) s) :=
  .of_wp fun prog w A R s h => by obtain ⟨hp, g, d, tk, os⟩ := s; obtain ⟨hb, hl, h⟩ := h; have f1 := F.sub_dict_list; wp_walk using wpAny_loadPart' hb, wpAny_loadPart' hl; exact ⟨_, rfl, h⟩
theorem dict_eq_declines_tuple (l b : Addr) (es : Array DictEntry) (n : Nat) (dd : Option Addr) (sl : Array (Option Value)) (items2 : Array Value) (n2 : Nat) (dd2 : Option Addr) (sl2 : Array (Option Value)) :
    Meets (Builtin.«dict.__eq__» ⟨[.ref l, .ref b], []⟩) (fun _ R s => s.heap.get? l = some { cls := .type "dict", dict := dd, data := .dict es n, slots := sl } ∧ s.heap.get? b = some { cls := .type "tuple", dict := dd2, data := .seq items2 n2, slots := sl2 } ∧ R (.ok (.ret .notImplemented)) s) :=
  .of_wp fun prog w A R s h => by obtain ⟨hp, g, d, tk, os⟩ := s; obtain ⟨hl, hb, h⟩ := h; have f1 := F.sub_tuple_dict; wp_walk using wpAny_loadPart' hl, wpAny_loadPart' hb; exact ⟨_, rfl, h⟩
theorem tuple_eq_declines_dict (b l : Addr) (es : Array DictEntry) (n : Nat) (dd : Option Addr) (sl : Array (Option Value)) (items2 : Array Value) (n2 : Nat) (dd2 : Option Addr) (sl2 : Array (Option Value)) :
    Meets (Builtin.«tuple.__eq__» ⟨[.ref b, .ref l], []⟩) (fun _ R s => s.heap.get? b = some { cls := .type "tuple", dict := dd2, data := .seq items2 n2, slots := sl2 } ∧ s.heap.get? l = some { cls := .type "dict", dict := dd, data := .dict es n, slots := sl } ∧ R (.ok (.ret .notImplemented)) s) :=
  .of_wp fun prog w A R s h => by obtain ⟨hp, g, d, tk, os⟩ := s; obtain ⟨hb, hl, h⟩ := h; have f1 := F.sub_dict_tuple; wp_walk using wpAny_loadPart' hb, wpAny_loadPart' hl; exact ⟨_, rfl, h⟩
section
variable {A : Around} {s : Shared}
theorem RcAt.dict_none {l : Addr} (hl : DictAt s l) (hu : A.units < cLine) : RcAt A s (.ref l) .none false := fun prog w E Q h => by
  obtain ⟨es, n, dd, sl, ho⟩ := hl
  exact rc_eq_decline_or (k := false) ⟨_, ho, rfl⟩ rfl (by decide) F.sub_NoneType_dict F.slot_dict_eq F.slot_NoneType_eq_refl
    (fun _ hq => call_meets F.slot_dict_eq ⟨_, ho, rfl⟩ F.entry_dict_eq (F.args_dict_eq_2 _ _) (dict_eq_declines_none l es n dd sl ) ⟨ho, hq⟩)
    (fun _ hq => call_gives F.slot_NoneType_eq_refl rfl F.entry_NoneType_eq (F.args_NoneType_eq_2 _ _) (NoneType___eq___none_ref_0 l) hq)
    (fun _ hq => wpAny_of_eq (rfl : isSame (.ref l) .none = pure false) hq) (.inr hu) h
theorem EqAt.dict_none {l : Addr} (hl : DictAt s l) (hu : A.units < cLine) : EqAt A s (.ref l) .none false := fun prog w E Q h => by
  unfold eqBool
  refine wpAny_holding ?_
  refine wpAny_ite_split (fun hab => absurd (eq_of_beq hab) nofun) (fun _ => ?_)
  exact wpAny_bind (RcAt.dict_none hl hu prog w E _ (wpAny_truthy_bool h))
theorem RcAt.none_dict {l : Addr} (hl : DictAt s l) (hu : A.units < cLine) : RcAt A s .none (.ref l) false := fun prog w E Q h => by
  obtain ⟨es, n, dd, sl, ho⟩ := hl
  exact rc_eq_decline_or (k := false) rfl ⟨_, ho, rfl⟩ (by decide) F.sub_dict_NoneType F.slot_NoneType_eq F.slot_dict_eq_refl
    (fun _ hq => call_gives F.slot_NoneType_eq rfl F.entry_NoneType_eq (F.args_NoneType_eq_2 _ _) (NoneType___eq___none_ref_0 l) hq)
    (fun _ hq => call_meets F.slot_dict_eq_refl ⟨_, ho, rfl⟩ F.entry_dict_eq (F.args_dict_eq_2 _ _) (dict_eq_declines_none l es n dd sl ) ⟨ho, hq⟩)
    (fun _ hq => wpAny_of_eq (rfl : isSame .none (.ref l) = pure false) hq) (.inr hu) h
theorem EqAt.none_dict {l : Addr} (hl : DictAt s l) (hu : A.units < cLine) : EqAt A s .none (.ref l) false := fun prog w E Q h => by
  unfold eqBool
  refine wpAny_holding ?_
  refine wpAny_ite_split (fun hab => absurd (eq_of_beq hab) nofun) (fun _ => ?_)
  exact wpAny_bind (RcAt.none_dict hl hu prog w E _ (wpAny_truthy_bool h))
theorem RcAt.dict_bool {l : Addr} (b : Bool) (hl : DictAt s l) (hu : A.units < cLine) : RcAt A s (.ref l) (.bool b) false := fun prog w E Q h => by
  obtain ⟨es, n, dd, sl, ho⟩ := hl
  exact rc_eq_decline_or (k := false) ⟨_, ho, rfl⟩ rfl (by decide) F.sub_bool_dict F.slot_dict_eq F.slot_bool_eq_refl
    (fun _ hq => call_meets F.slot_dict_eq ⟨_, ho, rfl⟩ F.entry_dict_eq (F.args_dict_eq_2 _ _) (dict_eq_declines_bool l es n dd sl b ) ⟨ho, hq⟩)
    (fun _ hq => call_meets F.slot_bool_eq_refl rfl F.entry_int_eq (F.args_int_eq_2 _ _) (bool_eq_declines_dict b l es n dd sl) ⟨ho, hq⟩)
    (fun _ hq => wpAny_of_eq (rfl : isSame (.ref l) (.bool b) = pure false) hq) (.inr hu) h
theorem EqAt.dict_bool {l : Addr} (b : Bool) (hl : DictAt s l) (hu : A.units < cLine) : EqAt A s (.ref l) (.bool b) false := fun prog w E Q h => by
  unfold eqBool
  refine wpAny_holding ?_
  refine wpAny_ite_split (fun hab => absurd (eq_of_beq hab) nofun) (fun _ => ?_)
  exact wpAny_bind (RcAt.dict_bool b hl hu prog w E _ (wpAny_truthy_bool h))
theorem RcAt.bool_dict {l : Addr} (b : Bool) (hl : DictAt s l) (hu : A.units < cLine) : RcAt A s (.bool b) (.ref l) false := fun prog w E Q h => by
  obtain ⟨es, n, dd, sl, ho⟩ := hl
  exact rc_eq_decline_or (k := false) rfl ⟨_, ho, rfl⟩ (by decide) F.sub_dict_bool F.slot_bool_eq F.slot_dict_eq_refl
    (fun _ hq => call_meets F.slot_bool_eq rfl F.entry_int_eq (F.args_int_eq_2 _ _) (bool_eq_declines_dict b l es n dd sl) ⟨ho, hq⟩)
    (fun _ hq => call_meets F.slot_dict_eq_refl ⟨_, ho, rfl⟩ F.entry_dict_eq (F.args_dict_eq_2 _ _) (dict_eq_declines_bool l es n dd sl b ) ⟨ho, hq⟩)
    (fun _ hq => wpAny_of_eq (rfl : isSame (.bool b) (.ref l) = pure false) hq) (.inr hu) h
theorem EqAt.bool_dict {l : Addr} (b : Bool) (hl : DictAt s l) (hu : A.units < cLine) : EqAt A s (.bool b) (.ref l) false := fun prog w E Q h => by
  unfold eqBool
  refine wpAny_holding ?_
  refine wpAny_ite_split (fun hab => absurd (eq_of_beq hab) nofun) (fun _ => ?_)
  exact wpAny_bind (RcAt.bool_dict b hl hu prog w E _ (wpAny_truthy_bool h))
theorem RcAt.dict_int {l : Addr} (b : Int) (u : Tok) (hl : DictAt s l) (hu : A.units < cLine) : RcAt A s (.ref l) (.int b u) false := fun prog w E Q h => by
  obtain ⟨es, n, dd, sl, ho⟩ := hl
  exact rc_eq_decline_or (k := false) ⟨_, ho, rfl⟩ (typeIs_int s b u) (by decide) F.sub_int_dict F.slot_dict_eq F.slot_int_eq_refl
    (fun _ hq => call_meets F.slot_dict_eq ⟨_, ho, rfl⟩ F.entry_dict_eq (F.args_dict_eq_2 _ _) (dict_eq_declines_int l es n dd sl b u ) ⟨ho, hq⟩)
    (fun _ hq => call_meets F.slot_int_eq_refl (typeIs_int s b u) F.entry_int_eq (F.args_int_eq_2 _ _) (int_eq_declines_dict b u l es n dd sl) ⟨ho, hq⟩)
    (fun _ hq => wpAny_of_eq (rfl : isSame (.ref l) (.int b u) = pure false) hq) (.inr hu) h
theorem EqAt.dict_int {l : Addr} (b : Int) (u : Tok) (hl : DictAt s l) (hu : A.units < cLine) : EqAt A s (.ref l) (.int b u) false := fun prog w E Q h => by
  unfold eqBool
  refine wpAny_holding ?_
  refine wpAny_ite_split (fun hab => absurd (eq_of_beq hab) nofun) (fun _ => ?_)
  exact wpAny_bind (RcAt.dict_int b u hl hu prog w E _ (wpAny_truthy_bool h))
theorem RcAt.int_dict {l : Addr} (b : Int) (u : Tok) (hl : DictAt s l) (hu : A.units < cLine) : RcAt A s (.int b u) (.ref l) false := fun prog w E Q h => by
  obtain ⟨es, n, dd, sl, ho⟩ := hl
  exact rc_eq_decline_or (k := false) (typeIs_int s b u) ⟨_, ho, rfl⟩ (by decide) F.sub_dict_int F.slot_int_eq F.slot_dict_eq_refl
    (fun _ hq => call_meets F.slot_int_eq (typeIs_int s b u) F.entry_int_eq (F.args_int_eq_2 _ _) (int_eq_declines_dict b u l es n dd sl) ⟨ho, hq⟩)
    (fun _ hq => call_meets F.slot_dict_eq_refl ⟨_, ho, rfl⟩ F.entry_dict_eq (F.args_dict_eq_2 _ _) (dict_eq_declines_int l es n dd sl b u ) ⟨ho, hq⟩)
    (fun _ hq => wpAny_of_eq (rfl : isSame (.int b u) (.ref l) = pure false) hq) (.inr hu) h
theorem EqAt.int_dict {l : Addr} (b : Int) (u : Tok) (hl : DictAt s l) (hu : A.units < cLine) : EqAt A s (.int b u) (.ref l) false := fun prog w E Q h => by
  unfold eqBool
  refine wpAny_holding ?_
  refine wpAny_ite_split (fun hab => absurd (eq_of_beq hab) nofun) (fun _ => ?_)
  exact wpAny_bind (RcAt.int_dict b u hl hu prog w E _ (wpAny_truthy_bool h))
theorem RcAt.dict_str {l : Addr} (b : Str) (u : Tok) (hl : DictAt s l) (hu : A.units < cLine) : RcAt A s (.ref l) (.str b u) false := fun prog w E Q h => by
  obtain ⟨es, n, dd, sl, ho⟩ := hl
  exact rc_eq_decline_or (k := false) ⟨_, ho, rfl⟩ (typeIs_str s b u) (by decide) F.sub_str_dict F.slot_dict_eq F.slot_str_eq_refl
    (fun _ hq => call_meets F.slot_dict_eq ⟨_, ho, rfl⟩ F.entry_dict_eq (F.args_dict_eq_2 _ _) (dict_eq_declines_str l es n dd sl b u ) ⟨ho, hq⟩)
    (fun _ hq => call_meets F.slot_str_eq_refl (typeIs_str s b u) F.entry_str_eq (F.args_str_eq_2 _ _) (str_eq_declines_dict b u l es n dd sl) ⟨ho, hq⟩)
    (fun _ hq => wpAny_of_eq (rfl : isSame (.ref l) (.str b u) = pure false) hq) (.inr hu) h
theorem EqAt.dict_str {l : Addr} (b : Str) (u : Tok) (hl : DictAt s l) (hu : A.units < cLine) : EqAt A s (.ref l) (.str b u) false := fun prog w E Q h => by
  unfold eqBool
  refine wpAny_holding ?_
  refine wpAny_ite_split (fun hab => absurd (eq_of_beq hab) nofun) (fun _ => ?_)
  exact wpAny_bind (RcAt.dict_str b u hl hu prog w E _ (wpAny_truthy_bool h))
theorem RcAt.str_dict {l : Addr} (b : Str) (u : Tok) (hl : DictAt s l) (hu : A.units < cLine) : RcAt A s (.str b u) (.ref l) false := fun prog w E Q h => by
  obtain ⟨es, n, dd, sl, ho⟩ := hl
  exact rc_eq_decline_or (k := false) (typeIs_str s b u) ⟨_, ho, rfl⟩ (by decide) F.sub_dict_str F.slot_str_eq F.slot_dict_eq_refl
    (fun _ hq => call_meets F.slot_str_eq (typeIs_str s b u) F.entry_str_eq (F.args_str_eq_2 _ _) (str_eq_declines_dict b u l es n dd sl) ⟨ho, hq⟩)
    (fun _ hq => call_meets F.slot_dict_eq_refl ⟨_, ho, rfl⟩ F.entry_dict_eq (F.args_dict_eq_2 _ _) (dict_eq_declines_str l es n dd sl b u ) ⟨ho, hq⟩)
    (fun _ hq => wpAny_of_eq (rfl : isSame (.str b u) (.ref l) = pure false) hq) (.inr hu) h
theorem EqAt.str_dict {l : Addr} (b : Str) (u : Tok) (hl : DictAt s l) (hu : A.units < cLine) : EqAt A s (.str b u) (.ref l) false := fun prog w E Q h => by
  unfold eqBool
  refine wpAny_holding ?_
  refine wpAny_ite_split (fun hab => absurd (eq_of_beq hab) nofun) (fun _ => ?_)
  exact wpAny_bind (RcAt.str_dict b u hl hu prog w E _ (wpAny_truthy_bool h))
theorem ne_of_list_dict {l b : Addr} {items : Array Value} (hb : s.heap.IsList b items) (hl : DictAt s l) : l ≠ b := fun e => by
  subst e
  obtain ⟨o, ho, hc, _⟩ := hb
  obtain ⟨es, n, dd, sl, ho2⟩ := hl
  rw [ho] at ho2
  cases ho2
  exact absurd hc (by simp)
theorem RcAt.dict_list {l b : Addr} {items : Array Value} (hl : DictAt s l) (hb : s.heap.IsList b items) (hu : A.units < cLine) : RcAt A s (.ref l) (.ref b) false := fun prog w E Q h => by
  have hne := ne_of_list_dict hb hl
  obtain ⟨es, n, dd, sl, ho⟩ := hl
  obtain ⟨⟨cls2, dd2, data2, sl2⟩, ho2, hc2, n2, hd2⟩ := id hb
  simp only at hc2 hd2
  subst hc2 hd2
  exact (rc_eq_decline_or (k := false) ⟨_, ho, rfl⟩ ⟨_, ho2, rfl⟩ (by decide) F.sub_list_dict F.slot_dict_eq F.slot_list_eq_refl
    (fun _ hq => call_meets F.slot_dict_eq ⟨_, ho, rfl⟩ F.entry_dict_eq (F.args_dict_eq_2 _ _) (dict_eq_declines_list l b es n dd sl items n2 dd2 sl2) ⟨ho, ho2, hq⟩)
    (fun _ hq => call_meets F.slot_list_eq_refl ⟨_, ho2, rfl⟩ F.entry_list_eq (F.args_list_eq_2 _ _) (list_eq_declines_dict b l es n dd sl items n2 dd2 sl2) ⟨ho2, ho, hq⟩)
    (fun _ hq => wpAny_isSame_ref_other hne ho ho2 (by simp) hq) (.inr hu) h)
theorem RcAt.list_dict {l b : Addr} {items : Array Value} (hb : s.heap.IsList b items) (hl : DictAt s l) (hu : A.units < cLine) : RcAt A s (.ref b) (.ref l) false := fun prog w E Q h => by
  have hne := ne_of_list_dict hb hl
  obtain ⟨es, n, dd, sl, ho⟩ := hl
  obtain ⟨⟨cls2, dd2, data2, sl2⟩, ho2, hc2, n2, hd2⟩ := id hb
  simp only at hc2 hd2
  subst hc2 hd2
  exact (rc_eq_decline_or (k := false) ⟨_, ho2, rfl⟩ ⟨_, ho, rfl⟩ (by decide) F.sub_dict_list F.slot_list_eq F.slot_dict_eq_refl
    (fun _ hq => call_meets F.slot_list_eq ⟨_, ho2, rfl⟩ F.entry_list_eq (F.args_list_eq_2 _ _) (list_eq_declines_dict b l es n dd sl items n2 dd2 sl2) ⟨ho2, ho, hq⟩)
    (fun _ hq => call_meets F.slot_dict_eq_refl ⟨_, ho, rfl⟩ F.entry_dict_eq (F.args_dict_eq_2 _ _) (dict_eq_declines_list l b es n dd sl items n2 dd2 sl2) ⟨ho, ho2, hq⟩)
    (fun _ hq => wpAny_isSame_ref_other' hne.symm ho2 ho (by simp) hq) (.inr hu) h)
theorem EqAt.dict_list {l b : Addr} {items : Array Value} (hl : DictAt s l) (hb : s.heap.IsList b items) (hu : A.units < cLine) : EqAt A s (.ref l) (.ref b) false := .of_refs (ne_of_list_dict hb hl) (.dict_list hl hb hu)
theorem EqAt.list_dict {l b : Addr} {items : Array Value} (hb : s.heap.IsList b items) (hl : DictAt s l) (hu : A.units < cLine) : EqAt A s (.ref b) (.ref l) false := .of_refs (ne_of_list_dict hb hl).symm (.list_dict hb hl hu)
theorem ne_of_tuple_dict {l b : Addr} {items : Array Value} (hb : s.heap.IsTuple b items) (hl : DictAt s l) : l ≠ b := fun e => by
  subst e
  obtain ⟨o, ho, hc, _⟩ := hb
  obtain ⟨es, n, dd, sl, ho2⟩ := hl
  rw [ho] at ho2
  cases ho2
  exact absurd hc (by simp)
theorem RcAt.dict_tuple {l b : Addr} {items : Array Value} (hl : DictAt s l) (hb : s.heap.IsTuple b items) (hu : A.units < cLine) : RcAt A s (.ref l) (.ref b) false := fun prog w E Q h => by
  have hne := ne_of_tuple_dict hb hl
  obtain ⟨es, n, dd, sl, ho⟩ := hl
  obtain ⟨⟨cls2, dd2, data2, sl2⟩, ho2, hc2, n2, hd2⟩ := id hb
  simp only at hc2 hd2
  subst hc2 hd2
  exact (rc_eq_decline_or (k := false) ⟨_, ho, rfl⟩ ⟨_, ho2, rfl⟩ (by decide) F.sub_tuple_dict F.slot_dict_eq F.slot_tuple_eq_refl
    (fun _ hq => call_meets F.slot_dict_eq ⟨_, ho, rfl⟩ F.entry_dict_eq (F.args_dict_eq_2 _ _) (dict_eq_declines_tuple l b es n dd sl items n2 dd2 sl2) ⟨ho, ho2, hq⟩)
    (fun _ hq => call_meets F.slot_tuple_eq_refl ⟨_, ho2, rfl⟩ F.entry_tuple_eq (F.args_tuple_eq_2 _ _) (tuple_eq_declines_dict b l es n dd sl items n2 dd2 sl2) ⟨ho2, ho, hq⟩)
    (fun _ hq => wpAny_isSame_ref_other hne ho ho2 (by simp) hq) (.inr hu) h)
theorem RcAt.tuple_dict {l b : Addr} {items : Array Value} (hb : s.heap.IsTuple b items) (hl : DictAt s l) (hu : A.units < cLine) : RcAt A s (.ref b) (.ref l) false := fun prog w E Q h => by
  have hne := ne_of_tuple_dict hb hl
  obtain ⟨es, n, dd, sl, ho⟩ := hl
  obtain ⟨⟨cls2, dd2, data2, sl2⟩, ho2, hc2, n2, hd2⟩ := id hb
  simp only at hc2 hd2
  subst hc2 hd2
  exact (rc_eq_decline_or (k := false) ⟨_, ho2, rfl⟩ ⟨_, ho, rfl⟩ (by decide) F.sub_dict_tuple F.slot_tuple_eq F.slot_dict_eq_refl
    (fun _ hq => call_meets F.slot_tuple_eq ⟨_, ho2, rfl⟩ F.entry_tuple_eq (F.args_tuple_eq_2 _ _) (tuple_eq_declines_dict b l es n dd sl items n2 dd2 sl2) ⟨ho2, ho, hq⟩)
    (fun _ hq => call_meets F.slot_dict_eq_refl ⟨_, ho, rfl⟩ F.entry_dict_eq (F.args_dict_eq_2 _ _) (dict_eq_declines_tuple l b es n dd sl items n2 dd2 sl2) ⟨ho, ho2, hq⟩)
    (fun _ hq => wpAny_isSame_ref_other' hne.symm ho2 ho (by simp) hq) (.inr hu) h)
theorem EqAt.dict_tuple {l b : Addr} {items : Array Value} (hl : DictAt s l) (hb : s.heap.IsTuple b items) (hu : A.units < cLine) : EqAt A s (.ref l) (.ref b) false := .of_refs (ne_of_tuple_dict hb hl) (.dict_tuple hl hb hu)
theorem EqAt.tuple_dict {l b : Addr} {items : Array Value} (hb : s.heap.IsTuple b items) (hl : DictAt s l) (hu : A.units < cLine) : EqAt A s (.ref b) (.ref l) false := .of_refs (ne_of_tuple_dict hb hl).symm (.tuple_dict hb hl hu)
theorem DictAt.of {l : Addr} {o : Obj} {es : Array DictEntry} {n : Nat} (h : s.heap.get? l = some o) (hc : o.cls = .type "dict") (hd : o.data = .dict es n) : DictAt s l := by
  obtain ⟨cls, dd, data, sl⟩ := o
  simp only at hc hd
  subst hc hd
  exact ⟨_, _, _, _, h⟩
/-- a dict and plain data: never equal -/
theorem eqAt_dict {kvs : List (PyData × PyData)} {db : PyData} {a b : Value} {as bs : List Addr} (ra : Reads s.heap a (.dict kvs) as) (rb : Reads s.heap b db bs) (hb : db.plain = true) (hu : A.units < cLine) : EqAt A s a b false := by
  cases ra with
  | dict h1 h2 h3 h4 h5 =>
    have hl := DictAt.of h1 h2 h3
    cases rb with
    | none => exact EqAt.dict_none hl hu
    | bool y => exact EqAt.dict_bool y hl hu
    | int y u => exact EqAt.dict_int y u hl hu
    | str y u => exact EqAt.dict_str y u hl hu
    | list k1 k2 k3 k4 => exact EqAt.dict_list hl ⟨_, k1, k2, _, k3⟩ hu
    | tuple k1 k2 k3 k4 => exact EqAt.dict_tuple hl ⟨_, k1, k2, _, k3⟩ hu
    | dict => exact nomatch hb
theorem eqAt_of_dict {kvs : List (PyData × PyData)} {db : PyData} {a b : Value} {as bs : List Addr} (ra : Reads s.heap a (.dict kvs) as) (rb : Reads s.heap b db bs) (hb : db.plain = true) (hu : A.units < cLine) : EqAt A s b a false := by
  cases ra with
  | dict h1 h2 h3 h4 h5 =>
    have hl := DictAt.of h1 h2 h3
    cases rb with
    | none => exact EqAt.none_dict hl hu
    | bool y => exact EqAt.bool_dict y hl hu
    | int y u => exact EqAt.int_dict y u hl hu
    | str y u => exact EqAt.str_dict y u hl hu
    | list k1 k2 k3 k4 => exact EqAt.list_dict ⟨_, k1, k2, _, k3⟩ hl hu
    | tuple k1 k2 k3 k4 => exact EqAt.tuple_dict ⟨_, k1, k2, _, k3⟩ hl hu
    | dict => exact nomatch hb
end
end PySem.SeqAt
namespace Ad
open PySem PySem.Spec PyProof.Rows L2

theorem oget_run {α : Type} {o : Option α} {Q : α → Nat → Prop} {b : Nat} {R : XV → Nat → Prop} (h : (oget o).run Q R b) : ∃ a, o = some a ∧ Q a b := by
  cases o with
  | none => exact h.elim
  | some a => exact ⟨a, rfl, h⟩
theorem items_run {d : D} {Q : List D → Nat → Prop} {b : Nat} {R : XV → Nat → Prop} (h : (itemsOf d).run Q R b) : ∃ xs, (d = .list xs ∨ d = .tuple xs) ∧ Q xs b := by
  cases d <;> first | exact h.elim | exact ⟨_, .inl rfl, h⟩ | exact ⟨_, .inr rfl, h⟩
theorem asBool_run {d : D} {Q : Bool → Nat → Prop} {n : Nat} {R : XV → Nat → Prop} (h : (asBool d).run Q R n) : ∃ b, d = .bool b ∧ Q b n := by
  cases d <;> first | exact h.elim | exact ⟨_, rfl, h⟩
theorem asInt_run {d : D} {Q : Int → Nat → Prop} {n : Nat} {R : XV → Nat → Prop} (h : (asInt d).run Q R n) : ∃ b, d = .int b ∧ Q b n := by
  cases d <;> first | exact h.elim | exact ⟨_, rfl, h⟩

section
variable {K : PySem.W.Frag} {W : Wd} {N : Addr → Prop} {H : Hp} {Q : VK} {R : XV → Nat → Prop} {v1 v2 : V} {d1 d2 : D} {b : Nat}
/-- what is wanted of a value -/
abbrev VQ (K : PySem.W.Frag) (W : Wd) (N : Addr → Prop) (H : Hp) (Q : VK) : D → Nat → Prop := fun d b => ∀ v H', Ext W.vol H H' → W.inv b H' → Rep K W N H' v d → Q v H'
theorem VC.vint (c : VC W N H b) {i : Int} (h : VQ K W N H Q (.int i) b) : Q (.int i) H := h _ H (Ext.refl H) c.inv (.int i)
theorem VC.vbl (c : VC W N H b) {i : Bool} (h : VQ K W N H Q (.bool i) b) : Q (.bl i) H := h _ H (Ext.refl H) c.inv (.bl i)
theorem VC.vstr (c : VC W N H b) {i : Str} (h : VQ K W N H Q (.str i) b) : Q (.str i) H := h _ H (Ext.refl H) c.inv (.str i)
theorem VC.vrep (c : VC W N H b) {v : V} {d : D} (r : Rep K W N H v d) (h : VQ K W N H Q d b) : Q v H := h _ H (Ext.refl H) c.inv r
/-- a new list, a new tuple -/
theorem VC.vlst (c : VC W N H b) {vs : List V} {ds : List D} (r : RepL K W N H vs ds) (z : ds.length ≤ sizeLine) (h : VQ K W N H Q (.list ds) b) : ∀ p, H p = none → Q (.ref p) (upd H p (.lst vs)) := fun p hp => by
  obtain ⟨a, b, n⟩ := c.new (o := .lst vs) hp
  exact h _ _ a b (.lst upd_same n z (r.ext (a.wide c.bv)))
theorem VC.vtup (c : VC W N H b) {vs : List V} {ds : List D} (r : RepL K W N H vs ds) (z : ds.length ≤ sizeLine) (h : VQ K W N H Q (.tuple ds) b) : NewT H Q vs := fun p o hp ho => by
  obtain ⟨a, b, n⟩ := c.new (o := .frz o (.tup vs)) hp
  exact h _ _ a b (.tup ⟨o, upd_same, ho⟩ n z (r.ext (a.wide c.bv)))

/-! ### + and * -/
def rAddK (K : PySem.W.Frag) : R2 := fun x y H Q => rI0 (fun i j => .int (i + j)) x y H Q ∨ (fun x y H Q => ∃ i j, x = .str i ∧ y = .str j ∧ i.length + j.length ≤ sizeLine ∧ Q (.str (i ++ j)) H) x y H Q ∨ rCatS K x y H Q ∨ rCat x y H Q
theorem or_add {X : Cx} : OpR X (binaryOp .Add) (rAddK X.K) := op_add.or (op_add_str.or (op_catS.or op_cat))
theorem val_add (c : VC W N H b) (r1 : RepB K W N H v1 d1) (r2 : RepB K W N H v2 d2) (h : (addD d1 d2).run (VQ K W N H Q) R b) : rAddK K v1 v2 H Q := by
  unfold addD at h
  split at h
  · have e1 := r1.int; have e2 := r2.int
    exact .inl ⟨_, _, e1, e2, c.vint h⟩
  · have e1 := r1.str; have e2 := r2.str
    exact .inr (.inl ⟨_, _, e1, e2, h.1, c.vstr h.2⟩)
  · obtain ⟨a, vs, rfl, h1, n1, z1, l1⟩ := r1.tup
    obtain ⟨b, ws, rfl, h2, n2, z2, l2⟩ := r2.tup
    refine .inr (.inr (.inl ⟨a, b, vs, ws, rfl, rfl, h1, h2, by rw [l1.length, l2.length]; exact h.1, fun e => ?_, fun e e2 => ?_, fun _ _ => ?_⟩))
    · subst e
      cases l1
      exact c.vrep (.tupS n2 z2 l2) h.2
    · subst e2
      cases l2
      have h' := h.2
      rw [List.append_nil] at h'
      exact c.vrep (.tupS n1 z1 l1) h'
    · exact c.vtup (l1.append l2) (by rw [List.length_append]; exact h.1) h.2
  · obtain ⟨a, vs, rfl, h1, z1, l1⟩ := r1.list
    obtain ⟨b, ws, rfl, h2, z2, l2⟩ := r2.list
    exact .inr (.inr (.inr ⟨a, b, vs, ws, rfl, rfl, h1, h2, by rw [l1.length, l2.length]; exact h.1, c.vlst (l1.append l2) (by rw [List.length_append]; exact h.1) h.2⟩))
  · exact h.elim
def rTimes : R2 := fun x y H Q => ∃ a k, x = .str a ∧ y = .int k ∧ (2 ≤ k ∧ k ≤ 1000000 ∧ 1 ≤ a.length ∧ a.length * k.toNat ≤ 16777216) ∧ Q (.str (timesS a k.toNat)) H
theorem op_times {X : Cx} : OpR X (binaryOp .Mult) rTimes := by
  intro pins s σ H x y v u Q I rx ry h
  obtain ⟨a, k, rfl, rfl, ⟨h1, h2, h3, h4⟩, q⟩ := h
  obtain ⟨t, rfl⟩ := rx
  obtain ⟨t2, rfl⟩ := ry
  have k0 : k.toNat = k := by omega
  have nt : Builtin.Str.tooLong (a.length * k.toNat) = false := decide_eq_false (by rw [sizeLine_eq]; omega)
  refine PySem.P.mul_str ?_ (fun _ _ => ?_) (fun _ _ => ?_) ?_
  · rw [decide_eq_false (by omega), decide_eq_false (by omega)]
    rfl
  · have m : (a.length : Int) ≤ 16777216 := by
      have : a.length * 1 ≤ a.length * k.toNat := Nat.mul_le_mul_left _ (by omega)
      omega
    have d : (16777216 : Int) ≤ (2 ^ 63 - 1) / k := (Int.le_ediv_iff_mul_le (by omega)).mpr (by omega)
    omega
  · exact nt
  · have e1 : ¬ k < 1 := by omega
    have e2 : ¬ (k == 1 || a.length == 0) = true := by
      rw [Bool.or_eq_true, beq_iff_eq, beq_iff_eq]
      omega
    rw [if_neg e1, if_neg e2]
    refine ⟨?_, ?_⟩
    · exact fits_reps nt
    · exact ⟨.str (timesS a k.toNat), H, I.tok _, ⟨_, rfl⟩, q⟩
def rMulK : R2 := fun x y H Q => (rI CMul (fun i j => .int (i * j)) x y H Q ∨ rRep x y H Q) ∨ rTimes x y H Q
theorem or_mul {X : Cx} : OpR X (binaryOp .Mult) rMulK := (op_mul.or op_rep).or op_times
theorem val_mul (c : VC W N H b) (r1 : RepB K W N H v1 d1) (r2 : RepB K W N H v2 d2) (h : (mulD d1 d2).run (VQ K W N H Q) R b) : rMulK v1 v2 H Q := by
  unfold mulD at h
  split at h
  · exact .inl (.inl ⟨_, _, r1.int, r2.int, h.1, c.vint h.2⟩)
  · obtain ⟨a, vs, rfl, h1, z1, l1⟩ := r1.list
    obtain ⟨⟨b1, b2, b3⟩, h⟩ := h
    refine .inl (.inr ⟨a, _, vs, rfl, r2.int, h1, b1, b2, by rw [l1.length]; exact b3, c.vlst (l1.flat _) ?_ h⟩)
    rw [List.length_flatten, List.map_replicate, List.sum_replicate_nat]
    rw [Nat.mul_comm]
    exact b3
  · exact .inr ⟨_, _, r1.str, r2.int, h.1, c.vstr h.2⟩
  · exact h.elim
/-! ### other operators on whole numbers -/
theorem val_int {cc : Int → Int → Prop} {g : Int → Int → Int} (c : VC W N H b) (r1 : RepB K W N H v1 d1) (r2 : RepB K W N H v2 d2) (h : (intOp cc g d1 d2).run (VQ K W N H Q) R b) : rI cc (fun i j => .int (g i j)) v1 v2 H Q := by
  unfold intOp at h
  split at h
  · exact ⟨_, _, r1.int, r2.int, h.1, c.vint h.2⟩
  · exact h.elim
theorem or_sub {X : Cx} : OpR X (binaryOp .Sub) (rI (fun _ _ => True) fun i j => .int (i - j)) := opI (g := fun i j => i - j) fun _ _ _ _ _ _ _ _ q => sub_int q
/-- the reading of a binary operator -/
def rBin (K : PySem.W.Frag) : Operator → R2
  | .Add => rAddK K
  | .Sub => rI (fun _ _ => True) fun i j => .int (i - j)
  | .Mult => rMulK
  | .Mod => rI (fun _ j => 0 < j) fun i j => .int (i % j)
  | .FloorDiv => rI CDiv fun i j => .int (i / j)
  | .Pow => rI CPow fun i j => .int (i ^ j.toNat)
  | .LShift => rI CPow fun i j => .int (i * 2 ^ j.toNat)
  | _ => fun _ _ _ _ => False
theorem or_bin {X : Cx} (op : Operator) : OpR X (binaryOp op) (rBin X.K op) := by
  cases op <;> first
    | exact or_add
    | exact or_sub
    | exact or_mul
    | exact op_mod
    | exact op_fdiv
    | exact op_pow
    | exact op_shl
    | (intro pins s σ H x y v u Q I rx ry h; exact h.elim)
theorem val_bin (op : Operator) (c : VC W N H b) (r1 : RepB K W N H v1 d1) (r2 : RepB K W N H v2 d2) (h : (binD op d1 d2).run (VQ K W N H Q) R b) : rBin K op v1 v2 H Q := by
  cases op <;> first
    | exact val_add c r1 r2 h
    | exact val_mul c r1 r2 h
    | exact val_int c r1 r2 h
    | exact h.elim

/-! ### comparisons -/
mutual
theorem Rep.dp : ∀ (d : D) (v : V), d.canLay0 = true → Rep K W N H v d → Dp K H v d
  | .none, _, _, h => by cases h; exact .non
  | .bool b, _, _, h => by cases h; exact .bl b
  | .int i, _, _, h => by cases h; exact .int i
  | .str x, _, _, h => by cases h; exact .str x
  | .list ds, _, p, h => by
    cases h with
    | lst h1 h2 h3 h4 => exact .lst (SqL.of h1) (RepL.dp ds _ (by simpa [PyData.canLay0] using p) h4)
  | .tuple ds, _, p, h => by
    cases h with
    | tup h1 h2 h3 h4 => exact .tup (.inl h1.rd) (RepL.dp ds _ (by simpa [PyData.canLay0] using p) h4)
    | stp h1 h3 h4 => exact .tup h1.sq (RepL.dp ds _ (by simpa [PyData.canLay0] using p) h4)
  | .dict _, _, p, h => by simp [PyData.canLay0] at p
theorem RepL.dp : ∀ (ds : List D) (vs : List V), PyData.canLayAll0 ds = true → RepL K W N H vs ds → DpAll K H vs ds
  | [], _, _, h => by cases h; exact .nil
  | d :: ds, _, p, h => by
    simp only [PyData.canLayAll0, Bool.and_eq_true] at p
    cases h with
    | cons h1 h2 => exact .cons (Rep.dp d _ p.1 h1) (RepL.dp ds _ p.2 h2)
end
theorem RepB.dp {v : V} {d : D} (p : d.canLay0 = true) (h : RepB K W N H v d) : Dp K H v d := by
  rcases h with h | ⟨a, vs, ds, rfl, rfl, h3, h4, h5, _⟩ | ⟨a, o, rfl, h2, _⟩
  · exact Rep.dp d v p h
  · exact .lst (SqL.of h3) (RepL.dp ds _ (by simpa [PyData.canLay0] using p) h5)
  · obtain ⟨x, kvs, rfl⟩ := h2.dict
    simp [PyData.canLay0] at p
end
mutual
theorem okD_plain : ∀ d : D, d.plain = true → okD d = true
  | .none, _ => rfl
  | .bool _, _ => rfl
  | .int _, _ => rfl
  | .str _, _ => rfl
  | .list xs, h => by
    simp only [okD]
    exact okAll_plain xs (by simpa [PyData.plain] using h)
  | .tuple xs, h => by
    simp only [okD]
    exact okAll_plain xs (by simpa [PyData.plain] using h)
  | .dict _, h => by simp [PyData.plain] at h
theorem okAll_plain : ∀ xs : List D, PyData.plainAll xs = true → okAll xs = true
  | [], _ => rfl
  | x :: xs, h => by
    simp only [PyData.plainAll, Bool.and_eq_true] at h
    simp only [okAll, okD_plain x h.1, okAll_plain xs h.2, Bool.and_self]
end
theorem RepB.reads {X : Cx} {pins : List (Addr × Obj)} {σ : L2.St} {H : Hp} {s : Shared} {W : Wd} {N : Addr → Prop} {d : D} {v : V} {u : Value} (I : Inv X pins σ H s) (p : okD d = true) (h : RepB X.K W N H v d) (r : RelV v u) :
    ∃ as, Reads s.heap u d as ∧ ((∃ o, X.base.get? sysModules = some o) → sysModules ∉ as) := by
  rcases h with h | ⟨a, vs, ds, rfl, rfl, h3, h4, h5, h6⟩ | ⟨a, o, rfl, h2, _⟩
  rotate_left 2
  · obtain ⟨x, kvs, rfl⟩ := h2.dict
    simp [okD] at p
  · exact Rep.reads I d v u p h r
  · -- a lent list is read as one of its own
    have h' : Rep X.K W N H (.ref a) (.list ds) ∨ N a := by
      by_cases n : N a
      · exact .inr n
      · exact .inl (.lst h3 n h4 h5)
    cases r
    obtain ⟨its, rv, ⟨o, n, ho, hc, _, hd⟩, _⟩ := I.list (SqL.of h3)
    obtain ⟨as, hr, hm⟩ := RepL.reads I ds _ its (by simpa [okD] using p) h5 rv
    refine ⟨_, Reads.list ho hc hd hr, fun hs hm' => ?_⟩
    rcases List.mem_cons.mp hm' with e | e
    · obtain ⟨ob, hb⟩ := hs
      have q := (I.bs _ ob hb).2
      rw [e, h3] at q
      cases q
    · exact hm hs e

/-! ### comparisons, by data -/
def rDat (K : PySem.W.Frag) (C : D → D → Prop) (g : D → D → Bool) : R2 := fun x y H Q => ∃ W N d e, RepB K W N H x d ∧ RepB K W N H y e ∧ C d e ∧ Q (.bl (g d e)) H
theorem or_dat {X : Cx} {f : Value → Value → Sem Value} {C : D → D → Prop} {g : D → D → Bool} (hC : ∀ d e, C d e → okD d = true ∧ okD e = true)
    (rule : ∀ (d e : D) (a b : Value) (as bs : List Addr) (s : Shared) (Q : Value → Shared → Prop), C d e → Reads s.heap a d as → Reads s.heap b e bs → Q (.bool (g d e)) s → wpAny (model X.prog X.w) X.A (f a b) Q X.xe s) : OpR X f (rDat X.K C g) := by
  intro pins s σ H x y v u Q I rx ry h
  obtain ⟨W, N, d, e, r1, r2, hc, q⟩ := h
  obtain ⟨k1, k2⟩ := hC d e hc
  obtain ⟨as, ra, _⟩ := r1.reads I k1 rx
  obtain ⟨bs, rb, _⟩ := r2.reads I k2 ry
  exact rule d e v u as bs s _ hc ra rb ⟨.bl _, H, I, rfl, q⟩
abbrev cEq : D → D → Prop := fun d e => eqG d e
theorem lenNe_of {d e : D} (h : lenNe d e = true) : (∃ xs ys, d = .list xs ∧ e = .list ys ∧ xs.length ≠ ys.length) ∨ ∃ x xs, d = .tuple (x :: xs) ∧ e = .tuple [] := by
  cases d with
  | list xs =>
    cases e with
    | list ys => exact .inl ⟨_, _, rfl, rfl, of_decide_eq_true h⟩
    | _ => cases h
  | tuple xs =>
    cases e with
    | tuple ys =>
      cases xs with
      | nil => cases h
      | cons x xs =>
        cases ys with
        | nil => exact .inr ⟨_, _, rfl, rfl⟩
        | cons => cases h
    | _ => cases xs <;> cases h
  | _ => cases h
theorem eqG_ok {d e : D} (h : eqG d e) : okD d = true ∧ okD e = true := by
  rcases h with h | h
  · exact ⟨okD_plain d h.1.1, okD_plain e h.2.1⟩
  · exact ⟨h.1, h.2.1⟩
theorem room_min {A : Around} (hu : A.units + 66 < cLine) {d e : D} (h : d.depth ≤ 64) : A.units + min d.depth e.depth < cLine := by
  have := Nat.min_le_left d.depth e.depth
  omega
theorem or_eq {X : Cx} (hu : X.A.units + 66 < cLine) : OpR X (compareOp .Eq) (rDat X.K cEq PyData.eqv) :=
  or_dat (fun d e h => eqG_ok h) fun d e a b as bs s Q hc ra rb h => by
    rcases hc with hc | ⟨_, _, hc⟩
    · exact SeqAt.eq_plain ra rb hc.1.1 hc.2.1 (room_min hu hc.1.2) h
    · rcases lenNe_of hc with ⟨xs, ys, rfl, rfl, hl⟩ | ⟨z, zs, rfl, rfl⟩
      · cases ra with
        | list h1 h2 h3 h4 =>
          cases rb with
          | list k1 k2 k3 k4 =>
            have n1 := SeqAt.ReadsAll.length _ _ _ h4
            have n2 := SeqAt.ReadsAll.length _ _ _ k4
            have e : PyData.eqv (.list xs) (.list ys) = false := SeqAt.eqvAll_other_length hl
            rw [e] at h
            exact SeqAt.RcAt.lists_lengths ⟨_, h1, h2, _, h3⟩ ⟨_, k1, k2, _, k3⟩ (by
              rw [bne_iff_ne]
              simp only [Array.length_toList] at n1 n2
              omega) (by omega) _ _ _ Q h
      · cases ra with
        | tuple h1 h2 h3 h4 =>
          cases rb with
          | tuple k1 k2 k3 k4 =>
            have n1 := SeqAt.ReadsAll.length _ _ _ h4
            have n2 := SeqAt.ReadsAll.length _ _ _ k4
            simp only [Array.length_toList, List.length_cons, List.length_nil] at n1 n2
            have e : PyData.eqv (.tuple (z :: zs)) (.tuple []) = false := SeqAt.eqvAll_other_length (by simp)
            rw [e] at h
            have r := SeqAt.RcAt.tuples (A := X.A) (e := fun _ => true) ⟨_, h1, h2, _, h3⟩ ⟨_, k1, k2, _, k3⟩ (by omega) (fun j _ h2 => by omega)
            refine r _ _ _ Q ?_
            rw [n1, n2]
            simpa using h
theorem or_ne {X : Cx} (hu : X.A.units + 66 < cLine) : OpR X (compareOp .NotEq) (rDat X.K cEq fun d e => !PyData.eqv d e) :=
  or_dat (fun d e h => eqG_ok h) fun d e a b as bs s Q hc ra rb h => by
    rcases hc with hc | ⟨_, _, hc⟩
    · exact SeqAt.ne_plain ra rb hc.1.1 hc.2.1 (room_min hu hc.1.2) h
    · rcases lenNe_of hc with ⟨xs, ys, rfl, rfl, hl⟩ | ⟨z, zs, rfl, rfl⟩
      · cases ra with
        | list h1 h2 h3 h4 =>
          cases rb with
          | list k1 k2 k3 k4 =>
            have n1 := SeqAt.ReadsAll.length _ _ _ h4
            have n2 := SeqAt.ReadsAll.length _ _ _ k4
            have e : PyData.eqv (.list xs) (.list ys) = false := SeqAt.eqvAll_other_length hl
            rw [e] at h
            exact SeqAt.RcNeAt.lists_lengths ⟨_, h1, h2, _, h3⟩ ⟨_, k1, k2, _, k3⟩ (by
              rw [bne_iff_ne]
              simp only [Array.length_toList] at n1 n2
              omega) (by omega) _ _ _ Q h
      · cases ra with
        | tuple h1 h2 h3 h4 =>
          cases rb with
          | tuple k1 k2 k3 k4 =>
            have n1 := SeqAt.ReadsAll.length _ _ _ h4
            have n2 := SeqAt.ReadsAll.length _ _ _ k4
            simp only [Array.length_toList, List.length_cons, List.length_nil] at n1 n2
            have e : PyData.eqv (.tuple (z :: zs)) (.tuple []) = false := SeqAt.eqvAll_other_length (by simp)
            rw [e] at h
            have r := SeqAt.RcNeAt.tuples (A := X.A) (e := fun _ => true) ⟨_, h1, h2, _, h3⟩ ⟨_, k1, k2, _, k3⟩ (by omega) (fun j _ h2 => by omega)
            refine r _ _ _ Q ?_
            rw [n1, n2]
            simpa using h
abbrev cLt : D → D → Prop := fun d e => W.alike d e = true ∧ d ≠ .none ∧ d.depth ≤ 40 ∧ d.plain = true ∧ e.plain = true
theorem or_lt {X : Cx} (hu : X.A.units + 66 < cLine) : OpR X (compareOp .Lt) (rDat X.K cLt W.dataLt) :=
  or_dat (fun d e h => ⟨okD_plain d h.2.2.2.1, okD_plain e h.2.2.2.2⟩) fun d e a b as bs s Q hc ra rb h => W.lt_data ra rb hc.1 hc.2.1 (room_min hu (Nat.le_trans hc.2.2.1 (by decide))) h
def isIn (d : D) : D → Bool
  | .list xs => xs.any fun z => PyData.eqv z d
  | .tuple xs => xs.any fun z => PyData.eqv z d
  | _ => false
abbrev cIn : D → D → Prop := fun d e => (eqOk d ∧ eqOk e ∧ ((∃ xs, e = .list xs) ∨ ∃ xs, e = .tuple xs)) ∨ ∃ xs, e = .list xs ∧ okD d = true ∧ okAll xs = true ∧ ∀ z, z ∈ xs → eqI z d
theorem room_in {A : Around} (hu : A.units + 66 < cLine) {d : D} {xs : List D} (h : d.depth ≤ 64) : A.units + 1 + min (PyData.depthAll xs) d.depth < cLine := by
  have := Nat.min_le_right (PyData.depthAll xs) d.depth
  omega
theorem eqv_dict_plain {d : D} (h : d.plain = true) : PyData.eqv (.dict []) d = false := by
  cases d <;> first | rfl | cases h
theorem eqv_plain_dict {d : D} (h : d.plain = true) : PyData.eqv d (.dict []) = false := by
  cases d <;> first | rfl | cases h
theorem eqAt_I {z a : D} {A : Around} {s : Shared} {y x : Value} {as bs : List Addr} (h : eqI z a) (ry : Reads s.heap y z as) (rx : Reads s.heap x a bs) (hu : A.units + 65 < cLine) : SeqAt.EqAt A s y x (PyData.eqv z a) := by
  rcases h with ⟨h1, h2⟩ | ⟨rfl, h2⟩ | ⟨h1, rfl⟩
  · refine SeqAt.eqAt_plain z a A s y x _ _ ry rx h1.1 h2.1 ?_
    have := Nat.min_le_left z.depth a.depth
    have := h1.2
    omega
  · rw [eqv_dict_plain h2.1]
    exact SeqAt.eqAt_dict ry rx h2.1 (by omega)
  · rw [eqv_plain_dict h1.1]
    exact SeqAt.eqAt_of_dict rx ry h1.1 (by omega)
theorem reads_each {h : Heap} : ∀ {vs : List Value} {xs : List D} {as : List Addr}, ReadsAll h vs xs as → (∀ y, y ∈ vs → ∃ z bs, z ∈ xs ∧ Reads h y z bs) ∧ ∀ z, z ∈ xs → ∃ y bs, y ∈ vs ∧ Reads h y z bs
  | [], _, _, r => by
    cases r
    exact ⟨fun _ hy => (nomatch hy), fun _ hz => (nomatch hz)⟩
  | v :: vs, _, _, r => by
    cases r with
    | cons r1 r2 =>
      obtain ⟨a, b⟩ := reads_each r2
      refine ⟨fun y hy => ?_, fun z hz => ?_⟩
      · rcases List.mem_cons.mp hy with rfl | hy
        · exact ⟨_, _, List.mem_cons_self, r1⟩
        · obtain ⟨z, bs, h1, h2⟩ := a y hy
          exact ⟨z, bs, List.mem_cons_of_mem _ h1, h2⟩
      · rcases List.mem_cons.mp hz with rfl | hz
        · exact ⟨_, _, List.mem_cons_self, r1⟩
        · obtain ⟨y, bs, h1, h2⟩ := b z hz
          exact ⟨y, bs, List.mem_cons_of_mem _ h1, h2⟩
open Classical in
noncomputable def eqOf (h : Heap) (xs : List D) (d : D) (y : Value) : Bool := if ∃ z bs, z ∈ xs ∧ Reads h y z bs ∧ PyData.eqv z d = true then true else false
theorem eqOf_at {A : Around} {s : Shared} {x : Value} {vs : Array Value} {xs : List D} {d : D} {as bs : List Addr} (rs : ReadsAll s.heap vs.toList xs as) (rx : Reads s.heap x d bs) (h : ∀ z, z ∈ xs → eqI z d) (hu : A.units + 66 < cLine) :
    ∀ y, y ∈ vs → SeqAt.EqAt A.in1 s y x (eqOf s.heap xs d y) := fun y hy => by
  have hu' : A.in1.units + 65 < cLine := by
    show A.units + 1 + 65 < cLine
    omega
  unfold eqOf
  split
  · rename_i e
    obtain ⟨z, cs, hz, rz, e⟩ := e
    rw [← e]
    exact eqAt_I (h z hz) rz rx hu'
  · rename_i e
    obtain ⟨z, cs, hz, rz⟩ := (reads_each rs).1 y (by simpa using hy)
    have e' : PyData.eqv z d = false := by
      cases q : PyData.eqv z d with
      | false => rfl
      | true => exact absurd ⟨z, cs, hz, rz, q⟩ e
    rw [← e']
    exact eqAt_I (h z hz) rz rx hu'
theorem eqOf_any {h : Heap} {vs : Array Value} {xs : List D} {d : D} {as : List Addr} (rs : ReadsAll h vs.toList xs as) : vs.any (eqOf h xs d) = xs.any fun z => PyData.eqv z d := by
  rw [← Array.any_toList, Bool.eq_iff_iff, List.any_eq_true, List.any_eq_true]
  constructor
  · rintro ⟨y, _, hy⟩
    unfold eqOf at hy
    split at hy
    · rename_i e
      obtain ⟨z, _, hz, _, e⟩ := e
      exact ⟨z, hz, e⟩
    · cases hy
  · rintro ⟨z, hz, e⟩
    obtain ⟨y, bs, hy, r⟩ := (reads_each rs).2 z hz
    refine ⟨y, hy, ?_⟩
    unfold eqOf
    rw [if_pos ⟨z, bs, hz, r, e⟩]
theorem cIn_ok {d e : D} (h : cIn d e) : okD d = true ∧ okD e = true := by
  rcases h with h | ⟨xs, rfl, h1, h2, _⟩
  · exact ⟨okD_plain d h.1.1, okD_plain e h.2.1.1⟩
  · exact ⟨h1, by simpa [okD] using h2⟩
theorem or_inD {X : Cx} (hu : X.A.units + 66 < cLine) : OpR X (compareOp .In) (rDat X.K cIn isIn) :=
  or_dat (fun d e h => cIn_ok h) fun d e a b as bs s Q hc ra rb h => by
    rcases hc with ⟨h1, h2, h3⟩ | ⟨xs, rfl, _, _, h3⟩
    · rcases h3 with ⟨xs, rfl⟩ | ⟨xs, rfl⟩
      · exact SeqAt.in_list_data rb ra (by simpa [PyData.plain] using h2.1) h1.1 (room_in hu h1.2) h
      · exact SeqAt.in_tuple_data rb ra (by simpa [PyData.plain] using h2.1) h1.1 (room_in hu h1.2) h
    · cases rb with
      | list k1 k2 k3 k4 => exact SeqAt.in_listAt _ ⟨_, k1, k2, _, k3⟩ (eqOf_at k4 ra h3 hu) (by rw [eqOf_any k4]; exact h)
theorem or_ninD {X : Cx} (hu : X.A.units + 66 < cLine) : OpR X (compareOp .NotIn) (rDat X.K cIn fun d e => !isIn d e) :=
  or_dat (fun d e h => cIn_ok h) fun d e a b as bs s Q hc ra rb h => by
    rcases hc with ⟨h1, h2, h3⟩ | ⟨xs, rfl, _, _, h3⟩
    · rcases h3 with ⟨xs, rfl⟩ | ⟨xs, rfl⟩
      · exact SeqAt.notIn_list_data rb ra (by simpa [PyData.plain] using h2.1) h1.1 (room_in hu h1.2) h
      · exact SeqAt.notIn_tuple_data rb ra (by simpa [PyData.plain] using h2.1) h1.1 (room_in hu h1.2) h
    · cases rb with
      | list k1 k2 k3 k4 => exact SeqAt.notIn_listAt _ ⟨_, k1, k2, _, k3⟩ (eqOf_at k4 ra h3 hu) (by rw [eqOf_any k4]; exact h)
abbrev rInS : R2 := fun x y H Q => ∃ i j, x = .str i ∧ y = .str j ∧ Q (.bl (!(Builtin.Str.occurrences j i 0 j.length 1).isEmpty)) H
abbrev rNinS : R2 := fun x y H Q => ∃ i j, x = .str i ∧ y = .str j ∧ Q (.bl (!(!(Builtin.Str.occurrences j i 0 j.length 1).isEmpty))) H
/-- the reading of a comparison -/
def rCmpK (K : PySem.W.Frag) : CmpOp → R2
  | .Eq => rDat K cEq PyData.eqv
  | .NotEq => rDat K cEq fun d e => !PyData.eqv d e
  | .Lt => fun x y H Q => rI0 (fun i j => .bl (decide (i < j))) x y H Q ∨ rDat K cLt W.dataLt x y H Q
  | .LtE => rI0 fun i j => .bl (decide (i ≤ j))
  | .Gt => rI0 fun i j => .bl (decide (j < i))
  | .GtE => rI0 fun i j => .bl (decide (j ≤ i))
  | .In => fun x y H Q => (rDat K cIn isIn x y H Q ∨ rInS x y H Q) ∨ rDt K id x y H Q
  | .NotIn => fun x y H Q => (rDat K cIn (fun d e => !isIn d e) x y H Q ∨ rNinS x y H Q) ∨ rDt K not x y H Q
  | .Is => fun x y H Q => (y = .non ∧ Q (.bl (decide (x = .non))) H) ∨ ∃ a b, x = .bl a ∧ y = .bl b ∧ Q (.bl (decide (a = b))) H
  | .IsNot => fun x y H Q => (y = .non ∧ Q (.bl (!decide (x = .non))) H) ∨ ∃ a b, x = .bl a ∧ y = .bl b ∧ Q (.bl (!decide (a = b))) H
theorem or_cmp {X : Cx} (hu : X.A.units + 66 < cLine) (op : CmpOp) : OpR X (compareOp op) (rCmpK X.K op) := by
  cases op
  · exact or_eq hu
  · exact or_ne hu
  · exact op_lt.or (or_lt hu)
  · exact op_le
  · exact op_gt
  · exact op_ge
  · exact op_isN.or op_isBl
  · exact op_notN.or op_notBl
  · exact ((or_inD hu).or op_in_str).or (or_dtIn hu)
  · exact ((or_ninD hu).or op_notin_str).or (or_dtNin hu)
section
variable {K : PySem.W.Frag} {W : Wd} {N : Addr → Prop} {H : Hp} {Q : VK} {R : XV → Nat → Prop} {v1 v2 : V} {d1 d2 : D} {b : Nat}
theorem val_eq (r1 : RepB K W N H v1 d1) (r2 : RepB K W N H v2 d2) {P : Bool → Nat → Prop} (h : (eqD d1 d2).run P R b) : cEq d1 d2 ∧ P (PyData.eqv d1 d2) b := h
theorem dtD_inj {a b : List (List Int)} (h : dtD a = dtD b) : a = b := by
  unfold dtD at h
  injection h with h
  injection h with _ h
  have key : ∀ {a b : List (List Int)}, a.map (fun k => (tupD k, PyData.bool true)) = b.map (fun k => (tupD k, PyData.bool true)) → a = b := by
    intro a
    induction a with
    | nil => intro b h; cases b with | nil => rfl | cons _ _ => cases h
    | cons x a ih =>
      intro b h
      cases b with
      | nil => cases h
      | cons y b =>
        rw [List.map_cons, List.map_cons] at h
        injection h with h1 h2
        rw [ih h2]
        have h3 : tupD x = tupD y := congrArg Prod.fst h1
        unfold tupD at h3
        injection h3 with h3
        have ik : ∀ {a b : List Int}, a.map PyData.int = b.map PyData.int → a = b := by
          intro a
          induction a with
          | nil => intro b h; cases b with | nil => rfl | cons _ _ => cases h
          | cons x a ih =>
            intro b h
            cases b with
            | nil => cases h
            | cons y b =>
              rw [List.map_cons, List.map_cons] at h
              injection h with h1 h2
              injection h1 with h1
              rw [h1, ih h2]
        rw [ik h3]
  exact key h
theorem RepB.dt {ks : List (List Int)} {v : V} {d : D} (r : RepB K W N H v d) (e : d = dtD ks) : ∃ q xs, v = .ref q ∧ H q = some (.ext (DtP q xs)) ∧ (∀ x, x ∈ xs → SqT K H x.2 (x.1.map V.int)) ∧ ks = xs.map (·.1) := by
  have nk : ∀ {a : List (Int × Int)} {b : List (List Int)}, dkD a ≠ dtD b := by
    intro a b h
    unfold dkD dtD at h
    injection h with h
    injection h with h _
    have h := congrArg Prod.fst h
    injection h with h
    exact absurd h (by decide)
  rcases r with h | ⟨a, vs, ds, rfl, h2, _⟩ | ⟨a, o, rfl, h2, h3, _⟩
  · subst e
    generalize hd : dtD ks = d at h
    cases h with
    | dct h1 h2 h3 h4 => exact ⟨_, _, rfl, h1, fun x m => (h4 x m).sq, dtD_inj hd⟩
    | dci _ _ _ => exact absurd hd.symm nk
    | _ => cases hd
  · rw [e] at h2
    cases h2
  · cases h2 with
    | dki _ => exact absurd e nk
    | dkt z k => exact ⟨a, _, rfl, h3, fun x m => (k x m).sq, (dtD_inj e).symm⟩
theorem repL_int : ∀ {k : List Int} {vs : List V}, RepL K W N H vs (k.map PyData.int) → vs = k.map V.int
  | [], _, h => by cases h; rfl
  | i :: k, _, h => by
    cases h with
    | cons h t =>
      cases h
      rw [repL_int t]
      rfl
theorem eqv_tupI {a b : List Int} : PyData.eqv (tupD a) (tupD b) = decide (a = b) := by
  unfold tupD
  rw [PyData.eqv]
  induction a generalizing b with
  | nil => cases b <;> simp [PyData.eqvAll]
  | cons x a ih =>
    cases b with
    | nil => simp [PyData.eqvAll]
    | cons y b =>
      simp only [List.map_cons, PyData.eqvAll, ih, PyData.eqv]
      by_cases h : x = y <;> by_cases h2 : a = b <;> simp [h, h2]
theorem dt_any {ks : List (List Int)} {k : List Int} {kvs : List (D × D)} (e : PyData.dict kvs = dtD ks) : (kvs.any fun p => PyData.eqv p.1 (tupD k)) = decide (k ∈ ks) := by
  unfold dtD at e
  injection e with e
  subst e
  rw [List.any_cons, show PyData.eqv (.str "tuples") (tupD k) = false from rfl, Bool.false_or]
  induction ks with
  | nil => rfl
  | cons x ks ih =>
    rw [List.map_cons, List.any_cons, ih, eqv_tupI]
    by_cases h : x = k
    · simp [h]
    · have h' : ¬ k = x := fun z => h z.symm
      simp [h, h']
theorem val_inK {g : Bool → Bool} (r1 : RepB K W N H v1 d1) (r2 : RepB K W N H v2 d2) {P : Bool → Nat → Prop} (h : (inD d1 d2).run P R b) :
    ((cIn d1 d2 ∧ P (isIn d1 d2) b) ∨ ∃ i j, v1 = .str i ∧ v2 = .str j ∧ P (!(Builtin.Str.occurrences j i 0 j.length 1).isEmpty) b) ∨
    ∃ (p q : Addr) (k : List Int) (xs : List (List Int × Addr)), v1 = .ref p ∧ v2 = .ref q ∧ SqT K H p (k.map V.int) ∧ H q = some (.ext (DtP q xs)) ∧ (∀ x, x ∈ xs → SqT K H x.2 (x.1.map V.int)) ∧ P (decide (k ∈ xs.map (·.1))) b := by
  unfold inD at h
  split at h
  · refine .inl (.inl ⟨?_, h.2⟩)
    rcases h.1 with g | ⟨g1, g2, g3⟩
    · exact .inl ⟨g.1, g.2, .inl ⟨_, rfl⟩⟩
    · exact .inr ⟨_, rfl, g1, g2, g3⟩
  · exact .inl (.inl ⟨.inl ⟨h.1.1, h.1.2, .inr ⟨_, rfl⟩⟩, h.2⟩)
  · split at h
    · exact .inl (.inr ⟨_, _, r1.str, r2.str, h⟩)
    · exact h.elim
  · obtain ⟨⟨k, ks, rfl, e⟩, h⟩ := h
    have h : P ((_ : List (D × D)).any fun p => PyData.eqv p.1 (tupD k)) b := h
    obtain ⟨q, xs, rfl, h1, h2, rfl⟩ : ∃ q xs, v2 = .ref q ∧ H q = some (.ext (DtP q xs)) ∧ (∀ x, x ∈ xs → SqT K H x.2 (x.1.map V.int)) ∧ ks = xs.map (·.1) := r2.dt e
    obtain ⟨p, vs, rfl, g1, _, _, l⟩ := RepB.tup (ds := k.map .int) r1
    have ev : vs = k.map V.int := repL_int l
    subst ev
    refine .inr ⟨p, q, k, xs, rfl, rfl, g1, h1, h2, ?_⟩
    rw [← dt_any e]
    exact h
  · exact h.elim
theorem rep_non (r : RepB K W N H v1 d1) : (decide (v1 = .non)) = (match d1 with | .none => true | _ => false) := by
  rcases r with h | ⟨a, vs, ds, rfl, rfl, _⟩ | ⟨a, o, rfl, h2, _⟩
  · cases h <;> rfl
  · rfl
  · obtain ⟨x, kvs, rfl⟩ := h2.dict
    rfl
theorem rep_nnon (r : RepB K W N H v1 d1) : (!decide (v1 = .non)) = (match d1 with | .none => false | _ => true) := by
  rcases r with h | ⟨a, vs, ds, rfl, rfl, _⟩ | ⟨a, o, rfl, h2, _⟩
  · cases h <;> rfl
  · rfl
  · obtain ⟨x, kvs, rfl⟩ := h2.dict
    rfl
theorem val_cmp (op : CmpOp) (c : VC W N H b) (r1 : RepB K W N H v1 d1) (r2 : RepB K W N H v2 d2) {P : Bool → Nat → Prop} (hP : ∀ k, P k b → Q (.bl k) H) (h : (cmpD op d1 d2).run P R b) : rCmpK K op v1 v2 H Q := by
  cases op
  · exact ⟨W, N, d1, d2, r1, r2, h.1, hP _ h.2⟩
  · exact ⟨W, N, d1, d2, r1, r2, h.1, hP _ h.2⟩
  · have h : (ltD d1 d2).run P R b := h
    unfold ltD at h
    split at h
    · exact .inl ⟨_, _, r1.int, r2.int, hP _ h⟩
    · exact .inr ⟨W, N, _, _, r1, r2, h.1, hP _ h.2⟩
  · cases d1 <;> cases d2 <;> first | exact h.elim | exact ⟨_, _, r1.int, r2.int, hP _ h⟩
  · cases d1 <;> cases d2 <;> first | exact h.elim | exact ⟨_, _, r1.int, r2.int, hP _ h⟩
  · cases d1 <;> cases d2 <;> first | exact h.elim | exact ⟨_, _, r1.int, r2.int, hP _ h⟩
  · cases d1 <;> cases d2 <;> first
      | exact h.elim
      | exact .inl ⟨r2.non, hP _ (by rw [rep_non r1]; exact h)⟩
      | exact .inr ⟨_, _, r1.bl, r2.bl, hP _ h⟩
  · cases d1 <;> cases d2 <;> first
      | exact h.elim
      | exact .inl ⟨r2.non, hP _ (by rw [rep_nnon r1]; exact h)⟩
      | exact .inr ⟨_, _, r1.bl, r2.bl, hP _ h⟩
  · rcases val_inK (g := id) r1 r2 h with (⟨a, b⟩ | ⟨i, j, e1, e2, b⟩) | ⟨p, q, k, xs, e1, e2, e3, e4, e5, b⟩
    · exact .inl (.inl ⟨W, N, d1, d2, r1, r2, a, hP _ b⟩)
    · exact .inl (.inr ⟨i, j, e1, e2, hP _ b⟩)
    · exact .inr ⟨p, q, k, xs, e1, e2, e3, e4, e5, hP _ b⟩
  · rcases val_inK (g := id) (P := fun b => P (!b)) r1 r2 h with (⟨a, b⟩ | ⟨i, j, e1, e2, b⟩) | ⟨p, q, k, xs, e1, e2, e3, e4, e5, b⟩
    · exact .inl (.inl ⟨W, N, d1, d2, r1, r2, a, hP _ b⟩)
    · exact .inl (.inr ⟨i, j, e1, e2, hP _ b⟩)
    · exact .inr ⟨p, q, k, xs, e1, e2, e3, e4, e5, hP _ b⟩
end
end Ad
namespace Ad
open PySem PySem.Spec PyProof.Rows L2

/-! ### subscripts -/
section
variable {K : PySem.W.Frag} {W : Wd} {N : Addr → Prop} {H : Hp} {Q : VK} {R : XV → Nat → Prop} {v1 v2 : V} {d1 d2 : D} {b : Nat}
theorem RepL.atI {vs : List V} {ds : List D} (h : RepL K W N H vs ds) {i : Int} {d : D} (e : L2.atI ds i = some d) : ∃ v, L2.atI vs i = some v ∧ Rep K W N H v d := by
  unfold L2.atI at e ⊢
  rw [h.length]
  cases q : ixN ds.length i with
  | none => rw [q] at e; cases e
  | some j =>
    rw [q] at e
    exact h.get (show ds[j]? = some d from e)
theorem val_ix (c : VC W N H b) (r1 : RepB K W N H v1 d1) (r2 : RepB K W N H v2 d2) (h : (ixD d1 d2).run (VQ K W N H Q) R b) : rIx K v1 v2 H Q := by
  unfold ixD at h
  split at h
  · obtain ⟨d, e, h⟩ := oget_run h
    obtain ⟨a, vs, rfl, h1, z1, l1⟩ := r1.list
    obtain ⟨v, e', r⟩ := l1.atI e
    exact .inl ⟨a, vs, _, v, rfl, r2.int, SqL.of h1, e', c.vrep r h⟩
  · obtain ⟨d, e, h⟩ := oget_run h
    obtain ⟨a, vs, rfl, h1, n1, z1, l1⟩ := r1.tup
    obtain ⟨v, e', r⟩ := l1.atI e
    exact .inr (.inl ⟨a, vs, _, v, rfl, r2.int, h1, e', c.vrep r h⟩)
  · obtain ⟨hz, h⟩ := h
    obtain ⟨x, e, h⟩ := oget_run h
    exact .inr (.inr ⟨_, _, x, r1.str, r2.int, hz, e, c.vstr h⟩)
  · exact h.elim

/-- a slice -/
def rSlK (K : PySem.W.Frag) : V → Option Int → Option Int → Hp → VK → Prop := fun x lo hi H Q => rSlL K x lo hi H Q ∨ rSlS2 K x lo hi H Q ∨ rSlS x lo hi H Q
theorem or_sl {X : Cx} : SlR X (rSlK X.K) := sl_list.or (sl_tupS.or sl_str)
theorem cutD_length (xs : List D) (lo hi : Option Int) : (cutD xs lo hi).length ≤ xs.length := by
  unfold cutD
  rw [List.length_take, List.length_drop]
  omega
theorem val_sl (c : VC W N H b) {lo hi : Option Int} (r1 : RepB K W N H v1 d1) (h : (slP d1 lo hi).run (VQ K W N H Q) R b) : rSlK K v1 lo hi H Q := by
  unfold slP at h
  split at h
  · obtain ⟨a, vs, rfl, h1, z1, l1⟩ := r1.list
    refine .inl ⟨a, vs, rfl, SqL.of h1, ?_⟩
    rename_i xs
    have e : RepL K W N H (cutV vs lo hi) (cutD xs lo hi) := by
      unfold cutV cutD
      rw [l1.length]
      exact (l1.drop _).take _
    exact c.vlst e (Nat.le_trans (cutD_length _ _ _) z1) h
  · obtain ⟨a, vs, rfl, h1, n1, z1, l1⟩ := r1.tup
    refine .inr (.inl ⟨a, vs, rfl, h1, fun hw => ?_, fun _ => ?_⟩)
    · rename_i xs
      have e : cutD xs lo hi = xs := by
        unfold cutD
        rw [← l1.length, hw.1, hw.2, Nat.sub_zero, List.drop_zero, l1.length, List.take_length]
      rw [e] at h
      exact c.vrep (.tupS n1 z1 l1) h
    · rename_i xs hn
      have e : RepL K W N H (cutV vs lo hi) (cutD xs lo hi) := by
        unfold cutV cutD
        rw [l1.length]
        exact (l1.drop _).take _
      exact c.vtup e (Nat.le_trans (cutD_length _ _ _) z1) h
  · exact .inr (.inr ⟨_, r1.str, h.1, c.vstr h.2⟩)
  · exact h.elim
end

/-! ### the tuple, the list, from behind -/
theorem rev_places (n : Nat) : Builtin.Slice.sliceAdjust none none (-1) (n : Int) = ((n : Int) - 1, -1) ∧ Builtin.Slice.slicePlaces ((n : Int) - 1) (-1) (-1) = n := by
  constructor
  · unfold Builtin.Slice.sliceAdjust
    simp
  · unfold Builtin.Slice.slicePlaces
    have h1 : ¬ ((-1 : Int) > 0) := by decide
    simp only [h1, if_false]
    by_cases h : (n : Int) - 1 > -1
    · rw [if_pos h]
      have : ((n : Int) - 1 - -1 - -1 - 1) / (- -1) = (n : Int) := by
        rw [show (- -1 : Int) = 1 by decide, Int.ediv_one]
        omega
      first
        | omega
        | (rw [this]; exact Int.toNat_natCast n)
        | simp
    · rw [if_neg h]
      omega
theorem rev_pick (xs : Array Value) : ((List.range xs.size).filterMap fun (m : Nat) => xs[(((xs.size : Int) - 1) + (m : Int) * (-1)).toNat]?).toArray = xs.toList.reverse.toArray := by
  congr 1
  apply List.ext_getElem?
  intro i
  have key : ∀ (n : Nat), n ≤ xs.size → (List.range n).filterMap (fun (m : Nat) => xs[(((xs.size : Int) - 1) + (m : Int) * (-1)).toNat]?) = xs.toList.reverse.take n := by
    intro n
    induction n with
    | zero => intro _; simp
    | succ n ih =>
      intro hn
      rw [List.range_succ, List.filterMap_append, ih (by omega)]
      have e : (((xs.size : Int) - 1) + (n : Int) * (-1)).toNat = xs.size - 1 - n := by omega
      have e2 : xs[xs.size - 1 - n]? = some xs[xs.size - 1 - n] := by simp
      rw [List.filterMap_cons, e, e2, List.filterMap_nil]
      rw [List.take_add_one]
      congr 1
      rw [List.getElem?_reverse (by rw [Array.length_toList]; omega)]
      simp only [Array.length_toList, Array.getElem?_toList]
      rw [e2]
      rfl
  rw [key xs.size (Nat.le_refl _)]
  rw [List.take_of_length_le (by simp)]
theorem rev_applied {prog : Program} {w : World} {A : Around} {E : Value → Shared → Prop} {s : Shared} {sl : Addr} {n : Nat} {tk : Tok} {Q : Int × Int × Nat → Shared → Prop} (hs : s.heap.IsSliceOf sl .none .none (.int (-1) tk))
    (h : Q ((n : Int) - 1, -1, n) s) : wpAny (model prog w) A (Builtin.Slice.sliceApplied (.ref sl) (pure (n : Int))) Q E s := by
  obtain ⟨ob, hob, _, hdt⟩ := id hs
  unfold Builtin.Slice.sliceApplied Builtin.Slice.sliceFields
  refine wpAny_bind (wpAny_bind (wpAny_field hob hdt (x := .none) rfl (wpAny_bind (wpAny_field hob hdt (x := .none) rfl (wpAny_bind (wpAny_field hob hdt (x := .int (-1) tk) rfl (wpAny_pure ?_)))))))
  refine wpAny_bind (slicePart_int ?_)
  show wpAny _ _ (if ((-1 : Int) == 0) = true then _ else _) _ _ s
  rw [if_neg (by decide)]
  refine wpAny_bind (slicePart_none (wpAny_bind (slicePart_none (wpAny_bind (wpAny_pure ?_)))))
  show wpAny _ _ (match Builtin.Slice.sliceAdjust none none (-1) (n : Int) with | (lo, hi) => pure (lo, (-1 : Int), Builtin.Slice.slicePlaces lo hi (-1))) _ _ s
  rw [(rev_places n).1]
  show wpAny _ _ (pure (((n : Int) - 1), (-1 : Int), Builtin.Slice.slicePlaces ((n : Int) - 1) (-1) (-1))) _ _ s
  rw [(rev_places n).2]
  exact wpAny_pure h
theorem rev_tuple {prog : Program} {w : World} {A : Around} {E : Value → Shared → Prop} {s : Shared} {t sl : Addr} {items : Array Value} {tk : Tok} {Q : Value → Shared → Prop} (ht : IsTup s.heap t items) (hs : s.heap.IsSliceOf sl .none .none (.int (-1) tk))
    (h : Q (.ref s.heap.objs.size) { s with heap := s.heap.push { cls := .type "tuple", data := .seq items.toList.reverse.toArray } })
    (hsz : items.size ≤ sizeLine) : wpAny (model prog w) A (getItem (.ref t) (.ref sl)) Q E s := by
  have room : sizeOk (.seq items.toList.reverse.toArray) := by
    show items.toList.reverse.toArray.size ≤ sizeLine
    rw [List.size_toArray, List.length_reverse, Array.length_toList]
    exact hsz
  obtain ⟨ob, hob, hcl, hdt⟩ := id hs
  have ty : s.TypeIs (.ref sl) "slice" := ⟨ob, hob, hcl⟩
  unfold getItem
  try with_reducible refine wpAny_holding ?_
  first | refine wpAny_bind (wpAny_pure ?_) | skip
  refine wpAny_bind (wpAny_sequenceKey ht.typeIs (by decide) ?_)
  refine wpAny_bind (wpAny_callSpecial?_slot (name := Str.ofString "__getitem__") ht.typeIs PyProof.Rows.slot_tuple_getitem
    (wpAny_call_entry PyProof.Rows.slot_tuple_getitem ht.typeIs entry_tuple_getitem ?_ (args_tuple_getitem _ _)))
  show wpAny _ _ (Builtin.Tuple.tupleItemsOf (.ref t) >>= _) _ _ s
  refine wpAny_bind (tupleItemsOf_ ht ?_)
  refine wpAny_bind (wpAny_typeOf ty ?_)
  rw [if_pos (by decide)]
  refine wpAny_bind (rev_applied hs ?_)
  show wpAny _ _ (if (((items.size : Int) - 1) == 0 && ((-1 : Int) == 1) && (items.size == items.size)) = true then _ else _) _ _ s
  rw [if_neg (by rw [show ((-1 : Int) == 1) = false by decide, Bool.and_false, Bool.false_and]; decide), rev_pick]
  first
    | exact wpAny_bind (m := Builtin.Tuple.tupleExact _) (wpAny_newObj_type (wpAny_pure ⟨_, rfl, wpAny_pure h⟩) room)
    | exact wpAny_bind (m := Builtin.Tuple.tupleExact _) (wpAny_newObj_type (wpAny_bind (wpAny_pure (wpAny_pure ⟨_, rfl, wpAny_pure h⟩))) room)
    | exact wpAny_bind (wpAny_bind (m := Builtin.Tuple.tupleExact _) (wpAny_newObj_type (wpAny_pure (wpAny_pure ⟨_, rfl, wpAny_pure h⟩)) room))
    | exact wpAny_bind (wpAny_bind (m := Builtin.Tuple.tupleExact _) (wpAny_newObj_type (wpAny_pure ⟨_, rfl, wpAny_pure h⟩) room))
/-- x[::-1] of a list, of a tuple -/
def rRevK (K : PySem.W.Frag) : V → Hp → VK → Prop := fun x H Q =>
  (∃ a xs, x = .ref a ∧ SqL K H a xs ∧ ∀ p, H p = none → Q (.ref p) (upd H p (.lst xs.reverse))) ∨ ∃ a xs, x = .ref a ∧ SqT K H a xs ∧ NewT H Q xs.reverse
theorem pe_rev {X : Cx} {e : Expr} {te : TE} {k : Nat} {p1 p2 p3 pos : Pos} (he : PE X e te) : PE X (.Subscript e (.Slice none none (some (.UnaryOp .USub (.Constant (.int 1) k p1) p2)) p3) pos) (tUn (rRevK X.K) te) := by
  refine ⟨fun pins s σ H Q I h => ?_⟩
  refine Subscript_ (thn (he.run pins s σ H _ I h) fun v s1 ⟨x, H1, I1, r1, q1⟩ => ?_)
  have hst : PO X (some (.UnaryOp .USub (.Constant (.int 1) k p1) p2)) (tPart (tUn (rU fun i => .int (-i)) (tC (.int 1)))) := po_some (pe_un un_neg pe_int)
  refine wpAny_Slice (thn (po_none.run pins s1 σ H1 (fun o H2 => o = none ∧ H2 = H1) I1 ⟨rfl, rfl⟩) fun vl s2 ⟨l, H2, I2, pl, el, e2⟩ => ?_)
  subst el
  subst e2
  refine thn (po_none.run pins s2 σ H2 (fun o H3 => o = none ∧ H3 = H2) I2 ⟨rfl, rfl⟩) fun vu s3 ⟨u, H3, I3, pu, eu, e3⟩ => ?_
  subst eu
  subst e3
  refine thn (hst.run pins s3 σ H3 (fun o H4 => o = some (-1) ∧ H4 = H3) I3 ⟨1, rfl, -1, rfl, rfl, rfl⟩) fun vs s4 ⟨o, H4, I4, ps, eo, e4⟩ => ?_
  subst eo
  subst e4
  have I5 : Inv X pins σ H4 { s4 with heap := s4.heap.push { cls := .type "slice", data := .fields #[vl, vu, vs] } } := I4.kept (t' := s4.toks) fun b ob q => Heap.get?_push_of_some _ q
  rcases q1 with ⟨a, xs, ex, hx, q⟩ | ⟨a, xs, ex, hx, q⟩
  · cases ex
    cases r1
    obtain ⟨its, r, ht, hz⟩ := I5.list hx
    have hlen := r.length
    refine tail_any (ops := [.ref a, .ref s4.heap.objs.size]) ht.isList.typeIs (PySem.slot_list_getitem.lookup) ?_ (by with_unfolding_all rfl)
    refine wpAny_getItem_list_slice ht.isList (Heap.IsSliceOf.new _ vl vu vs) pl pu ps (by decide) ?_ (by rw [List.size_toArray]; omega)
    rw [PySem.W.krv_pick]
    refine ⟨.ref _, _, I5.laid (t' := s4.toks) (o := .lst xs.reverse) (fun b ob q => Heap.get?_push_of_some _ q) (Nat.le_refl _) ?_, rfl, q _ (I5.hok.fresh (Nat.le_refl _))⟩
    exact ⟨by rw [List.length_reverse]; exact hz, _, 0, r.reverse, Heap.get?_push_size _ rfl⟩
  · cases ex
    cases r1
    obtain ⟨its, r, ht, hz⟩ := I5.tuple hx
    have hlen := r.length
    cases pl
    cases pu
    cases ps
    refine tail_any (ops := [.ref a, .ref s4.heap.objs.size]) ht.typeIs PyProof.Rows.slot_tuple_getitem.lookup ?_ (by with_unfolding_all rfl)
    refine rev_tuple ht (Heap.IsSliceOf.new _ _ _ _) ?_ (by rw [List.size_toArray]; omega)
    exact newT_end I5 (tk := s4.toks) (fun _ _ e => e) (by rw [List.length_reverse]; exact hz) r.reverse q
section
variable {K : PySem.W.Frag} {W : Wd} {N : Addr → Prop} {H : Hp} {Q : VK} {R : XV → Nat → Prop} {v1 v2 : V} {d1 d2 : D} {b : Nat}
theorem val_rev (c : VC W N H b) (r1 : RepB K W N H v1 d1) (h : (revD d1).run (VQ K W N H Q) R b) : rRevK K v1 H Q := by
  unfold revD at h
  split at h
  · obtain ⟨a, vs, rfl, h1, z1, l1⟩ := r1.list
    exact .inl ⟨a, vs, rfl, SqL.of h1, c.vlst l1.reverse (by rw [List.length_reverse]; exact z1) h⟩
  · obtain ⟨a, vs, rfl, h1, n1, z1, l1⟩ := r1.tup
    exact .inr ⟨a, vs, rfl, h1, c.vtup l1.reverse (by rw [List.length_reverse]; exact z1) h⟩
  · exact h.elim
end
end Ad
namespace Ad
open PySem PySem.Spec PyProof.Rows L2

/-! ### built-ins on data -/
section
variable {X : Cx}
def rIsaK (K : PySem.W.Frag) (T : String) (g : D → Bool) : List V → Hp → VK → Prop := fun xs H Q => ∃ W N d x, xs = [x, .ty T] ∧ RepB K W N H x d ∧ okD d = true ∧ Q (.bl (g d)) H
theorem cr_isa {T : String} {g : D → Bool}
    (rule : ∀ (A : Around) (v : Value) (d : D) (as : List Addr) (s : Shared) (Q : Value → Shared → Prop) (E : Value → Shared → Prop), Reads s.heap v d as → (∀ tk, s.toks ≤ tk → Q (.bool (g d)) { s with toks := tk }) → wpAny (model X.prog X.w) A (call (.builtin "isinstance") [v, .type T]) Q E s) :
    CallR X (.builtin "isinstance") (rIsaK X.K T g) := by
  intro pins s σ H xs us Q I r h
  obtain ⟨W, N, d, x, rfl, rd, k, q⟩ := h
  obtain ⟨u, t, rfl, ru, rt⟩ := Vals.two r
  cases rt
  obtain ⟨as, ra, _⟩ := rd.reads I k ru
  exact rule _ u d as s _ _ ra fun tk _ => ⟨.bl _, H, I.tok tk, rfl, q⟩
theorem cr_isInt : CallR X (.builtin "isinstance") (rIsaK X.K "int" PyData.isInt) := cr_isa fun _ _ _ _ _ _ _ r h => W.isinstance_int_data r h
theorem cr_isBool : CallR X (.builtin "isinstance") (rIsaK X.K "bool" PyData.isBool) := cr_isa fun _ _ _ _ _ _ _ r h => W.isinstance_bool_data r h
theorem cr_isStr : CallR X (.builtin "isinstance") (rIsaK X.K "str" PyData.isStr) := cr_isa fun _ _ _ _ _ _ _ r h => W.isinstance_str_data r h
theorem cr_isTuple : CallR X (.builtin "isinstance") (rIsaK X.K "tuple" PyData.isTuple) := cr_isa fun _ _ _ _ _ _ _ r h => W.isinstance_tuple_data r h
theorem cr_isList : CallR X (.builtin "isinstance") (rIsaK X.K "list" PyData.isList) := cr_isa fun _ _ _ _ _ _ _ r h => W.isinstance_list_data r h

def cRepr (d : D) : Prop := okD d = true ∧ d.showable = true ∧ d.depth ≤ 40 ∧ d.shown.length ≤ sizeLine
def rReprK (K : PySem.W.Frag) : List V → Hp → VK → Prop := fun xs H Q => ∃ W N d x, xs = [x] ∧ RepB K W N H x d ∧ cRepr d ∧ Q (.str d.shown) H
theorem cr_repr (hu : X.A.units + 66 < cLine) (hg : X.A.guards = some []) (hs : ∃ o, X.base.get? sysModules = some o) : CallR X (.builtin "repr") (rReprK X.K) := by
  intro pins s σ H xs us Q I r h
  obtain ⟨W, N, d, x, rfl, rd, ⟨k1, k2, k3, k4⟩, q⟩ := h
  obtain ⟨u, rfl, ru⟩ := Vals.one r
  obtain ⟨as, ra, hm⟩ := rd.reads I k1 ru
  cases ra with
  | none => exact PySem.P.repr_of_none ⟨.str _, H, I.tok _, ⟨_, rfl⟩, q⟩
  | bool b => exact PySem.P.repr_of_bool ⟨.str _, H, I.tok _, ⟨s.toks, by simp only [PyData.shown]⟩, q⟩
  | int i t => exact PySem.P.repr_of_int (by simpa [PyData.showable] using k2) ⟨.str _, H, I.tok _, ⟨s.toks, by simp only [PyData.shown]⟩, q⟩
  | str y t => exact PySem.P.repr_of_str ⟨.str _, H, I.tok _, ⟨s.toks, by simp only [PyData.shown]⟩, q⟩ (by simpa [PyData.shown] using k4)
  | list h1 h2 h3 h4 =>
    exact repr_of_reads' (.list h1 h2 h3 h4) k2 (fun _ => hm hs) hg (by omega) (fun _ _ e => e) (fun h' v tk hk => ⟨.str _, H, I.kept (t' := tk) hk, ⟨_, rfl⟩, q⟩) k4
  | tuple h1 h2 h3 h4 =>
    exact repr_of_reads' (.tuple h1 h2 h3 h4) k2 (fun _ => hm hs) hg (by omega) (fun _ _ e => e) (fun h' v tk hk => ⟨.str _, H, I.kept (t' := tk) hk, ⟨_, rfl⟩, q⟩) k4
  | dict h1 h2 h3 h4 h5 =>
    exact repr_of_reads' (.dict h1 h2 h3 h4 h5) k2 (fun _ => hm hs) hg (by omega) (fun _ _ e => e) (fun h' v tk hk => ⟨.str _, H, I.kept (t' := tk) hk, ⟨_, rfl⟩, q⟩) k4
end
end Ad
/-! tuples of any lengths (an empty one among them) are sorted -/
namespace Ad
open PySem PySem.Calls PyProof.Rows PySem.W PySem.SeqAt

theorem general_lt (x y : Value) : keyLt' general' x y = oneLt' false x y := rfl
section
variable {prog : Program} {w : World} {A : Around} {E : Value → Shared → Prop} {s : Shared}
theorem call_tup_lt {Q : Value → Shared → Prop} {l b : Addr} {items items2 : Array Value} {e r : Nat → Bool} (hl : s.heap.IsTuple l items) (hb : s.heap.IsTuple b items2)
    (he : ∀ j (h1 : j < items.size) (h2 : j < items2.size), EqAt A.in1 s items[j] items2[j] (e j)) (hr : ∀ j (h1 : j < items.size) (h2 : j < items2.size), e j = false → RcLt A.in1 s items[j] items2[j] (r j))
    (h : Q (.bool (firstLt e r (decide (items.size < items2.size)) (List.range (min items.size items2.size)))) s) : wpAny (model prog w) A (call (.builtin "tuple.__lt__") [.ref l, .ref b]) Q E s := by
  obtain ⟨⟨cl, od, da, ls⟩, ho, hcl, n, hda⟩ := id hl
  obtain ⟨⟨cl2, od2, da2, ls2⟩, ho2, hcl2, n2, hda2⟩ := id hb
  cases hcl
  cases hda
  cases hcl2
  cases hda2
  exact call_meets F.slot_tuple_lt ⟨_, ho, rfl⟩ F.entry_tuple_lt (F.args_tuple_lt_2 _ _) (tuple_ltAt l b items items2 n n2 od od2 ls ls2 e r) ⟨ho, ho2, he, hr, h⟩
theorem oneLt_tup {xs ys : List PyData} {a b : Value} {as bs : List Addr} {Q : Bool → Shared → Prop} (ra : Reads s.heap a (.tuple xs) as) (rb : Reads s.heap b (.tuple ys) bs) (hal : alikeAll xs ys = true)
    (hu : A.units + min (PyData.tuple xs).depth (PyData.tuple ys).depth < cLine) (hq : Q (dataLt (.tuple xs) (.tuple ys)) s) : wpAny (model prog w) A (oneLt' true a b) Q E s := by
  cases ra with
  | @tuple l o vs n _ as₁ h1 h2 h3 h4 =>
    cases rb with
    | @tuple l' o' vs' n' _ bs₁ k1 k2 k3 k4 =>
      have n1 : vs.size = xs.length := by simpa using ReadsAll.length _ _ _ h4
      have n2 : vs'.size = ys.length := by simpa using ReadsAll.length _ _ _ k4
      rw [dataLt_tuple, ← firstLt_toks xs ys hal, ← n1, ← n2] at hq
      rw [oneLt'_eq]
      simp only [if_true]
      refine wpAny_bind (wpAny_cRoomFor (room_here hu) ?_)
      refine wpAny_bind (wpAny_callSpecialIfBound?_slot (T := "tuple") ⟨_, h1, h2⟩ F.slot_tuple_lt (call_tup_lt (e := pairEq xs ys) (r := fun j => dataLt (xs.getD j .none) (ys.getD j .none)) ⟨_, h1, h2, _, h3⟩ ⟨_, k1, k2, _, k3⟩ (fun j j1 j2 => ?_) (fun j j1 j2 hj => ?_) ?_))
      · have q := eqAt_alikeAll xs ys A.in1 s vs.toList vs'.toList _ _ h4 k4 hal (SeqAt.room_in hu) j (by simpa using j1) (by simpa using j2)
        simpa using q
      · have q := rcLt_alikeAll xs ys A.in1 s vs.toList vs'.toList _ _ h4 k4 hal (SeqAt.room_in hu) j (by simpa using j1) (by simpa using j2) hj
        simpa using q
      · exact wpAny_truthy_bool hq

/-- the first items, of tuples of any lengths -/
def heads (h : Heap) : List Value → List (Option Value) → Prop
  | [], [] => True
  | v :: vs, f :: fs => (∃ a o xs n, v = .ref a ∧ h.get? a = some o ∧ o.cls = .type "tuple" ∧ o.data = .seq xs n ∧ xs[0]? = f) ∧ heads h vs fs
  | _, _ => False
theorem heads_run {M : Model} : ∀ (vs : List Value) (fs : List (Option Value)) {Q : List (Option Value) → Shared → Prop}, heads s.heap vs fs → Q fs s → wpAny M A (vs.mapM firstOfTuple') Q E s
  | [], [], _, _, h => by rw [List.mapM_nil]; exact wpAny_pure h
  | [], _ :: _, _, t, _ => t.elim
  | _ :: _, [], _, t, _ => t.elim
  | v :: vs, f :: fs, Q, t, h => by
    obtain ⟨⟨a, o, xs, n, rfl, ho, hc, hd, hf⟩, t⟩ := t
    rw [List.mapM_cons]
    refine wpAny_bind ?_
    rw [kas_first_eq]
    refine wpAny_bind (Looks.here (show Looks M s.heap (typeOf (.ref a)) o.cls from (Looks.ld ho).andThen .now) ?_)
    rw [hc, if_neg (by first | decide | simp)]
    refine wpAny_bind (listItems_at ho hd (wpAny_pure ?_))
    rw [hf]
    exact wpAny_bind (heads_run vs fs (Q := fun bs s' => wpAny M A (pure (f :: bs)) Q E s') t (wpAny_pure h))
theorem heads_of {h : Heap} : ∀ {vs : List Value} {ds : List PyData}, EachIs (fun v d => ∃ as, Reads h v d as) vs ds → (∀ d, d ∈ ds → ∃ ys, d = .tuple ys) →
    ∃ fs, heads h vs fs ∧ fs.length = vs.length ∧ ∀ (i : Nat) (d : PyData), ds[i]? = some d → (fs[i]? = some none ↔ d = .tuple [])
  | _, _, .nil, _ => ⟨[], trivial, rfl, fun i d e => by simp at e⟩
  | _, _, .cons (b := d) ⟨as, r⟩ t, ht => by
    obtain ⟨fs, h1, h2, h3⟩ := heads_of t fun d hd => ht d (List.mem_cons_of_mem _ hd)
    obtain ⟨ys, rfl⟩ := ht d List.mem_cons_self
    cases r with
    | @tuple a o xs n _ _ ho hc hd hr =>
      refine ⟨xs[0]? :: fs, ⟨⟨a, o, xs, n, rfl, ho, hc, hd, rfl⟩, h1⟩, by simp [h2], fun i d e => ?_⟩
      cases i with
      | succ i => simpa using h3 i d (by simpa using e)
      | zero =>
        simp only [List.getElem?_cons_zero, Option.some.injEq] at e ⊢
        subst e
        rw [← Array.getElem?_toList]
        cases q : xs.toList with
        | nil => rw [q] at hr; cases hr; simp
        | cons f fr => rw [q] at hr; cases hr; simp
theorem tups_kind {M : Model} {vs : List Value} {fs : List (Option Value)} {Q : SortKind → Shared → Prop} (h2 : 2 ≤ vs.length) (t : heads s.heap vs fs) (hT : ∀ v ∈ vs, Looks M s.heap (typeOf v) (.type "tuple")) (hn : ∃ i : Nat, fs[i]? = some none)
    (h : Q (if ((fs[0]?).bind id).isSome = true then general' else oneType') s) : wpAny M A (keyKind' vs.toArray) Q E s := by
  rw [keyKind'_eq, List.mapM_toArray, map_eq_pure_bind]
  refine wpAny_bind (wpAny_bind (heads_run vs fs t (wpAny_pure ?_)))
  have hall : ¬ (fs.toArray.all fun x => x.isSome) = true := by
    intro q
    obtain ⟨i, hi⟩ := hn
    have := (List.all_eq_true.mp (by simpa using q)) none (List.mem_of_getElem? hi)
    simp at this
  rw [if_neg hall]
  have e0 : fs.toArray[0]? = fs[0]? := by simp
  rw [e0]
  by_cases hc : ((fs[0]?).bind id).isSome = true
  · rw [if_pos hc] at h ⊢
    exact wpAny_pure h
  · rw [if_neg hc] at h ⊢
    rw [oneTypeOnly'_eq, List.mapM_toArray, map_eq_pure_bind]
    refine wpAny_bind (wpAny_bind (wpAny_bind (kas_mapM (r := Value.type "tuple") _ (fun v hv Q' hq => (hT v hv).here hq) (wpAny_pure ?_))))
    obtain ⟨v₁, rest, rfl⟩ : ∃ v₁ rest, vs = v₁ :: rest := by
      cases vs with
      | nil => simp at h2
      | cons v₁ rest => exact ⟨v₁, rest, rfl⟩
    have hall : ((List.map (fun _ => Value.type "tuple") (v₁ :: rest)).toArray.all fun x => x == Value.type "tuple") = true := by simp
    have h0 : (List.map (fun _ => Value.type "tuple") (v₁ :: rest)).toArray[0]? = some (Value.type "tuple") := by simp
    rw [h0]
    simp only [hall, if_true]
    exact wpAny_pure (wpAny_pure h)
theorem sorts_tups {vs : List Value} {ds : List PyData} (e : EachIs (fun v d => ∃ as, Reads s.heap v d as) vs ds) (hal : AllAlike ds) (ht : ∀ d, d ∈ ds → ∃ ys, d = .tuple ys) (hu : ∀ d, d ∈ ds → A.units + d.depth < cLine) : SortsAt prog w A s (dataKind s.heap ds) vs := by
  by_cases hne : ∀ d, d ∈ ds → ∃ x r, d = .tuple (x :: r)
  · exact SortsAt.data e hal (.inl hne) hu
  · have hex : ∃ i : Nat, ds[i]? = some (.tuple []) := by
      by_cases q : PyData.tuple [] ∈ ds
      · exact List.getElem?_of_mem q
      · exfalso
        apply hne
        intro d hd
        obtain ⟨ys, rfl⟩ := ht d hd
        cases ys with
        | nil => exact absurd hd q
        | cons x r => exact ⟨x, r, rfl⟩
    have room : ∀ {d d' : PyData}, d ∈ ds → A.units + min d.depth d'.depth < cLine := fun {d d'} hd => Nat.lt_of_le_of_lt (Nat.add_le_add_left (Nat.min_le_left _ _) _) (hu d hd)
    refine ⟨fun v hv => ?_, ?_⟩
    · obtain ⟨d, hd, as, r⟩ := e.left v hv
      exact ⟨_, dataKind_some hal hd r⟩
    · obtain ⟨fs, t1, t2, t3⟩ := heads_of e ht
      refine ⟨if ((fs[0]?).bind id).isSome = true then general' else oneType', ?_, fun h2 E Q hq => ?_⟩
      · intro E x y a b Q ha hb hq
        obtain ⟨d, as, hd, ra, rfl⟩ := dataKind_inv ha
        obtain ⟨d', as', hd', rb, rfl⟩ := dataKind_inv hb
        have hdd := hal d hd d' hd'
        obtain ⟨x1, rfl⟩ := ht d hd
        obtain ⟨x2, rfl⟩ := ht d' hd'
        have hq' : Q (dataLt (.tuple x1) (.tuple x2)) s := hq
        split
        · rw [general_lt]
          exact oneLt_alike (fun q => absurd q Bool.false_ne_true) ra rb hdd (by simp) (room hd) hq'
        · rw [keyLt'_oneType]
          exact oneLt_tup ra rb (by simpa [alike] using hdd) (room hd) hq'
      · obtain ⟨i, hi⟩ := hex
        refine tups_kind h2 t1 (fun v hv => ?_) ⟨i, (t3 i _ hi).mpr rfl⟩ hq
        obtain ⟨d, hd, as, r⟩ := e.left v hv
        obtain ⟨ys, rfl⟩ := ht d hd
        exact looks_reads r
/-- what sorted takes -/
theorem sorts_data {vs : List Value} {ds : List PyData} (e : EachIs (fun v d => ∃ as, Reads s.heap v d as) vs ds) (hk : sortable ds) (hu : A.units + 41 < cLine) : SortsAt prog w A s (dataKind s.heap ds) vs := by
  obtain ⟨h1, h2, h3⟩ := hk
  have hu' : ∀ d, d ∈ ds → A.units + d.depth < cLine := fun d hd => by have := (h2 d hd).2.1; omega
  rcases h3 with h3 | h3
  · exact sorts_tups e h1 h3 hu'
  · exact SortsAt.data e h1 (.inr fun d hd => ⟨(h2 d hd).1, h3 d hd⟩) hu'
end
end Ad
namespace Ad
open PySem PySem.Calls PySem.W PySem.SeqAt PySem.Spec PyProof.Rows L2

/-! ### a call's reading, by what it does to data -/
def rCall (K : PySem.W.Frag) (f : List D → M D) : List V → Hp → VK → Prop := fun xs H Q => ∃ (W : Wd) (N : Addr → Prop) (ds : List D) (R : XV → Nat → Prop) (b : Nat), VC W N H b ∧ RepBL K W N H xs ds ∧ (f ds).run (VQ K W N H Q) R b
section
variable {K : PySem.W.Frag} {W : Wd} {N : Addr → Prop} {H : Hp} {xs : List V} {ds : List D}
theorem RepBL.one {d : D} (h : RepBL K W N H xs [d]) : ∃ x, xs = [x] ∧ RepB K W N H x d := by
  cases h with
  | cons h1 h2 => cases h2; exact ⟨_, rfl, h1⟩
theorem RepBL.two {d e : D} (h : RepBL K W N H xs [d, e]) : ∃ x y, xs = [x, y] ∧ RepB K W N H x d ∧ RepB K W N H y e := by
  cases h with
  | cons h1 h2 =>
    cases h2 with
    | cons h3 h4 => cases h4; exact ⟨_, _, rfl, h1, h3⟩
/-- a list or a tuple -/
theorem RepB.items {v : V} {d : D} {Q : List D → Nat → Prop} {R : XV → Nat → Prop} {b : Nat} (r : RepB K W N H v d) (h : (itemsOf d).run Q R b) : ∃ ds a vs, Q ds b ∧ v = .ref a ∧ ds.length ≤ sizeLine ∧ RepL K W N H vs ds ∧ ((d = .list ds ∧ H a = some (.lst vs)) ∨ (d = .tuple ds ∧ SqT K H a vs ∧ TupN K N H a vs)) := by
  obtain ⟨ds, e | e, q⟩ := items_run h
  · subst e
    obtain ⟨a, vs, h1, h2, h3, h4⟩ := r.list
    exact ⟨ds, a, vs, q, h1, h3, h4, .inl ⟨rfl, h2⟩⟩
  · subst e
    obtain ⟨a, vs, h1, h2, h3, h4, h5⟩ := r.tup
    exact ⟨ds, a, vs, q, h1, h4, h5, .inr ⟨rfl, h2, h3⟩⟩
end

section
variable {X : Cx}
theorem cr_on1 {callee : Value} {f : D → M D} (h : ∀ (pins : List (Addr × Obj)) (s : Shared) (σ : L2.St) (H : Hp) (x : V) (u : Value) (Q : VK) (W : Wd) (N : Addr → Prop) (d : D) (R : XV → Nat → Prop) (b : Nat), Inv X pins σ H s → RelV x u → VC W N H b → RepB X.K W N H x d → (f d).run (VQ X.K W N H Q) R b → wpAny (model X.prog X.w) X.A (call callee [u]) (EP X pins σ Q) X.xe s) : CallR X callee (rCall X.K (on1 f)) := by
  intro pins s σ H xs us Q I r hh
  obtain ⟨W, N, ds, R, b, c, rb, hh⟩ := hh
  match ds, rb, hh with
  | [], _, hh => exact hh.elim
  | [d], rb, hh =>
    obtain ⟨x, rfl, rx⟩ := rb.one
    obtain ⟨u, rfl, ru⟩ := vals1 r
    exact h pins s σ H x u Q W N d R b I ru c rx hh
  | _ :: _ :: _, _, hh => exact hh.elim
theorem cr_on1' {callee : Value} {f : D → M D} {r : List V → Hp → VK → Prop} (hr : CallR X callee r) (h : ∀ (H : Hp) (x : V) (Q : VK) (W : Wd) (N : Addr → Prop) (d : D) (R : XV → Nat → Prop) (b : Nat), VC W N H b → RepB X.K W N H x d → (f d).run (VQ X.K W N H Q) R b → r [x] H Q) : CallR X callee (rCall X.K (on1 f)) :=
  cr_on1 fun pins s σ H x u Q W N d R b I ru c rx hh => hr pins s σ H [x] [u] Q I (.cons ru .nil) (h H x Q W N d R b c rx hh)
theorem cr_on2' {callee : Value} {f : D → D → M D} {r : List V → Hp → VK → Prop} (hr : CallR X callee r) (h : ∀ (H : Hp) (x y : V) (Q : VK) (W : Wd) (N : Addr → Prop) (d e : D) (R : XV → Nat → Prop) (b : Nat), VC W N H b → RepB X.K W N H x d → RepB X.K W N H y e → (f d e).run (VQ X.K W N H Q) R b → r [x, y] H Q) : CallR X callee (rCall X.K (on2 f)) := by
  intro pins s σ H xs us Q I r' hh
  obtain ⟨W, N, ds, R, b, c, rb, hh⟩ := hh
  match ds, rb, hh with
  | [], _, hh => exact hh.elim
  | [d], rb, hh => exact hh.elim
  | [d, e], rb, hh =>
    obtain ⟨x, y, rfl, rx, ry⟩ := rb.two
    exact hr pins s σ H _ us Q I r' (h H x y Q W N d e R b c rx ry hh)
  | _ :: _ :: _ :: _, _, hh => exact hh.elim

theorem cr_len : CallR X (.builtin "len") (rCall X.K (biD .len)) := cr_on1' call_len fun H x Q W N d R b c rx h => by
  have h : (lenD d).run (fun n => VQ X.K W N H Q (.int n)) R b := h
  unfold lenD at h
  split at h
  · obtain ⟨a, vs, rfl, h1, z, l⟩ := rx.list
    exact ⟨.ref a, _, rfl, .inl ⟨vs, SqL.of h1, rfl⟩, c.vint (by rw [l.length]; exact h)⟩
  · obtain ⟨a, vs, rfl, h1, n, z, l⟩ := rx.tup
    exact ⟨.ref a, _, rfl, .inr ⟨vs, h1, rfl⟩, c.vint (by rw [l.length]; exact h)⟩
  · have e := rx.str
    subst e
    exact ⟨.str _, _, rfl, ⟨h.1, rfl⟩, c.vint h.2⟩
  · exact h.elim
theorem cr_tuple : CallR X (.type "tuple") (rCall X.K (biD .tuple)) := cr_on1' call_tupS fun H x Q W N d R b c rx h => by
  obtain ⟨ds, a, vs, q, rfl, z, l, hx | hx⟩ := rx.items h
  · exact ⟨a, vs, rfl, .inl ⟨SqL.of hx.2, c.vtup l z q⟩⟩
  · exact ⟨a, vs, rfl, .inr ⟨hx.2.1, c.vrep (.tupS hx.2.2 z l) q⟩⟩
theorem cr_list : CallR X (.type "list") (rCall X.K (biD .list)) := cr_on1' call_list_of fun H x Q W N d R b c rx h => by
  obtain ⟨ds, a, vs, q, rfl, z, l, hx | hx⟩ := rx.items h
  · exact ⟨a, vs, rfl, .inl (SqL.of hx.2), c.vlst l z q⟩
  · exact ⟨a, vs, rfl, .inr hx.2.1, c.vlst l z q⟩
theorem CallR.or {callee : Value} {r r' : List V → Hp → VK → Prop} (a : CallR X callee r) (b : CallR X callee r') : CallR X callee (fun xs H Q => r xs H Q ∨ r' xs H Q) := by
  intro pins s σ H xs us Q I rv h
  rcases h with h | h
  · exact a pins s σ H xs us Q I rv h
  · exact b pins s σ H xs us Q I rv h
theorem cr_int1 : CallR X (.type "int") (rCall X.K (biD .int1)) := cr_on1' (CallR.or call_int1 call_int_str) fun H x Q W N d R b c rx h => by
  unfold int1D at h
  split at h
  · exact .inl (.inl ⟨_, by rw [rx.int], c.vint h⟩)
  · exact .inl (.inr ⟨_, by rw [rx.bl], c.vint h⟩)
  · obtain ⟨n, hn, h1, h2⟩ := oget_run h
    exact .inr ⟨_, n, by rw [rx.str], hn, h1, c.vint h2⟩
  · exact h.elim
theorem cr_min2 (hc : X.calm = true) : CallR X (.builtin "min") (rCall X.K (biD .min2)) := cr_on2' (call_min2 hc) fun H x y Q W N d e R b c rx ry h => by
  unfold ints2 at h
  split at h
  · exact ⟨_, _, by rw [rx.int, ry.int], c.vint h⟩
  · exact h.elim
theorem cr_max2 (hc : X.calm = true) : CallR X (.builtin "max") (rCall X.K (biD .max2)) := cr_on2' (call_max2 hc) fun H x y Q W N d e R b c rx ry h => by
  unfold ints2 at h
  split at h
  · exact ⟨_, _, by rw [rx.int, ry.int], c.vint h⟩
  · exact h.elim
/-! ### lists and tuples read as data -/
theorem each_vals {h : Heap} : ∀ {us : List Value} {ds : List D} {as : List Addr}, ReadsAll h us ds as → EachIs (fun v d => ∃ as, Reads h v d as) us ds
  | _, _, _, .nil => .nil
  | _, _, _, .cons h1 h2 => .cons ⟨_, h1⟩ (each_vals h2)
theorem each_pair {K : PySem.W.Frag} {W : Wd} {N : Addr → Prop} {H : Hp} : ∀ {us : List Value} {vs : List V} {ds : List D}, Vals vs us → RepL K W N H vs ds → EachIs (fun u (p : V × D) => RelV p.1 u ∧ Rep K W N H p.1 p.2) us (vs.zip ds)
  | _, _, [], .nil, .nil => .nil
  | _, _, _ :: _, .cons r1 r2, .cons h1 h2 => .cons ⟨r1, h1⟩ (each_pair r2 h2)
theorem each_back {K : PySem.W.Frag} {W : Wd} {N : Addr → Prop} {H : Hp} : ∀ {us : List Value} {ps : List (V × D)}, EachIs (fun u (p : V × D) => RelV p.1 u ∧ Rep K W N H p.1 p.2) us ps → Vals (ps.map (·.1)) us ∧ RepL K W N H (ps.map (·.1)) (ps.map (·.2))
  | _, _, .nil => ⟨.nil, .nil⟩
  | _, _, .cons h1 h2 => ⟨.cons h1.1 (each_back h2).1, .cons h1.2 (each_back h2).2⟩
theorem RepL.zip_snd {K : PySem.W.Frag} {W : Wd} {N : Addr → Prop} {H : Hp} : ∀ {ds : List D} {vs : List V}, RepL K W N H vs ds → (vs.zip ds).map (·.2) = ds
  | [], _, .nil => rfl
  | _ :: _, _, .cons _ h2 => by rw [List.zip_cons_cons, List.map_cons, h2.zip_snd]
theorem sort_pairs (ps : List (V × D)) : (ps.mergeSort (dataLe false (fun p => p.2))).map (·.2) = (ps.map (·.2)).mergeSort (dataLe false id) :=
  List.map_mergeSort fun a _ b _ => rfl
theorem each_reads_pairs {h : Heap} : ∀ {us : List Value} {ps : List (V × D)} {as : List Addr}, us.length = ps.length → ReadsAll h us (ps.map (·.2)) as → EachIs (fun v (p : V × D) => ∃ as, Reads h v p.2 as) us ps
  | [], [], _, _, _ => .nil
  | u :: us, p :: ps, _, e, r => by
    have r' : ReadsAll h (u :: us) (p.2 :: ps.map (·.2)) _ := r
    cases r' with
    | cons h1 h2 => exact .cons ⟨_, h1⟩ (each_reads_pairs (by simpa using e) h2)
  | [], _ :: _, _, e, _ => by simp at e
  | _ :: _, [], _, e, _ => by simp at e
theorem plainAll_of : ∀ {ds : List D}, (∀ d, d ∈ ds → d.plain = true) → PyData.plainAll ds = true
  | [], _ => rfl
  | d :: ds, h => by
    simp only [PyData.plainAll, Bool.and_eq_true]
    exact ⟨h d List.mem_cons_self, plainAll_of fun x hx => h x (List.mem_cons_of_mem _ hx)⟩
theorem depthAll_of {n : Nat} : ∀ {ds : List D}, (∀ d, d ∈ ds → d.depth ≤ n) → PyData.depthAll ds ≤ n
  | [], _ => by simp [PyData.depthAll]
  | d :: ds, h => by
    simp only [PyData.depthAll]
    have h1 := h d List.mem_cons_self
    have h2 := depthAll_of fun x hx => h x (List.mem_cons_of_mem _ hx)
    omega
theorem sort_out {K : PySem.W.Frag} {W : Wd} {N : Addr → Prop} {H : Hp} {vs : List V} {ds : List D} {us : List Value} {h' : Heap} {as : List Addr} (hk : sortable ds) (rv : Vals vs us) (l : RepL K W N H vs ds) (ra : ReadsAll h' us ds as) :
    ∃ ws, Vals ws (sortVals (dataKind h' ds) false us us) ∧ RepL K W N H ws (sortD ds) := by
  have e1 := l.zip_snd
  have hl : us.length = (vs.zip ds).length := by rw [List.length_zip, ← rv.length, l.length, Nat.min_self]
  have hal : AllAlike ((vs.zip ds).map (·.2)) := by rw [e1]; exact hk.1
  have q := sortVals_data (R := fun u (p : V × D) => RelV p.1 u ∧ Rep K W N H p.1 p.2) (enc := fun p => p.2) (h' := h') false (each_pair rv l) (each_reads_pairs hl (by rw [e1]; exact ra)) hal
  rw [e1] at q
  obtain ⟨h1, h2⟩ := each_back q
  rw [sort_pairs, e1] at h2
  exact ⟨_, h1, h2⟩

/-! ### the items of a tuple -/
section
variable {prog : Program} {w : World} {A : Around} {E : Value → Shared → Prop} {s : Shared}
theorem collect_tuple {l : Addr} {vs : List Value} {Q : List Value → Shared → Prop} (hl : s.heap.IsTuple l vs.toArray)
    (h : Q vs { s with heap := (s.heap.push (seqObj "list" #[] 0)).update s.heap.objs.size (Obj.mapSeq (· ++ vs.toArray)) }) (hsz : vs.length ≤ sizeLine) :
    wpAny (model prog w) A (collect (.ref l)) Q E s := by
  obtain ⟨o, ho, hc, n, hd⟩ := id hl
  unfold collect
  refine wpAny_bind (wpAny_runValue (codeAny_builtin entry_proto_collect' ?_))
  show wpAny _ _ (do again (.builtin "list.__iadd__" ⟨[← newList [], .ref l], []⟩)) _ _ s
  refine wpAny_bind (wpAny_newList (wpAny_pure ⟨Code.quiet_builtin _ (by decide +kernel), codeAny_builtin entry_list_iadd' ?_⟩))
  show wpAny _ _ (Builtin.List.listExtendWith (.ref s.heap.objs.size) (.ref l) (.ref s.heap.objs.size)) _ _ { s with heap := s.heap.push (seqObj "list" #[] 0) }
  unfold Builtin.List.listExtendWith
  have ho' : (s.heap.push (seqObj "list" #[] 0)).get? l = some o := Heap.get?_push_of_some _ ho
  refine wpAny_bind (wpAny_typeOf (T := "tuple") ⟨o, ho', hc⟩ ?_)
  have ht : (Value.type "tuple" == Value.type "tuple") = true := by rfl
  rw [if_pos (by rw [ht]; simp)]
  refine wpAny_bind (listItems_at ho' hd ?_)
  refine wpAny_bind (listItems_at (xs := #[]) (n := 0) (Heap.get?_push_size _ rfl) rfl ?_)
  rw [if_neg (by simp)]
  refine wpAny_bind (listUpdate_at (xs := #[]) (n := 0) (Heap.get?_push_size _ rfl) rfl ?_ (Nat.zero_le _) (by show (#[] ++ vs.toArray).size ≤ sizeLine + 1; simp only [Array.size_append, List.size_toArray, List.length_nil]; omega))
  refine wpAny_pure ?_
  show wpAny (model prog w) A (do
      let o ← load s.heap.objs.size
      match o.data with
      | .seq xs _ => pure xs.toList
      | _ => unsupported "internal:collect") Q E { s with heap := (s.heap.push (seqObj "list" #[] 0)).update s.heap.objs.size (Obj.mapSeq (· ++ vs.toArray)) }
  refine wpAny_bind (wpAny_load (get?_update_seq (Heap.get?_push_size _ rfl) _) ?_)
  show wpAny _ _ (pure ((#[] : Array Value) ++ vs.toArray).toList) Q E _
  rw [show ((#[] : Array Value) ++ vs.toArray).toList = vs by simp]
  exact wpAny_pure h
theorem sorted_vals_tuple {κ : PyProof.Rows.KeyKind} {l : Addr} {vs : List Value} {Q : Value → Shared → Prop} (hl : s.heap.IsTuple l vs.toArray) (S : SortsAt prog w A.in1.in1 { s with heap := sortingHeap (copyHeap s.heap vs) (s.heap.objs.size + 1) vs } κ vs) (hL : vs.length ≤ sizeLine)
    (h : Q (.ref (s.heap.objs.size + 1)) { s with heap := sortedAll s.heap vs (sortVals κ false vs vs).toArray }) : wpAny (model prog w) A (call (.builtin "sorted") [.ref l]) Q E s := by
  refine call_function_entry_kw kind_sorted plain_sorted entry_sorted (args_sorted1 _) ?_
  unfold Builtin.«sorted»
  refine wpAny_bind (m := checkCount "sorted" 1 1 _) (wpAny_pure ?_)
  refine wpAny_bind (collect_tuple hl ?_ hL)
  refine wpAny_bind (wpAny_newList ?_ hL)
  have hsz : ((s.heap.push (seqObj "list" #[] 0)).update s.heap.objs.size (Obj.mapSeq (· ++ vs.toArray))).objs.size = s.heap.objs.size + 1 := by
    rw [Heap.size_update, size_push']
  show wpAny _ _ _ _ _ { s with heap := copyHeap s.heap vs }
  rw [hsz]
  refine wpAny_bind (wpAny_holding (wpAny_call_entry_kw slot_list_sort ⟨_, copyHeap_at s.heap vs, rfl⟩ entry_list_sort ?body (args_list_sort _)))
  case body =>
    show wpAny (model prog w) A.in1.in1 (Builtin.«list.sort» ⟨[.ref (s.heap.objs.size + 1)], []⟩) _ _ _
    refine wpAny_mono (list_sort_vals (s := { s with heap := copyHeap s.heap vs }) (P := fun f s' => f = .done (.ret .none) ∧ Q (.ref (s.heap.objs.size + 1)) s') (copyHeap_at s.heap vs) S hL ⟨rfl, h⟩) (fun f s' hf => ?_) fun _ _ e => e
    obtain ⟨rfl, hq⟩ := hf
    exact ⟨_, rfl, wpAny_pure ⟨_, rfl, hq⟩⟩
end
end
end Ad
/-! sum(xss, []): lists put together -/
namespace Ad
open PySem PySem.Calls PySem.W PySem.SeqAt PySem.Spec PyProof.Rows L2
open PySem.Sem (wp)

theorem args_sumL (a b : Value) : argsOk "sum" ⟨[a, b], []⟩ := by unfold argsOk; kernel_rfl
theorem sub_ls : isSubtype (.type "list") (.type "str") = pure false := by rw [isSubtype_type]; kernel_rfl
theorem sub_lb : isSubtype (.type "list") (.type "bytes") = pure false := by rw [isSubtype_type]; kernel_rfl
theorem sub_la : isSubtype (.type "list") (.type "bytearray") = pure false := by rw [isSubtype_type]; kernel_rfl
/-- the first lists, put together -/
def preL (ls : List (List Value)) (i : Nat) : List Value := (ls.take i).flatten
theorem preL_succ {ls : List (List Value)} {i : Nat} {x : List Value} (h : ls[i]? = some x) : preL ls (i + 1) = preL ls i ++ x := by
  unfold preL
  rw [List.take_add_one, h]
  simp
theorem preL_len (ls : List (List Value)) : ∀ i, (preL ls i).length ≤ ls.flatten.length := fun i => by
  have e : ls.flatten = (ls.take i).flatten ++ (ls.drop i).flatten := by rw [← List.flatten_append, List.take_append_drop]
  unfold preL
  rw [e, List.length_append]
  exact Nat.le_add_right _ _
section
variable {prog : Program} {w : World} {A : Around} {R : Result → Shared → Prop} {I : Addr} {fp wr : List Addr} {n : Nat} {P : Nat → Value → Prop} {St : Nat → Heap → Prop}
theorem code_sum_lists (W : Walks prog w A.in1 I fp wr n P St) (base : Heap) (ls : List (List Value)) (hn : ls.length = n)
    (hP : ∀ i v, P i v → ∃ b m x, v = .ref b ∧ ls[i]? = some x ∧ IsL base b x.toArray m) (hw : ∀ b, b ∈ wr → base.get? b = none) (hwE : ∀ i h, St i h → ∀ b, b ∈ wr → ∃ o, h.get? b = some o) (S : Addr) (hS0 : base.get? S = none) (hSf : S ∉ fp) (T : Nat) (hT : T ≤ S) (hz : ls.flatten.length ≤ sizeLine) :
    ∀ (k i : Nat) (s : Shared) (a : Addr) (m c : Nat), n - i = k → i ≤ n → St i s.heap → (∀ b o, base.get? b = some o → s.heap.get? b = some o) →
    s.heap.get? S = some { cls := .type "list", dict := none, data := .seq #[.ref a] c, slots := #[] } → IsL s.heap a (preL ls i).toArray m → a ∉ wr → a ≠ S →
    (∀ h' tk a' m', (∀ b o, base.get? b = some o → h'.get? b = some o) → IsL h' a' ls.flatten.toArray m' → ((i = n ∧ a' = a) ∨ T ≤ a') → R (.ok (.ret (.ref a'))) { s with heap := h', toks := tk }) →
    codeAny (model prog w) A (.builtin "sum.loop" ⟨[.ref I, .ref S, rawInt 2, rawInt 0], []⟩) R s := by
  have hSw : S ∉ wr := fun h => hSf (W.sub _ h)
  intro k
  induction k with
  | zero =>
    intro i s a m c hk hi hst hb hS ha haw haS hR
    have hin : i = n := by omega
    refine codeAny_builtin F.entry_sum_loop ?_
    rw [Around.under_plainId F.plain_sum_loop _]
    show wpAny _ A.in1 (seqItems? (.ref S) >>= _) _ _ s
    refine wpAny_bind (wpAny_seqItems hS rfl ?_)
    show wpAny _ A.in1 (tryCatch (pyNext (.ref I)) _ >>= _) _ _ s
    subst hin
    refine wpAny_bind (wpAny_tryCatch (W.done s _ _ hst fun h' tk hk' => ?_))
    have e : preL ls i = ls.flatten := by unfold preL; rw [List.take_of_length_le (by omega)]
    rw [e] at ha
    exact wpAny_pure (hR h' tk a m (fun b o q => hk' b o (fun z => by rw [hw b z] at q; cases q) (hb b o q)) (hk' a _ haw ha) (.inl ⟨rfl, rfl⟩))
  | succ k ih =>
    intro i s a m c hk hi hst hb hS ha haw haS hR
    have hlt : i < n := by omega
    refine codeAny_builtin F.entry_sum_loop ?_
    rw [Around.under_plainId F.plain_sum_loop _]
    show wpAny _ A.in1 (seqItems? (.ref S) >>= _) _ _ s
    refine wpAny_bind (wpAny_seqItems hS rfl ?_)
    show wpAny _ A.in1 (tryCatch (pyNext (.ref I)) _ >>= _) _ _ s
    refine wpAny_bind (wpAny_tryCatch (W.item i s _ _ hlt hst fun v h' tk hPv hst' hk' => ?_))
    obtain ⟨b, mb, x, rfl, hx, hbl⟩ := hP i v hPv
    have hS' := hk' S _ hSw hS
    have ha' := hk' a _ haw ha
    have hb' : ∀ b o, base.get? b = some o → h'.get? b = some o := fun b o q => hk' b o (fun z => by rw [hw b z] at q; cases q) (hb b o q)
    have hx' : IsL h' b x.toArray mb := hb' b _ hbl
    show wpAny _ A.in1 ((holding [Value.ref b] (binaryOp .Add (.ref a) (.ref b))).attempt >>= _) _ _ _
    have hlen : (preL ls i).toArray.size + x.toArray.size ≤ sizeLine := by
      have := preL_len ls (i + 1)
      rw [preL_succ hx, List.length_append] at this
      rw [List.size_toArray, List.size_toArray]
      exact Nat.le_trans this hz
    refine wpAny_bind (wpAny_attempt (wpAny_holding (PySem.P.add_list (s := { s with heap := h', toks := tk }) ha' hx' ?_ hlen)))
    show wpAny _ A.in1 (updateSeq S (fun _ => #[.ref h'.objs.size]) >>= _) _ _ _
    have nS : h'.objs.size ≠ S := fun e => by
      have := Heap.lt_size hS'
      subst e
      exact absurd this (Nat.lt_irrefl _)
    have hS2 : (h'.push { cls := .type "list", data := .seq ((preL ls i).toArray ++ x.toArray) }).get? S = some { cls := .type "list", dict := none, data := .seq #[.ref a] c, slots := #[] } := Heap.get?_push_of_some _ hS'
    refine wpAny_bind (wpAny_updateSeq hS2 rfl ?_)
    have hS3 := Heap.get?_update_self (Obj.mapSeq fun _ => #[Value.ref h'.objs.size]) hS2 rfl
    refine wpAny_bind (wpAny_letGo ?_)
    have keep : ∀ b o, b ≠ S → h'.get? b = some o → (((h'.push { cls := .type "list", data := .seq ((preL ls i).toArray ++ x.toArray) }).update S (Obj.mapSeq fun _ => #[Value.ref h'.objs.size])).update S (Obj.mapSeq fun _ => #[Value.ref h'.objs.size])).get? b = some o := fun b o hbS e =>
      (Heap.get?_update_other _ _ (Ne.symm hbS)).trans ((Heap.get?_update_other _ _ (Ne.symm hbS)).trans (Heap.get?_push_of_some _ e))
    have nb : ∀ b o, base.get? b = some o → b ≠ S := fun b o q e => by rw [e, hS0] at q; cases q
    have new0 : T ≤ h'.objs.size := Nat.le_trans hT (Nat.le_of_lt (Heap.lt_size hS'))
    have hq : ∀ z, z ∈ fp → z ≠ S := fun z hz e => hSf (by rw [← e]; exact hz)
    refine wpAny_bind (wpAny_updateSeq hS3 rfl (wpAny_pure ⟨plainId_quiet F.plain_sum_loop _, ih (i + 1) _ h'.objs.size 0 _ (by omega) hlt (W.frame _ _ _ hst' fun b hb o e => keep b o (hq b hb) e) (fun b o q => keep b o (nb b o q) (hb' b o q)) (Heap.get?_update_self _ hS3 rfl) ?_ ?_ nS fun h'' tk'' a'' m'' k1 k2 k3 => ?_⟩))
    · rw [preL_succ hx]
      have e1 : (preL ls i ++ x).toArray = (preL ls i).toArray ++ x.toArray := by simp
      rw [e1]
      exact (Heap.get?_update_other _ _ (Ne.symm nS)).trans ((Heap.get?_update_other _ _ (Ne.symm nS)).trans (Heap.get?_push_size _ rfl))
    · intro hm
      obtain ⟨o, q⟩ := hwE _ _ hst' _ hm
      exact absurd (Heap.lt_size q) (Nat.lt_irrefl _)
    · refine hR h'' tk'' a'' m'' k1 k2 (.inr ?_)
      rcases k3 with ⟨_, k3⟩ | k3
      · rw [k3]; exact new0
      · exact k3
end
section
variable {prog : Program} {w : World} {A : Around} {E : Value → Shared → Prop} {s : Shared} {l e : Addr} {its : List Value} {ls : List (List Value)}
theorem call_sum_lists {Q : Value → Shared → Prop} {me : Nat} (hh : A.handled = none) (hl : s.heap.IsList l its.toArray) (he : IsL s.heap e #[] me) (hn : ls.length = its.length)
    (hi : ∀ (i : Nat) (v : Value), its[i]? = some v → ∃ (b : Addr) (m : Nat) (x : List Value), v = .ref b ∧ ls[i]? = some x ∧ IsL s.heap b x.toArray m) (hz : ls.flatten.length ≤ sizeLine)
    (h : ∀ h' tk a' m', (∀ b o, s.heap.get? b = some o → h'.get? b = some o) → IsL h' a' ls.flatten.toArray m' → ((its = [] ∧ a' = e) ∨ s.heap.objs.size ≤ a') → Q (.ref a') { s with heap := h', toks := tk }) :
    wpAny (model prog w) A (call (.builtin "sum") [.ref l, .ref e]) Q E s := by
  refine call_function_tree F.kind_sum F.plain_sum F.entry_sum (args_sumL _ _) ?_
  unfold Builtin.«sum»
  simp only [List.length_cons, List.length_nil]
  rw [if_neg (by decide)]
  refine wpAny_bind (wpAny_of_eq (show Builtin.Builtins.bindParams "sum" ["start"] 0 ⟨[.ref e], []⟩ = pure [some (.ref e)] from rfl) ?_)
  have hlt : l < s.heap.objs.size := by obtain ⟨_, q, _⟩ := hl; exact Heap.lt_size q
  refine wpAny_bind (wpAny_pyIter_list hl ?_)
  have k2 : ∀ b o, s.heap.get? b = some o → (s.heap.push { cls := .type "list_iterator", data := .fields #[.ref l, .int 0 0] }).get? b = some o := fun b o q => Heap.get?_push_of_some _ q
  have it2 : (s.heap.push { cls := .type "list_iterator", data := .fields #[.ref l, .int 0 0] }).IsListIter s.heap.objs.size l 0 := ⟨_, Heap.get?_push_size _ rfl, rfl, rfl⟩
  have il2 : (s.heap.push { cls := .type "list_iterator", data := .fields #[.ref l, .int 0 0] }).IsList l its.toArray := hl.push _
  have sz : (s.heap.push { cls := .type "list_iterator", data := .fields #[.ref l, .int 0 0] }).objs.size = s.heap.objs.size + 1 := Heap.size_push ..
  generalize s.heap.push { cls := .type "list_iterator", data := .fields #[.ref l, .int 0 0] } = h2 at k2 it2 il2 sz ⊢
  refine wpAny_bind (wpAny_pure ?_)
  have he2 : IsL h2 e #[] me := k2 _ _ he
  simp only [List.forIn_cons, List.forIn_nil]
  refine wpAny_bind (wpAny_bind (wpAny_bind (wpAny_isInstance (T := "list") (b := false) ⟨_, he2, rfl⟩ sub_ls ?_)))
  simp only [Bool.false_eq_true, if_false]
  refine wpAny_pure (wpAny_bind (wpAny_bind (wpAny_isInstance (T := "list") (b := false) ⟨_, he2, rfl⟩ sub_lb ?_)))
  simp only [Bool.false_eq_true, if_false]
  refine wpAny_pure (wpAny_bind (wpAny_bind (wpAny_isInstance (T := "list") (b := false) ⟨_, he2, rfl⟩ sub_la ?_)))
  simp only [Bool.false_eq_true, if_false]
  refine wpAny_pure (wpAny_pure ?_)
  refine wpAny_bind (wpAny_newObj_type ?_)
  have hne : l ≠ s.heap.objs.size := Nat.ne_of_lt hlt
  have hne2 : e ≠ s.heap.objs.size := fun q => by subst q; exact absurd (Heap.lt_size he) (Nat.lt_irrefl _)
  have none1 : ∀ q : Addr, s.heap.objs.size ≤ q → s.heap.get? q = none := fun q hq => by
    cases z : s.heap.get? q with
    | none => rfl
    | some o => exact absurd (Heap.lt_size z) (Nat.not_lt.mpr hq)
  have W := Walks.list (prog := prog) (w := w) (A := A.in1) hh s.heap.objs.size l hne its.toArray
  have hi' : ∀ (i : Nat) (v : Value), its.toArray[i]? = some v → ∃ (b : Addr) (m : Nat) (x : List Value), v = .ref b ∧ ls[i]? = some x ∧ IsL s.heap b x.toArray m := fun i v q => hi i v (by simpa using q)
  have i2 : h2.get? s.heap.objs.size ≠ none := by obtain ⟨_, q, _⟩ := it2; rw [q]; exact fun z => by cases z
  have g2 : s.heap.objs.size ≤ h2.objs.size := by rw [sz]; exact Nat.le_succ _
  refine wpAny_pure ⟨plainId_quiet F.plain_sum_loop _, code_sum_lists W s.heap ls (by simpa using hn) hi' (fun b hb => ?_) (fun i h st b hb => ?_) h2.objs.size (none1 _ g2) ?_ s.heap.objs.size g2 hz _ 0 _ e me 0 rfl (Nat.zero_le _) ?_ ?_ ?_ ?_ ?_ ?_ fun h' tk a' m' k1 k2 k3 => ?_⟩
  · obtain rfl : b = s.heap.objs.size := by simpa using hb
    exact none1 _ (Nat.le_refl _)
  · obtain rfl : b = s.heap.objs.size := by simpa using hb
    obtain ⟨o, q, _⟩ := st.1
    exact ⟨o, q⟩
  · intro hm
    rcases List.mem_cons.mp hm with q | hm
    · rw [sz] at q
      exact absurd q (Nat.succ_ne_self _)
    · obtain q : h2.objs.size = l := by simpa using hm
      rw [sz] at q
      rw [← q] at hlt
      exact absurd hlt (Nat.not_lt.mpr (Nat.le_succ _))
  · exact ⟨it2.at fun o q => Heap.get?_push_of_some _ q, il2.push _⟩
  · exact fun b o q => Heap.get?_push_of_some _ (k2 b o q)
  · exact Heap.get?_push_size _ rfl
  · exact Heap.get?_push_of_some _ he2
  · intro hm
    obtain q : e = s.heap.objs.size := by simpa using hm
    exact hne2 q
  · intro q
    have := Heap.lt_size he
    rw [q, sz] at this
    exact absurd this (Nat.not_lt.mpr (Nat.le_succ _))
  · refine h h' tk a' m' k1 k2 ?_
    rcases k3 with ⟨z, k3⟩ | k3
    · left
      refine ⟨?_, k3⟩
      cases its with
      | nil => rfl
      | cons _ _ => simp at z
    · exact .inr k3
end
/-! as a reading -/
section
variable {X : Cx}
def rSumL (K : PySem.W.Frag) : List V → Hp → VK → Prop := fun vs H Q => ∃ (a e : Addr) (bs : List Addr) (ws : List (List V)), vs = [V.ref a, V.ref e] ∧ H a = some (.lst (bs.map V.ref)) ∧ H e = some (.lst []) ∧ bs.length = ws.length ∧
  (∀ (i : Nat) (b : Addr), bs[i]? = some b → ∃ x, ws[i]? = some x ∧ H b = some (.lst x)) ∧ ws.flatten.length ≤ sizeLine ∧ (bs = [] → Q (.ref e) H) ∧ (∀ p, H p = none → Q (.ref p) (upd H p (.lst ws.flatten)))
theorem vals_refs : ∀ {bs : List Addr} {us : List Value}, Vals (bs.map V.ref) us → us = bs.map Value.ref
  | [], _, h => by cases h; rfl
  | b :: bs, _, h => by
    cases h with
    | cons h1 h2 =>
      cases h1
      rw [vals_refs h2]
      rfl
theorem cr_sumL0 (hc : X.calm = true) : CallR X (.builtin "sum") (rSumL X.K) := by
  intro pins s σ H vs us Q I r h
  obtain ⟨a, e, bs, ws, rfl, ha, he, hl, hi, hz, q0, q1⟩ := h
  cases r with
  | cons r1 r2 =>
    cases r2 with
    | cons r2 r3 =>
      cases r3
      cases r1
      cases r2
      obtain ⟨z, its, n, rv, hl1, e1⟩ := I.lstM ha
      obtain ⟨z2, its2, n2, rv2, hl2, e2⟩ := I.lstM he
      cases rv2
      have eits := vals_refs rv
      subst eits
      have each : ∀ (m : Nat) (bs : List Addr) (ws : List (List V)), bs.length = ws.length → (∀ (i : Nat) (b : Addr), bs[i]? = some b → ∃ x, ws[i]? = some x ∧ H b = some (.lst x)) →
          ∃ ls : List (List Value), ls.length = bs.length ∧ (∀ (i : Nat) (b : Addr), bs[i]? = some b → ∃ (m : Nat) (x : List Value), ls[i]? = some x ∧ IsL s.heap b x.toArray m) ∧ Vals ws.flatten ls.flatten := by
        intro m bs
        induction bs with
        | nil =>
          intro ws h _
          cases ws with
          | nil => exact ⟨[], rfl, fun i b q => by simp at q, .nil⟩
          | cons _ _ => cases h
        | cons b bs ih =>
          intro ws h hi
          cases ws with
          | nil => cases h
          | cons x ws =>
            obtain ⟨ls, l1, l2, l3⟩ := ih ws (by simpa using h) fun i b q => by simpa using hi (i + 1) b (by simpa using q)
            obtain ⟨x', ex, hb⟩ := hi 0 b rfl
            obtain rfl : x = x' := by simpa using ex
            obtain ⟨z, its, n, rv, hl, e⟩ := I.lstM hb
            refine ⟨its :: ls, by simp [l1], fun i b' q => ?_, ?_⟩
            · cases i with
              | zero =>
                obtain rfl : b = b' := by simpa using q
                exact ⟨n, its, rfl, e⟩
              | succ i => simpa using l2 i b' (by simpa using q)
            · rw [List.flatten_cons, List.flatten_cons]
              exact rv.append l3
      obtain ⟨ls, l1, l2, l3⟩ := each 0 bs ws hl hi
      have hz' : ls.flatten.length ≤ sizeLine := by rw [← l3.length]; exact hz
      refine call_sum_lists (I.ok.hd hc) (PySem.IsL.isList e1) e2 (by rw [l1, List.length_map]) (fun i v q => ?_) hz' fun h' tk a' m' k1 k2 k3 => ?_
      · rw [List.getElem?_map] at q
        cases q' : bs[i]? with
        | none => rw [q'] at q; cases q
        | some b =>
          rw [q'] at q
          cases q
          obtain ⟨m, x, g1, g2⟩ := l2 i b q'
          exact ⟨b, m, x, rfl, g1, g2⟩
      · rcases k3 with ⟨z0, rfl⟩ | k3
        · have : bs = [] := by simpa using z0
          exact ⟨.ref a', H, I.kept k1, rfl, q0 this⟩
        · exact ⟨.ref a', _, I.laid (t' := tk) (o := .lst ws.flatten) k1 k3 ⟨hz, ls.flatten, m', l3, k2⟩, rfl, q1 _ (I.hok.fresh k3)⟩
end
end Ad
namespace Ad
open PySem PySem.Calls PySem.W PySem.SeqAt PySem.Spec PyProof.Rows L2
section
variable {X : Cx}
/-- the items on the heap, and what they read as -/
theorem RepL.reads' {pins : List (Addr × Obj)} {σ : L2.St} {H : Hp} {s : Shared} {W : Wd} {N : Addr → Prop} (I : Inv X pins σ H s) {ds : List D} {vs : List V} {us : List Value} (p : ∀ d, d ∈ ds → d.plain = true) (h : RepL X.K W N H vs ds) (r : Vals vs us) : ∃ as, ReadsAll s.heap us ds as := by
  obtain ⟨as, q, _⟩ := RepL.reads I ds vs us (okAll_plain _ (plainAll_of p)) h r
  exact ⟨as, q⟩
theorem cr_sorted (hu : X.A.units + 66 < cLine) : CallR X (.builtin "sorted") (rCall X.K (biD .sorted)) := cr_on1 fun pins s σ H x u Q W N d R b I ru c rx h => by
  have h : (itemsOf d >>= fun xs => M.grd (sortable xs) >>= fun _ => pure (.list (sortD xs)) : M D).run (VQ X.K W N H Q) R b := h
  obtain ⟨ds, a, vs, ⟨hk, q⟩, rfl, z, l, hx⟩ := rx.items h
  obtain rfl : u = Value.ref a := ru
  have hx : (d = .list ds ∧ SqL X.K H a vs) ∨ (d = .tuple ds ∧ SqT X.K H a vs ∧ TupN X.K N H a vs) := by
    rcases hx with ⟨e, hx⟩ | hx
    · exact .inl ⟨e, SqL.of hx⟩
    · exact .inr hx
  have hpl : ∀ d, d ∈ ds → d.plain = true := fun d hd => (hk.2.1 d hd).2.2
  have fin : ∀ (its : List Value), Vals vs its → ∀ as, ReadsAll (sortingHeap (copyHeap s.heap its) (s.heap.objs.size + 1) its) its ds as →
      EP X pins σ Q (.ref (s.heap.objs.size + 1)) { s with heap := sortedAll s.heap its (sortVals (dataKind (sortingHeap (copyHeap s.heap its) (s.heap.objs.size + 1) its) ds) false its its).toArray } := by
    intro its rv as ra
    obtain ⟨ws, w1, w2⟩ := sort_out hk rv l ra
    obtain ⟨ep, he'⟩ := PyProof.Rows.sortedAll_at s.heap its (sortVals (dataKind (sortingHeap (copyHeap s.heap its) (s.heap.objs.size + 1) its) ds) false its its).toArray
    have hlen : (sortD ds).length ≤ sizeLine := by unfold sortD; rw [List.length_mergeSort]; exact z
    refine ⟨.ref _, upd H (s.heap.objs.size + 1) (.lst ws), I.laid (t' := s.toks) (fun _ _ => PyProof.Rows.sortedAll_old) (Nat.le_succ _) ⟨by rw [w2.length]; exact hlen, _, ep, w1, he'⟩, rfl, ?_⟩
    exact c.vlst w2 hlen q _ (I.hok.fresh (Nat.le_succ _))
  rcases hx with ⟨_, hs⟩ | ⟨_, hs, _⟩
  · obtain ⟨its, rv, hl, hz⟩ := I.list hs
    obtain ⟨as, ra⟩ := RepL.reads' I hpl l rv
    have ra' : ReadsAll (sortingHeap (copyHeap s.heap its) (s.heap.objs.size + 1) its) its ds as := PyProof.Rows.ReadsAll.keeps (fun _ _ => sorting_copy_old) ra
    exact sorted_vals hl.isList (sorts_data (s := { s with heap := sortingHeap (copyHeap s.heap its) (s.heap.objs.size + 1) its }) (each_vals ra') hk (by show X.A.units + 1 + 1 + 41 < cLine; omega)) (by rw [← rv.length]; exact hz) (fin its rv as ra')
  · obtain ⟨its, rv, hl, hz⟩ := I.tuple hs
    obtain ⟨as, ra⟩ := RepL.reads' I hpl l rv
    have ra' : ReadsAll (sortingHeap (copyHeap s.heap its) (s.heap.objs.size + 1) its) its ds as := PyProof.Rows.ReadsAll.keeps (fun _ _ => sorting_copy_old) ra
    exact sorted_vals_tuple hl (sorts_data (s := { s with heap := sortingHeap (copyHeap s.heap its) (s.heap.objs.size + 1) its }) (each_vals ra') hk (by show X.A.units + 1 + 1 + 41 < cLine; omega)) (by rw [← rv.length]; exact hz) (fin its rv as ra')
end
end Ad
namespace Ad
open PySem PySem.Spec PyProof.Rows L2

/-! ### tables of sets: every slot is met -/
/-- the slots that x -> 5 x + 1 meets, from x on -/
def orbN (m : Nat) : Nat → Nat → List Nat
  | 0, _ => []
  | n + 1, x => x :: orbN m n ((x * 5 + 1) % (m + 1))
def endN (m : Nat) : Nat → Nat → Nat
  | 0, x => x
  | n + 1, x => endN m n ((x * 5 + 1) % (m + 1))
theorem orb_mem (m : Nat) : ∀ (n x j : Nat), j ∈ orbN m n x → ∃ b, b < n ∧ endN m b x = j
  | n + 1, x, j, h => by
    rcases List.mem_cons.mp h with rfl | h
    · exact ⟨0, Nat.succ_pos _, rfl⟩
    · obtain ⟨b, hb, e⟩ := orb_mem m n _ j h
      exact ⟨b + 1, Nat.succ_lt_succ hb, e⟩
theorem end_add (m : Nat) : ∀ (a b x : Nat), endN m (a + b) x = endN m b (endN m a x)
  | 0, b, x => by rw [Nat.zero_add]; rfl
  | a + 1, b, x => by
    rw [show a + 1 + b = (a + b) + 1 by omega]
    exact end_add m a b _
theorem end_lcg (m x : Nat) : ∀ k, endN m k x = lcgI m x k
  | 0 => rfl
  | k + 1 => by
    rw [end_add m k 1 x, end_lcg m x k]
    rfl
/-- one round meets all, and ends where it began -/
def roundOk (m : Nat) : Bool := (List.range (m + 1)).all (fun j => (orbN m (m + 1) 0).elem j) && (endN m (m + 1) 0 == 0)
theorem round_from {m : Nat} (h : roundOk m = true) {i j : Nat} (hi : i ≤ m) (hj : j ≤ m) : ∃ k, k ≤ m ∧ lcgI m i k = j := by
  obtain ⟨h1, h2⟩ := Bool.and_eq_true_iff.mp h
  have at0 : ∀ j, j ≤ m → ∃ b, b ≤ m ∧ endN m b 0 = j := fun j hj => by
    have q := List.all_eq_true.mp h1 j (List.mem_range.mpr (Nat.lt_succ_of_le hj))
    obtain ⟨b, hb, e⟩ := orb_mem m (m + 1) 0 j (List.elem_iff.mp q)
    exact ⟨b, Nat.le_of_lt_succ hb, e⟩
  have back : endN m (m + 1) 0 = 0 := beq_iff_eq.mp h2
  obtain ⟨a, ha, ea⟩ := at0 i hi
  obtain ⟨b, hb, eb⟩ := at0 j hj
  by_cases c : a ≤ b
  · refine ⟨b - a, by omega, ?_⟩
    rw [← end_lcg, ← ea, ← end_add, show a + (b - a) = b by omega, eb]
  · refine ⟨m + 1 + b - a, by omega, ?_⟩
    rw [← end_lcg, ← ea, ← end_add, show a + (m + 1 + b - a) = m + 1 + b by omega, end_add, back, eb]
/-- a mask that serves -/
structure Msk (m : Nat) : Prop where
  odd : m % 2 = 1
  small : m ≤ 511
  rnd : roundOk m = true
  four : m = 7 ∨ m = 31 ∨ m = 127 ∨ m = 511
theorem msk7 : Msk 7 := ⟨rfl, by decide, by decide +kernel, .inl rfl⟩
theorem msk31 : Msk 31 := ⟨rfl, by decide, by decide +kernel, .inr (.inl rfl)⟩
theorem msk127 : Msk 127 := ⟨rfl, by decide, by decide +kernel, .inr (.inr (.inl rfl))⟩
theorem msk511 : Msk 511 := ⟨rfl, by decide, by decide +kernel, .inr (.inr (.inr rfl))⟩
theorem Msk.run {m : Nat} (M : Msk m) (h : Int) {j : Nat} (hj : j ≤ m) : ∃ n, n ≤ m + 12 ∧ runI m (SetTable.bits h) n = j := by
  obtain ⟨k, hk, e⟩ := round_from M.rnd (runI_le m (SetTable.bits h) 12) hj
  refine ⟨12 + k, by omega, ?_⟩
  rw [runI_tail (bits_lt h), e]
theorem Msk.way {m : Nat} (M : Msk m) (h : Int) {j : Nat} (hj : j ≤ m) : ∃ k, k < 10 * SetTable.turns m ∧ way m h k = j := by
  obtain ⟨n, hn, e⟩ := M.run h hj
  obtain ⟨k, hk, f⟩ := run_nth m (SetTable.bits h) n
  refine ⟨k, ?_, ?_⟩
  · unfold SetTable.turns
    omega
  · show (nth m (runAt m (SetTable.bits h % (m + 1)) (SetTable.bits h)) k).j = j
    rw [f]
    exact e
theorem way_in (m : Nat) (h : Int) (k : Nat) : way m h k ≤ m := by
  have s : SetTable.bits h % (m + 1) ≤ m := Nat.le_of_lt_succ (Nat.mod_lt _ (Nat.succ_pos m))
  have e := (runEnd_bd s).1
  have g := (runEnd_bd s).2.1
  have q : (runAt m (SetTable.bits h % (m + 1)) (SetTable.bits h)).j + (runAt m (SetTable.bits h % (m + 1)) (SetTable.bits h)).more ≤ m := by
    show SetTable.bits h % (m + 1) + (SetTable.runEnd m (SetTable.bits h % (m + 1)) - SetTable.bits h % (m + 1)) ≤ m
    omega
  exact Nat.le_trans (Nat.le_add_right _ _) (nth_in k _ q)

/-! ### a table whose slots are all found again -/
structure Tab (t : SetTable) (hs : List Int) : Prop where
  up : Ris t.place.toList
  clean : t.dummies = #[]
  len : t.place.size = hs.length
  msk : Msk t.mask
  low : ∀ x, x ∈ t.place.toList → x ≤ t.mask
  met : ∀ (i : Nat) (h : Int) (j : Nat), hs[i]? = some h → t.place.toList[i]? = some j → ∃ k, way t.mask h k = j ∧ ∀ q, q < k → way t.mask h q ∈ t.place.toList
theorem Tab.hole {t : SetTable} {hs : List Int} (T : Tab t hs) (hl : hs.length ≤ t.mask) (h : Int) : ∃ K, K < 10 * SetTable.turns t.mask ∧ way t.mask h K ∉ t.place.toList ∧ ∀ k, k < K → way t.mask h k ∈ t.place.toList := by
  obtain ⟨j, hj, out⟩ := st_missing t.place.toList (t.mask + 1) (by
    have := T.len
    rw [Array.length_toList]
    omega)
  obtain ⟨k, hk, e⟩ := T.msk.way h (Nat.le_of_lt_succ hj)
  obtain ⟨K, a, b, c⟩ := st_least (p := fun q => way t.mask h q ∉ t.place.toList) k (by
    show way t.mask h k ∉ t.place.toList
    rw [e]
    exact out)
  exact ⟨K, Nat.lt_of_le_of_lt a hk, b, fun q hq => Classical.byContradiction fun z => c q hq z⟩
theorem Tab.ahead {t : SetTable} {hs : List Int} (T : Tab t hs) {h : Int} {K i j : Nat} (hK : way t.mask h K ∉ t.place.toList) (hi : hs[i]? = some h) (hj : t.place.toList[i]? = some j) : ∃ k, k < K ∧ way t.mask h k = j := by
  obtain ⟨k, e, before⟩ := T.met i h j hi hj
  refine ⟨k, Nat.lt_of_not_le fun c => ?_, e⟩
  rcases Nat.lt_or_eq_of_le c with c | c
  · exact hK (before K c)
  · subst c
    exact hK (e ▸ List.mem_of_getElem? hj)
/-- where the new one stands -/
abbrev spot (t : SetTable) (j : Nat) : Nat := SetTable.below t.place j
theorem Tab.put {t : SetTable} {hs : List Int} (T : Tab t hs) {h : Int} {j : Nat} (hj : j ∉ t.place.toList) {K : Nat} (eK : way t.mask h K = j) (hb : ∀ k, k < K → way t.mask h k ∈ t.place.toList) :
    spot t j ≤ hs.length ∧ Tab (t.put j).1 (hs.take (spot t j) ++ h :: hs.drop (spot t j)) := by
  obtain ⟨cut, _, _⟩ := below_cut T.up j
  have le1 : spot t j ≤ t.place.toList.length := by
    rw [Array.length_toList]
    exact cut
  have le2 : spot t j ≤ hs.length := by
    rw [← T.len]
    exact cut
  have fresh : t.place[spot t j]? ≠ some j := fun e => hj (by
    rw [← Array.getElem?_toList] at e
    exact List.mem_of_getElem? e)
  have pl := put_place t j
  have more : ∀ x, x ∈ t.place.toList → x ∈ (t.put j).1.place.toList := fun x hx => by
    rw [pl]
    exact mem_ins.mpr (Or.inr hx)
  refine ⟨le2, ris_insert T.up fresh, put_dm T.clean j, ?_, T.msk, fun x hx => ?_, fun i h' j' e1 e2 => ?_⟩
  · rw [← Array.length_toList, pl, len_ins _ le1, len_ins _ le2, Array.length_toList, T.len]
  · rw [pl] at hx
    rcases mem_ins.mp hx with rfl | z
    · rw [← eK]
      exact way_in _ _ _
    · exact T.low x z
  · rw [tins_get hs le2] at e1
    rw [pl, tins_get _ le1] at e2
    have old : ∀ i0, hs[i0]? = some h' → t.place.toList[i0]? = some j' → ∃ k, way t.mask h' k = j' ∧ ∀ q, q < k → way t.mask h' q ∈ (t.put j).1.place.toList := fun i0 f1 f2 => by
      obtain ⟨k, a, b⟩ := T.met i0 h' j' f1 f2
      exact ⟨k, a, fun q hq => more _ (b q hq)⟩
    show ∃ k, way t.mask h' k = j' ∧ ∀ q, q < k → way t.mask h' q ∈ (t.put j).1.place.toList
    by_cases c : i < spot t j
    · rw [if_pos c] at e1 e2
      exact old i e1 e2
    · rw [if_neg c] at e1 e2
      by_cases d : i = spot t j
      · rw [if_pos d] at e1 e2
        cases e1
        cases e2
        exact ⟨K, eK, fun q hq => more _ (hb q hq)⟩
      · rw [if_neg d] at e1 e2
        exact old (i - 1) e1 e2
/-! ### laid anew -/
theorem free_at {m : Nat} (M : Msk m) (owner : Array (Option Nat)) (h : Int) {j : Nat} (hj : j ≤ m) (hf : oAt owner j = none) :
    ∃ K, SetTable.layClean.free m owner (SetTable.turns m) (SetTable.bits h % (m + 1)) (SetTable.bits h) = some (way m h K) ∧ oAt owner (way m h K) = none ∧ ∀ k, k < K → oAt owner (way m h k) ≠ none := by
  obtain ⟨n, hn, e⟩ := M.run h hj
  generalize hs : off m (SetTable.bits h % (m + 1)) (SetTable.bits h) n = N
  have wN : way m h N = j := by
    rw [← hs]
    show (nth m (runAt m (SetTable.bits h % (m + 1)) (SetTable.bits h)) (off m (SetTable.bits h % (m + 1)) (SetTable.bits h) n)).j = j
    rw [nth_off, itL_run]
    exact e
  obtain ⟨K, a, b, c⟩ := st_least (p := fun k => oAt owner (way m h k) = none) N (by
    show oAt owner (way m h N) = none
    rw [wN, hf])
  refine ⟨K, free_spec m owner (SetTable.turns m) n _ _ K (by unfold SetTable.turns; omega) (by rw [hs]; exact a) (fun k hk => ?_) ?_, b, c⟩
  · exact Option.isNone_eq_false_iff.mpr (Option.isSome_iff_ne_none.mpr (c k hk))
  · exact Option.isNone_iff_eq_none.mpr b
theorem own_more {m : Nat} (M : Msk m) {done : List Int} {owner : Array (Option Nat)} (W : Own m done owner) (hl : done.length ≤ m) (h : Int) :
    ∃ j, SetTable.layClean.free m owner (SetTable.turns m) (SetTable.bits h % (m + 1)) (SetTable.bits h) = some j ∧ Own m (done ++ [h]) (owner.setIfInBounds j (some done.length)) := by
  obtain ⟨ps, lp, ip⟩ := W.ps
  obtain ⟨v, hv, nv⟩ := st_missing ps (m + 1) (by omega)
  have ev : oAt owner v = none := Classical.byContradiction fun z => nv (ip v (Nat.le_of_lt_succ hv) z)
  obtain ⟨K, a, b, c⟩ := free_at M owner h (Nat.le_of_lt_succ hv) ev
  generalize ew : way m h K = u at a b
  have hu : u ≤ m := ew ▸ way_in m h K
  have hus : u < owner.size := by
    have := W.sz
    omega
  have eu := oAt_set_self (some done.length) hus
  have keep : ∀ i, oAt owner i ≠ none → oAt (owner.setIfInBounds u (some done.length)) i ≠ none := fun i hi => by
    by_cases z : i = u
    · subst z
      rw [eu]
      exact Option.some_ne_none _
    · rwa [oAt_set_ne _ z]
  refine ⟨u, a, ?_, fun j k hj e => ?_, fun k hk => ?_, u :: ps, ?_, fun j hj e => ?_⟩
  · rw [Array.size_setIfInBounds]
    exact W.sz
  · by_cases z : j = u
    · subst z
      rw [eu] at e
      cases e
      exact ⟨h, K, List.getElem?_concat_length, ew, fun q hq => keep _ (c q hq)⟩
    · rw [oAt_set_ne _ z] at e
      obtain ⟨h', K', f1, f2, f3⟩ := W.at_ j k hj e
      exact ⟨h', K', (List.getElem?_append_left (List.getElem?_eq_some_iff.mp f1).1).trans f1, f2, fun q hq => keep _ (f3 q hq)⟩
  · rw [List.length_append] at hk
    have hk : k < done.length + 1 := hk
    by_cases z : k = done.length
    · subst z
      exact ⟨u, hu, eu⟩
    · obtain ⟨j, hj, e⟩ := W.all k (by omega)
      refine ⟨j, hj, ?_⟩
      rw [oAt_set_ne _ fun y => by rw [y, b] at e; cases e]
      exact e
  · rw [List.length_cons, List.length_append, lp]
    rfl
  · by_cases z : j = u
    · exact z ▸ List.mem_cons_self
    · rw [oAt_set_ne _ z] at e
      exact List.mem_cons_of_mem _ (ip j hj e)
theorem own_all {m : Nat} (M : Msk m) : ∀ (rest done : List Int) (owner : Array (Option Nat)), Own m done owner → done.length + rest.length ≤ m →
    ∃ o, rest.foldl (stepF m) (some (owner, done.length)) = some (o, done.length + rest.length) ∧ Own m (done ++ rest) o
  | [], done, owner, W, _ => ⟨owner, rfl, (List.append_nil done).symm ▸ W⟩
  | h :: rest, done, owner, W, hl => by
    have hl : done.length + (rest.length + 1) ≤ m := hl
    obtain ⟨j, e, W1⟩ := own_more M W (by omega) h
    obtain ⟨o, f, W2⟩ := own_all M rest (done ++ [h]) _ W1 (by
      rw [List.length_append]
      show done.length + 1 + rest.length ≤ m
      omega)
    refine ⟨o, ?_, ?_⟩
    · rw [List.foldl_cons, stepF_some e]
      rw [List.length_append] at f
      have f : rest.foldl (stepF m) (some (owner.setIfInBounds j (some done.length), done.length + 1)) = some (o, done.length + 1 + rest.length) := f
      rw [f, List.length_cons, show done.length + 1 + rest.length = done.length + (rest.length + 1) by omega]
    · rwa [List.append_assoc] at W2
end Ad
namespace Ad
open PySem PySem.Spec PyProof.Rows L2

theorem lay_all {m : Nat} (M : Msk m) {hs : Array Int} (hn : hs.size ≤ m) : ∃ o, SetTable.layClean m hs = some o ∧ Own m hs.toList o := by
  obtain ⟨o, f, W⟩ := own_all M hs.toList [] _ (Own.init m) (by
    rw [Array.length_toList]
    exact (Nat.zero_add _).symm ▸ hn)
  refine ⟨o, ?_, W⟩
  rw [layClean_eq]
  exact congrArg (Option.map Prod.fst) f
theorem relaid_tab (t : SetTable) {hs : Array Int} {wanted m : Nat} (hw : SetTable.sizeAbove wanted - 1 = m) (M : Msk m) (hn : hs.size ≤ m) :
    ∃ t' order, t.relaid hs wanted = some (t', order) ∧ order.toList.Perm (List.range hs.size) ∧ Tab t' (order.toList.map fun i => hs.getD i 0) ∧ t'.mask = m ∧ t'.led = t.led ∧ t'.plain = t.plain := by
  obtain ⟨o, e, W⟩ := lay_all M hn
  have he : t.relaid hs wanted = some (tabOf t m o, ((liveOf m o).map (·.2)).toArray) := by
    rw [relaid_eq, hw, e]
    rfl
  obtain ⟨up, inr⟩ : Ris ((liveOf m o).map (·.1)) ∧ ∀ x, x ∈ (liveOf m o).map (·.1) → x ∈ List.range (m + 1) := ris_live (fun j => o.getD j none) (List.range (m + 1)) List.pairwise_lt_range
  have live : ∀ {j k}, (j, k) ∈ liveOf m o ↔ j ≤ m ∧ oAt o j = some k := fun {j k} => mem_live W.sz
  have allk : ∀ k, k < hs.size → k ∈ (liveOf m o).map (·.2) := fun k hk => by
    obtain ⟨j, b1, b2⟩ := W.all k (by rw [Array.length_toList]; exact hk)
    exact List.mem_map.mpr ⟨(j, k), live.mpr ⟨b1, b2⟩, rfl⟩
  have count : (liveOf m o).length = hs.size := by
    obtain ⟨ps, lp, ip⟩ := W.ps
    have le : ((liveOf m o).map (·.1)).length ≤ ps.length := nat_nodup_len _ ps (up.imp fun z => Nat.ne_of_lt z) fun x hx => by
      obtain ⟨⟨y, k⟩, hq, rfl⟩ := List.mem_map.mp hx
      obtain ⟨b1, b2⟩ := live.mp hq
      exact ip y b1 (by rw [b2]; exact Option.some_ne_none k)
    have ge : (List.range hs.size).length ≤ ((liveOf m o).map (·.2)).length := nat_nodup_len _ _ List.nodup_range fun k hk => allk k (List.mem_range.mp hk)
    rw [List.length_map] at le ge
    rw [List.length_range] at ge
    have lp : ps.length = hs.size := lp.trans Array.length_toList
    omega
  refine ⟨_, _, he, perm_range hs.size _ (by show ((liveOf m o).map (·.2)).length = _; rw [List.length_map, count]) allk, ⟨up, rfl, ?_, M, fun x hx => Nat.le_of_lt_succ (List.mem_range.mp (inr x hx)), fun i h j e1 e2 => ?_⟩, rfl, rfl, rfl⟩
  · show ((liveOf m o).map (·.1)).toArray.size = _
    simp only [List.size_toArray, List.length_map]
  · have e1 : (((liveOf m o).map (·.2)).map fun i => hs.getD i 0)[i]? = some h := e1
    have e2 : ((liveOf m o).map (·.1))[i]? = some j := e2
    rw [List.map_map, List.getElem?_map] at e1
    rw [List.getElem?_map] at e2
    obtain ⟨⟨y, k⟩, eq, rfl⟩ := Option.map_eq_some_iff.mp e2
    rw [eq] at e1
    have eh : hs.getD k 0 = h := Option.some.inj e1
    obtain ⟨b1, b2⟩ := live.mp (List.mem_of_getElem? eq)
    obtain ⟨h0, K, a1, a2, a3⟩ := W.at_ y k b1 b2
    have : hs.getD k 0 = h0 := by
      rw [Array.getElem?_toList] at a1
      rw [Array.getD_eq_getD_getElem?, a1]
      rfl
    have same : h0 = h := this.symm.trans eh
    subst same
    refine ⟨K, a2, fun q hq => ?_⟩
    show way m h0 q ∈ (liveOf m o).map (·.1)
    obtain ⟨k2, e3⟩ := Option.ne_none_iff_exists'.mp (a3 q hq)
    exact List.mem_map.mpr ⟨(way m h0 q, k2), live.mpr ⟨way_in m h0 q, e3⟩, rfl⟩
theorem grown_5 : SetTable.sizeAbove (SetTable.grown 5) = 32 := size_20
theorem grown_19 : SetTable.sizeAbove (SetTable.grown 19) = 128 := size_76
theorem grown_77 : SetTable.sizeAbove (SetTable.grown 77) = 512 := by decide +kernel

/-! ### sets of tuples of ints, of up to 306 -/
abbrev AK := Addr × List Int
structure SetG (P : Program) (w : World) (h : Heap) (a : Addr) (L : List AK) (es : Array (Int × Value)) (ep : Nat) (t : SetTable) : Prop where
  obj : ∃ o, h.get? a = some o ∧ o.ExactSet ∧ o.data = .set es ep t
  row : es.toList = rowsOf P w L
  tb : Tab t (L.map fun p => thash P w p.2)
  one : (L.map (·.2)).Nodup
  keys : ∀ p, p ∈ L → IsT P w h p.2 p.1
  pl : t.plain = true
  ld : w.params.followText "set-order" = true ∨ t.led = true
  space : L.length * 5 < t.mask * 3
section
variable {P : Program} {w : World} {A : Around} {E : Value → Shared → Prop} {s : Shared}
variable {a : Addr} {L : List AK} {es : Array (Int × Value)} {ep : Nat} {t : SetTable}
theorem rows_len (L : List AK) : (rowsOf P w L).length = L.length := List.length_map _
theorem es_len {es : Array (Int × Value)} {L : List AK} (h : es.toList = rowsOf P w L) : es.size = L.length := by
  rw [← Array.length_toList, h, rows_len]
theorem es_at {es : Array (Int × Value)} {L : List AK} (h : es.toList = rowsOf P w L) {i : Nat} {p : AK} (e : L[i]? = some p) : es[i]? = some (thash P w p.2, Value.ref p.1) := by
  rw [← Array.getElem?_toList, h, rowsOf, List.getElem?_map, e]
  rfl
theorem tab_fits {hs : List Int} (T : Tab t hs) {n : Nat} (hn : n = hs.length) (hr : hs.length ≤ t.mask) : t.fits n = true := by
  have := T.len
  unfold SetTable.fits SetTable.fill
  rw [T.clean]
  simp only [Bool.and_eq_true, beq_iff_eq, decide_eq_true_eq]
  exact ⟨by omega, by show t.place.size + 0 ≤ t.mask; omega⟩
theorem SetG.fit (R : SetG P w s.heap a L es ep t) : t.fits es.size = true := by
  have := R.space
  exact tab_fits R.tb (by rw [List.length_map]; exact es_len R.row) (by rw [List.length_map]; omega)
theorem nth_dummy (m : Nat) : ∀ (n : Nat) (p : SetTable.Probe), p.dummy = none → (nth m p n).dummy = none
  | 0, _, h => h
  | n + 1, p, h => nth_dummy m n (adv m p) (by
    unfold adv
    split
    · exact h
    · exact h)
/-- where a search starts -/
abbrev begin_ (m : Nat) (h : Int) : SetTable.Probe := runAt m (SetTable.bits h % (m + 1)) (SetTable.bits h)
/-- the search, from its c-th step on -/
theorem seek (R : SetG P w s.heap a L es ep t) {x : Addr} {k : List Int} (hx : IsT P w s.heap k x) (hu : A.units < cLine) {h : Int} (eh : thash P w k = h) {K : Nat} (hK : K < 10 * SetTable.turns t.mask)
    (out : way t.mask h K ∉ t.place.toList) (ins : ∀ c, c < K → way t.mask h c ∈ t.place.toList) {Q : SetFound → Shared → Prop}
    (yes : k ∈ L.map (·.2) → Q (.there none) s) (no : k ∉ L.map (·.2) → Q (.free (way t.mask h K) false) s) :
    ∀ (f c : Nat) (st : Option SetTable.Probe), st.getD (t.probeStart h) = nth t.mask (begin_ t.mask h) c → c ≤ K → K - c < f →
      (∀ (i : Nat) p, L[i]? = some p → p.2 = k → ∃ c', c ≤ c' ∧ c' < K ∧ t.place.toList[i]? = some (way t.mask h c')) →
      wpAny (model P w) A (setSearchFrom a (.ref x) h true f st) Q E s
  | 0, c, st, _, _, hf, _ => absurd hf (Nat.not_lt_zero _)
  | f + 1, c, st, hst, hc, hf, ahead => by
    obtain ⟨o, ho, ex, hd⟩ := R.obj
    rw [setSearchFrom_succ]
    refine wpAny_bind (wpAny_setState_of ho hd R.fit ?_)
    dsimp only
    refine wp_if_neg (by unfold SetTable.gaveWay; rw [R.tb.msk.odd]; decide) ?_
    try refine wpAny_bind (wpAny_pure ?_)
    have go : ∀ q, nth t.mask (nth t.mask (begin_ t.mask h) c) q = nth t.mask (begin_ t.mask h) (c + q) := fun q => (nth_add t.mask c _ q).symm
    have gj : ∀ q, (nth t.mask (nth t.mask (begin_ t.mask h) c) q).j = way t.mask h (c + q) := fun q => by rw [go]
    have hsh : ∀ (i : Nat) p, L[i]? = some p → (es[i]?.map (·.1)).getD 0 = thash P w p.2 := fun i p e => by
      rw [es_at R.row e]
      rfl
    have never : ∀ q : Nat, (∀ (k' i' : Nat), k' < q → t.place.toList[i']? = some (nth t.mask (nth t.mask (begin_ t.mask h) c) k').j → (es[i']?.map (·.1)).getD 0 ≠ h) → ∀ (i : Nat) (p : AK) (c' : Nat), L[i]? = some p → p.2 = k → c ≤ c' → c' < c + q → t.place.toList[i]? = some (way t.mask h c') → False := fun q hno i p c' e1 e2 e3 e4 e5 => by
      refine hno (c' - c) i (by omega) (by rw [gj, show c + (c' - c) = c' by omega]; exact e5) ?_
      rw [hsh i p e1, e2, eh]
    rcases go_spec t R.tb.up R.tb.clean (fun i => (es[i]?.map (·.1)).getD 0) h (10 * SetTable.turns t.mask) (K - c) _ (nth_dummy t.mask c _ rfl) (by omega) (fun q hq => by rw [gj]; exact ins _ (by omega)) (by rw [gj, show c + (K - c) = K by omega]; exact out) with ⟨q, i, hq, hi, _, hno, hp⟩ | ⟨hno, hp⟩
    · have hp : t.probe (fun i => (es[i]?.map (·.1)).getD 0) h (st.getD (t.probeStart h)) = some (.candidate (way t.mask h (c + q)) i (nth t.mask (begin_ t.mask h) (c + (q + 1)))) := by
        rw [hst, ← gj, ← go]
        exact hp
      rw [hp]
      dsimp only
      rw [gj] at hi
      have il : i < L.length := by
        have b := (List.getElem?_eq_some_iff.mp hi).1
        have := R.tb.len
        rw [Array.length_toList] at b
        rw [List.length_map] at this
        omega
      obtain ⟨p, ep'⟩ : ∃ p, L[i]? = some p := ⟨_, List.getElem?_eq_getElem il⟩
      have pin : p ∈ L := List.mem_of_getElem? ep'
      have rest : wpAny (model P w) A (searchRest a (.ref x) h true f es t (way t.mask h (c + q)) i (nth t.mask (begin_ t.mask h) (c + (q + 1)))) Q E s := by
        unfold searchRest
        rw [es_at R.row ep']
        dsimp only
        refine wpAny_bind (wpAny_holding (wpAny_eqBool_tuple hu (R.keys p pin) hx ?_))
        refine wpAny_bind (wpAny_setState_of ho hd R.fit ?_)
        dsimp only
        by_cases same : p.2 = k
        · exact wp_if_pos (by simp [same]) (wpAny_pure (yes (List.mem_map.mpr ⟨p, pin, same⟩)))
        · refine wp_if_neg (by simp [same]) ?_
          try refine wpAny_bind (wpAny_pure ?_)
          rw [sameMem]
          dsimp only
          have sl : t.slot (way t.mask h (c + q)) = .live i := slot_live R.tb.up hi
          simp only [if_true, sl, es_at R.row ep']
          refine wpAny_bind (wpAny_isSame_ref_self (wpAny_bind (wpAny_pure ?_)))
          simp only [if_true]
          refine wp_if_neg (by simp [same]) ?_
          refine seek R hx hu eh hK out ins yes no f (c + (q + 1)) _ rfl (by omega) (by omega) fun i0 p0 e1 e2 => ?_
          obtain ⟨c', a1, a2, a3⟩ := ahead i0 p0 e1 e2
          refine ⟨c', ?_, a2, a3⟩
          refine Nat.lt_of_not_le fun z => ?_
          rcases Nat.lt_or_eq_of_le z with z | z
          · exact never q hno i0 p0 c' e1 e2 a1 z a3
          · subst z
            have s0 := slot_live R.tb.up a3
            have s0 : SetTable.Slot.live i = .live i0 := sl.symm.trans s0
            injection s0 with s0
            subst s0
            rw [ep'] at e1
            cases e1
            exact same e2
      by_cases led : t.led = true
      · refine wp_if_neg (by simp [led]) ?_
        try refine wpAny_bind (wpAny_pure ?_)
        exact rest
      · refine wp_if_pos (by simp [led]) ?_
        refine wpAny_bind (seen_tup hx (fun y hy => ?_) ?_)
        · obtain ⟨e, he, rfl⟩ := List.mem_map.mp hy
          have he : e ∈ es.toList := by
            have := (show e ∈ es ∧ e.1 = h by simpa using he).1
            simpa using this
          rw [R.row] at he
          obtain ⟨p2, h2, rfl⟩ := List.mem_map.mp he
          exact ⟨p2.2, p2.1, rfl, R.keys p2 h2⟩
        · refine wp_if_neg (by decide) ?_
          try refine wpAny_bind (wpAny_pure ?_)
          exact rest
    · have hp : t.probe (fun i => (es[i]?.map (·.1)).getD 0) h (st.getD (t.probeStart h)) = some (.empty (way t.mask h K) none) := by
        have e2 := gj (K - c)
        rw [show c + (K - c) = K by omega] at e2
        rw [hst, ← e2]
        exact hp
      rw [hp]
      dsimp only
      refine wpAny_pure (no fun hm => ?_)
      obtain ⟨p0, h0, e2⟩ := List.mem_map.mp hm
      obtain ⟨i0, hi0⟩ := List.getElem?_of_mem h0
      obtain ⟨c', a1, a2, a3⟩ := ahead i0 p0 hi0 e2
      exact never (K - c) hno i0 p0 c' hi0 e2 a1 (by omega) a3
theorem seek_all (R : SetG P w s.heap a L es ep t) {x : Addr} {k : List Int} (hx : IsT P w s.heap k x) (hu : A.units < cLine) {Q : SetFound → Shared → Prop}
    (yes : k ∈ L.map (·.2) → Q (.there none) s)
    (no : ∀ j K, k ∉ L.map (·.2) → way t.mask (thash P w k) K = j → j ∉ t.place.toList → (∀ c, c < K → way t.mask (thash P w k) c ∈ t.place.toList) → Q (.free j false) s) :
    wpAny (model P w) A (setSearch a (.ref x) (thash P w k) true) Q E s := by
  have space := R.space
  have small := R.tb.msk.small
  obtain ⟨K, hK, out, ins⟩ := R.tb.hole (by rw [List.length_map]; omega) (thash P w k)
  unfold setSearch
  refine seek R hx hu rfl hK out ins yes (fun hn => no _ K hn rfl out ins) 100000 0 none rfl (Nat.zero_le K) (by
    have : 10 * SetTable.turns t.mask ≤ 100000 := by
      unfold SetTable.turns
      omega
    omega) fun i p hp e => ?_
  have e1 : (L.map fun p => thash P w p.2)[i]? = some (thash P w k) := by
    rw [List.getElem?_map, hp, ← e]
    rfl
  have il : i < t.place.toList.length := by
    have b := (List.getElem?_eq_some_iff.mp hp).1
    have := R.tb.len
    rw [List.length_map] at this
    rw [Array.length_toList]
    omega
  have e2 := List.getElem?_eq_getElem il
  obtain ⟨c, c1, c2⟩ := R.tb.ahead out e1 e2
  exact ⟨c, Nat.zero_le c, c1, by rw [e2, c2]⟩
end
end Ad
namespace Ad
open PySem PySem.Spec PyProof.Rows L2

section
variable {P : Program} {w : World} {A : Around} {E : Value → Shared → Prop} {s : Shared}
variable {a : Addr} {L : List AK} {es : Array (Int × Value)} {ep : Nat} {t : SetTable}
/-- all laid in a larger table -/
theorem relay {o : Obj} (ho : s.heap.get? a = some o) (ex : o.ExactSet) (hd : o.data = .set es ep t) (row : es.toList = rowsOf P w L) (tb : Tab t (L.map fun p => thash P w p.2)) (small : L.length ≤ t.mask) (one : (L.map (·.2)).Nodup) (keys : ∀ p, p ∈ L → IsT P w s.heap p.2 p.1) (pl : t.plain = true) (ld : w.params.followText "set-order" = true ∨ t.led = true)
    {wanted m : Nat} (hw : SetTable.sizeAbove wanted = m + 1) (M : Msk m) (hn : L.length * 5 < m * 3) {Q : Unit → Shared → Prop}
    (hQ : ∀ h' L' es' ep' t', Heap.SameBut a s.heap h' → SetG P w h' a L' es' ep' t' → L'.Perm L → Q () { s with heap := h' }) : wpAny (model P w) A (setRelay a wanted) Q E s := by
  have el := es_len row
  have ms := M.small
  obtain ⟨t', order, e, perm, T, em, eled, epl⟩ := relaid_tab t (hs := es.map (·.1)) (wanted := wanted) (m := m) (by omega) M (by rw [Array.size_map]; omega)
  rw [Array.size_map, el] at perm
  obtain ⟨L2, r1, r2, r3⟩ := order_rows L es order row perm
  rw [← r3] at T
  have size2 : (order.filterMap (es[·]?)).size = es.size := by rw [es_len r1, r2.length_eq, el]
  have fit : t.fits es.size = true := tab_fits tb (by rw [List.length_map]; exact el) (by rw [List.length_map]; exact small)
  rw [setRelay_eq]
  refine wpAny_bind (wpAny_setState_of ho hd fit ?_)
  dsimp only
  refine wp_if_neg (by rw [hw, sizeLine_eq]; omega) ?_
  try refine wpAny_bind (wpAny_pure ?_)
  rw [e]
  dsimp only
  refine wpAny_bind ?_
  refine wp_if_neg (by rw [size2]; simp) ?_
  try refine wpAny_bind (wpAny_pure ?_)
  refine wpAny_pure ?_
  dsimp only
  refine wpAny_storeSet_of ho hd ?_ (by rw [size2, el, sizeLine_eq]; omega)
  have but : Heap.SameBut a s.heap (s.heap.update a (Obj.putSet (order.filterMap (es[·]?)) t')) := Heap.SameBut.update ..
  refine hQ _ L2 _ (ep + 1) t' but ⟨⟨_, store_at ho hd, ⟨ex.1, ex.2.1, ex.2.2⟩, rfl⟩, r1, T, (r2.map (·.2)).nodup_iff.mpr one, fun p hp => isT_same (keys p (r2.mem_iff.mp hp)) ho hd but, epl.trans pl, by rw [eled]; exact ld, by rw [r2.length_eq, em]; exact hn⟩ r2
/-- into which mask it grows -/
theorem grows {m n : Nat} (M : Msk m) (h1 : n * 5 < m * 3) (h2 : m * 3 ≤ (n + 1) * 5) (h3 : n + 1 ≤ 306) : ∃ m', Msk m' ∧ SetTable.sizeAbove (SetTable.grown (n + 1)) = m' + 1 ∧ (n + 1) * 5 < m' * 3 ∧ n + 1 ≤ m := by
  rcases M.four with rfl | rfl | rfl | rfl
  · have : n = 4 := by omega
    subst this
    exact ⟨31, msk31, grown_5, by decide, by decide⟩
  · have : n = 18 := by omega
    subst this
    exact ⟨127, msk127, grown_19, by decide, by decide⟩
  · have : n = 76 := by omega
    subst this
    exact ⟨511, msk511, grown_77, by decide, by decide⟩
  · omega
/-- one more, or none -/
theorem add_one (R : SetG P w s.heap a L es ep t) {x : Addr} {k : List Int} (hx : IsT P w s.heap k x) (hu : A.units < cLine) (few : L.length + 1 ≤ 306) {Q : Bool → Shared → Prop}
    (hQ : ∀ r h' L' es' ep' t', Heap.SameBut a s.heap h' → SetG P w h' a L' es' ep' t' → (k ∈ L.map (·.2) → L' = L) → (k ∉ L.map (·.2) → L'.Perm ((x, k) :: L)) → Q r { s with heap := h' }) :
    wpAny (model P w) A (setAddHashed a (.ref x) (thash P w k)) Q E s := by
  obtain ⟨o, ho, ex, hd⟩ := R.obj
  have el := es_len R.row
  unfold setAddHashed
  refine wpAny_holding ?_
  rw [show (100000 : Nat) = 99999 + 1 by decide, setAddHashedIn_succ]
  refine wpAny_bind (wpAny_setState_of ho hd R.fit ?_)
  dsimp only
  refine wp_if_neg (by simp [byScan, Value.scannable]) ?_
  try refine wpAny_bind (wpAny_pure ?_)
  refine wpAny_bind (seek_all R hx hu (fun hm => ?_) fun j K hm eK hj ins => ?_)
  · dsimp only
    exact wpAny_pure (hQ false s.heap L es ep t (Heap.SameBut.refl a s.heap) R (fun _ => rfl) fun z => (z hm).elim)
  dsimp only
  refine wpAny_bind (wpAny_setState_of ho hd R.fit ?_)
  dsimp only
  obtain ⟨le, T1⟩ := R.tb.put hj eK ins
  have hplain : (t.put j).1.plain = true := R.pl
  have hled : w.params.followText "set-order" = true ∨ (t.put j).1.led = true := R.ld
  have hmask : (t.put j).1.mask = t.mask := rfl
  have hpos : (t.put j).2 = spot t j := rfl
  generalize t.put j = pt at T1 hplain hled hmask hpos ⊢
  obtain ⟨t1, p⟩ := pt
  dsimp only at T1 hplain hled hmask hpos ⊢
  first
    | (refine wpAny_bind ?_; refine wp_if_pos hplain ?_; refine hashBy_tup hx ?_)
    | refine wp_if_pos hplain (wpAny_bind (hashBy_tup hx ?_))
  simp only [if_true]
  subst hpos
  have row1 : (SetTable.insertAt es (spot t j) (thash P w k, Value.ref x)).toList = rowsOf P w (L.take (spot t j) ++ (x, k) :: L.drop (spot t j)) := by
    rw [SetTable.toList_insertAt, rows_put, R.row]
  have T1 : Tab t1 ((L.take (spot t j) ++ (x, k) :: L.drop (spot t j)).map fun p => thash P w p.2) := by
    rw [List.map_append, List.map_cons, List.map_take, List.map_drop]
    exact T1
  have perm := put_perm L (spot t j) (x, k)
  generalize L.take (spot t j) ++ (x, k) :: L.drop (spot t j) = L1 at row1 T1 perm
  generalize SetTable.insertAt es (spot t j) (thash P w k, Value.ref x) = es1 at row1 ⊢
  have len1 : L1.length = L.length + 1 := perm.length_eq
  have el1 := es_len row1
  refine wpAny_bind (wpAny_storeSet_of ho hd ?_ (by rw [el1, len1, sizeLine_eq]; omega))
  have but : Heap.SameBut a s.heap (s.heap.update a (Obj.putSet es1 t1)) := Heap.SameBut.update ..
  have ho1 := store_at (es' := es1) (t' := t1) ho hd
  generalize s.heap.update a (Obj.putSet es1 t1) = h1 at but ho1 ⊢
  have one1 : (L1.map (·.2)).Nodup := (perm.map (·.2)).nodup_iff.mpr (List.nodup_cons.mpr ⟨hm, R.one⟩)
  have keys1 : ∀ q, q ∈ L1 → IsT P w h1 q.2 q.1 := fun q hq => by
    rcases List.mem_cons.mp (perm.mem_iff.mp hq) with rfl | hq
    · exact isT_same hx ho hd but
    · exact isT_same (R.keys q hq) ho hd but
  have space := R.space
  have fill1 : t1.fill = L.length + 1 := by
    have q := T1.len
    rw [List.length_map, len1] at q
    unfold SetTable.fill
    rw [T1.clean, q]
    rfl
  by_cases full : t1.tooFull = true
  · first
      | (refine wpAny_bind ?_; refine wp_if_pos (by simp [full]) ?_)
      | (refine wp_if_pos (by simp [full]) ?_; refine wpAny_bind ?_)
    have f2 : t1.mask * 3 ≤ (L.length + 1) * 5 := by
      unfold SetTable.tooFull at full
      rw [fill1] at full
      exact of_decide_eq_true full
    rw [el]
    obtain ⟨m', M', sz, room, fits⟩ := grows T1.msk (by rw [hmask]; exact space) f2 few
    refine relay (s := { s with heap := h1 }) ho1 ⟨ex.1, ex.2.1, ex.2.2⟩ rfl row1 T1 (by rw [len1]; exact fits) one1 keys1 hplain hled sz M' (by rw [len1]; exact room) ?_
    intro h2 L2 es2 ep2 t2 but2 R2 perm2
    exact wpAny_pure (hQ true h2 L2 es2 ep2 t2 (but.trans but2) R2 (fun z => (hm z).elim) fun _ => perm2.trans perm)
  · first
      | refine wp_if_neg (by simp [full]) ?_
      | (refine wpAny_bind ?_; refine wp_if_neg (by simp [full]) ?_; refine wpAny_pure ?_)
    refine wpAny_pure (hQ true h1 L1 es1 (ep + 1) t1 but ⟨⟨_, ho1, ⟨ex.1, ex.2.1, ex.2.2⟩, rfl⟩, row1, T1, one1, keys1, hplain, hled, ?_⟩ (fun z => (hm z).elim) fun _ => perm)
    unfold SetTable.tooFull at full
    rw [fill1] at full
    have := of_decide_eq_false (Bool.eq_false_iff.mpr full)
    rw [len1]
    omega
end
end Ad
namespace Ad
open PySem PySem.Spec PyProof.Rows L2

/-- a set as it is made -/
abbrev newSet (w : World) : Obj := { cls := .type "set", dict := none, data := .set #[] 0 (.fresh 0 0 (!w.params.followText "set-order")) }
/-- what a set takes in, item by item: In i h says how it stands at S behind i items -/
structure Takes1 (P : Program) (w : World) (S : Addr) (h0 : Heap) (items : Array Value) (In : Nat → Heap → Prop) : Prop where
  fresh : ∀ h, h.get? S = some (newSet w) → (∀ b o, h0.get? b = some o → h.get? b = some o) → In 0 h
  keep : ∀ i h h', In i h → (∀ o, h.get? S = some o → h'.get? S = some o) → (∀ b o, h0.get? b = some o → h'.get? b = some o) → In i h'
  step : ∀ (A : Around) (E : Value → Shared → Prop) (i : Nat) (v : Value) (s : Shared) (Q : Bool → Shared → Prop), A.units + 8 < cLine → items[i]? = some v → In i s.heap → (∀ b o, h0.get? b = some o → s.heap.get? b = some o) →
    (∀ r h' d, Heap.SameBut S s.heap h' → In (i + 1) h' → Q r { s with heap := h', toks := s.toks + d }) → wpAny (model P w) A (setAdd S v) Q E s
section
variable {P : Program} {w : World} {A : Around} {E : Value → Shared → Prop} {s : Shared}
theorem upd_loop {I S : Addr} {fp wr : List Addr} {G : Array GenState → Array GenState → Prop} {n : Nat} {Pv : Nat → Value → Prop} {St : Nat → Shared → Prop} {R : Result → Shared → Prop} {h0 : Heap} {items : Array Value} {In : Nat → Heap → Prop}
    (W : WalksS P w A.in1 I fp wr G n Pv St) (nS : S ∉ fp) (T : Takes1 P w S h0 items In) (val : ∀ i v, Pv i v → items[i]? = some v) (S0 : h0.get? S = none) (w0 : ∀ b, b ∈ wr → h0.get? b = none) (hu : A.in1.units + 8 < cLine) :
    ∀ (k i : Nat) (s : Shared), i + k = n → St i s → (∀ b o, h0.get? b = some o → s.heap.get? b = some o) → In i s.heap →
      (∀ s', Moved (S :: wr) G s s' → In n s'.heap → (∀ b o, h0.get? b = some o → s'.heap.get? b = some o) → R (.ok (.ret .none)) s') →
      codeAny (model P w) A (.builtin "set.update.loop" ⟨[.ref S, .ref I], []⟩) R s := by
  have nw : S ∉ wr := fun z => nS (W.sub _ z)
  have more : ∀ b, b ∈ wr → b ∈ S :: wr := fun b => List.mem_cons_of_mem S
  have base : ∀ {u u' : Shared}, Moved wr G u u' → (∀ b o, h0.get? b = some o → u.heap.get? b = some o) → ∀ b o, h0.get? b = some o → u'.heap.get? b = some o := fun mv hb b o e =>
    mv.heap b o (fun z => by have := w0 b z; rw [this] at e; cases e) (hb b o e)
  intro k
  induction k with
  | zero =>
    intro i s hi st hb hIn hR
    obtain rfl : i = n := hi
    apply codeAny_builtin F.entry_set_update_loop
    rw [Around.under_plainId F.plain_set_update_loop _]
    show wpAny (model P w) A.in1 (pyNext (.ref I) >>= _) _ _ s
    refine wpAny_bind (W.done s _ _ st fun s' mv => ?_)
    show wpAny (model P w) A.in1 (ret Value.none) _ _ s'
    have hb' := base mv hb
    exact wpAny_pure (hR s' (mv.mono more) (T.keep i _ _ hIn (fun o e => mv.heap S o nw e) hb') hb')
  | succ k ih =>
    intro i s hi st hb hIn hR
    apply codeAny_builtin F.entry_set_update_loop
    rw [Around.under_plainId F.plain_set_update_loop _]
    show wpAny (model P w) A.in1 (pyNext (.ref I) >>= _) _ _ s
    refine wpAny_bind (W.item i s _ _ (by omega) st fun v s' hv st' mv => ?_)
    have hb' := base mv hb
    show wpAny (model P w) A.in1 (holding [v] (setAdd S v) >>= _) _ _ s'
    refine wpAny_bind (wpAny_holding (T.step A.in1 _ i v s' _ hu (val i v hv) (T.keep i _ _ hIn (fun o e => mv.heap S o nw e) hb') hb' fun r h' d but hIn' => ?_))
    have old : ∀ b o, b ≠ S → s'.heap.get? b = some o → h'.get? b = some o := fun b o z e => (but.2 b z).trans e
    refine wpAny_pure ⟨plainId_quiet F.plain_set_update_loop _, ih (i + 1) _ (by omega) (W.frame _ s' _ _ st' (Nat.le_add_right _ d) fun b z o e => old b o (fun y => nS (y ▸ z)) e) (fun b o e => old b o (fun y => by rw [y, S0] at e; cases e) (hb' b o e)) hIn' fun s2 mv2 hIn2 hb2 => ?_⟩
    exact hR s2 (Moved.trans W.gtrans ((mv.mono more).then_heap (Nat.le_add_right _ d) fun b o z e => old b o (fun y => z (y ▸ List.mem_cons_self)) e) mv2) hIn2 hb2

set_option maxHeartbeats 3200000 in
/-- set(xs), xs a list -/
theorem make_setL {l : Addr} {items : Array Value} {In : Nat → Heap → Prop} {Q : Value → Shared → Prop} (hh : A.handled = none) (hl : s.heap.IsList l items) (T : Takes1 P w s.heap.objs.size s.heap items In) (hu : A.units + 11 < cLine)
    (fin : ∀ (h' : Heap) (tk : Nat), In items.size h' → (∀ b o, s.heap.get? b = some o → h'.get? b = some o) → Q (.ref s.heap.objs.size) { s with heap := h', toks := tk }) :
    wpAny (model P w) A (call (.type "set") [.ref l]) Q E s := by
  have S0 : ∀ b, s.heap.objs.size ≤ b → s.heap.get? b = none := fun b hb => by
    cases q : s.heap.get? b with
    | none => rfl
    | some o => exact absurd (Heap.lt_size q) (Nat.not_lt.mpr hb)
  obtain ⟨c, tl, hmro⟩ := F.called_set.mro
  have hmade := F.called_set.made
  have hsub := F.called_set.sub
  have q0 : (Code.builtin "type.__call__" ⟨[.type "set", .ref l], []⟩).quiet = true := Code.quiet_builtin _ (by decide +kernel)
  apply wpAny_call
  apply codeAny_of_tree
  show wpAny _ _ (callAny (.type "set") _) _ _ _
  apply wpAny_pure
  refine ⟨q0, ?_⟩
  apply codeAny_builtin F.entry_type_call
  rw [Around.under_plain (weight_type_call_type "set" [.ref l] []) rfl]
  have h1 := F.called_set.notType
  have h2 := F.called_set.canCreate
  have hct := F.typeCall_set_1 (.ref l)
  repeat (any_goals (first | assumption | wp_step))
  refine codeAny_mono (code_set_led1 (.ref l) (E := E) (Q₁ := fun v u => v = .ref s.heap.objs.size ∧ u = { s with heap := s.heap.push (newSet w) }) ⟨rfl, rfl⟩) fun r u hr => ?_
  cases r with
  | error e => exact hr
  | ok fl =>
    cases fl with
    | ret v =>
      obtain ⟨rfl, rfl⟩ := hr
      have hS : (s.heap.push (newSet w)).get? s.heap.objs.size = some (newSet w) := Heap.get?_push_size _ rfl
      have hT : Shared.TypeIs { s with heap := s.heap.push (newSet w) } (.ref s.heap.objs.size) "set" := ⟨_, hS, rfl⟩
      have hli := F.called_set.init.lookup
      have hbi := F.called_set.init.bind (.ref s.heap.objs.size)
      repeat (any_goals (first | assumption | wp_step))
      refine codeAny_mono (codeAny_call_builtin (R := wants (fun v u => v = .none ∧ ∃ h' tk, u = { s with heap := h', toks := tk } ∧ In items.size h' ∧ (∀ b o, s.heap.get? b = some o → h'.get? b = some o)) E) F.called_set.init.plain F.entry_set_init (check_set_init_1 hT ?_)) fun r2 u2 hr2 => ?_
      · obtain ⟨ol, hol, hcl, nl, hdl⟩ := hl
        obtain ⟨ocls, odict, odata, oslots⟩ := ol
        simp only at hcl hdl
        subst hcl; subst hdl
        have hol' : (s.heap.push (newSet w)).get? l = some { cls := .type "list", dict := odict, data := .seq items nl, slots := oslots } := Heap.get?_push_of_some _ hol
        have k1 := F.sub_list_set
        have k2 := F.sub_list_frozenset
        have k3 : (Value.type "list" == Value.type "dict") = false := by decide
        have hl1 : (s.heap.push (newSet w)).IsList l items := ⟨_, hol', rfl, nl, rfl⟩
        unfold Builtin.«set.__init__» noKeywords Builtin.Frozenset.updateFrom
        generalize hPI : pyIter = PI
        wp_walk
        subst hPI
        refine wpAny_pyIter_list hl1 (wpAny_bind (wpAny_runValue ?_))
        have lS : l < s.heap.objs.size := Heap.lt_size hol
        have hn3 : A.in1.in1.in1.handled = none := by simp [hh]
        have szp : (s.heap.push (newSet w)).objs.size = s.heap.objs.size + 1 := Heap.size_push ..
        have lI : l ≠ (s.heap.push (newSet w)).objs.size := by
          rw [szp]
          exact Nat.ne_of_lt (Nat.lt_succ_of_lt lS)
        have nS : s.heap.objs.size ∉ [(s.heap.push (newSet w)).objs.size, l] := fun z => by
          rw [szp] at z
          rcases List.mem_cons.mp z with z | z
          · exact absurd z (Nat.ne_of_lt (Nat.lt_succ_self _))
          · exact absurd (List.mem_singleton.mp z) (Nat.ne_of_gt lS)
        have gS : ((s.heap.push (newSet w)).push { cls := .type "list_iterator", data := .fields #[.ref l, .int 0 0] }).get? s.heap.objs.size = some (newSet w) := Heap.get?_push_of_some _ hS
        have kb : ∀ b o, s.heap.get? b = some o → ((s.heap.push (newSet w)).push { cls := .type "list_iterator", data := .fields #[.ref l, .int 0 0] }).get? b = some o := fun b o e => Heap.get?_push_of_some _ (Heap.get?_push_of_some _ e)
        refine upd_loop ((Walks.list hn3 _ l lI items).toS) nS T (fun i v hv => hv) (S0 _ (Nat.le_refl _)) (fun b hb => S0 b (by rw [List.mem_singleton.mp hb, szp]; omega)) hu items.size 0 _ (by omega)
          ⟨⟨_, Heap.get?_push_size _ rfl, rfl, rfl⟩, hl1.push _⟩ kb (T.fresh _ gS kb) fun u mv hIn hb => ?_
        obtain ⟨h', g2, d', tk', os'⟩ := u
        have eg : g2 = s.gens := mv.gens
        have ed : d' = s.drawn := mv.drawn
        have eo : os' = s.os := mv.os
        subst eg ed eo
        show wpAny _ _ _ _ _ _
        apply wpAny_pure
        show wpAny _ _ (ret Value.none) _ _ _
        exact wpAny_pure ⟨rfl, h', tk', rfl, hIn, hb⟩
      · cases r2 with
        | error e => exact hr2
        | ok fl2 =>
          cases fl2 with
          | ret v2 =>
            obtain ⟨rfl, h', tk, rfl, hIn, hb⟩ := hr2
            repeat (any_goals (first | assumption | wp_step))
            exact fin h' _ hIn hb
          | _ => exact hr2.elim
    | _ => exact hr.elim
end
end Ad
namespace Ad
open PySem PySem.Spec PyProof.Rows L2
section
variable {P : Program} {w : World} {A : Around} {E : Value → Shared → Prop} {s : Shared}
set_option maxHeartbeats 3200000 in
/-- set(xs), xs a tuple -/
theorem make_setT {l : Addr} {items : Array Value} {In : Nat → Heap → Prop} {Q : Value → Shared → Prop} (hh : A.handled = none) (hl : s.heap.IsTuple l items) (T : Takes1 P w s.heap.objs.size s.heap items In) (hu : A.units + 11 < cLine)
    (fin : ∀ (h' : Heap) (tk : Nat), In items.size h' → (∀ b o, s.heap.get? b = some o → h'.get? b = some o) → Q (.ref s.heap.objs.size) { s with heap := h', toks := tk }) :
    wpAny (model P w) A (call (.type "set") [.ref l]) Q E s := by
  have S0 : ∀ b, s.heap.objs.size ≤ b → s.heap.get? b = none := fun b hb => by
    cases q : s.heap.get? b with
    | none => rfl
    | some o => exact absurd (Heap.lt_size q) (Nat.not_lt.mpr hb)
  obtain ⟨c, tl, hmro⟩ := F.called_set.mro
  have hmade := F.called_set.made
  have hsub := F.called_set.sub
  have q0 : (Code.builtin "type.__call__" ⟨[.type "set", .ref l], []⟩).quiet = true := Code.quiet_builtin _ (by decide +kernel)
  apply wpAny_call
  apply codeAny_of_tree
  show wpAny _ _ (callAny (.type "set") _) _ _ _
  apply wpAny_pure
  refine ⟨q0, ?_⟩
  apply codeAny_builtin F.entry_type_call
  rw [Around.under_plain (weight_type_call_type "set" [.ref l] []) rfl]
  have h1 := F.called_set.notType
  have h2 := F.called_set.canCreate
  have hct := F.typeCall_set_1 (.ref l)
  repeat (any_goals (first | assumption | wp_step))
  refine codeAny_mono (code_set_led1 (.ref l) (E := E) (Q₁ := fun v u => v = .ref s.heap.objs.size ∧ u = { s with heap := s.heap.push (newSet w) }) ⟨rfl, rfl⟩) fun r u hr => ?_
  cases r with
  | error e => exact hr
  | ok fl =>
    cases fl with
    | ret v =>
      obtain ⟨rfl, rfl⟩ := hr
      have hS : (s.heap.push (newSet w)).get? s.heap.objs.size = some (newSet w) := Heap.get?_push_size _ rfl
      have hT : Shared.TypeIs { s with heap := s.heap.push (newSet w) } (.ref s.heap.objs.size) "set" := ⟨_, hS, rfl⟩
      have hli := F.called_set.init.lookup
      have hbi := F.called_set.init.bind (.ref s.heap.objs.size)
      repeat (any_goals (first | assumption | wp_step))
      refine codeAny_mono (codeAny_call_builtin (R := wants (fun v u => v = .none ∧ ∃ h' tk, u = { s with heap := h', toks := tk } ∧ In items.size h' ∧ (∀ b o, s.heap.get? b = some o → h'.get? b = some o)) E) F.called_set.init.plain F.entry_set_init (check_set_init_1 hT ?_)) fun r2 u2 hr2 => ?_
      · obtain ⟨ol, hol, hcl, nl, hdl⟩ := hl
        obtain ⟨ocls, odict, odata, oslots⟩ := ol
        simp only at hcl hdl
        subst hcl; subst hdl
        have hol' : (s.heap.push (newSet w)).get? l = some { cls := .type "tuple", dict := odict, data := .seq items nl, slots := oslots } := Heap.get?_push_of_some _ hol
        have k1 := F.sub_tuple_set
        have k2 := F.sub_tuple_frozenset
        have k3 : (Value.type "tuple" == Value.type "dict") = false := by decide
        have hl1 : (s.heap.push (newSet w)).IsTuple l items := ⟨_, hol', rfl, nl, rfl⟩
        unfold Builtin.«set.__init__» noKeywords Builtin.Frozenset.updateFrom
        generalize hPI : pyIter = PI
        wp_walk
        subst hPI
        refine wpAny_pyIter_tuple hl1 (wpAny_bind (wpAny_runValue ?_))
        have lS : l < s.heap.objs.size := Heap.lt_size hol
        have hn3 : A.in1.in1.in1.handled = none := by simp [hh]
        have szp : (s.heap.push (newSet w)).objs.size = s.heap.objs.size + 1 := Heap.size_push ..
        have lI : l ≠ (s.heap.push (newSet w)).objs.size := by
          rw [szp]
          exact Nat.ne_of_lt (Nat.lt_succ_of_lt lS)
        have nS : s.heap.objs.size ∉ [(s.heap.push (newSet w)).objs.size, l] := fun z => by
          rw [szp] at z
          rcases List.mem_cons.mp z with z | z
          · exact absurd z (Nat.ne_of_lt (Nat.lt_succ_self _))
          · exact absurd (List.mem_singleton.mp z) (Nat.ne_of_gt lS)
        have gS : ((s.heap.push (newSet w)).push { cls := .type "tuple_iterator", data := .fields #[.ref l, .int 0 0] }).get? s.heap.objs.size = some (newSet w) := Heap.get?_push_of_some _ hS
        have kb : ∀ b o, s.heap.get? b = some o → ((s.heap.push (newSet w)).push { cls := .type "tuple_iterator", data := .fields #[.ref l, .int 0 0] }).get? b = some o := fun b o e => Heap.get?_push_of_some _ (Heap.get?_push_of_some _ e)
        refine upd_loop ((Walks.tuple hn3 _ l lI items).toS) nS T (fun i v hv => hv) (S0 _ (Nat.le_refl _)) (fun b hb => S0 b (by rw [List.mem_singleton.mp hb, szp]; omega)) hu items.size 0 _ (by omega)
          ⟨⟨_, Heap.get?_push_size _ rfl, rfl, rfl⟩, hl1.push _⟩ kb (T.fresh _ gS kb) fun u mv hIn hb => ?_
        obtain ⟨h', g2, d', tk', os'⟩ := u
        have eg : g2 = s.gens := mv.gens
        have ed : d' = s.drawn := mv.drawn
        have eo : os' = s.os := mv.os
        subst eg ed eo
        show wpAny _ _ _ _ _ _
        apply wpAny_pure
        show wpAny _ _ (ret Value.none) _ _ _
        exact wpAny_pure ⟨rfl, h', tk', rfl, hIn, hb⟩
      · cases r2 with
        | error e => exact hr2
        | ok fl2 =>
          cases fl2 with
          | ret v2 =>
            obtain ⟨rfl, h', tk, rfl, hIn, hb⟩ := hr2
            repeat (any_goals (first | assumption | wp_step))
            exact fin h' _ hIn hb
          | _ => exact hr2.elim
    | _ => exact hr.elim
end
end Ad
namespace Ad
open PySem PySem.Calls PySem.W PySem.SeqAt PySem.Spec PyProof.Rows L2

/-! ### sets of what is represented -/
/-- a set at a, its values in the table's order -/
def SetV (w : World) (h : Heap) (a : Addr) (us : List Value) : Prop := ∃ o es ep t, h.get? a = some o ∧ o.ExactSet ∧ o.data = .set es ep t ∧ es.toList.map (·.2) = us ∧ t.fits es.size = true ∧ es.size < scanBound ∧ Ris t.place.toList ∧ (w.params.followText "set-order" = true ∨ t.led = true)
theorem nodup_le {α : Type} [DecidableEq α] : ∀ (l m : List α), l.Nodup → (∀ x, x ∈ l → x ∈ m) → l.length ≤ m.length
  | [], _, _, _ => Nat.zero_le _
  | x :: l, m, hn, h => by
    obtain ⟨h1, h2⟩ := List.nodup_cons.mp hn
    have hm := h x List.mem_cons_self
    have := nodup_le l (m.erase x) h2 fun y hy => (List.mem_erase_of_ne (show y ≠ x from fun e => h1 (by rw [← e]; exact hy))).mpr (h y (List.mem_cons_of_mem _ hy))
    rw [List.length_erase_of_mem hm] at this
    have : 0 < m.length := List.length_pos_of_mem hm
    rw [List.length_cons]
    omega
/-- each once -/
def once {α : Type} [DecidableEq α] : List α → List α
  | [] => []
  | x :: l => x :: (once l).filter fun y => !decide (y = x)
theorem mem_once {α : Type} [DecidableEq α] : ∀ (l : List α) (y : α), y ∈ once l ↔ y ∈ l
  | [], _ => Iff.rfl
  | x :: l, y => by
    unfold once
    rw [List.mem_cons, List.mem_cons, List.mem_filter, mem_once l y]
    by_cases h : y = x
    · simp [h]
    · simp [h]
theorem nodup_once {α : Type} [DecidableEq α] : ∀ l : List α, (once l).Nodup
  | [] => List.nodup_nil
  | x :: l => by
    unfold once
    refine List.nodup_cons.mpr ⟨fun h => ?_, (nodup_once l).filter _⟩
    have := (List.mem_filter.mp h).2
    simp at this
theorem once_enc {α : Type} [DecidableEq α] {enc : α → D} (h : ∀ x y, PyData.eqv (enc x) (enc y) = decide (x = y)) : ∀ l : List α, onceD (l.map enc) = (once l).map enc
  | [] => rfl
  | x :: l => by
    have ih := once_enc h l
    show enc x :: (onceD (l.map enc)).filter (fun y => !PyData.eqv y (enc x)) = enc x :: ((once l).filter fun y => !decide (y = x)).map enc
    rw [ih, List.filter_map]
    congr 2
    refine List.filter_congr fun y _ => ?_
    show (!PyData.eqv (enc y) (enc x)) = _
    rw [h]
theorem eqv_int (i j : Int) : PyData.eqv (.int i) (.int j) = decide (i = j) := rfl
theorem eqvAll_ints : ∀ a b : List Int, PyData.eqvAll (a.map .int) (b.map .int) = decide (a = b)
  | [], [] => rfl
  | [], _ :: _ => rfl
  | _ :: _, [] => rfl
  | x :: a, y :: b => by
    show (PyData.eqv (.int x) (.int y) && PyData.eqvAll (a.map .int) (b.map .int)) = _
    rw [eqvAll_ints a b, eqv_int]
    by_cases h : x = y
    · subst h
      simp
    · simp [h]
theorem eqv_tup (a b : List Int) : PyData.eqv (tupD a) (tupD b) = decide (a = b) := eqvAll_ints a b
section
variable {K : PySem.W.Frag} {W : Wd} {N : Addr → Prop} {H : Hp}
theorem ints_rep : ∀ {ns : List Int} {vs : List V}, RepL K W N H vs (ns.map .int) → vs = ns.map V.int
  | [], _, .nil => rfl
  | n :: ns, _, .cons h t => by
    cases h
    rw [ints_rep t]
    rfl
theorem rep_ints : ∀ ns : List Int, RepL K W N H (ns.map V.int) (ns.map .int)
  | [] => .nil
  | n :: ns => .cons (.int n) (rep_ints ns)
/-- the keys of tuples of ints -/
theorem keys_of : ∀ {ds : List D} {vs : List V}, RepL K W N H vs ds → (∀ x, x ∈ ds → ∃ ns : List Int, x = tupD ns) → ∃ ks : List AK, vs = ks.map (fun p => V.ref p.1) ∧ ds = ks.map (fun p => tupD p.2) ∧ ∀ p, p ∈ ks → SqT K H p.1 (p.2.map V.int) ∧ Rep K W N H (.ref p.1) (tupD p.2)
  | [], _, .nil, _ => ⟨[], rfl, rfl, (fun p hp => absurd hp List.not_mem_nil)⟩
  | d :: ds, _, .cons (v := v) h t, hd => by
    obtain ⟨ks, e1, e2, e3⟩ := keys_of t fun x hx => hd x (List.mem_cons_of_mem _ hx)
    obtain ⟨ns, e⟩ := hd d List.mem_cons_self
    subst e
    obtain ⟨a, ws, rfl, f1, _, _, f2⟩ := RepB.tup (.inl h)
    rw [ints_rep f2] at f1
    refine ⟨(a, ns) :: ks, by rw [e1]; rfl, by rw [e2]; rfl, fun p hp => ?_⟩
    rcases List.mem_cons.mp hp with rfl | hp
    · exact ⟨f1, h⟩
    · exact e3 p hp
theorem rep_keys : ∀ {ks : List AK}, (∀ p, p ∈ ks → Rep K W N H (.ref p.1) (tupD p.2)) → RepL K W N H (ks.map fun p => V.ref p.1) (ks.map fun p => tupD p.2)
  | [], _ => .nil
  | p :: ks, h => .cons (h p List.mem_cons_self) (rep_keys fun q hq => h q (List.mem_cons_of_mem _ hq))
end
section
variable {P : Program} {w : World} {A : Around} {E : Value → Shared → Prop} {s : Shared}
theorem SetG.keep {h h' : Heap} {a : Addr} {L : List AK} {es : Array (Int × Value)} {ep : Nat} {t : SetTable} (R : SetG P w h a L es ep t) (ha : ∀ o, h.get? a = some o → h'.get? a = some o) (hk : ∀ p, p ∈ L → IsT P w h' p.2 p.1) : SetG P w h' a L es ep t := by
  obtain ⟨o, ho, r⟩ := R.obj
  exact ⟨⟨o, ha o ho, r⟩, R.row, R.tb, R.one, hk, R.pl, R.ld, R.space⟩
theorem SetG.new {h : Heap} {a : Addr} (e : h.get? a = some (newSet w)) : SetG P w h a [] #[] 0 (.fresh 0 0 (!w.params.followText "set-order")) := by
  refine ⟨⟨_, e, ⟨rfl, rfl, rfl⟩, rfl⟩, rfl, ⟨List.Pairwise.nil, rfl, rfl, msk7, (fun x hx => absurd hx List.not_mem_nil), fun i h j hi => ?_⟩, List.nodup_nil, (fun p hp => absurd hp List.not_mem_nil), rfl, ?_, show 0 * 5 < 7 * 3 by decide⟩
  · simp at hi
  · show _ ∨ (!w.params.followText "set-order") = true
    cases w.params.followText "set-order"
    · exact .inr rfl
    · exact .inl rfl
/-- keys taken in, one by one -/
theorem takes_keys {S : Addr} {h0 : Heap} {items : Array Value} {ks : List AK} (hit : items.toList = ks.map fun p => Value.ref p.1) (hk : ∀ p, p ∈ ks → IsT P w h0 p.2 p.1) (few : (once (ks.map (·.2))).length ≤ 305) : Takes1 P w S h0 items (fun i h => ∃ L es ep t, SetG P w h S L es ep t ∧ Got ks i L) where
  fresh := fun h e _ => ⟨[], #[], 0, _, SetG.new e, Got.zero ks⟩
  keep := fun i h h' ⟨L, es, ep, t, R, g⟩ ha hb => ⟨L, es, ep, t, R.keep ha fun p hp => isT_keep (hk p (List.mem_of_mem_take (g.sub p hp))) hb, g⟩
  step := fun A E i v s Q hu hv ⟨L, es, ep, t, R, g⟩ hb hQ => by
    have e : items.toList[i]? = some v := by rw [Array.getElem?_toList]; exact hv
    rw [hit, List.getElem?_map] at e
    obtain ⟨p, hp, rfl⟩ := Option.map_eq_some_iff.mp e
    have hx : IsT P w s.heap p.2 p.1 := isT_keep (hk p (List.mem_of_getElem? hp)) hb
    have len : L.length ≤ 305 := by
      have := nodup_le (L.map (·.2)) (once (ks.map (·.2))) R.one fun x hx => by
        obtain ⟨q, hq, rfl⟩ := List.mem_map.mp hx
        exact (mem_once _ _).mpr (List.mem_map.mpr ⟨q, List.mem_of_mem_take (g.sub q hq), rfl⟩)
      rw [List.length_map] at this
      omega
    unfold setAdd
    refine wpAny_holding (wpAny_bind (wpAny_pyHash_tuple (by omega) hx ?_))
    refine add_one (s := { s with toks := s.toks + (p.2.length + 1) }) R hx (by omega) (by omega) fun r h' L' es' ep' t' but R' c1 c2 => ?_
    refine hQ r h' _ but ⟨L', es', ep', t', R', ?_⟩
    by_cases c : p.2 ∈ L.map (·.2)
    · rw [c1 c]
      exact g.same hp c
    · exact g.more hp (c2 c)
theorem takes_ints {S : Addr} {h0 : Heap} {items : Array Value} {ns : List Int} (hit : IntsAre items.toList ns) (hb : ns.length + 1 < scanBound) : Takes1 P w S h0 items (fun i h => i ≤ ns.length → ∃ c, c ≤ i ∧ SetR w h S (fun j => decide (j ∈ ns.take i)) c) where
  fresh := fun h e _ _ => ⟨0, Nat.le_refl 0, setR_new_at e⟩
  keep := fun i h h' g ha _ hi => by
    obtain ⟨c, hc, R⟩ := g hi
    exact ⟨c, hc, R.at ha⟩
  step := fun A E i v s Q hu hv g _ hQ => by
    have hi : i < ns.length := by
      have := (Array.getElem?_eq_some_iff.mp hv).1
      rw [← Array.length_toList, hit.length] at this
      exact this
    obtain ⟨t, e⟩ := PyProof.Rows.IntsAre.int_at hit i v (by rw [Array.getElem?_toList]; exact hv)
    subst e
    obtain ⟨c, hc, R⟩ := g (Nat.le_of_lt hi)
    unfold setAdd
    refine wpAny_holding (wpAny_bind ((intKind P w).pyHash (k := ns.getD i 0) (intKind_is _ _ _ _) ?_))
    refine setR_add_hashed (s := { s with toks := s.toks + 1 }) R (by omega) fun h' but R' => ?_
    refine hQ _ h' 1 but fun _ => ⟨_, ?_, R'.congr fun j => ?_⟩
    · split <;> omega
    · have e : ns[i]? = some (ns.getD i 0) := by
        rw [List.getD_eq_getElem?_getD, List.getElem?_eq_getElem hi]
        rfl
      rw [List.take_add_one, e]
      simp [List.mem_append]
end
end Ad
/-! sets of texts: made of a list, counted, compared -/
namespace Ad
open PySem PySem.Calls PySem.W PySem.SeqAt PySem.Spec PyProof.Rows L2
open PySem.Sem (wp)

theorem once_snoc {α : Type} [DecidableEq α] (l : List α) (x : α) : (once (l ++ [x])).length = if x ∈ l then (once l).length else (once l).length + 1 := by
  by_cases h : x ∈ l
  · rw [if_pos h]
    refine ((List.perm_ext_iff_of_nodup (nodup_once _) (nodup_once _)).mpr fun y => ?_).length_eq
    rw [mem_once, mem_once, List.mem_append, List.mem_singleton]
    exact ⟨fun z => z.elim id fun e => e ▸ h, .inl⟩
  · rw [if_neg h]
    refine ((List.perm_ext_iff_of_nodup (nodup_once _) (l₂ := x :: once l) (List.nodup_cons.mpr ⟨fun z => h ((mem_once _ _).mp z), nodup_once _⟩)).mpr fun y => ?_).length_eq
    rw [mem_once, List.mem_cons, mem_once, List.mem_append, List.mem_singleton]
    exact Or.comm
/-- the set of some texts -/
abbrev TxAt (P : Program) (w : World) (h : Heap) (a : Addr) (xs : List Str) : Prop := h.SetOf (PySem.strKind P w) a (fun k => decide (k ∈ xs)) (once xs).length
section
variable {P : Program} {w : World} {A : Around} {E : Value → Shared → Prop} {s : Shared}
theorem setOf_frame {h h' : Heap} {a : Addr} {S : Str → Bool} {n : Nat} (R : h.SetOf (PySem.strKind P w) a S n) (k : ∀ o, h.get? a = some o → h'.get? a = some o) : h'.SetOf (PySem.strKind P w) a S n := by
  obtain ⟨o, es, ep, t, ho, r⟩ := R
  exact ⟨o, es, ep, t, k o ho, r⟩
theorem tx_new {h : Heap} {a : Addr} (e : h.get? a = some (newSet w)) : TxAt P w h a [] :=
  ⟨_, #[], 0, _, e, ⟨rfl, rfl, rfl⟩, rfl, (fun e he => by simp at he), (fun k => by simp), (by decide), (by rfl), rfl⟩
/-- texts taken in, one by one -/
theorem takes_texts {S : Addr} {h0 : Heap} {items : Array Value} {xs : List Str} (hit : Vals (xs.map V.str) items.toList) (hb : xs.length + 1 < scanBound) : Takes1 P w S h0 items (fun i h => TxAt P w h S (xs.take i)) where
  fresh := fun h e _ => tx_new e
  keep := fun i h h' R ha _ => setOf_frame R ha
  step := fun A E i v s Q hu hv R _ hQ => by
    have hl := hit.length
    rw [List.length_map] at hl
    have hi : i < xs.length := by
      have := (Array.getElem?_eq_some_iff.mp hv).1
      rw [← Array.length_toList, ← hl] at this
      exact this
    obtain ⟨t, rfl⟩ : ∃ t, v = .str xs[i] t := by
      have hv' : items.toList[i]? = some v := by rw [Array.getElem?_toList]; exact hv
      have key : ∀ {zs : List Str} {us : List Value} {i : Nat} (hi : i < zs.length), Vals (zs.map V.str) us → us[i]? = some v → ∃ t, v = .str zs[i] t := by
        intro zs
        induction zs with
        | nil => intro us i hi; exact absurd hi (Nat.not_lt_zero _)
        | cons z zs ih =>
          intro us i hi r e
          cases r with
          | cons r1 r2 =>
            cases i with
            | zero =>
              obtain ⟨t, rfl⟩ := r1
              cases e
              exact ⟨t, rfl⟩
            | succ i => exact ih (by simpa using hi) r2 (by simpa using e)
      exact key hi hit hv'
    unfold setAdd
    refine wpAny_holding (wpAny_bind ((PySem.strKind P w).pyHash (k := xs[i]) (by simp [PySem.strKind, Value.isStrOf]) ?_))
    have len1 : (once (xs.take i)).length ≤ i := by
      have := nodup_le (once (xs.take i)) (xs.take i) (nodup_once _) fun x hx => (mem_once _ _).mp hx
      rw [List.length_take] at this
      omega
    refine wpAny_setAddHashed_of (s := { s with toks := s.toks + 1 }) (k := xs[i]) (by simp [PySem.strKind, Value.isStrOf]) rfl R (by omega) fun h' but R' => ?_
    refine hQ _ h' 1 but ?_
    have e : xs.take (i + 1) = xs.take i ++ [xs[i]] := by
      rw [List.take_add_one, List.getElem?_eq_getElem hi]
      rfl
    show h'.SetOf (PySem.strKind P w) S (fun k => decide (k ∈ xs.take (i + 1))) (once (xs.take (i + 1))).length
    rw [e, once_snoc]
    have e2 : (fun k => decide (k ∈ xs.take i ++ [xs[i]])) = fun k => decide (k ∈ xs.take i) || decide (k = xs[i]) := by
      funext k
      rw [Bool.eq_iff_iff, Bool.or_eq_true, decide_eq_true_eq, decide_eq_true_eq, decide_eq_true_eq, List.mem_append, List.mem_singleton]
    rw [e2]
    by_cases hm : xs[i] ∈ xs.take i
    · rw [if_pos hm]
      rw [if_pos (decide_eq_true hm)] at R'
      exact R'
    · rw [if_neg hm]
      rw [if_neg (by rw [decide_eq_true_eq]; exact hm)] at R'
      exact R'
theorem subset_tx {id : String} {a b : Addr} {xs ys : List Str} {Q : Bool → Shared → Prop} (ha : TxAt P w s.heap a xs) (hb : TxAt P w s.heap b ys) (h : Q (decide ((once xs).length ≤ (once ys).length) && xs.all fun x => decide (x ∈ ys)) s) :
    wpAny (model P w) A (Builtin.Frozenset.subsetOf id a b) Q E s := by
  obtain ⟨oa, ea, pa, ta, ga, xa, da, la, ma, za, fa, na⟩ := ha
  have hb' := hb
  obtain ⟨ob, eb, pb, tb, gb, xb, db, lb, mb, zb, fb, nb⟩ := hb'
  have quiet : ∀ e, e ∈ ea.toList ++ eb.toList → ∃ x t, e.2 = Value.str x t := fun e he => by
    have : ∀ l : List (Int × Value), ElemsOf (PySem.strKind P w) l → e ∈ l → ∃ x t, e.2 = Value.str x t := fun l hl hm => by
      obtain ⟨⟨k, hk, _⟩, _⟩ := hl e hm
      obtain ⟨t, q⟩ := Value.isStrOf_shape hk
      exact ⟨k, t, q⟩
    rcases List.mem_append.mp he with z | z
    · exact this _ la z
    · exact this _ lb z
  unfold Builtin.Frozenset.subsetOf Builtin.Frozenset.sizeOf setEntries
  refine wpAny_bind (wpAny_bind (wpAny_bind (wpAny_setState_of ga da fa (wpAny_pure ?_))))
  refine wpAny_pure (wpAny_bind (wpAny_bind (wpAny_bind (wpAny_setState_of gb db fb (wpAny_pure ?_)))))
  refine wpAny_pure ?_
  dsimp only
  rw [na, nb]
  by_cases hn : (once xs).length > (once ys).length
  · rw [if_pos hn]
    rw [decide_eq_false (by omega), Bool.false_and] at h
    exact wpAny_pure h
  · rw [if_neg hn]
    rw [decide_eq_true (by omega), Bool.true_and] at h
    refine wpAny_bind (wpAny_setEpoch_of ga da fa ?_)
    unfold Builtin.Frozenset.walkUnseen setEntries
    refine wpAny_bind (wpAny_bind (wpAny_bind (wpAny_setState_of ga da fa (wpAny_pure ?_))))
    refine wpAny_bind (wpAny_bind (wpAny_setState_of gb db fb (wpAny_pure ?_)))
    dsimp only
    refine wpAny_bind (wpAny_forIn_list _ (fun left got now => now = s ∧ got.1 = none ∧ ∀ e, e ∈ left → ∃ x t, e.2 = Value.str x t) _ ?_ ?_ _ _ ⟨rfl, rfl, quiet⟩)
    · rintro e left got now ⟨rfl, g, more⟩
      obtain ⟨x, t, ex⟩ := more e List.mem_cons_self
      obtain ⟨h0, v⟩ := e
      dsimp only at ex
      subst ex
      unfold Builtin.Frozenset.quietEq
      refine wpAny_bind (wpAny_pure ?_)
      simp only [Bool.not_true, Bool.false_eq_true, if_false]
      exact wpAny_pure ⟨rfl, rfl, fun z hz => more z (List.mem_cons_of_mem _ hz)⟩
    · rintro ⟨g1, g2⟩ now ⟨rfl, g, _⟩
      simp only at g
      subst g
      refine wpAny_pure ?_
      refine wpAny_bind (wpAny_mono (wpAny_forIn_list _ (fun left (got : Option Bool × PUnit) (u : Shared) => u = now ∧ got.1 = none ∧ (∀ e, e ∈ left → e ∈ ea.toList) ∧ ∀ k, k ∈ xs → (k ∈ ys ∨ ∃ e, e ∈ left ∧ (PySem.strKind P w).is k e.2 = true)) (fun got u => u = now ∧ ((got.1 = some false ∧ ¬ ∀ k, k ∈ xs → k ∈ ys) ∨ (got.1 = none ∧ ∀ k, k ∈ xs → k ∈ ys))) ?_ ?_ ea.toList (none, ()) ⟨rfl, rfl, fun e he => he, fun k hk => .inr ((ma k).mp (decide_eq_true hk))⟩) (fun got u hg => ?_) fun _ _ e => e)
      · rintro e left got u ⟨rfl, g, sub, more⟩
        obtain ⟨⟨k, hk, ek⟩, sc⟩ := la e (sub e List.mem_cons_self)
        obtain ⟨h0, v⟩ := e
        dsimp only at hk ek sc
        subst ek
        dsimp only
        have find : ∀ {T : Option Nat → Shared → Prop}, (∀ r : Option Nat, r.isSome = decide (k ∈ ys) → T r u) → wpAny (model P w) A (setFind b v ((PySem.strKind P w).hash k)) T E u := fun hT => wpAny_setFind_of (knd := PySem.strKind P w) hk sc hb hT
        generalize (PySem.strKind P w).hash k = h0 at find
        refine wpAny_bind (wpAny_holding (find fun r hr => ?_))
        have kx : k ∈ xs := of_decide_eq_true ((ma k).mpr ⟨_, sub _ List.mem_cons_self, hk⟩)
        cases r with
        | none =>
          simp only [Option.isNone_none, if_true]
          refine wpAny_pure ⟨rfl, .inl ⟨rfl, fun all => ?_⟩⟩
          have := all k kx
          rw [Option.isSome_none] at hr
          exact absurd (decide_eq_true this) (by rw [← hr]; exact Bool.false_ne_true)
        | some i =>
          simp only [Option.isNone_some, Bool.false_eq_true, if_false]
          unfold Builtin.Frozenset.unchanged
          refine wpAny_bind (wpAny_bind (wpAny_setEpoch_of ga da fa ?_))
          rw [if_neg (by simp)]
          refine wpAny_pure (wpAny_pure ⟨rfl, rfl, fun z hz => sub z (List.mem_cons_of_mem _ hz), fun k' hk' => ?_⟩)
          rcases more k' hk' with z | ⟨e, he, ie⟩
          · exact .inl z
          · rcases List.mem_cons.mp he with rfl | he
            · refine .inl ?_
              have ek : k' = k := (PySem.strKind P w).inj _ _ _ ie hk
              subst ek
              rw [Option.isSome_some] at hr
              exact of_decide_eq_true hr.symm
            · exact .inr ⟨e, he, ie⟩
      · rintro got u ⟨rfl, g, _, more⟩
        exact ⟨rfl, .inr ⟨g, fun k hk => (more k hk).elim (fun z => z) fun ⟨e, he, _⟩ => absurd he List.not_mem_nil⟩⟩
      · obtain ⟨rfl, q⟩ := hg
        obtain ⟨g1, g2⟩ := got
        rcases q with ⟨q, n⟩ | ⟨q, n⟩
        · dsimp only at q
          subst q
          have : (xs.all fun x => decide (x ∈ ys)) = false := by
            rw [← Bool.not_eq_true, List.all_eq_true]
            intro z
            exact n fun k hk => of_decide_eq_true (z k hk)
          rw [this] at h
          exact wpAny_pure h
        · dsimp only at q
          subst q
          have : (xs.all fun x => decide (x ∈ ys)) = true := List.all_eq_true.mpr fun k hk => decide_eq_true (n k hk)
          rw [this] at h
          exact wpAny_pure h
theorem entry_set_ne' : entryFor table "set.__ne__" = some Builtin.«frozenset.__ne__» :=
  entryFor_alias (id' := "frozenset.__ne__") (by kernel_rfl) rfl (by decide +kernel) (by kernel_rfl)
theorem sub_setfrozen : isSubtype (.type "set") (.type "frozenset") = pure false := by rw [isSubtype_type]; kernel_rfl
theorem sub_setset : isSubtype (.type "set") (.type "set") = pure true := by rw [isSubtype_type]; kernel_rfl
theorem same_iff {xs ys : List Str} : sameS xs ys = (decide ((once xs).length = (once ys).length) && xs.all fun x => decide (x ∈ ys)) := by
  unfold sameS
  rw [Bool.eq_iff_iff, Bool.and_eq_true, Bool.and_eq_true, List.all_eq_true, List.all_eq_true, decide_eq_true_eq]
  constructor
  · rintro ⟨h1, h2⟩
    refine ⟨?_, h1⟩
    exact ((List.perm_ext_iff_of_nodup (nodup_once _) (nodup_once _)).mpr fun z => by
      rw [mem_once, mem_once]
      exact ⟨fun h => of_decide_eq_true (h1 z h), fun h => of_decide_eq_true (h2 z h)⟩).length_eq
  · rintro ⟨h1, h2⟩
    refine ⟨h2, fun y hy => decide_eq_true ?_⟩
    apply Decidable.byContradiction
    intro hn
    have := nodup_le (y :: once xs) (once ys) (List.nodup_cons.mpr ⟨fun z => hn ((mem_once _ _).mp z), nodup_once _⟩) fun z hz => by
      rcases List.mem_cons.mp hz with rfl | hz
      · exact (mem_once _ _).mpr hy
      · exact (mem_once _ _).mpr (of_decide_eq_true (h2 z ((mem_once _ _).mp hz)))
    rw [List.length_cons] at this
    omega
theorem ne_tx {a b : Addr} {xs ys : List Str} {Q : Value → Shared → Prop} (ha : TxAt P w s.heap a xs) (hb : TxAt P w s.heap b ys) (hu : A.units < cLine) (h : Q (.bool (!sameS xs ys)) s) : wpAny (model P w) A (compareOp .NotEq (.ref a) (.ref b)) Q E s := by
  show wpAny _ _ (richCompare .NotEq (.ref a) (.ref b)) _ _ _
  refine wpAny_richCompare_same_room ha.typeIs hb.typeIs PySem.F.slot_set_ne ?_ hu
  refine wpAny_call_entry PySem.F.slot_set_ne ha.typeIs entry_set_ne' ?_ (PySem.F.args_set_ne_2 _ _)
  obtain ⟨oa, ea, pa, ta, ga, xa, da, la, ma, za, fa, na⟩ := id ha
  obtain ⟨ob, eb, pb, tb, gb, xb, db, lb, mb, zb, fb, nb⟩ := id hb
  have f1 := sub_setset
  have f2 := sub_setfrozen
  have t1 := ha.typeIs
  have t2 := hb.typeIs
  unfold Builtin.«frozenset.__ne__»
  wp_walk using wpAny_setState_of ga da fa, wpAny_setState_of gb db fb
  dsimp only
  rw [na, nb]
  rw [same_iff] at h
  by_cases hl : (once xs).length = (once ys).length
  · rw [if_neg (by rw [hl]; simp)]
    rw [decide_eq_true hl, Bool.true_and] at h
    refine wpAny_bind (wpAny_bind (wpAny_isInstance t1 f2 (wpAny_pure ?_)))
    rw [if_neg (by exact Bool.false_ne_true)]
    refine subset_tx ha hb ?_
    rw [decide_eq_true (by omega), Bool.true_and]
    exact wpAny_pure ⟨_, rfl, nofun, h⟩
  · rw [if_pos (by simpa using hl)]
    rw [decide_eq_false hl, Bool.false_and] at h
    exact wpAny_pure (wpAny_pure ⟨_, rfl, nofun, h⟩)
/-- len(set(..)) -/
theorem len_tx {a : Addr} {xs : List Str} {Q : Value → Shared → Prop} (ha : TxAt P w s.heap a xs) (h : ∀ t k, Q (.int (once xs).length t) { s with toks := k }) : wpAny (model P w) A (call (.builtin "len") [.ref a]) Q E s := by
  obtain ⟨oa, ea, pa, ta, ga, xa, da, la, ma, za, fa, na⟩ := ha
  refine call_len_set ga xa da fa (by unfold scanBound at za; omega) ?_
  rw [na]
  exact h _ _
end
/-! over the layer -/
/-- the set of texts at a -/
def TxO (P : Program) (w : World) (a : Addr) (xs : List Str) : HO := .ext fun h => TxAt P w h a xs
theorem txO_new {w : World} {P : Program} {H : Hp} {h : Heap} {a : Addr} {xs : List Str} (R : TxAt P w h a xs) : ObjOk P w H h a (TxO P w a xs) := by
  have ⟨o, _, _, _, ho, _⟩ := R
  exact ⟨R, ⟨o, ho⟩, fun h1 h2 p k => setOf_frame p k⟩
section
variable {X : Cx}
theorem txO_get {pins : List (Addr × Obj)} {σ : L2.St} {H : Hp} {s : Shared} {a : Addr} {xs : List Str} (I : Inv X pins σ H s) (ha : H a = some (TxO X.prog X.w a xs)) : TxAt X.prog X.w s.heap a xs := (I.hok a _ ha).1
/-- set(x) -/
def rSetTx (K : PySem.W.Frag) (P : Program) (w : World) : List V → Hp → VK → Prop := fun vs H Q => ∃ (a : Addr) (xs : List Str), vs = [.ref a] ∧ (SqL K H a (xs.map V.str) ∨ SqT K H a (xs.map V.str)) ∧ xs.length < 4000 ∧ ∀ p, H p = none → Q (.ref p) (upd H p (TxO P w p xs))
theorem cr_setTx (hc : X.calm = true) (hu : X.A.units + 66 < cLine) : CallR X (.type "set") (rSetTx X.K X.prog X.w) := by
  intro pins s σ H vs us Q I r h
  obtain ⟨a, xs, rfl, hs, hl, q⟩ := h
  rw [Vals.ref1 r]
  have hh := I.ok.hd hc
  have fin : ∀ (h' : Heap) (tk : Nat), TxAt X.prog X.w h' s.heap.objs.size xs → (∀ b o, s.heap.get? b = some o → h'.get? b = some o) → EP X pins σ Q (.ref s.heap.objs.size) { s with heap := h', toks := tk } := fun h' tk R k =>
    ⟨.ref _, _, I.laid (t' := tk) (o := TxO X.prog X.w s.heap.objs.size xs) k (Nat.le_refl _) (txO_new R), rfl, q _ (I.hok.fresh (Nat.le_refl _))⟩
  have sz : xs.length + 1 < scanBound := by unfold scanBound; omega
  have full : ∀ its : List Value, Vals (xs.map V.str) its → its.toArray.size = xs.length := fun its rv => by
    rw [List.size_toArray, ← rv.length, List.length_map]
  rcases hs with hs | hs
  · obtain ⟨its, rv, hl, _⟩ := I.list hs
    refine make_setL hh hl.isList (takes_texts (by simpa using rv) sz) (by omega) fun h' tk R k => fin h' tk ?_ k
    rw [full its rv, List.take_of_length_le (Nat.le_refl _)] at R
    exact R
  · obtain ⟨its, rv, hl, _⟩ := I.tuple hs
    refine make_setT hh hl (takes_texts (by simpa using rv) sz) (by omega) fun h' tk R k => fin h' tk ?_ k
    rw [full its rv, List.take_of_length_le (Nat.le_refl _)] at R
    exact R
def rLenTx (P : Program) (w : World) : List V → Hp → VK → Prop := fun vs H Q => ∃ (a : Addr) (xs : List Str), vs = [.ref a] ∧ H a = some (TxO P w a xs) ∧ Q (.int (once xs).length) H
theorem cr_lenTx : CallR X (.builtin "len") (rLenTx X.prog X.w) := by
  intro pins s σ H vs us Q I r h
  obtain ⟨a, xs, rfl, ha, q⟩ := h
  rw [Vals.ref1 r]
  exact len_tx (txO_get I ha) fun t k => ⟨.int _, H, I.tok _, ⟨_, rfl⟩, q⟩
def rNeTx (P : Program) (w : World) : R2 := fun x y H Q => ∃ (a b : Addr) (xs ys : List Str), x = .ref a ∧ y = .ref b ∧ H a = some (TxO P w a xs) ∧ H b = some (TxO P w b ys) ∧ Q (.bl (!sameS xs ys)) H
theorem or_neTx (hu : X.A.units + 66 < cLine) : OpR X (compareOp .NotEq) (rNeTx X.prog X.w) := by
  intro pins s σ H x y v u Q I rx ry h
  obtain ⟨a, b, xs, ys, rfl, rfl, ha, hb, q⟩ := h
  cases rx
  cases ry
  exact ne_tx (txO_get I ha) (txO_get I hb) (by omega) ⟨.bl _, H, I, rfl, q⟩
end
end Ad
namespace Ad
open PySem PySem.Calls PySem.W PySem.SeqAt PySem.Spec PyProof.Rows L2

section
variable {P : Program} {w : World} {A : Around} {E : Value → Shared → Prop} {s : Shared}
theorem SetG.vals {h : Heap} {a : Addr} {L : List AK} {es : Array (Int × Value)} {ep : Nat} {t : SetTable} (R : SetG P w h a L es ep t) : SetV w h a (L.map fun p => Value.ref p.1) := by
  obtain ⟨o, ho, ex, hd⟩ := R.obj
  have space := R.space
  have small := R.tb.msk.small
  have el := es_len R.row
  refine ⟨o, es, ep, t, ho, ex, hd, ?_, tab_fits R.tb (by rw [List.length_map]; exact el) (by rw [List.length_map]; omega), ?_, R.tb.up, R.ld⟩
  · rw [R.row]
    unfold L2.rowsOf
    rw [List.map_map]
    rfl
  · unfold scanBound
    omega
theorem good_vals : ∀ {l : List (Int × Value)}, (∀ e, e ∈ l → GoodE e) → Vals ((l.map keyOf).map V.int) (l.map (·.2))
  | [], _ => .nil
  | e :: l, h => by
    obtain ⟨k, tk, e1, _⟩ := h e List.mem_cons_self
    refine .cons ?_ (good_vals fun x hx => h x (List.mem_cons_of_mem _ hx))
    have : keyOf e = k := by
      unfold keyOf
      rw [e1]
    show RelV (V.int (keyOf e)) e.2
    rw [this, e1]
    exact ⟨tk, rfl⟩
theorem setR_vals {h : Heap} {a : Addr} {S : Int → Bool} {n : Nat} (R : SetR w h a S n) : ∃ (ms : List Int) (us : List Value), SetV w h a us ∧ Vals (ms.map V.int) us ∧ ms.Nodup ∧ ∀ k, S k = true ↔ k ∈ ms := by
  obtain ⟨o, es, ep, t, ho, ex, hd, g, nd, hm, hb, hf, hn, hr, hl⟩ := R
  exact ⟨es.toList.map keyOf, es.toList.map (·.2), ⟨o, es, ep, t, ho, ex, hd, rfl, hf, hb, hr, hl⟩, good_vals g, nd, hm⟩
/-- sorted(a set) -/
theorem sorted_setV {a : Addr} {us : List Value} {Q : Value → Shared → Prop} (hv : SetV w s.heap a us) (hh : A.handled = none)
    (go : ∀ (s1 : Shared) (vs : List Value), (∀ b o, s.heap.get? b = some o → s1.heap.get? b = some o) → s.heap.objs.size ≤ s1.heap.objs.size → s1.gens = s.gens → s1.os = s.os → vs.Perm us → ∃ κ, SortsAt P w A.in1.in1 { s1 with heap := sortingHeap (s1.heap.push (seqObj "list" vs.toArray 0)) s1.heap.objs.size vs } κ vs ∧
      Q (.ref s1.heap.objs.size) { s1 with heap := sortedHeap (s1.heap.push (seqObj "list" vs.toArray 0)) s1.heap.objs.size vs (sortVals κ false vs vs).toArray }) :
    wpAny (model P w) A (call (.builtin "sorted") [.ref a]) Q E s := by
  obtain ⟨o, es, ep, t, ho, ex, hd, eu, hf, hb, hr, hl⟩ := hv
  refine call_function_entry_kw kind_sorted plain_sorted entry_sorted (args_sorted1 _) ?_
  unfold Builtin.«sorted»
  refine wpAny_bind (m := checkCount "sorted" 1 1 _) (wpAny_pure ?_)
  refine wpAny_bind (collect_set (A := A.in1) hh ⟨o, ho, ex.1, hd⟩ hf hb hr hl fun s1 vs k1 hz g1 o1 pm => ?_)
  rw [eu] at pm
  obtain ⟨κ, S, q⟩ := go s1 vs k1 hz g1 o1 pm
  have ul : vs.length ≤ sizeLine := by
    have e := pm.length_eq
    rw [← eu, List.length_map] at e
    have e2 : es.toList.length = es.size := Array.length_toList
    rw [e, sizeLine_eq]
    unfold scanBound at hb
    omega
  refine wpAny_bind (wpAny_newList ?_ ul)
  have at_ : (s1.heap.push (seqObj "list" vs.toArray 0)).get? s1.heap.objs.size = some (seqObj "list" vs.toArray 0) := Heap.get?_push_size _ rfl
  refine wpAny_bind (wpAny_holding (wpAny_call_entry_kw slot_list_sort ⟨_, at_, rfl⟩ entry_list_sort ?body (args_list_sort _)))
  case body =>
    show wpAny (model P w) A.in1.in1 (Builtin.«list.sort» ⟨[.ref s1.heap.objs.size], []⟩) _ _ _
    refine wpAny_mono (list_sort_vals (s := { s1 with heap := s1.heap.push (seqObj "list" vs.toArray 0) }) (P := fun f s' => f = .done (.ret .none) ∧ Q (.ref s1.heap.objs.size) s') at_ S ul ⟨rfl, q⟩) (fun f s' hf => ?_) fun _ _ e => e
    obtain ⟨rfl, hq⟩ := hf
    exact ⟨_, rfl, wpAny_pure ⟨_, rfl, hq⟩⟩
end
/-- values and what they stand for, in another order -/
theorem perm_align {K : PySem.W.Frag} {W : Wd} {N : Addr → Prop} {H : Hp} {us out : List Value} (p : us.Perm out) : ∀ {ws : List V} {cs : List D}, Vals ws us → RepL K W N H ws cs → ∃ ws' cs', Vals ws' out ∧ RepL K W N H ws' cs' ∧ cs'.Perm cs := by
  induction p with
  | nil => exact fun v l => ⟨_, _, v, l, List.Perm.refl _⟩
  | cons x _ ih =>
    intro ws cs v l
    cases v with
    | cons v1 v2 =>
      cases l with
      | cons l1 l2 =>
        obtain ⟨ws', cs', a, b, c⟩ := ih v2 l2
        exact ⟨_, _, .cons v1 a, .cons l1 b, c.cons _⟩
  | swap x y _ =>
    intro ws cs v l
    cases v with
    | cons v1 v2 =>
      cases v2 with
      | cons v2 v3 =>
        cases l with
        | cons l1 l2 =>
          cases l2 with
          | cons l2 l3 => exact ⟨_, _, .cons v2 (.cons v1 v3), .cons l2 (.cons l1 l3), List.Perm.swap _ _ _⟩
  | trans _ _ ih1 ih2 =>
    intro ws cs v l
    obtain ⟨ws1, cs1, a, b, c⟩ := ih1 v l
    obtain ⟨ws2, cs2, a', b', c'⟩ := ih2 a b
    exact ⟨ws2, cs2, a', b', c'.trans c⟩
theorem sortable_sub {xs ys : List D} (h : sortable xs) (s : ∀ x, x ∈ ys → x ∈ xs) : sortable ys :=
  ⟨fun d hd e he => h.1 d (s d hd) e (s e he), fun d hd => h.2.1 d (s d hd), h.2.2.imp (fun g d hd => g d (s d hd)) fun g d hd => g d (s d hd)⟩
theorem once_sub : ∀ {xs : List D} {x : D}, x ∈ onceD xs → x ∈ xs
  | y :: ys, x, h => by
    rcases List.mem_cons.mp h with rfl | h
    · exact List.mem_cons_self
    · exact List.mem_cons_of_mem _ (once_sub (List.mem_filter.mp h).1)
theorem perm_once {α : Type} [DecidableEq α] {l m : List α} (hn : l.Nodup) (h : ∀ x, x ∈ l ↔ x ∈ m) : l.Perm (once m) := (List.perm_ext_iff_of_nodup hn (nodup_once m)).mpr fun x => (h x).trans (mem_once m x).symm
section
variable {X : Cx}
/-- set(d), d a list or a tuple -/
theorem set_made {pins : List (Addr × Obj)} {σ : L2.St} {H : Hp} {s : Shared} (hc : X.calm = true) (hu : X.A.units + 66 < cLine) (I : Inv X pins σ H s) {W : Wd} {N : Addr → Prop} {a : Addr} {vs : List V} {ds : List D} {d : D} (l : RepL X.K W N H vs ds) (hx : (d = .list ds ∧ SqL X.K H a vs) ∨ (d = .tuple ds ∧ SqT X.K H a vs)) (ok : setOk ds) {Q : Value → Shared → Prop} {E : Value → Shared → Prop}
    (fin : ∀ p h' tk us ws cs, p = s.heap.objs.size → (∀ b o, s.heap.get? b = some o → h'.get? b = some o) → SetV X.w h' p us → Vals ws us → RepL X.K W N H ws cs → cs.Perm (onceD ds) → Q (.ref p) { s with heap := h', toks := tk }) :
    wpAny (model X.prog X.w) X.A (call (.type "set") [.ref a]) Q E s := by
  have hh := I.ok.hd hc
  have go : ∀ its : List Value, Vals vs its → ∃ In, Takes1 X.prog X.w s.heap.objs.size s.heap its.toArray In ∧ ∀ h' tk, In its.toArray.size h' → (∀ b o, s.heap.get? b = some o → h'.get? b = some o) → Q (.ref s.heap.objs.size) { s with heap := h', toks := tk } := fun its rv => by
    rcases ok with ⟨ok, len⟩ | ⟨ok, few⟩
    · obtain ⟨ns, e⟩ : ∃ ns : List Int, ds = ns.map .int := by
        clear fin l hx len rv
        induction ds with
        | nil => exact ⟨[], rfl⟩
        | cons d ds ih =>
          obtain ⟨i, rfl⟩ := ok d List.mem_cons_self
          obtain ⟨ns, e⟩ := ih fun x hx => ok x (List.mem_cons_of_mem _ hx)
          exact ⟨i :: ns, by rw [e]; rfl⟩
      subst e
      rw [ints_rep l] at rv
      have ia : IntsAre its.toArray.toList ns := by simpa using rv.ints
      have nl : its.length = ns.length := by
        have := ia.length
        simpa using this
      rw [List.length_map] at len
      refine ⟨_, takes_ints ia (by unfold scanBound; omega), fun h' tk g k => ?_⟩
      obtain ⟨c, _, R⟩ := g (by rw [List.size_toArray, nl]; exact Nat.le_refl _)
      obtain ⟨ms, us, sv, v, nd, hm⟩ := setR_vals R
      refine fin _ h' tk us _ (ms.map .int) rfl k sv v (rep_ints ms) ?_
      rw [once_enc (enc := PyData.int) eqv_int]
      refine (perm_once nd fun x => ?_).map _
      rw [← hm, List.size_toArray, nl, List.take_length]
      exact decide_eq_true_iff
    · obtain ⟨ks, e1, e2, hk⟩ := keys_of l ok
      subst e1 e2
      have ei : its.toArray.toList = ks.map fun p => Value.ref p.1 := by simpa using refs_of_vals rv
      have nl : its.length = ks.length := by
        have := congrArg List.length ei
        rw [List.length_map] at this
        simpa using this
      have oe : onceD (ks.map fun p => tupD p.2) = (once (ks.map (·.2))).map tupD := by
        rw [← once_enc eqv_tup, List.map_map]
        rfl
      rw [oe, List.length_map] at few
      refine ⟨_, takes_keys (ks := ks) ei (fun p hp => I.isT (hk p hp).1) few, fun h' tk ⟨L, es, ep, t, R, g⟩ k => ?_⟩
      have sub : ∀ p, p ∈ L → p ∈ ks := fun p hp => List.mem_of_mem_take (g.sub p hp)
      refine fin _ h' tk _ (L.map fun p => V.ref p.1) (L.map fun p => tupD p.2) rfl k R.vals (vals_of_refs L) (rep_keys fun p hp => (hk p (sub p hp)).2) ?_
      rw [oe, show (L.map fun p => tupD p.2) = (L.map (·.2)).map tupD by rw [List.map_map]; rfl]
      refine (perm_once R.one fun x => ⟨fun h => ?_, fun h => ?_⟩).map _
      · obtain ⟨p, hp, rfl⟩ := List.mem_map.mp h
        exact List.mem_map.mpr ⟨p, sub p hp, rfl⟩
      · obtain ⟨p, hp, rfl⟩ := List.mem_map.mp h
        exact g.all p (by rw [List.size_toArray, nl, List.take_length]; exact hp)
  rcases hx with ⟨_, hx⟩ | ⟨_, hx⟩
  · obtain ⟨its, rv, hl, _⟩ := I.list hx
    obtain ⟨In, T, f⟩ := go its rv
    exact make_setL hh hl.isList T (by omega) f
  · obtain ⟨its, rv, hl, _⟩ := I.tuple hx
    obtain ⟨In, T, f⟩ := go its rv
    exact make_setT hh hl T (by omega) f
end
end Ad
namespace Ad
namespace Sn
open PySem PySem.Calls PySem.W PySem.SeqAt PySem.Spec PyProof.Rows L2
open PySem PySem.Spec PyProof.Rows L2

/-! ### keys: tuples of tuples of ints -/
abbrev AN := Addr × NestedKey
def IsN (P : Program) (w : World) (h : Heap) (k : NestedKey) (a : Addr) : Prop := (nestedKind P w).is h k a ∧ nums k = true
abbrev nhash (P : Program) (w : World) (k : NestedKey) : Int := (nestedKind P w).hash k
def rowsN (P : Program) (w : World) (L : List AN) : List (Int × Value) := L.map fun p => (nhash P w p.2, Value.ref p.1)
theorem rowsN_put {P : Program} {w : World} (L : List AN) (p : Nat) (x : Addr) (k : NestedKey) : rowsN P w (L.take p ++ (x, k) :: L.drop p) = (rowsN P w L).take p ++ (nhash P w k, Value.ref x) :: (rowsN P w L).drop p := by
  unfold rowsN
  rw [List.map_append, List.map_cons, List.map_take, List.map_drop]
theorem isN_keep {P : Program} {w : World} {h h' : Heap} {k : NestedKey} {b : Addr} (x : IsN P w h k b) (hk : ∀ c o, h.get? c = some o → h'.get? c = some o) : IsN P w h' k b := ⟨nestedKind_stays.stays (fun c o _ _ e _ => hk c o e) x.1, x.2⟩
theorem isN_same {P : Program} {w : World} {h h' : Heap} {k : NestedKey} {a b : Addr} {o : Obj} {es : Array (Int × Value)} {ep : Nat} {t : SetTable} (hb : IsN P w h k b) (ho : h.get? a = some o) (hd : o.data = .set es ep t) (hs : Heap.SameBut a h h') : IsN P w h' k b := ⟨nestedKind_stays.stays (fun c oc vs n e ec => by
  refine (hs.2 c fun z => ?_).trans e
  subst z
  rw [ho] at e
  cases e
  rw [hd] at ec
  cases ec) hb.1, hb.2⟩
section
variable {P : Program} {w : World} {A : Around} {E : Value → Shared → Prop} {s : Shared}
mutual
theorem hashBy_nest : ∀ (k : NestedKey) (n : Nat) (v : Value), nums k = true → k.depth ≤ n → NestedIs s.heap k v → ∀ (T : Bool → Shared → Prop), T true s → wpAny (model P w) A (hashByValue n v) T E s
  | .none, _, _, h, _, _ => nomatch h
  | .text _, _, _, h, _, _ => nomatch h
  | .num i, n, v, _, _, hk => fun T h => by
    cases hk <;> cases n <;> exact wpAny_pure h
  | .tup ks, 0, v, _, hd, _ => absurd hd (by simp [NestedKey.depth])
  | .tup ks, n + 1, v, hn, hd, hk => fun T h => by
    cases hk with
    | @tup b o vs m _ ho hc hv ha =>
      have ty : s.TypeIs (.ref b) "tuple" := ⟨_, ho, hc⟩
      have each := hashBy_each ks n vs.toList (by simpa [nums] using hn) (by simpa [NestedKey.depth] using hd) ha
      unfold hashByValue
      refine wpAny_bind (wpAny_specialOf ty F.slot_tuple_hash.lookup ?_)
      show wpAny _ _ (seqItems? (.ref b) >>= _) _ _ s
      refine wpAny_bind (wpAny_seqItems ho hv (wpAny_bind ?_))
      show wpAny _ _ (forIn vs _ _) _ _ s
      rw [← Array.forIn_toList]
      refine wpAny_forIn_list _ (fun left got now => now = s ∧ got.1 = none ∧ ∀ u, u ∈ left → ∀ (T : Bool → Shared → Prop), T true s → wpAny (model P w) A (hashByValue n u) T E s) _ ?_ ?_ _ _ ⟨rfl, rfl, each⟩
      · rintro u left got now ⟨rfl, g, more⟩
        refine wpAny_bind (more u List.mem_cons_self _ ?_)
        simp only [Bool.not_true, Bool.false_eq_true, if_false]
        exact wpAny_pure ⟨rfl, rfl, fun z hz => more z (List.mem_cons_of_mem _ hz)⟩
      · rintro ⟨g1, g2⟩ now ⟨rfl, g, _⟩
        simp only at g
        subst g
        exact wpAny_pure h
theorem hashBy_each : ∀ (ks : List NestedKey) (n : Nat) (vs : List Value), numsAll ks = true → NestedKey.depthAll ks ≤ n → NestedAll s.heap ks vs → ∀ v, v ∈ vs → ∀ (T : Bool → Shared → Prop), T true s → wpAny (model P w) A (hashByValue n v) T E s
  | [], _, _, _, _, hk => fun v hv => by
    cases hk
    cases hv
  | k :: ks, n, vs, hn, hd, hk => fun v hv => by
    cases hk with
    | cons h1 h2 =>
      simp only [numsAll, Bool.and_eq_true] at hn
      have hd : max k.depth (NestedKey.depthAll ks) ≤ n := hd
      rcases List.mem_cons.mp hv with rfl | hv
      · exact hashBy_nest k n _ hn.1 (by omega) h1
      · exact hashBy_each ks n _ hn.2 (by omega) h2 v hv
end
mutual
theorem ofA_nest : ∀ (k : NestedKey) (n : Nat) (v : Value), nums k = true → k.depth ≤ n → NestedIs s.heap k v → ∀ (T : Bool → Shared → Prop), T false s → wpAny (model P w) A (ofAClassStatement n v) T E s
  | .none, _, _, h, _, _ => nomatch h
  | .text _, _, _, h, _, _ => nomatch h
  | .num i, n, v, _, _, hk => fun T h => by
    cases hk <;> cases n <;> exact wpAny_pure h
  | .tup ks, 0, v, _, hd, _ => absurd hd (by simp [NestedKey.depth])
  | .tup ks, n + 1, v, hn, hd, hk => fun T h => by
    cases hk with
    | @tup b o vs m _ ho hc hv ha =>
      have ty : s.TypeIs (.ref b) "tuple" := ⟨_, ho, hc⟩
      have each := ofA_each ks n vs.toList (by simpa [nums] using hn) (by simpa [NestedKey.depth] using hd) ha
      unfold ofAClassStatement
      refine wpAny_bind (wpAny_typeOf ty ?_)
      dsimp only
      simp only [show (("tuple" : String) == "tuple") = true by decide, if_true, Bool.not_true, Bool.false_eq_true, if_false]
      try refine wpAny_bind (wpAny_pure ?_)
      try simp only [Bool.not_true, Bool.false_eq_true, if_false]
      show wpAny _ _ (seqItems? (.ref b) >>= _) _ _ s
      refine wpAny_bind (wpAny_seqItems ho hv ?_)
      dsimp only
      refine wpAny_bind ?_
      show wpAny _ _ (forIn vs _ _) _ _ s
      rw [← Array.forIn_toList]
      refine wpAny_forIn_list _ (fun left got now => now = s ∧ got.1 = none ∧ ∀ u, u ∈ left → ∀ (T : Bool → Shared → Prop), T false s → wpAny (model P w) A (ofAClassStatement n u) T E s) _ ?_ ?_ _ _ ⟨rfl, rfl, each⟩
      · rintro u left got now ⟨rfl, g, more⟩
        refine wpAny_bind (more u List.mem_cons_self _ ?_)
        simp only [Bool.not_true, Bool.false_eq_true, if_false]
        exact wpAny_pure ⟨rfl, rfl, fun z hz => more z (List.mem_cons_of_mem _ hz)⟩
      · rintro ⟨g1, g2⟩ now ⟨rfl, g, _⟩
        simp only at g
        subst g
        exact wpAny_pure h
theorem ofA_each : ∀ (ks : List NestedKey) (n : Nat) (vs : List Value), numsAll ks = true → NestedKey.depthAll ks ≤ n → NestedAll s.heap ks vs → ∀ v, v ∈ vs → ∀ (T : Bool → Shared → Prop), T false s → wpAny (model P w) A (ofAClassStatement n v) T E s
  | [], _, _, _, _, hk => fun v hv => by
    cases hk
    cases hv
  | k :: ks, n, vs, hn, hd, hk => fun v hv => by
    cases hk with
    | cons h1 h2 =>
      simp only [numsAll, Bool.and_eq_true] at hn
      have hd : max k.depth (NestedKey.depthAll ks) ≤ n := hd
      rcases List.mem_cons.mp hv with rfl | hv
      · exact ofA_nest k n _ hn.1 (by omega) h1
      · exact ofA_each ks n _ hn.2 (by omega) h2 v hv
end
theorem hashBy_nestT {k : NestedKey} {b : Addr} {Q : Bool → Shared → Prop} (hk : IsN P w s.heap k b) (h : Q true s) : wpAny (model P w) A (hashByValue 8 (.ref b)) Q E s := hashBy_nest k 8 _ hk.2 hk.1.2 hk.1.1 Q h
theorem ofA_nestT {k : NestedKey} {b : Addr} {Q : Bool → Shared → Prop} (hk : IsN P w s.heap k b) (h : Q false s) : wpAny (model P w) A (ofAClassStatement 8 (.ref b)) Q E s := ofA_nest k 8 _ hk.2 hk.1.2 hk.1.1 Q h
theorem seen_nest {k : NestedKey} {b : Addr} {Q : Bool → Shared → Prop} (hk : IsN P w s.heap k b) {ys : List Value} (hy : ∀ y ∈ ys, ∃ k' c, y = Value.ref c ∧ IsN P w s.heap k' c) (h : Q false s) :
    wpAny (model P w) A (searchCouldBeSeen (.ref b) ys) Q E s := by
  unfold searchCouldBeSeen
  refine wpAny_bind (wpAny_forIn_list _ (fun left got now => now = s ∧ got.1 = none ∧ ∀ y, y ∈ left → ∃ k' c, y = Value.ref c ∧ IsN P w s.heap k' c) _ ?_ ?_ _ _ ⟨rfl, rfl, hy⟩)
  · rintro u left got now ⟨rfl, g, more⟩
    obtain ⟨k', c, rfl, hc⟩ := more u List.mem_cons_self
    have more' := fun z hz => more z (List.mem_cons_of_mem _ hz)
    dsimp only
    by_cases q : (b == c || (carriedByValue (.ref b) && carriedByValue (.ref c))) = true
    · exact wp_if_pos q (wpAny_pure ⟨rfl, rfl, more'⟩)
    · refine wp_if_neg q (wpAny_bind ((nestedKind P w).quiet hk.1 ?_))
      simp only [Bool.not_true, Bool.false_eq_true, if_false]
      refine wpAny_bind ((nestedKind P w).quiet hc.1 ?_)
      simp only [Bool.not_true, Bool.false_eq_true, if_false]
      refine wpAny_bind (ofA_nestT hk ?_)
      simp only [Bool.false_eq_true, if_false]
      refine wpAny_bind (ofA_nestT hc ?_)
      simp only [Bool.false_eq_true, if_false]
      exact wpAny_pure ⟨rfl, rfl, more'⟩
  · rintro ⟨g1, g2⟩ now ⟨rfl, g, _⟩
    simp only at g
    subst g
    exact wpAny_pure h
end

/-! ### in another order; what was taken in so far -/
theorem fm_map {α β : Type} {f : α → Option β} {g : α → β} : ∀ {l : List α}, (∀ i, i ∈ l → f i = some (g i)) → l.filterMap f = l.map g
  | [], _ => rfl
  | x :: l, h => by
    rw [List.filterMap_cons, h x List.mem_cons_self, List.map_cons, fm_map fun i hi => h i (List.mem_cons_of_mem _ hi)]
theorem range_getD {α : Type} (L : List α) (d : α) : (List.range L.length).map (fun i => L.getD i d) = L := by
  refine List.ext_getElem (by rw [List.length_map, List.length_range]) fun i h1 h2 => ?_
  rw [List.getElem_map, List.getElem_range, List.getD_eq_getElem?_getD, List.getElem?_eq_getElem h2]
  rfl
theorem rows_in_order {P : Program} {w : World} (L : List AN) (es : Array (Int × Value)) (order : Array Nat) (hr : es.toList = rowsN P w L) (hp : order.toList.Perm (List.range L.length)) :
    ∃ M, (order.filterMap (es[·]?)).toList = rowsN P w M ∧ M.Perm L ∧ (M.map fun p => nhash P w p.2) = order.toList.map fun i => (es.map (·.1)).getD i 0 := by
  have lt : ∀ i, i ∈ order.toList → i < L.length := fun i hi => List.mem_range.mp (hp.mem_iff.mp hi)
  have at_ : ∀ i, i ∈ order.toList → es[i]? = some (nhash P w (L.getD i (0, .none)).2, Value.ref (L.getD i (0, .none)).1) := fun i hi => by
    rw [← Array.getElem?_toList, hr, rowsN, List.getElem?_map, List.getD_eq_getElem?_getD, List.getElem?_eq_getElem (lt i hi)]
    rfl
  refine ⟨order.toList.map fun i => L.getD i (0, .none), ?_, ?_, ?_⟩
  · rw [Array.toList_filterMap, fm_map at_, rowsN, List.map_map]
    rfl
  · have := hp.map fun i => L.getD i (0, .none)
    rw [range_getD] at this
    exact this
  · rw [List.map_map]
    refine List.map_congr_left fun i hi => ?_
    have e := at_ i hi
    show nhash P w (L.getD i (0, .none)).2 = _
    rw [Array.getD_eq_getD_getElem?, Array.getElem?_map, e]
    rfl
structure GotN (ks : List AN) (i : Nat) (L : List AN) : Prop where
  sub : ∀ p, p ∈ L → p ∈ ks.take i
  all : ∀ p, p ∈ ks.take i → p.2 ∈ L.map (·.2)
theorem GotN.zero (ks : List AN) : GotN ks 0 [] := ⟨fun p h => (nomatch h), fun p h => by simp at h⟩
theorem take_one {α : Type} {l : List α} {i : Nat} {x y : α} (h : l[i]? = some x) : y ∈ l.take (i + 1) ↔ y ∈ l.take i ∨ y = x := by
  rw [List.take_add_one, h, List.mem_append]
  simp
theorem GotN.same {ks L : List AN} {i : Nat} {x : AN} (g : GotN ks i L) (h : ks[i]? = some x) (hm : x.2 ∈ L.map (·.2)) : GotN ks (i + 1) L :=
  ⟨fun p hp => (take_one h).mpr (.inl (g.sub p hp)), fun p hp => ((take_one h).mp hp).elim (g.all p) fun e => by rw [e]; exact hm⟩
theorem GotN.more {ks L L' : List AN} {i : Nat} {x : AN} (g : GotN ks i L) (h : ks[i]? = some x) (pm : L'.Perm (x :: L)) : GotN ks (i + 1) L' := by
  refine ⟨fun p hp => (take_one h).mpr ?_, fun p hp => ?_⟩
  · rcases List.mem_cons.mp (pm.mem_iff.mp hp) with e | z
    · exact .inr e
    · exact .inl (g.sub p z)
  · have e : (L'.map (·.2)).Perm (x.2 :: L.map (·.2)) := pm.map (·.2)
    rcases (take_one h).mp hp with z | z
    · exact e.mem_iff.mpr (List.mem_cons_of_mem _ (g.all p z))
    · rw [z]
      exact e.mem_iff.mpr List.mem_cons_self
/-! ### the same of nested tuples of ints -/

structure SetG (P : Program) (w : World) (h : Heap) (a : Addr) (L : List AN) (es : Array (Int × Value)) (ep : Nat) (t : SetTable) : Prop where
  obj : ∃ o, h.get? a = some o ∧ o.ExactSet ∧ o.data = .set es ep t
  row : es.toList = rowsN P w L
  tb : Tab t (L.map fun p => nhash P w p.2)
  one : (L.map (·.2)).Nodup
  keys : ∀ p, p ∈ L → IsN P w h p.2 p.1
  pl : t.plain = true
  ld : w.params.followText "set-order" = true ∨ t.led = true
  space : L.length * 5 < t.mask * 3
section
variable {P : Program} {w : World} {A : Around} {E : Value → Shared → Prop} {s : Shared}
variable {a : Addr} {L : List AN} {es : Array (Int × Value)} {ep : Nat} {t : SetTable}
theorem rows_len (L : List AN) : (rowsN P w L).length = L.length := List.length_map _
theorem es_len {es : Array (Int × Value)} {L : List AN} (h : es.toList = rowsN P w L) : es.size = L.length := by
  rw [← Array.length_toList, h, rows_len]
theorem es_at {es : Array (Int × Value)} {L : List AN} (h : es.toList = rowsN P w L) {i : Nat} {p : AN} (e : L[i]? = some p) : es[i]? = some (nhash P w p.2, Value.ref p.1) := by
  rw [← Array.getElem?_toList, h, rowsN, List.getElem?_map, e]
  rfl
theorem tab_fits {hs : List Int} (T : Tab t hs) {n : Nat} (hn : n = hs.length) (hr : hs.length ≤ t.mask) : t.fits n = true := by
  have := T.len
  unfold SetTable.fits SetTable.fill
  rw [T.clean]
  simp only [Bool.and_eq_true, beq_iff_eq, decide_eq_true_eq]
  exact ⟨by omega, by show t.place.size + 0 ≤ t.mask; omega⟩
theorem SetG.fit (R : SetG P w s.heap a L es ep t) : t.fits es.size = true := by
  have := R.space
  exact tab_fits R.tb (by rw [List.length_map]; exact es_len R.row) (by rw [List.length_map]; omega)
theorem nth_dummy (m : Nat) : ∀ (n : Nat) (p : SetTable.Probe), p.dummy = none → (nth m p n).dummy = none
  | 0, _, h => h
  | n + 1, p, h => nth_dummy m n (adv m p) (by
    unfold adv
    split
    · exact h
    · exact h)
/-- where a search starts -/
abbrev begin_ (m : Nat) (h : Int) : SetTable.Probe := runAt m (SetTable.bits h % (m + 1)) (SetTable.bits h)
/-- the search, from its c-th step on -/
theorem seek (R : SetG P w s.heap a L es ep t) {x : Addr} {k : NestedKey} (hx : IsN P w s.heap k x) (hu : A.units + 8 < cLine) {h : Int} (eh : nhash P w k = h) {K : Nat} (hK : K < 10 * SetTable.turns t.mask)
    (out : way t.mask h K ∉ t.place.toList) (ins : ∀ c, c < K → way t.mask h c ∈ t.place.toList) {Q : SetFound → Shared → Prop}
    (yes : k ∈ L.map (·.2) → Q (.there none) s) (no : k ∉ L.map (·.2) → Q (.free (way t.mask h K) false) s) :
    ∀ (f c : Nat) (st : Option SetTable.Probe), st.getD (t.probeStart h) = nth t.mask (begin_ t.mask h) c → c ≤ K → K - c < f →
      (∀ (i : Nat) p, L[i]? = some p → p.2 = k → ∃ c', c ≤ c' ∧ c' < K ∧ t.place.toList[i]? = some (way t.mask h c')) →
      wpAny (model P w) A (setSearchFrom a (.ref x) h true f st) Q E s
  | 0, c, st, _, _, hf, _ => absurd hf (Nat.not_lt_zero _)
  | f + 1, c, st, hst, hc, hf, ahead => by
    obtain ⟨o, ho, ex, hd⟩ := R.obj
    rw [setSearchFrom_succ]
    refine wpAny_bind (wpAny_setState_of ho hd R.fit ?_)
    dsimp only
    refine wp_if_neg (by unfold SetTable.gaveWay; rw [R.tb.msk.odd]; decide) ?_
    try refine wpAny_bind (wpAny_pure ?_)
    have go : ∀ q, nth t.mask (nth t.mask (begin_ t.mask h) c) q = nth t.mask (begin_ t.mask h) (c + q) := fun q => (nth_add t.mask c _ q).symm
    have gj : ∀ q, (nth t.mask (nth t.mask (begin_ t.mask h) c) q).j = way t.mask h (c + q) := fun q => by rw [go]
    have hsh : ∀ (i : Nat) p, L[i]? = some p → (es[i]?.map (·.1)).getD 0 = nhash P w p.2 := fun i p e => by
      rw [es_at R.row e]
      rfl
    have never : ∀ q : Nat, (∀ (k' i' : Nat), k' < q → t.place.toList[i']? = some (nth t.mask (nth t.mask (begin_ t.mask h) c) k').j → (es[i']?.map (·.1)).getD 0 ≠ h) → ∀ (i : Nat) (p : AN) (c' : Nat), L[i]? = some p → p.2 = k → c ≤ c' → c' < c + q → t.place.toList[i]? = some (way t.mask h c') → False := fun q hno i p c' e1 e2 e3 e4 e5 => by
      refine hno (c' - c) i (by omega) (by rw [gj, show c + (c' - c) = c' by omega]; exact e5) ?_
      rw [hsh i p e1, e2, eh]
    rcases go_spec t R.tb.up R.tb.clean (fun i => (es[i]?.map (·.1)).getD 0) h (10 * SetTable.turns t.mask) (K - c) _ (nth_dummy t.mask c _ rfl) (by omega) (fun q hq => by rw [gj]; exact ins _ (by omega)) (by rw [gj, show c + (K - c) = K by omega]; exact out) with ⟨q, i, hq, hi, _, hno, hp⟩ | ⟨hno, hp⟩
    · have hp : t.probe (fun i => (es[i]?.map (·.1)).getD 0) h (st.getD (t.probeStart h)) = some (.candidate (way t.mask h (c + q)) i (nth t.mask (begin_ t.mask h) (c + (q + 1)))) := by
        rw [hst, ← gj, ← go]
        exact hp
      rw [hp]
      dsimp only
      rw [gj] at hi
      have il : i < L.length := by
        have b := (List.getElem?_eq_some_iff.mp hi).1
        have := R.tb.len
        rw [Array.length_toList] at b
        rw [List.length_map] at this
        omega
      obtain ⟨p, ep'⟩ : ∃ p, L[i]? = some p := ⟨_, List.getElem?_eq_getElem il⟩
      have pin : p ∈ L := List.mem_of_getElem? ep'
      have rest : wpAny (model P w) A (searchRest a (.ref x) h true f es t (way t.mask h (c + q)) i (nth t.mask (begin_ t.mask h) (c + (q + 1)))) Q E s := by
        unfold searchRest
        rw [es_at R.row ep']
        dsimp only
        refine wpAny_bind (wpAny_holding ((nestedKind P w).eqBool hu (R.keys p pin).1 hx.1 ?_))
        refine wpAny_bind (wpAny_setState_of ho hd R.fit ?_)
        dsimp only
        by_cases same : p.2 = k
        · exact wp_if_pos (by simp [same]) (wpAny_pure (yes (List.mem_map.mpr ⟨p, pin, same⟩)))
        · refine wp_if_neg (by simp [same]) ?_
          try refine wpAny_bind (wpAny_pure ?_)
          rw [sameMem]
          dsimp only
          have sl : t.slot (way t.mask h (c + q)) = .live i := slot_live R.tb.up hi
          simp only [if_true, sl, es_at R.row ep']
          refine wpAny_bind (wpAny_isSame_ref_self (wpAny_bind (wpAny_pure ?_)))
          simp only [if_true]
          refine wp_if_neg (by simp [same]) ?_
          refine seek R hx hu eh hK out ins yes no f (c + (q + 1)) _ rfl (by omega) (by omega) fun i0 p0 e1 e2 => ?_
          obtain ⟨c', a1, a2, a3⟩ := ahead i0 p0 e1 e2
          refine ⟨c', ?_, a2, a3⟩
          refine Nat.lt_of_not_le fun z => ?_
          rcases Nat.lt_or_eq_of_le z with z | z
          · exact never q hno i0 p0 c' e1 e2 a1 z a3
          · subst z
            have s0 := slot_live R.tb.up a3
            have s0 : SetTable.Slot.live i = .live i0 := sl.symm.trans s0
            injection s0 with s0
            subst s0
            rw [ep'] at e1
            cases e1
            exact same e2
      by_cases led : t.led = true
      · refine wp_if_neg (by simp [led]) ?_
        try refine wpAny_bind (wpAny_pure ?_)
        exact rest
      · refine wp_if_pos (by simp [led]) ?_
        refine wpAny_bind (seen_nest hx (fun y hy => ?_) ?_)
        · obtain ⟨e, he, rfl⟩ := List.mem_map.mp hy
          have he : e ∈ es.toList := by
            have := (show e ∈ es ∧ e.1 = h by simpa using he).1
            simpa using this
          rw [R.row] at he
          obtain ⟨p2, h2, rfl⟩ := List.mem_map.mp he
          exact ⟨p2.2, p2.1, rfl, R.keys p2 h2⟩
        · refine wp_if_neg (by decide) ?_
          try refine wpAny_bind (wpAny_pure ?_)
          exact rest
    · have hp : t.probe (fun i => (es[i]?.map (·.1)).getD 0) h (st.getD (t.probeStart h)) = some (.empty (way t.mask h K) none) := by
        have e2 := gj (K - c)
        rw [show c + (K - c) = K by omega] at e2
        rw [hst, ← e2]
        exact hp
      rw [hp]
      dsimp only
      refine wpAny_pure (no fun hm => ?_)
      obtain ⟨p0, h0, e2⟩ := List.mem_map.mp hm
      obtain ⟨i0, hi0⟩ := List.getElem?_of_mem h0
      obtain ⟨c', a1, a2, a3⟩ := ahead i0 p0 hi0 e2
      exact never (K - c) hno i0 p0 c' hi0 e2 a1 (by omega) a3
theorem seek_all (R : SetG P w s.heap a L es ep t) {x : Addr} {k : NestedKey} (hx : IsN P w s.heap k x) (hu : A.units + 8 < cLine) {Q : SetFound → Shared → Prop}
    (yes : k ∈ L.map (·.2) → Q (.there none) s)
    (no : ∀ j K, k ∉ L.map (·.2) → way t.mask (nhash P w k) K = j → j ∉ t.place.toList → (∀ c, c < K → way t.mask (nhash P w k) c ∈ t.place.toList) → Q (.free j false) s) :
    wpAny (model P w) A (setSearch a (.ref x) (nhash P w k) true) Q E s := by
  have space := R.space
  have small := R.tb.msk.small
  obtain ⟨K, hK, out, ins⟩ := R.tb.hole (by rw [List.length_map]; omega) (nhash P w k)
  unfold setSearch
  refine seek R hx hu rfl hK out ins yes (fun hn => no _ K hn rfl out ins) 100000 0 none rfl (Nat.zero_le K) (by
    have : 10 * SetTable.turns t.mask ≤ 100000 := by
      unfold SetTable.turns
      omega
    omega) fun i p hp e => ?_
  have e1 : (L.map fun p => nhash P w p.2)[i]? = some (nhash P w k) := by
    rw [List.getElem?_map, hp, ← e]
    rfl
  have il : i < t.place.toList.length := by
    have b := (List.getElem?_eq_some_iff.mp hp).1
    have := R.tb.len
    rw [List.length_map] at this
    rw [Array.length_toList]
    omega
  have e2 := List.getElem?_eq_getElem il
  obtain ⟨c, c1, c2⟩ := R.tb.ahead out e1 e2
  exact ⟨c, Nat.zero_le c, c1, by rw [e2, c2]⟩
end
section
variable {P : Program} {w : World} {A : Around} {E : Value → Shared → Prop} {s : Shared}
variable {a : Addr} {L : List AN} {es : Array (Int × Value)} {ep : Nat} {t : SetTable}
/-- all laid in a larger table -/
theorem relay {o : Obj} (ho : s.heap.get? a = some o) (ex : o.ExactSet) (hd : o.data = .set es ep t) (row : es.toList = rowsN P w L) (tb : Tab t (L.map fun p => nhash P w p.2)) (small : L.length ≤ t.mask) (one : (L.map (·.2)).Nodup) (keys : ∀ p, p ∈ L → IsN P w s.heap p.2 p.1) (pl : t.plain = true) (ld : w.params.followText "set-order" = true ∨ t.led = true)
    {wanted m : Nat} (hw : SetTable.sizeAbove wanted = m + 1) (M : Msk m) (hn : L.length * 5 < m * 3) {Q : Unit → Shared → Prop}
    (hQ : ∀ h' L' es' ep' t', Heap.SameBut a s.heap h' → SetG P w h' a L' es' ep' t' → L'.Perm L → Q () { s with heap := h' }) : wpAny (model P w) A (setRelay a wanted) Q E s := by
  have el := es_len row
  have ms := M.small
  obtain ⟨t', order, e, perm, T, em, eled, epl⟩ := relaid_tab t (hs := es.map (·.1)) (wanted := wanted) (m := m) (by omega) M (by rw [Array.size_map]; omega)
  rw [Array.size_map, el] at perm
  obtain ⟨L2, r1, r2, r3⟩ := rows_in_order (P := P) (w := w) L es order row perm
  rw [← r3] at T
  have size2 : (order.filterMap (es[·]?)).size = es.size := by rw [es_len r1, r2.length_eq, el]
  have fit : t.fits es.size = true := tab_fits tb (by rw [List.length_map]; exact el) (by rw [List.length_map]; exact small)
  rw [setRelay_eq]
  refine wpAny_bind (wpAny_setState_of ho hd fit ?_)
  dsimp only
  refine wp_if_neg (by rw [hw, sizeLine_eq]; omega) ?_
  try refine wpAny_bind (wpAny_pure ?_)
  rw [e]
  dsimp only
  refine wpAny_bind ?_
  refine wp_if_neg (by rw [size2]; simp) ?_
  try refine wpAny_bind (wpAny_pure ?_)
  refine wpAny_pure ?_
  dsimp only
  refine wpAny_storeSet_of ho hd ?_ (by rw [size2, el, sizeLine_eq]; omega)
  have but : Heap.SameBut a s.heap (s.heap.update a (Obj.putSet (order.filterMap (es[·]?)) t')) := Heap.SameBut.update ..
  refine hQ _ L2 _ (ep + 1) t' but ⟨⟨_, store_at ho hd, ⟨ex.1, ex.2.1, ex.2.2⟩, rfl⟩, r1, T, (r2.map (·.2)).nodup_iff.mpr one, fun p hp => isN_same (keys p (r2.mem_iff.mp hp)) ho hd but, epl.trans pl, by rw [eled]; exact ld, by rw [r2.length_eq, em]; exact hn⟩ r2
/-- into which mask it grows -/
theorem grows {m n : Nat} (M : Msk m) (h1 : n * 5 < m * 3) (h2 : m * 3 ≤ (n + 1) * 5) (h3 : n + 1 ≤ 306) : ∃ m', Msk m' ∧ SetTable.sizeAbove (SetTable.grown (n + 1)) = m' + 1 ∧ (n + 1) * 5 < m' * 3 ∧ n + 1 ≤ m := by
  rcases M.four with rfl | rfl | rfl | rfl
  · have : n = 4 := by omega
    subst this
    exact ⟨31, msk31, grown_5, by decide, by decide⟩
  · have : n = 18 := by omega
    subst this
    exact ⟨127, msk127, grown_19, by decide, by decide⟩
  · have : n = 76 := by omega
    subst this
    exact ⟨511, msk511, grown_77, by decide, by decide⟩
  · omega
/-- one more, or none -/
theorem add_one (R : SetG P w s.heap a L es ep t) {x : Addr} {k : NestedKey} (hx : IsN P w s.heap k x) (hu : A.units + 8 < cLine) (few : L.length + 1 ≤ 306) {Q : Bool → Shared → Prop}
    (hQ : ∀ r h' L' es' ep' t', Heap.SameBut a s.heap h' → SetG P w h' a L' es' ep' t' → (k ∈ L.map (·.2) → L' = L) → (k ∉ L.map (·.2) → L'.Perm ((x, k) :: L)) → Q r { s with heap := h' }) :
    wpAny (model P w) A (setAddHashed a (.ref x) (nhash P w k)) Q E s := by
  obtain ⟨o, ho, ex, hd⟩ := R.obj
  have el := es_len R.row
  unfold setAddHashed
  refine wpAny_holding ?_
  rw [show (100000 : Nat) = 99999 + 1 by decide, setAddHashedIn_succ]
  refine wpAny_bind (wpAny_setState_of ho hd R.fit ?_)
  dsimp only
  refine wp_if_neg (by simp [byScan, Value.scannable]) ?_
  try refine wpAny_bind (wpAny_pure ?_)
  refine wpAny_bind (seek_all R hx hu (fun hm => ?_) fun j K hm eK hj ins => ?_)
  · dsimp only
    exact wpAny_pure (hQ false s.heap L es ep t (Heap.SameBut.refl a s.heap) R (fun _ => rfl) fun z => (z hm).elim)
  dsimp only
  refine wpAny_bind (wpAny_setState_of ho hd R.fit ?_)
  dsimp only
  obtain ⟨le, T1⟩ := R.tb.put hj eK ins
  have hplain : (t.put j).1.plain = true := R.pl
  have hled : w.params.followText "set-order" = true ∨ (t.put j).1.led = true := R.ld
  have hmask : (t.put j).1.mask = t.mask := rfl
  have hpos : (t.put j).2 = spot t j := rfl
  generalize t.put j = pt at T1 hplain hled hmask hpos ⊢
  obtain ⟨t1, p⟩ := pt
  dsimp only at T1 hplain hled hmask hpos ⊢
  first
    | (refine wpAny_bind ?_; refine wp_if_pos hplain ?_; refine hashBy_nestT hx ?_)
    | refine wp_if_pos hplain (wpAny_bind (hashBy_nestT hx ?_))
  simp only [if_true]
  subst hpos
  have row1 : (SetTable.insertAt es (spot t j) (nhash P w k, Value.ref x)).toList = rowsN P w (L.take (spot t j) ++ (x, k) :: L.drop (spot t j)) := by
    rw [SetTable.toList_insertAt, rowsN_put, R.row]
  have T1 : Tab t1 ((L.take (spot t j) ++ (x, k) :: L.drop (spot t j)).map fun p => nhash P w p.2) := by
    rw [List.map_append, List.map_cons, List.map_take, List.map_drop]
    exact T1
  have perm := put_perm L (spot t j) (x, k)
  generalize L.take (spot t j) ++ (x, k) :: L.drop (spot t j) = L1 at row1 T1 perm
  generalize SetTable.insertAt es (spot t j) (nhash P w k, Value.ref x) = es1 at row1 ⊢
  have len1 : L1.length = L.length + 1 := perm.length_eq
  have el1 := es_len row1
  refine wpAny_bind (wpAny_storeSet_of ho hd ?_ (by rw [el1, len1, sizeLine_eq]; omega))
  have but : Heap.SameBut a s.heap (s.heap.update a (Obj.putSet es1 t1)) := Heap.SameBut.update ..
  have ho1 := store_at (es' := es1) (t' := t1) ho hd
  generalize s.heap.update a (Obj.putSet es1 t1) = h1 at but ho1 ⊢
  have one1 : (L1.map (·.2)).Nodup := (perm.map (·.2)).nodup_iff.mpr (List.nodup_cons.mpr ⟨hm, R.one⟩)
  have keys1 : ∀ q, q ∈ L1 → IsN P w h1 q.2 q.1 := fun q hq => by
    rcases List.mem_cons.mp (perm.mem_iff.mp hq) with rfl | hq
    · exact isN_same hx ho hd but
    · exact isN_same (R.keys q hq) ho hd but
  have space := R.space
  have fill1 : t1.fill = L.length + 1 := by
    have q := T1.len
    rw [List.length_map, len1] at q
    unfold SetTable.fill
    rw [T1.clean, q]
    rfl
  by_cases full : t1.tooFull = true
  · first
      | (refine wpAny_bind ?_; refine wp_if_pos (by simp [full]) ?_)
      | (refine wp_if_pos (by simp [full]) ?_; refine wpAny_bind ?_)
    have f2 : t1.mask * 3 ≤ (L.length + 1) * 5 := by
      unfold SetTable.tooFull at full
      rw [fill1] at full
      exact of_decide_eq_true full
    rw [el]
    obtain ⟨m', M', sz, room, fits⟩ := grows T1.msk (by rw [hmask]; exact space) f2 few
    refine relay (s := { s with heap := h1 }) ho1 ⟨ex.1, ex.2.1, ex.2.2⟩ rfl row1 T1 (by rw [len1]; exact fits) one1 keys1 hplain hled sz M' (by rw [len1]; exact room) ?_
    intro h2 L2 es2 ep2 t2 but2 R2 perm2
    exact wpAny_pure (hQ true h2 L2 es2 ep2 t2 (but.trans but2) R2 (fun z => (hm z).elim) fun _ => perm2.trans perm)
  · first
      | refine wp_if_neg (by simp [full]) ?_
      | (refine wpAny_bind ?_; refine wp_if_neg (by simp [full]) ?_; refine wpAny_pure ?_)
    refine wpAny_pure (hQ true h1 L1 es1 (ep + 1) t1 but ⟨⟨_, ho1, ⟨ex.1, ex.2.1, ex.2.2⟩, rfl⟩, row1, T1, one1, keys1, hplain, hled, ?_⟩ (fun z => (hm z).elim) fun _ => perm)
    unfold SetTable.tooFull at full
    rw [fill1] at full
    have := of_decide_eq_false (Bool.eq_false_iff.mpr full)
    rw [len1]
    omega
end
section
variable {P : Program} {w : World} {A : Around} {E : Value → Shared → Prop} {s : Shared}
theorem SetG.keep {h h' : Heap} {a : Addr} {L : List AN} {es : Array (Int × Value)} {ep : Nat} {t : SetTable} (R : SetG P w h a L es ep t) (ha : ∀ o, h.get? a = some o → h'.get? a = some o) (hk : ∀ p, p ∈ L → IsN P w h' p.2 p.1) : SetG P w h' a L es ep t := by
  obtain ⟨o, ho, r⟩ := R.obj
  exact ⟨⟨o, ha o ho, r⟩, R.row, R.tb, R.one, hk, R.pl, R.ld, R.space⟩
theorem SetG.new {h : Heap} {a : Addr} (e : h.get? a = some (newSet w)) : SetG P w h a [] #[] 0 (.fresh 0 0 (!w.params.followText "set-order")) := by
  refine ⟨⟨_, e, ⟨rfl, rfl, rfl⟩, rfl⟩, rfl, ⟨List.Pairwise.nil, rfl, rfl, msk7, (fun x hx => absurd hx List.not_mem_nil), fun i h j hi => ?_⟩, List.nodup_nil, (fun p hp => absurd hp List.not_mem_nil), rfl, ?_, show 0 * 5 < 7 * 3 by decide⟩
  · simp at hi
  · show _ ∨ (!w.params.followText "set-order") = true
    cases w.params.followText "set-order"
    · exact .inr rfl
    · exact .inl rfl
/-- keys taken in, one by one -/
theorem takes_keys {S : Addr} {h0 : Heap} {items : Array Value} {ks : List AN} (hit : items.toList = ks.map fun p => Value.ref p.1) (hk : ∀ p, p ∈ ks → IsN P w h0 p.2 p.1) (few : (once (ks.map (·.2))).length ≤ 305) : Takes1 P w S h0 items (fun i h => ∃ L es ep t, SetG P w h S L es ep t ∧ GotN ks i L) where
  fresh := fun h e _ => ⟨[], #[], 0, _, SetG.new e, GotN.zero ks⟩
  keep := fun i h h' ⟨L, es, ep, t, R, g⟩ ha hb => ⟨L, es, ep, t, R.keep ha fun p hp => isN_keep (hk p (List.mem_of_mem_take (g.sub p hp))) hb, g⟩
  step := fun A E i v s Q hu hv ⟨L, es, ep, t, R, g⟩ hb hQ => by
    have e : items.toList[i]? = some v := by rw [Array.getElem?_toList]; exact hv
    rw [hit, List.getElem?_map] at e
    obtain ⟨p, hp, rfl⟩ := Option.map_eq_some_iff.mp e
    have hx : IsN P w s.heap p.2 p.1 := isN_keep (hk p (List.mem_of_getElem? hp)) hb
    have len : L.length ≤ 305 := by
      have := nodup_le (L.map (·.2)) (once (ks.map (·.2))) R.one fun x hx => by
        obtain ⟨q, hq, rfl⟩ := List.mem_map.mp hx
        exact (mem_once _ _).mpr (List.mem_map.mpr ⟨q, List.mem_of_mem_take (g.sub q hq), rfl⟩)
      rw [List.length_map] at this
      omega
    unfold setAdd
    refine wpAny_holding (wpAny_bind ((nestedKind P w).pyHash hu hx.1 ?_))
    refine add_one (s := { s with toks := s.toks + p.2.draws }) R hx (by omega) (by omega) fun r h' L' es' ep' t' but R' c1 c2 => ?_
    refine hQ r h' _ but ⟨L', es', ep', t', R', ?_⟩
    by_cases c : p.2 ∈ L.map (·.2)
    · rw [c1 c]
      exact g.same hp c
    · exact g.more hp (c2 c)
end
end Sn
end Ad
namespace Ad
namespace Sn
open PySem PySem.Calls PySem.W PySem.SeqAt PySem.Spec PyProof.Rows L2

/-! ### sets of nested tuples, made -/
mutual
theorem eqv_nk : ∀ a b : NestedKey, PyData.eqv (nkD a) (nkD b) = decide (a = b)
  | .none, .none => rfl
  | .none, .num _ => rfl
  | .none, .text _ => rfl
  | .none, .tup _ => rfl
  | .num _, .none => rfl
  | .num i, .num j => by
    show decide (i = j) = _
    rw [decide_eq_decide]
    exact ⟨fun h => by rw [h], fun h => by injection h⟩
  | .num _, .text _ => rfl
  | .num _, .tup _ => rfl
  | .text _, .none => rfl
  | .text _, .num _ => rfl
  | .text x, .text y => by
    show (x == y) = _
    rw [Bool.eq_iff_iff, beq_iff_eq, decide_eq_true_eq]
    exact ⟨fun h => by rw [h], fun h => by injection h⟩
  | .text _, .tup _ => rfl
  | .tup _, .none => rfl
  | .tup _, .num _ => rfl
  | .tup _, .text _ => rfl
  | .tup a, .tup b => by
    show PyData.eqvAll (nkDs a) (nkDs b) = _
    rw [eqv_nks a b, decide_eq_decide]
    exact ⟨fun h => by rw [h], fun h => by injection h⟩
theorem eqv_nks : ∀ a b : List NestedKey, PyData.eqvAll (nkDs a) (nkDs b) = decide (a = b)
  | [], [] => rfl
  | [], _ :: _ => rfl
  | _ :: _, [] => rfl
  | x :: a, y :: b => by
    show (PyData.eqv (nkD x) (nkD y) && PyData.eqvAll (nkDs a) (nkDs b)) = _
    rw [eqv_nk x y, eqv_nks a b, Bool.eq_iff_iff, Bool.and_eq_true, decide_eq_true_eq, decide_eq_true_eq, decide_eq_true_eq]
    exact ⟨fun h => by rw [h.1, h.2], fun h => by injection h with h1 h2; exact ⟨h1, h2⟩⟩
end
section
variable {X : Cx} {pins : List (Addr × Obj)} {σ : L2.St} {H : Hp} {s : Shared} {W : Wd} {N : Addr → Prop}
mutual
theorem nest_of (I : Inv X pins σ H s) : ∀ (k : NestedKey) (v : V) (u : Value), Rep X.K W N H v (nkD k) → RelV v u → NestedIs s.heap k u
  | .none, _, _, h, r => by
    cases h
    cases r
    exact .none
  | .num i, _, _, h, r => by
    cases h
    obtain ⟨t, rfl⟩ := r
    exact .int i t
  | .text x, _, _, h, r => by
    cases h
    obtain ⟨t, rfl⟩ := r
    exact .text x t
  | .tup ks, v, u, h, r => by
    obtain ⟨a, vs, rfl, sq, _, _, l⟩ := RepB.tup (.inl (show Rep X.K W N H v (.tuple (nkDs ks)) from h))
    cases r
    obtain ⟨its, rv, ⟨o, ho, hc, n, hd⟩, _⟩ := I.tuple sq
    exact .tup ho hc hd (nests_of I ks _ _ l rv)
theorem nests_of (I : Inv X pins σ H s) : ∀ (ks : List NestedKey) (vs : List V) (us : List Value), RepL X.K W N H vs (nkDs ks) → Vals vs us → NestedAll s.heap ks us
  | [], _, _, h, r => by
    cases h
    cases r
    exact .nil
  | k :: ks, _, _, h, r => by
    cases h with
    | cons h1 h2 =>
      cases r with
      | cons r1 r2 => exact .cons (nest_of I k _ _ h1 r1) (nests_of I ks _ _ h2 r2)
end
theorem nkeys_of {K : PySem.W.Frag} : ∀ {ds : List D} {vs : List V}, RepL K W N H vs ds → (∀ x, x ∈ ds → nestOk x) → ∃ ks : List AN, vs = ks.map (fun p => V.ref p.1) ∧ ds = ks.map (fun p => nkD p.2) ∧ ∀ p, p ∈ ks → (nums p.2 = true ∧ p.2.depth ≤ 8) ∧ Rep K W N H (.ref p.1) (nkD p.2)
  | [], _, .nil, _ => ⟨[], rfl, rfl, (fun p hp => absurd hp List.not_mem_nil)⟩
  | d :: ds, _, .cons (v := v) h t, hd => by
    obtain ⟨ks, e1, e2, e3⟩ := nkeys_of t fun x hx => hd x (List.mem_cons_of_mem _ hx)
    obtain ⟨ns, n1, n2, e⟩ := hd d List.mem_cons_self
    subst e
    obtain ⟨a, ws, rfl, _⟩ := RepB.tup (.inl (show Rep K W N H v (.tuple (nkDs ns)) from h))
    refine ⟨(a, .tup ns) :: ks, by rw [e1]; rfl, by rw [e2]; rfl, fun p hp => ?_⟩
    rcases List.mem_cons.mp hp with rfl | hp
    · exact ⟨⟨n1, n2⟩, h⟩
    · exact e3 p hp
theorem rep_nkeys {K : PySem.W.Frag} : ∀ {ks : List AN}, (∀ p, p ∈ ks → Rep K W N H (.ref p.1) (nkD p.2)) → RepL K W N H (ks.map fun p => V.ref p.1) (ks.map fun p => nkD p.2)
  | [], _ => .nil
  | p :: ks, h => .cons (h p List.mem_cons_self) (rep_nkeys fun q hq => h q (List.mem_cons_of_mem _ hq))
theorem SetG.valsN {P : Program} {w : World} {h : Heap} {a : Addr} {L : List AN} {es : Array (Int × Value)} {ep : Nat} {t : SetTable} (R : SetG P w h a L es ep t) : SetV w h a (L.map fun p => Value.ref p.1) := by
  obtain ⟨o, ho, ex, hd⟩ := R.obj
  have space := R.space
  have small := R.tb.msk.small
  have el := es_len R.row
  refine ⟨o, es, ep, t, ho, ex, hd, ?_, tab_fits R.tb (by rw [List.length_map]; exact el) (by rw [List.length_map]; omega), ?_, R.tb.up, R.ld⟩
  · rw [R.row]
    unfold rowsN
    rw [List.map_map]
    rfl
  · unfold scanBound
    omega
end
theorem refs_of_valsN : ∀ {ks : List AN} {its : List Value}, Vals (ks.map fun p => V.ref p.1) its → its = ks.map fun p => Value.ref p.1
  | [], _, .nil => rfl
  | p :: ks, _, .cons h t => by
    cases h
    rw [refs_of_valsN t]
    rfl
theorem vals_of_refsN : ∀ L : List AN, Vals (L.map fun p => V.ref p.1) (L.map fun p => Value.ref p.1)
  | [] => .nil
  | p :: L => .cons rfl (vals_of_refsN L)
section
variable {X : Cx}
/-- set(d), whatever it is made of -/
theorem set_madeL {pins : List (Addr × Obj)} {σ : L2.St} {H : Hp} {s : Shared} (hc : X.calm = true) (hu : X.A.units + 66 < cLine) (I : Inv X pins σ H s) {W : Wd} {N : Addr → Prop} {a : Addr} {vs : List V} {ds : List D} {d : D} (l : RepL X.K W N H vs ds) (hx : (d = .list ds ∧ SqL X.K H a vs) ∨ (d = .tuple ds ∧ SqT X.K H a vs)) (ok : setOkL ds) {Q : Value → Shared → Prop} {E : Value → Shared → Prop}
    (fin : ∀ p h' tk us ws cs, p = s.heap.objs.size → (∀ b o, s.heap.get? b = some o → h'.get? b = some o) → SetV X.w h' p us → Vals ws us → RepL X.K W N H ws cs → cs.Perm (onceD ds) → Q (.ref p) { s with heap := h', toks := tk }) :
    wpAny (model X.prog X.w) X.A (call (.type "set") [.ref a]) Q E s := by
  rcases ok with ok | ⟨ok, few⟩
  · exact set_made hc hu I l hx ok fin
  have hh := I.ok.hd hc
  have go : ∀ its : List Value, Vals vs its → ∃ In, Takes1 X.prog X.w s.heap.objs.size s.heap its.toArray In ∧ ∀ h' tk, In its.toArray.size h' → (∀ b o, s.heap.get? b = some o → h'.get? b = some o) → Q (.ref s.heap.objs.size) { s with heap := h', toks := tk } := fun its rv => by
    obtain ⟨ks, e1, e2, hk⟩ := nkeys_of l ok
    subst e1 e2
    have ei : its.toArray.toList = ks.map fun p => Value.ref p.1 := by simpa using refs_of_valsN rv
    have nl : its.length = ks.length := by
      have := congrArg List.length ei
      rw [List.length_map] at this
      simpa using this
    have oe : onceD (ks.map fun p => nkD p.2) = (once (ks.map (·.2))).map nkD := by
      rw [← once_enc eqv_nk, List.map_map]
      rfl
    rw [oe, List.length_map] at few
    have isn : ∀ p, p ∈ ks → IsN X.prog X.w s.heap p.2 p.1 := fun p hp => ⟨⟨nest_of I p.2 _ _ (hk p hp).2 (by exact rfl), (hk p hp).1.2⟩, (hk p hp).1.1⟩
    refine ⟨_, takes_keys (ks := ks) ei isn few, fun h' tk ⟨L, es, ep, t, R, g⟩ k => ?_⟩
    have sub : ∀ p, p ∈ L → p ∈ ks := fun p hp => List.mem_of_mem_take (g.sub p hp)
    refine fin _ h' tk _ (L.map fun p => V.ref p.1) (L.map fun p => nkD p.2) rfl k R.valsN (vals_of_refsN L) (rep_nkeys fun p hp => (hk p (sub p hp)).2) ?_
    rw [oe, show (L.map fun p => nkD p.2) = (L.map (·.2)).map nkD by rw [List.map_map]; rfl]
    refine (perm_once R.one fun x => ⟨fun h => ?_, fun h => ?_⟩).map _
    · obtain ⟨p, hp, rfl⟩ := List.mem_map.mp h
      exact List.mem_map.mpr ⟨p, sub p hp, rfl⟩
    · obtain ⟨p, hp, rfl⟩ := List.mem_map.mp h
      exact g.all p (by rw [List.size_toArray, nl, List.take_length]; exact hp)
  rcases hx with ⟨_, hx⟩ | ⟨_, hx⟩
  · obtain ⟨its, rv, hl, _⟩ := I.list hx
    obtain ⟨In, T, f⟩ := go its rv
    exact make_setL hh hl.isList T (by omega) f
  · obtain ⟨its, rv, hl, _⟩ := I.tuple hx
    obtain ⟨In, T, f⟩ := go its rv
    exact make_setT hh hl T (by omega) f
end
end Sn
end Ad
namespace Ad
open PySem PySem.Calls PySem.W PySem.SeqAt PySem.Spec PyProof.Rows L2
section
variable {X : Cx}
theorem sortable_alike {ds : List D} (h : sortable ds) : AlikeAll ds := ⟨fun x hx y hy => h.1 x hx y hy, fun x hx => (h.2.1 x hx).1⟩
theorem minOf_mem {ds : List D} {d : D} (h : minOf ds = some d) : d ∈ ds := by
  cases ds with
  | nil => cases h
  | cons x xs =>
    cases h
    have : ∀ (xs : List D) (x : D), minD x xs ∈ x :: xs := by
      intro xs
      induction xs with
      | nil => intro x; exact List.mem_cons_self
      | cons y ys ih =>
        intro x
        show minD (if dataLt y x then y else x) ys ∈ _
        have := ih (if dataLt y x then y else x)
        rcases List.mem_cons.mp this with e | e
        · rw [e]
          split
          · simp
          · simp
        · simp [e]
    exact this xs x
theorem maxOf_mem {ds : List D} {d : D} (h : maxOf ds = some d) : d ∈ ds := by
  cases ds with
  | nil => cases h
  | cons x xs =>
    cases h
    have : ∀ (xs : List D) (x : D), maxD x xs ∈ x :: xs := by
      intro xs
      induction xs with
      | nil => intro x; exact List.mem_cons_self
      | cons y ys ih =>
        intro x
        show maxD (if dataLt x y then y else x) ys ∈ _
        have := ih (if dataLt x y then y else x)
        rcases List.mem_cons.mp this with e | e
        · rw [e]
          split
          · simp
          · simp
        · simp [e]
    exact this xs x
theorem vals_getV : ∀ {vs : List V} {us : List Value}, Vals vs us → ∀ {i : Nat} {u : Value}, us[i]? = some u → ∃ x, vs[i]? = some x ∧ RelV x u
  | _, _, .nil, _, _, h => by simp at h
  | _, _, .cons r1 r2, 0, _, h => by
    simp at h
    subst h
    exact ⟨_, rfl, r1⟩
  | _, _, .cons r1 r2, i + 1, _, h => by
    simp at h
    obtain ⟨x, h1, h2⟩ := vals_getV r2 h
    exact ⟨x, by simpa using h1, h2⟩
theorem pick_fin {pins : List (Addr × Obj)} {σ : L2.St} {H : Hp} {s : Shared} {Q : VK} {W : Wd} {N : Addr → Prop} {m : D} {ds : List D} {vs : List V} {its : List Value} {R : XV → Nat → Prop} {b : Nat} (I : Inv X pins σ H s) (c : VC W N H b) (l : RepL X.K W N H vs ds) (rv : Vals vs its) (hpl : ∀ d, d ∈ ds → d.plain = true) (hm : m ∈ ds) (q : (pure m : M D).run (VQ X.K W N H Q) R b)
    {i : Nat} {v : Value} {h' : Heap} {tk : Nat} {bs : List Addr} (hi : its.toArray[i]? = some v) (r : Reads h' v m bs) (k : ∀ b o, s.heap.get? b = some o → h'.get? b = some o) : EP X pins σ Q v { s with heap := h', toks := tk } := by
  have hi : its[i]? = some v := by simpa using hi
  obtain ⟨x, hx, rx⟩ := vals_getV rv hi
  obtain ⟨d, hd, rd⟩ := l.getV hx
  have hmem : d ∈ ds := List.mem_of_getElem? hd
  obtain ⟨as, ra, _⟩ := Rep.reads I d x v (okD_plain _ (hpl d hmem)) rd rx
  have e : m = d := plain_unique m d v _ _ (hpl m hm) r (PyProof.Rows.Reads.keeps k ra)
  subst e
  exact ⟨x, H, I.kept (t' := tk) k, rx, c.vrep rd q⟩
theorem room_sort {A : Around} (hu : A.units + 66 < cLine) {ds : List D} (hk : sortable ds) : A.units + 1 + PyData.depthAll ds < cLine := by
  have := depthAll_of fun d hd => (hk.2.1 d hd).2.1
  omega
theorem cr_min1 (hu : X.A.units + 66 < cLine) (hc : X.calm = true) : CallR X (.builtin "min") (rCall X.K (biD .min1)) := cr_on1 fun pins s σ H x u Q W N d R b I ru c rx h => by
  have h : (itemsOf d >>= fun xs => M.grd (sortable xs) >>= fun _ => oget (minOf xs) : M D).run (VQ X.K W N H Q) R b := h
  obtain ⟨ds, a, vs, ⟨hk, q⟩, rfl, z, l, hx⟩ := rx.items h
  obtain rfl : u = Value.ref a := ru
  obtain ⟨m, hm, q⟩ := oget_run q
  have hpl : ∀ d, d ∈ ds → d.plain = true := fun d hd => (hk.2.1 d hd).2.2
  cases ds with
  | nil => cases hm
  | cons y ys =>
    have hmm := minOf_mem hm
    cases hm
    rcases hx with ⟨_, hs⟩ | ⟨_, hs, _⟩
    · obtain ⟨its, rv, hl, hz⟩ := I.list (SqL.of (K := X.K) hs)
      obtain ⟨as, ra⟩ := RepL.reads' I hpl l rv
      exact min_list_data (I.ok.hd hc) hl.isList ra (sortable_alike hk) (room_sort hu hk) fun i v h' tk bs hi r k => pick_fin (R := R) I c l rv hpl hmm q hi r k
    · obtain ⟨its, rv, hl, hz⟩ := I.tuple hs
      obtain ⟨as, ra⟩ := RepL.reads' I hpl l rv
      exact min_tuple_data (I.ok.hd hc) hl ra (sortable_alike hk) (room_sort hu hk) fun i v h' tk bs hi r k => pick_fin (R := R) I c l rv hpl hmm q hi r k
theorem cr_max1 (hu : X.A.units + 66 < cLine) (hc : X.calm = true) : CallR X (.builtin "max") (rCall X.K (biD .max1)) := cr_on1 fun pins s σ H x u Q W N d R b I ru c rx h => by
  have h : (itemsOf d >>= fun xs => M.grd (sortable xs) >>= fun _ => oget (maxOf xs) : M D).run (VQ X.K W N H Q) R b := h
  obtain ⟨ds, a, vs, ⟨hk, q⟩, rfl, z, l, hx⟩ := rx.items h
  obtain rfl : u = Value.ref a := ru
  obtain ⟨m, hm, q⟩ := oget_run q
  have hpl : ∀ d, d ∈ ds → d.plain = true := fun d hd => (hk.2.1 d hd).2.2
  cases ds with
  | nil => cases hm
  | cons y ys =>
    have hmm := maxOf_mem hm
    cases hm
    rcases hx with ⟨_, hs⟩ | ⟨_, hs, _⟩
    · obtain ⟨its, rv, hl, hz⟩ := I.list (SqL.of (K := X.K) hs)
      obtain ⟨as, ra⟩ := RepL.reads' I hpl l rv
      exact max_list_data (I.ok.hd hc) hl.isList ra (sortable_alike hk) (room_sort hu hk) fun i v h' tk bs hi r k => pick_fin (R := R) I c l rv hpl hmm q hi r k
    · obtain ⟨its, rv, hl, hz⟩ := I.tuple hs
      obtain ⟨as, ra⟩ := RepL.reads' I hpl l rv
      exact max_tuple_data (I.ok.hd hc) hl ra (sortable_alike hk) (room_sort hu hk) fun i v h' tk bs hi r k => pick_fin (R := R) I c l rv hpl hmm q hi r k
theorem cr_str1 : CallR X (.type "str") (rCall X.K (biD .str1)) := cr_on1' call_str_int fun H x Q W N d R b c rx h => by
  unfold str1D at h
  split at h
  · exact ⟨_, by rw [rx.int], h.1, c.vstr h.2⟩
  · exact h.elim
theorem cr_reprD (hu : X.A.units + 66 < cLine) (hg : X.A.guards = some []) (hs : ∃ o, X.base.get? sysModules = some o) : CallR X (.builtin "repr") (rCall X.K (biD .repr)) := cr_on1' (cr_repr hu hg hs) fun H x Q W N d R b c rx h => ⟨W, N, d, x, rfl, rx, h.1, c.vstr h.2⟩
/-- isinstance(x, T), its second argument a type's name -/
def rIsaC (K : PySem.W.Frag) (T : String) (f : List D → M D) : List V → Hp → VK → Prop := fun xs H Q => ∃ (W : Wd) (N : Addr → Prop) (d : D) (x : V) (R : XV → Nat → Prop) (b : Nat), xs = [x, .ty T] ∧ VC W N H b ∧ RepB K W N H x d ∧ (f [d]).run (VQ K W N H Q) R b
theorem cr_isaC {T : String} {g : D → Bool} (h : CallR X (.builtin "isinstance") (rIsaK X.K T g)) : CallR X (.builtin "isinstance") (rIsaC X.K T (on1 (isaD g))) := by
  intro pins s σ H xs us Q I r hh
  obtain ⟨W, N, d, x, R, b, rfl, c, rx, hh⟩ := hh
  exact h pins s σ H _ us Q I r ⟨W, N, d, x, rfl, rx, hh.1, c.vbl hh.2⟩

/-! ### methods -/
def rMtC (K : PySem.W.Frag) (m : Mt) : V → List V → Hp → VK → Prop := fun x xs H Q => ∃ (W : Wd) (N : Addr → Prop) (d : D) (ds : List D) (R : XV → Nat → Prop) (b : Nat), VC W N H b ∧ RepB K W N H x d ∧ RepBL K W N H xs ds ∧ (mtD m d ds).run (VQ K W N H Q) R b
theorem repL_strs {K : PySem.W.Frag} {W : Wd} {N : Addr → Prop} {H : Hp} (xs : List Str) : RepL K W N H (xs.map V.str) (xs.map PyData.str) := by
  induction xs with
  | nil => exact .nil
  | cons n ns ih => exact .cons (.str n) ih
theorem strsOf_run {Q : List Str → Nat → Prop} {R : XV → Nat → Prop} : ∀ {ds : List D} {b : Nat}, (strsOf ds).run Q R b → ∃ ys, ds = ys.map PyData.str ∧ Q ys b
  | [], _, h => ⟨[], rfl, h⟩
  | .str x :: ds, _, h => by
    obtain ⟨ys, rfl, q⟩ := strsOf_run (Q := fun ys => Q (x :: ys)) (ds := ds) h
    exact ⟨x :: ys, rfl, q⟩
  | .none :: _, _, h => h.elim
  | .bool _ :: _, _, h => h.elim
  | .int _ :: _, _, h => h.elim
  | .list _ :: _, _, h => h.elim
  | .tuple _ :: _, _, h => h.elim
  | .dict _ :: _, _, h => h.elim
theorem RepL.strs {K : PySem.W.Frag} {W : Wd} {N : Addr → Prop} {H : Hp} : ∀ {ys : List Str} {vs : List V}, RepL K W N H vs (ys.map PyData.str) → vs = ys.map V.str
  | [], _, .nil => rfl
  | y :: ys, _, .cons h1 h2 => by
    cases h1
    rw [RepL.strs h2]
    rfl
theorem mr_join : MtR X "str.join" (rMtC X.K .join) := by
  intro pins s σ H x xs v us Q I rx rxs h
  obtain ⟨W, N, d, ds, R, b, c, rd, rds, h⟩ := h
  refine mt_join pins s σ H x xs v us Q I rx rxs ?_
  match d, ds, rd, rds, h with
  | .str a, [d], rd, rds, h =>
    obtain ⟨y, rfl, ry⟩ := rds.one
    have h : (itemsOf d >>= fun xs => strsOf xs >>= fun ys => M.grd ((ys.map (·.length)).sum + ys.length * a.length ≤ 16777216) >>= fun _ => pure (.str (Txt.join a ys)) : M D).run (VQ X.K W N H Q) R b := h
    obtain ⟨ds, p, vs, q, rfl, z, l, hx⟩ := ry.items h
    obtain ⟨ys, rfl, q'⟩ := strsOf_run q
    have e := l.strs
    subst e
    have e := rd.str
    subst e
    refine ⟨a, p, ys, rfl, rfl, ?_, q'.1, c.vstr q'.2⟩
    rcases hx with ⟨_, hs⟩ | ⟨_, hs, _⟩
    · exact .inl (SqL.of hs)
    · exact .inr hs
  | .str a, [], rd, rds, h => exact h.elim
  | .str a, _ :: _ :: _, rd, rds, h => exact h.elim
  | .none, _, _, _, h => exact h.elim
  | .bool _, _, _, _, h => exact h.elim
  | .int _, _, _, _, h => exact h.elim
  | .list _, _, _, _, h => exact h.elim
  | .tuple _, _, _, _, h => exact h.elim
  | .dict _, _, _, _, h => exact h.elim
theorem mr_split : MtR X "str.split" (rMtC X.K .split) := by
  intro pins s σ H x xs v us Q I rx rxs h
  obtain ⟨W, N, d, ds, R, b, c, rd, rds, h⟩ := h
  refine mt_split pins s σ H x xs v us Q I rx rxs ?_
  match d, ds, rd, rds, h with
  | .str a, [.str y], rd, rds, h =>
    obtain ⟨yv, rfl, ry⟩ := rds.one
    have e := rd.str
    subst e
    have e := ry.str
    subst e
    obtain ⟨⟨h1, h2, h3⟩, q⟩ := h
    exact ⟨a, y, rfl, rfl, h1, h2, c.vlst (repL_strs _) (by rw [List.length_map]; exact h3) q⟩
  | .str a, [], rd, rds, h => exact h.elim
  | .str a, [.none], rd, rds, h => exact h.elim
  | .str a, [.bool _], rd, rds, h => exact h.elim
  | .str a, [.int _], rd, rds, h => exact h.elim
  | .str a, [.list _], rd, rds, h => exact h.elim
  | .str a, [.tuple _], rd, rds, h => exact h.elim
  | .str a, [.dict _], rd, rds, h => exact h.elim
  | .str a, y :: _ :: _, rd, rds, h => cases y <;> exact False.elim h
  | .none, _, _, _, h => exact h.elim
  | .bool _, _, _, _, h => exact h.elim
  | .int _, _, _, _, h => exact h.elim
  | .list _, _, _, _, h => exact h.elim
  | .tuple _, _, _, _, h => exact h.elim
  | .dict _, _, _, _, h => exact h.elim
theorem plainAll_mem : ∀ {ds : List D}, PyData.plainAll ds = true → ∀ d, d ∈ ds → d.plain = true
  | x :: xs, h, d, hd => by
    have h' : (x.plain && PyData.plainAll xs) = true := h
    rw [Bool.and_eq_true] at h'
    rcases List.mem_cons.mp hd with e | e
    · subst e
      exact h'.1
    · exact plainAll_mem h'.2 d e
theorem depthAll_mem : ∀ {ds : List D} {d : D}, d ∈ ds → d.depth ≤ PyData.depthAll ds
  | x :: xs, d, hd => by
    show d.depth ≤ max x.depth (PyData.depthAll xs)
    rcases List.mem_cons.mp hd with e | e
    · subst e
      exact Nat.le_max_left _ _
    · exact Nat.le_trans (depthAll_mem e) (Nat.le_max_right _ _)
theorem reads_at : ∀ {us : List Value} {ds : List D} {as : List Addr} {h : Heap}, ReadsAll h us ds as → ∀ j (h1 : j < us.length) (h2 : j < ds.length), ∃ bs, Reads h us[j] ds[j] bs
  | _, _, _, _, .nil, _, h1, _ => absurd h1 (Nat.not_lt_zero _)
  | _, _, _, _, .cons r _, 0, _, _ => ⟨_, r⟩
  | _, _, _, _, .cons _ q, j + 1, h1, h2 => reads_at q j (Nat.lt_of_succ_lt_succ h1) (Nat.lt_of_succ_lt_succ h2)
theorem mr_index (hu : X.A.units + 66 < cLine) : MtR X "list.index" (rMtC X.K .index) := by
  intro pins s σ H x xs v us Q I rx rxs h
  obtain ⟨W, N, d, ds, R, b, c, rd, rds, h⟩ := h
  match d, ds, rd, rds, h with
  | .list zs, [y], rd, rds, h =>
    obtain ⟨yv, rfl, ry⟩ := rds.one
    obtain ⟨⟨oy, oz, hit⟩, q⟩ := (show (eqOk y ∧ eqOk (.list zs) ∧ true ∈ zs.map fun z => PyData.eqv z y) ∧ (pure (.int ((zs.map fun z => PyData.eqv z y).idxOf true : Nat)) : M D).run (VQ X.K W N H Q) R b from h)
    obtain ⟨a, vs, e1, e2, e3, l⟩ := rd.list
    subst e1
    cases rx
    have hpl : ∀ z, z ∈ zs → z.plain = true := plainAll_mem oz.1
    obtain ⟨its, rv, hl, hz⟩ := I.list (SqL.of (K := X.K) e2)
    obtain ⟨as, ra⟩ := RepL.reads' I hpl l rv
    cases rxs with
    | cons ru rr =>
      cases rr
      obtain ⟨bs, rb, _⟩ := ry.reads I (okD_plain _ oy.1) ru
      have hn := SeqAt.ReadsAll.length _ _ _ ra
      refine call_list_index (α := Bool) (ks := zs.map fun z => PyData.eqv z y) (k := true) hl.isList ⟨by rw [List.length_map]; exact hn, fun j h1 h2 => ?_⟩ (by rw [List.length_map]; exact e3) hit ⟨.int _, H, I.tok _, ⟨_, rfl⟩, c.vint q⟩
      have h3 : j < zs.length := by rw [List.length_map] at h2; exact h2
      obtain ⟨cs, rc⟩ := reads_at ra j h1 h3
      have dd : zs[j].depth + 1 ≤ 64 := Nat.le_trans (Nat.succ_le_succ (depthAll_mem (List.getElem_mem h3))) oz.2
      have e : decide ((zs.map fun z => PyData.eqv z y)[j] = true) = PyData.eqv zs[j] y := by
        rw [List.getElem_map]
        cases PyData.eqv zs[j] y <;> rfl
      rw [e]
      refine SeqAt.eqAt_plain zs[j] y X.A.in1 s its[j] _ cs bs rc rb (hpl _ (List.getElem_mem h3)) oy.1 ?_
      have := Nat.min_le_left zs[j].depth y.depth
      show X.A.units + 1 + min zs[j].depth y.depth < cLine
      omega
  | .list _, [], _, _, h => exact h.elim
  | .list _, _ :: _ :: _, _, _, h => exact h.elim
  | .str _, _, _, _, h => exact h.elim
  | .none, _, _, _, h => exact h.elim
  | .bool _, _, _, _, h => exact h.elim
  | .int _, _, _, _, h => exact h.elim
  | .tuple _, _, _, _, h => exact h.elim
  | .dict _, _, _, _, h => exact h.elim
theorem mr_tindex (hu : X.A.units + 66 < cLine) : MtR X "tuple.index" (rMtC X.K .tindex) := by
  intro pins s σ H x xs v us Q I rx rxs h
  obtain ⟨W, N, d, ds, R, b, c, rd, rds, h⟩ := h
  cases d with
  | tuple zs =>
    cases ds with
    | nil => exact h.elim
    | cons y ys =>
      cases ys with
      | cons _ _ => exact h.elim
      | nil =>
        obtain ⟨yv, rfl, ry⟩ := rds.one
        obtain ⟨⟨oy, oz, hit⟩, q⟩ := (show (eqOk y ∧ eqOk (.tuple zs) ∧ true ∈ zs.map fun z => PyData.eqv z y) ∧ (pure (.int ((zs.map fun z => PyData.eqv z y).idxOf true : Nat)) : M D).run (VQ X.K W N H Q) R b from h)
        obtain ⟨a, vs, e1, e2, e4, e3, l⟩ := rd.tup
        subst e1
        cases rx
        have hpl : ∀ z, z ∈ zs → z.plain = true := plainAll_mem oz.1
        obtain ⟨its, rv, hl, hz⟩ := I.tuple e2
        obtain ⟨as, ra⟩ := RepL.reads' I hpl l rv
        cases rxs with
        | cons ru rr =>
          cases rr
          obtain ⟨bs, rb, _⟩ := ry.reads I (okD_plain _ oy.1) ru
          have hn := SeqAt.ReadsAll.length _ _ _ ra
          refine call_tuple_index (α := Bool) (ks := zs.map fun z => PyData.eqv z y) (k := true) hl ⟨by rw [List.length_map]; exact hn, fun j h1 h2 => ?_⟩ hit ⟨.int _, H, I.tok _, ⟨_, rfl⟩, c.vint q⟩
          have h3 : j < zs.length := by rw [List.length_map] at h2; exact h2
          obtain ⟨cs, rc⟩ := reads_at ra j h1 h3
          have dd : zs[j].depth + 1 ≤ 64 := Nat.le_trans (Nat.succ_le_succ (depthAll_mem (List.getElem_mem h3))) oz.2
          have e : decide ((zs.map fun z => PyData.eqv z y)[j] = true) = PyData.eqv zs[j] y := by
            rw [List.getElem_map]
            cases PyData.eqv zs[j] y <;> rfl
          rw [e]
          refine SeqAt.eqAt_plain zs[j] y X.A.in1 s its[j] _ cs bs rc rb (hpl _ (List.getElem_mem h3)) oy.1 ?_
          have := Nat.min_le_left zs[j].depth y.depth
          show X.A.units + 1 + min zs[j].depth y.depth < cLine
          omega
  | _ => exact h.elim
end
end Ad
namespace Ad
open PySem PySem.Calls PySem.W PySem.SeqAt PySem.Spec PyProof.Rows L2

/-! ### the rules, read by data -/
abbrev TM (α : Type) := Ev → M α
section
variable {X : Cx} {Wx : WX} {pos : Pos}
abbrev PEr (X : Cx) (Wx : WX) (x : Expr) (m : TM D) : Prop := PE X x (tE X.K X.mg Wx m)
abbrev PEb (X : Cx) (Wx : WX) (x : Expr) (m : TM D) : Prop := PE X x (tEB X.K X.mg Wx m)
abbrev PTr (X : Cx) (Wx : WX) (x : Expr) (m : TM D) : Prop := PT X x (tT X.K X.mg Wx m)
abbrev PAr (X : Cx) (Wx : WX) (x : List Expr) (m : TM (List D)) : Prop := PA X x (tA X.K X.mg Wx m)
abbrev PAb (X : Cx) (Wx : WX) (x : List Expr) (m : TM (List D)) : Prop := PA X x (tAB X.K X.mg Wx m)
theorem pe_imp {x : Expr} {t t' : TE} (h : PE X x t) (i : ∀ (σ : L2.St) (H : Hp) (Q : VK), t' σ H Q → t σ H Q) : PE X x t' := ⟨fun pins s σ H Q I q => h.run pins s σ H Q I (i σ H Q q)⟩
theorem pt_imp {x : Expr} {t t' : TT} (h : PT X x t) (i : ∀ (σ : L2.St) (H : Hp) (Q : Bool → Hp → Prop), t' σ H Q → t σ H Q) : PT X x t' := ⟨fun pins s σ H Q I q => h.run pins s σ H Q I (i σ H Q q)⟩
theorem pa_imp {x : List Expr} {t t' : TA} (h : PA X x t) (i : ∀ (σ : L2.St) (H : Hp) (Q : List V → Hp → Prop), t' σ H Q → t σ H Q) : PA X x t' := ⟨fun pos pins s σ H Q I q => h.run pos pins s σ H Q I (i σ H Q q)⟩
theorem b_of {x : Expr} {m : TM D} (h : PEr X Wx x m) : PEb X Wx x m := pe_imp h fun _ _ _ q => tE_of_B q
theorem t_of {x : Expr} {m : TM D} (h : PEr X Wx x m) (he : ∀ whole, isTrue x X.env whole = (do let v ← whole; standAt x.pos; holding [v] (truthy v))) : PTr X Wx x m :=
  pt_imp (pt_val h he) fun σ H Q q => by
    obtain ⟨c, ρ, e, q⟩ := q
    refine ⟨c, ρ, e, (m ρ).mono (fun d _ z v H' x i r => ?_) (fun _ _ z => z) q⟩
    obtain ⟨b, rfl, z⟩ := z
    cases r
    exact ⟨b, rfl, z H' x i⟩
/-- two parts, then a step by values -/
theorem read2 {K : PySem.W.Frag} {mg : Str → Option Value} {σ : L2.St} {H : Hp} {Q : VK} {a b : TM D} {f : D → D → M D} {r : R2}
    (hv : ∀ (W : Wd) (N : Addr → Prop) (H : Hp) (b : Nat) (d e : D) (v u : V) (Q : VK) (R : XV → Nat → Prop), VC W N H b → RepB K W N H v d → RepB K W N H u e → (f d e).run (VQ K W N H Q) R b → r v u H Q)
    (h : tE K mg Wx (fun ρ => a ρ >>= fun x => b ρ >>= fun y => f x y) σ H Q) : tEB K mg Wx a σ H fun v H1 => tEB K mg Wx b σ H1 fun u H2 => r v u H2 Q := by
  obtain ⟨c, ρ, e, h⟩ := h
  refine ⟨c, ρ, e, (a ρ).mono (fun d _ q v H1 x i rv => ?_) (fun _ _ z => z) h⟩
  refine ⟨_, ρ, e.ext' x i, (b ρ).mono (fun d' _ q' v' H2 x2 i2 r2 => ?_) (fun _ _ z => XQ.later x z) q⟩
  refine hv c.W (Nn c ρ σ) H2 _ d d' v v' Q _ ((e.ext' x i).ext' x2 i2).vc (rv.ext x2 e.vc.bv) r2 ((f d d').mono (fun d3 _ q3 v3 H3 x3 i3 r3 => q3 v3 H3 ((x.trans x2).trans x3) i3 r3) (fun _ _ z => z) q')

/-! names, constants -/
theorem s_var {i : Nat} {x : Str} (hN : X.N[i]? = some x) (hv : Vis X.env.scope x) (hd : (x == ("__debug__" : Str)) = false) (hcd : (x == ("__classdict__" : Str)) = false) : PEr X Wx (.Name x pos) fun ρ => look ρ i :=
  pe_imp (pe_var hN hv hd hcd) fun σ H Q h => by
    obtain ⟨c, ρ, e, h⟩ := h
    have h : (look ρ i).run (fun d b => ∀ (v : V) (H' : Hp), Ext c.W.vol H H' → c.W.inv b H' → Rep X.K c.W (Nn c ρ σ) H' v d → Q v H') (XQ X.K X.mg Wx c ρ σ H) c.b := h
    unfold look at h
    split at h
    · obtain ⟨v, h1, h2⟩ := e.val _ _ ‹_›
      exact ⟨v, h1, h v H (Ext.refl H) e.inv h2⟩
    · exact h.elim
theorem s_varB {i : Nat} {x : Str} (hN : X.N[i]? = some x) (hv : Vis X.env.scope x) (hd : (x == ("__debug__" : Str)) = false) (hcd : (x == ("__classdict__" : Str)) = false) : PEb X Wx (.Name x pos) fun ρ => lookB ρ i :=
  pe_imp (pe_var hN hv hd hcd) fun σ H Q h => by
    obtain ⟨c, ρ, e, h⟩ := h
    have h : (lookB ρ i).run (fun d b => ∀ (v : V) (H' : Hp), Ext c.W.vol H H' → c.W.inv b H' → RepB X.K c.W (Nn c ρ σ) H' v d → Q v H') (XQ X.K X.mg Wx c ρ σ H) c.b := h
    unfold lookB at h
    split at h
    · rename_i d o hq
      cases o with
      | false =>
        obtain ⟨v, h1, h2⟩ := e.val _ _ hq
        exact ⟨v, h1, h v H (Ext.refl H) e.inv (.inl h2)⟩
      | true =>
        obtain ⟨a, o, h1, h2, h3, h5, h6⟩ := e.own _ _ hq
        refine ⟨_, h1, h _ H (Ext.refl H) e.inv ?_⟩
        cases h3 with
        | lst z l => exact .inr (.inl ⟨a, _, _, rfl, rfl, h2, z, l, fun z => h6 (e.bv a z)⟩)
        | dic g => exact .inr (.inr ⟨a, o, rfl, g, h2, fun z => h6 (e.bv a z)⟩)
    · exact h.elim
/-- a value that stands for its datum everywhere -/
def Stat (K : PySem.W.Frag) (v : V) (d : D) : Prop := ∀ (W : Wd) (N : Addr → Prop) (H : Hp), Rep K W N H v d
theorem s_con {x : Expr} {v : V} {d : D} (h : PE X x (tC v)) (r : Stat X.K v d) : PEr X Wx x fun _ => pure d :=
  pe_imp h fun σ H Q q => by
    obtain ⟨c, ρ, e, q⟩ := q
    exact q v H (Ext.refl H) e.inv (r _ _ _)
def conE : Const → D → Bool
  | .int i, .int j => decide (i = j)
  | .bool i, .bool j => decide (i = j)
  | .str i, .str j => decide (i = j)
  | .none, .none => true
  | _, _ => false
theorem s_const {k : Nat} {c : Const} {d : D} (h : conE c d = true) : PEr X Wx (.Constant c k pos) fun _ => pure d := by
  cases c <;> cases d <;> first
    | (have e := of_decide_eq_true h; subst e; first | exact s_con pe_int fun _ _ _ => .int _ | exact s_con pe_bl fun _ _ _ => .bl _ | exact s_con pe_str fun _ _ _ => .str _)
    | exact s_con pe_non fun _ _ _ => .non
    | exact absurd h (by simp [conE])
theorem s_dic : PEr X Wx (.Dict [] [] pos) fun _ => pure (.dict []) :=
  pe_imp pe_dnewK fun σ H Q h => by
    obtain ⟨c, ρ, e, h⟩ := h
    intro p hp
    obtain ⟨a, b, n⟩ := e.vc.new (o := .dK []) hp
    exact h _ _ a b (.dic upd_same n)

/-! displays -/
theorem s_nil : PAr X Wx [] fun _ => pure [] := pa_imp pa_nil fun σ H Q h => by
  obtain ⟨c, ρ, e, h⟩ := h
  exact h [] H (Ext.refl H) e.inv .nil
theorem s_nilB : PAb X Wx [] fun _ => pure [] := pa_imp pa_nil fun σ H Q h => by
  obtain ⟨c, ρ, e, h⟩ := h
  exact h [] H (Ext.refl H) e.inv .nil
theorem s_cons {x : Expr} {xs : List Expr} {a : TM D} {b : TM (List D)} (ha : PEr X Wx x a) (hb : PAr X Wx xs b) (hs : starEach (x :: xs) X.env = (false, eval x X.env) :: starEach xs X.env) : PAr X Wx (x :: xs) fun ρ => a ρ >>= fun d => b ρ >>= fun ds => pure (d :: ds) :=
  pa_imp (pa_cons ha hb hs) fun σ H Q h => by
    obtain ⟨c, ρ, e, h⟩ := h
    refine ⟨c, ρ, e, (a ρ).mono (fun d _ q v H1 x i rv => ?_) (fun _ _ z => z) h⟩
    refine ⟨_, ρ, e.ext' x i, (b ρ).mono (fun d' _ q' v' H2 x2 i2 r2 => ?_) (fun _ _ z => XQ.later x z) q⟩
    exact q' _ H2 (x.trans x2) i2 (.cons (rv.ext (x2.wide e.vc.bv)) r2)
theorem s_consB {x : Expr} {xs : List Expr} {a : TM D} {b : TM (List D)} (ha : PEb X Wx x a) (hb : PAb X Wx xs b) (hs : starEach (x :: xs) X.env = (false, eval x X.env) :: starEach xs X.env) : PAb X Wx (x :: xs) fun ρ => a ρ >>= fun d => b ρ >>= fun ds => pure (d :: ds) :=
  pa_imp (pa_cons ha hb hs) fun σ H Q h => by
    obtain ⟨c, ρ, e, h⟩ := h
    refine ⟨c, ρ, e, (a ρ).mono (fun d _ q v H1 x i rv => ?_) (fun _ _ z => z) h⟩
    refine ⟨_, ρ, e.ext' x i, (b ρ).mono (fun d' _ q' v' H2 x2 i2 r2 => ?_) (fun _ _ z => XQ.later x z) q⟩
    exact q' _ H2 (x.trans x2) i2 (.cons (rv.ext x2 e.vc.bv) r2)
/-- so many items -/
def Few (m : TM (List D)) : Prop := ∀ (ρ : Ev) (Q : List D → Nat → Prop) (R : XV → Nat → Prop) (b : Nat), (m ρ).run Q R b → (m ρ).run (fun ds b => ds.length ≤ sizeLine ∧ Q ds b) R b
theorem s_tup {xs : List Expr} {k : Nat} {m : TM (List D)} (h : PAr X Wx xs m) (f : Few m) : PEr X Wx (.Tuple xs k pos) fun ρ => m ρ >>= fun ds => pure (.tuple ds) :=
  pe_imp (pe_tupS h) fun σ H Q h => by
    obtain ⟨c, ρ, e, h⟩ := h
    refine ⟨c, ρ, e, (m ρ).mono (fun d _ q v H1 x i rv => ?_) (fun _ _ z => z) (f ρ _ _ _ h)⟩
    exact ⟨by rw [rv.length]; exact q.1, (e.ext' x i).vc.vtup rv q.1 fun v H' x' i' r => q.2 v H' (x.trans x') i' r⟩
theorem s_lst {xs : List Expr} {m : TM (List D)} (h : PAr X Wx xs m) (f : Few m) : PEr X Wx (.List xs pos) fun ρ => m ρ >>= fun ds => pure (.list ds) :=
  pe_imp (pe_lst h) fun σ H Q h => by
    obtain ⟨c, ρ, e, h⟩ := h
    refine ⟨c, ρ, e, (m ρ).mono (fun d _ q v H1 x i rv => ?_) (fun _ _ z => z) (f ρ _ _ _ h)⟩
    exact ⟨by rw [rv.length]; exact q.1, (e.ext' x i).vc.vlst rv q.1 fun v H' x' i' r => q.2 v H' (x.trans x') i' r⟩

/-! operators -/
theorem s_bin {x y : Expr} {op : Operator} {a b : TM D} (ha : PEb X Wx x a) (hb : PEb X Wx y b) : PEr X Wx (.BinOp x op y pos) fun ρ => a ρ >>= fun d => b ρ >>= fun e => binD op d e :=
  pe_imp (pe_op (or_bin op) ha hb) fun σ H Q h => read2 (fun W N H _ d e v u Q R c r1 r2 h => val_bin op c r1 r2 h) h
theorem s_neg {x : Expr} {a : TM D} (ha : PEb X Wx x a) : PEr X Wx (.UnaryOp .USub x pos) fun ρ => a ρ >>= fun d => asInt d >>= fun i => pure (.int (-i)) :=
  pe_imp (pe_un un_neg ha) fun σ H Q h => read1 (f := fun d => asInt d >>= fun i => pure (.int (-i))) (r := rU fun i => .int (-i)) (fun W N H _ d v Q R c r h => by
    obtain ⟨i, rfl, q⟩ := asInt_run h
    exact ⟨i, r.int, c.vint q⟩) h
theorem s_ix {x y : Expr} {a b : TM D} (ha : PEb X Wx x a) (hb : PEb X Wx y b) (hs : PlainIx y) : PEr X Wx (.Subscript x y pos) fun ρ => a ρ >>= fun d => b ρ >>= fun e => ixD d e :=
  pe_imp (pe_ix ix_seq ha hb hs) fun σ H Q h => read2 (fun W N H _ d e v u Q R c r1 r2 h => val_ix c r1 r2 h) h
theorem s_rev {x : Expr} {k : Nat} {p1 p2 p3 : Pos} {a : TM D} (ha : PEb X Wx x a) : PEr X Wx (.Subscript x (.Slice none none (some (.UnaryOp .USub (.Constant (.int 1) k p1) p2)) p3) pos) fun ρ => a ρ >>= fun d => revD d :=
  pe_imp (pe_rev ha) fun σ H Q h => read1 (f := revD) (r := rRevK X.K) (fun W N H _ d v Q R c r h => val_rev c r h) h

theorem s_slL {x y : Expr} {p2 : Pos} {a b : TM D} (ha : PEb X Wx x a) (hb : PEb X Wx y b) : PEr X Wx (.Subscript x (.Slice (some y) none none p2) pos) fun ρ => a ρ >>= fun d => b ρ >>= fun e => asInt e >>= fun i => slP d (some i) none :=
  pe_imp (pe_slice or_sl ha (po_some hb) po_none) fun σ H Q h => read2 (f := fun d e => asInt e >>= fun i => slP d (some i) none) (r := fun x y H Q => ∃ i, y = .int i ∧ rSlK X.K x (some i) none H Q) (fun W N H _ d e v u Q R c r1 r2 h => by
    obtain ⟨i, rfl, q⟩ := asInt_run h
    exact ⟨i, r2.int, val_sl c r1 q⟩) h
theorem s_slU {x y : Expr} {p2 : Pos} {a b : TM D} (ha : PEb X Wx x a) (hb : PEb X Wx y b) : PEr X Wx (.Subscript x (.Slice none (some y) none p2) pos) fun ρ => a ρ >>= fun d => b ρ >>= fun e => asInt e >>= fun i => slP d none (some i) :=
  pe_imp (pe_slice or_sl ha po_none (po_some hb)) fun σ H Q h => read2 (f := fun d e => asInt e >>= fun i => slP d none (some i)) (r := fun x y H Q => ∃ i, y = .int i ∧ rSlK X.K x none (some i) H Q) (fun W N H _ d e v u Q R c r1 r2 h => by
    obtain ⟨i, rfl, q⟩ := asInt_run h
    exact ⟨i, r2.int, val_sl c r1 q⟩) h

/-! comparisons, as values and as tests -/
theorem tE_of_T {K : PySem.W.Frag} {mg : Str → Option Value} {m : TM D} {σ : L2.St} {H : Hp} {Q : Bool → Hp → Prop} (h : tT K mg Wx m σ H Q) : tE K mg Wx m σ H fun x H' => ∃ k, x = .bl k ∧ Q k H' := by
  obtain ⟨c, ρ, e, h⟩ := h
  refine ⟨c, ρ, e, (m ρ).mono (fun d _ q v H' x i r => ?_) (fun _ _ z => z) h⟩
  obtain ⟨b, rfl, q⟩ := q
  cases r
  exact ⟨b, rfl, q H' x i⟩
abbrev mCmp (op : CmpOp) (a b : TM D) : TM D := fun ρ => a ρ >>= fun d => b ρ >>= fun e => cmpD op d e >>= fun r => pure (.bool r)
theorem read_cmp {op : CmpOp} {a b : TM D} {σ : L2.St} {H : Hp} {Q : VK} (h : tE X.K X.mg Wx (mCmp op a b) σ H Q) : tOp (rCmpK X.K op) (tEB X.K X.mg Wx a) (tEB X.K X.mg Wx b) σ H Q :=
  read2 (f := fun d e => cmpD op d e >>= fun r => pure (.bool r)) (fun W N H _ d e v u Q R c r1 r2 h => val_cmp op c r1 r2 (P := fun r => VQ X.K W N H Q (.bool r)) (fun b q => c.vbl q) h) h
theorem s_cmp (hu : X.A.units + 66 < cLine) {x y : Expr} {op : CmpOp} {a b : TM D} (ha : PEb X Wx x a) (hb : PEb X Wx y b) (hm : behindInMarks op y = false) : PEr X Wx (.Compare x [op] [y] pos) (mCmp op a b) :=
  pe_imp (pe_cmpR (or_cmp hu op) ha hb hm) fun σ H Q h => read_cmp h
theorem s_cmpT (hu : X.A.units + 66 < cLine) {x y : Expr} {op : CmpOp} {a b : TM D} (ha : PEb X Wx x a) (hb : PEb X Wx y b) (hm : behindInMarks op y = false) : PTr X Wx (.Compare x [op] [y] pos) (mCmp op a b) :=
  pt_imp (pt_cmpR (or_cmp hu op) ha hb hm) fun σ H Q h => read_cmp (tE_of_T h)
abbrev mCmp2 (o1 o2 : CmpOp) (a b c : TM D) : TM D := fun ρ => a ρ >>= fun x => b ρ >>= fun y => cmpD o1 x y >>= fun r => if r then (do let z ← c ρ; let q ← cmpD o2 y z; pure (.bool q)) else pure (.bool false)
theorem read_cmp2 {o1 o2 : CmpOp} {a b c : TM D} {σ : L2.St} {H : Hp} {Q : VK} (h : tE X.K X.mg Wx (mCmp2 o1 o2 a b c) σ H Q) : tChain (rCmpK X.K o1) (rCmpK X.K o2) (tEB X.K X.mg Wx a) (tEB X.K X.mg Wx b) (tEB X.K X.mg Wx c) σ H Q := by
  obtain ⟨cf, ρ, e, h⟩ := h
  refine ⟨cf, ρ, e, (a ρ).mono (fun d _ q v H1 x i rv => ?_) (fun _ _ z => z) h⟩
  refine ⟨_, ρ, e.ext' x i, (b ρ).mono (fun d' _ q' v' H2 x2 i2 r2 => ?_) (fun _ _ z => XQ.later x z) q⟩
  have e2 := (e.ext' x i).ext' x2 i2
  refine val_cmp o1 e2.vc (rv.ext x2 e.vc.bv) r2 (P := fun r => (if r then (do let z ← c ρ; let q ← cmpD o2 d' z; pure (.bool q)) else pure (.bool false) : M D).run (VQ X.K cf.W (Nn cf ρ σ) H Q) (XQ X.K X.mg Wx cf ρ σ H)) (fun r qr => ⟨r, rfl, ?_⟩) q'
  cases r with
  | false => exact e2.vc.vbl fun v H' x' i' r' => qr v H' ((x.trans x2).trans x') i' r'
  | true =>
    refine ⟨_, ρ, e2, (c ρ).mono (fun d3 _ q3 v3 H3 x3 i3 r3 => ?_) (fun _ _ z => XQ.later (x.trans x2) z) qr⟩
    exact val_cmp o2 (e2.ext' x3 i3).vc (r2.ext x3 e.vc.bv) r3 (P := fun r => VQ X.K cf.W (Nn cf ρ σ) H3 Q (.bool r)) (fun b q => (e2.ext' x3 i3).vc.vbl q) ((cmpD o2 d' d3).mono (fun r _ qr v H' x' i' r' => qr v H' (((x.trans x2).trans x3).trans x') i' r') (fun _ _ z => z) q3)
theorem s_cmp2 (hu : X.A.units + 66 < cLine) {x y z : Expr} {o1 o2 : CmpOp} {a b c : TM D} (ha : PEb X Wx x a) (hb : PEb X Wx y b) (hc : PEb X Wx z c) (hm : lastMarks [o1, o2] [y, z] = false) : PEr X Wx (.Compare x [o1, o2] [y, z] pos) (mCmp2 o1 o2 a b c) :=
  pe_imp (pe_chain (or_cmp hu o1) (or_cmp hu o2) ha hb hc hm) fun σ H Q h => read_cmp2 h
theorem s_cmp2T (hu : X.A.units + 66 < cLine) {x y z : Expr} {o1 o2 : CmpOp} {a b c : TM D} (ha : PEb X Wx x a) (hb : PEb X Wx y b) (hc : PEb X Wx z c) (hm : lastMarks [o1, o2] [y, z] = false) : PTr X Wx (.Compare x [o1, o2] [y, z] pos) (mCmp2 o1 o2 a b c) :=
  pt_imp (pt_chain (or_cmp hu o1) (or_cmp hu o2) ha hb hc hm) fun σ H Q h => read_cmp2 (tE_of_T h)

/-! not, and, or, if -/
abbrev mNot (a : TM D) : TM D := fun ρ => a ρ >>= fun d => asBool d >>= fun b => pure (.bool (!b))
abbrev mAnd (a b : TM D) : TM D := fun ρ => a ρ >>= fun d => asBool d >>= fun c => if c then (do let y ← b ρ; let d ← asBool y; pure (.bool d)) else pure (.bool false)
abbrev mOr (a b : TM D) : TM D := fun ρ => a ρ >>= fun d => asBool d >>= fun c => if c then pure (.bool true) else (do let y ← b ρ; let d ← asBool y; pure (.bool d))
abbrev mIf (c a b : TM D) : TM D := fun ρ => c ρ >>= fun d => asBool d >>= fun r => if r then a ρ else b ρ
theorem s_not {x : Expr} {a : TM D} (ha : PEr X Wx x a) : PEr X Wx (.UnaryOp .Not x pos) (mNot a) :=
  pe_imp (pe_not ha) fun σ H Q h => by
    obtain ⟨c, ρ, e, h⟩ := h
    refine ⟨c, ρ, e, (a ρ).mono (fun d _ q v H1 x i rv => ?_) (fun _ _ z => z) h⟩
    obtain ⟨b, rfl, q⟩ := asBool_run q
    cases rv
    exact ⟨b, rfl, (e.ext' x i).vc.vbl fun v H' x' i' r => q v H' (x.trans x') i' r⟩
theorem s_notT {x : Expr} {a : TM D} (ha : PTr X Wx x a) : PTr X Wx (.UnaryOp .Not x pos) (mNot a) :=
  pt_imp (pt_not ha) fun σ H Q h => by
    obtain ⟨c, ρ, e, h⟩ := h
    refine ⟨c, ρ, e, (a ρ).mono (fun d _ q => ?_) (fun _ _ z => z) h⟩
    obtain ⟨b, rfl, b', e', q⟩ := asBool_run q
    cases e'
    exact ⟨b, rfl, q⟩
theorem read_b {b : TM D} {c : Cf} {ρ : Ev} {σ : L2.St} {H H1 : Hp} {Q : VK} (e : EnvOk X.K c ρ σ H) (x : Ext c.W.vol H H1) {n : Nat} (i : c.W.inv n H1)
    (h : (b ρ >>= fun y => asBool y >>= fun d => pure (.bool d) : M D).run (VQ X.K c.W (Nn c ρ σ) H Q) (XQ X.K X.mg Wx c ρ σ H) n) : tE X.K X.mg Wx b σ H1 Q := by
  refine ⟨_, ρ, e.ext' x i, (b ρ).mono (fun d _ q v H2 x2 i2 r => ?_) (fun _ _ z => XQ.later x z) h⟩
  obtain ⟨k, rfl, q⟩ := asBool_run q
  exact q v H2 (x.trans x2) i2 r
theorem s_and {x y : Expr} {rest : List Expr} {a b : TM D} (ha : PEr X Wx x a) (hb : PEr X Wx (.BoolOp .And (y :: rest) pos) b) : PEr X Wx (.BoolOp .And (x :: y :: rest) pos) (mAnd a b) :=
  pe_imp (pe_and ha hb) fun σ H Q h => by
    obtain ⟨c, ρ, e, h⟩ := h
    refine ⟨c, ρ, e, (a ρ).mono (fun d _ q v H1 x i rv => ?_) (fun _ _ z => z) h⟩
    obtain ⟨k, rfl, q⟩ := asBool_run q
    cases rv
    refine ⟨k, rfl, ?_⟩
    cases k with
    | true => exact read_b e x i q
    | false => exact (e.ext' x i).vc.vbl fun v H' x' i' r => q v H' (x.trans x') i' r
theorem s_or {x y : Expr} {rest : List Expr} {a b : TM D} (ha : PEr X Wx x a) (hb : PEr X Wx (.BoolOp .Or (y :: rest) pos) b) : PEr X Wx (.BoolOp .Or (x :: y :: rest) pos) (mOr a b) :=
  pe_imp (pe_or ha hb) fun σ H Q h => by
    obtain ⟨c, ρ, e, h⟩ := h
    refine ⟨c, ρ, e, (a ρ).mono (fun d _ q v H1 x i rv => ?_) (fun _ _ z => z) h⟩
    obtain ⟨k, rfl, q⟩ := asBool_run q
    cases rv
    refine ⟨k, rfl, ?_⟩
    cases k with
    | false => exact read_b e x i q
    | true => exact (e.ext' x i).vc.vbl fun v H' x' i' r => q v H' (x.trans x') i' r
theorem pw_imp {x : Expr} {t t' : TT} (h : PW X x t) (i : ∀ (σ : L2.St) (H : Hp) (Q : Bool → Hp → Prop), t' σ H Q → t σ H Q) : PW X x t' := ⟨fun wh pins s σ H Q I q => h.run wh pins s σ H Q I (i σ H Q q)⟩
abbrev PWr (X : Cx) (Wx : WX) (x : Expr) (m : TM D) : Prop := PW X x (tT X.K X.mg Wx m)
theorem read_bT {b : TM D} {c : Cf} {ρ : Ev} {σ : L2.St} {H H1 : Hp} {Q : Bool → Hp → Prop} (e : EnvOk X.K c ρ σ H) (x : Ext c.W.vol H H1) {n : Nat} (i : c.W.inv n H1)
    (h : (b ρ >>= fun y => asBool y >>= fun d => pure (.bool d) : M D).run (fun d n => ∃ k, d = .bool k ∧ ∀ H', Ext c.W.vol H H' → c.W.inv n H' → Q k H') (XQ X.K X.mg Wx c ρ σ H) n) : tT X.K X.mg Wx b σ H1 Q := by
  refine ⟨_, ρ, e.ext' x i, (b ρ).mono (fun d _ q => ?_) (fun _ _ z => XQ.later x z) h⟩
  obtain ⟨k, rfl, k', e', q⟩ := asBool_run q
  cases e'
  exact ⟨k, rfl, fun H2 x2 i2 => q H2 (x.trans x2) i2⟩
theorem s_andW {x y : Expr} {rest : List Expr} {a b : TM D} (ha : PTr X Wx x a) (hb : PWr X Wx (.BoolOp .And (y :: rest) pos) b) : PWr X Wx (.BoolOp .And (x :: y :: rest) pos) (mAnd a b) :=
  pw_imp (pw_and ha hb) fun σ H Q h => by
    obtain ⟨c, ρ, e, h⟩ := h
    refine ⟨c, ρ, e, (a ρ).mono (fun d _ q => ?_) (fun _ _ z => z) h⟩
    obtain ⟨k, rfl, q⟩ := asBool_run q
    refine ⟨k, rfl, fun H1 x i => ?_⟩
    cases k with
    | true => exact read_bT e x i q
    | false =>
      obtain ⟨k', e', q⟩ := q
      cases e'
      exact q H1 x i
theorem s_orW {x y : Expr} {rest : List Expr} {a b : TM D} (ha : PTr X Wx x a) (hb : PWr X Wx (.BoolOp .Or (y :: rest) pos) b) : PWr X Wx (.BoolOp .Or (x :: y :: rest) pos) (mOr a b) :=
  pw_imp (pw_or ha hb) fun σ H Q h => by
    obtain ⟨c, ρ, e, h⟩ := h
    refine ⟨c, ρ, e, (a ρ).mono (fun d _ q => ?_) (fun _ _ z => z) h⟩
    obtain ⟨k, rfl, q⟩ := asBool_run q
    refine ⟨k, rfl, fun H1 x i => ?_⟩
    cases k with
    | false => exact read_bT e x i q
    | true =>
      obtain ⟨k', e', q⟩ := q
      cases e'
      exact q H1 x i
theorem s_if {z x y : Expr} {c a b : TM D} (hc : PTr X Wx z c) (ha : PEr X Wx x a) (hb : PEr X Wx y b) : PEr X Wx (.IfExp z x y pos) (mIf c a b) :=
  pe_imp (pe_ifExp hc ha hb) fun σ H Q h => by
    obtain ⟨cf, ρ, e, h⟩ := h
    refine ⟨cf, ρ, e, (c ρ).mono (fun d _ q => ?_) (fun _ _ z => z) h⟩
    obtain ⟨k, rfl, q⟩ := asBool_run q
    refine ⟨k, rfl, fun H1 x i => ?_⟩
    cases k with
    | true => exact ⟨_, ρ, e.ext' x i, (a ρ).mono (fun d _ q v H2 x2 i2 r => q v H2 (x.trans x2) i2 r) (fun _ _ z => XQ.later x z) q⟩
    | false => exact ⟨_, ρ, e.ext' x i, (b ρ).mono (fun d _ q v H2 x2 i2 r => q v H2 (x.trans x2) i2 r) (fun _ _ z => XQ.later x z) q⟩
end
end Ad
namespace Ad
open PySem PySem.Calls PySem.W PySem.SeqAt PySem.Spec PyProof.Rows L2

/-! ### what a def promises, by data -/
def spOf (K : PySem.W.Frag) (mg : Str → Option Value) (f : List D → M D) : Sp := fun vs H Q E => ∃ (W : Wd) (B : Addr → Prop) (ds : List D) (b : Nat), VC W B H b ∧ RepL K W B H vs ds ∧
  (f ds).run (VQ K W B H Q) (fun x b => ∀ cls d H', Ext W.vol H H' → W.inv b H' → RepX K mg W B H' x cls d → E cls d H') b
/-- FnOk, the guards known -/
structure FnG (P : Program) (w : World) (K : PySem.W.Frag) (mg : Str → Option Value) (base : Heap) (k : Nat) (f : Addr) (fd : FuncData) (ps : List Str) (sp : Sp) : Prop where
  len : ∀ vs H Q E, sp vs H Q E → vs.length = ps.length
  run : ∀ (A : Around) (outer : List Env) (s : Shared) (H : Hp) (args : Args) (us : List Value) (vs : List V) (Q : VK) (E : XK), Room k A → A.guards = some [] → Env0 P w K mg base A outer s H → BindsTo s fd args (ps.zip us) → Vals vs us → sp vs H Q E →
    codeAny (model P w) A (.call (.ref f) args) (CR (CX P w) outer P w H s Q E) s
theorem FnG.mono {P : Program} {w : World} {K : PySem.W.Frag} {mg : Str → Option Value} {base : Heap} {j k : Nat} {f : Addr} {fd : FuncData} {ps : List Str} {sp : Sp} (F : FnG P w K mg base j f fd ps sp) (h : j ≤ k) : FnG P w K mg base k f fd ps sp :=
  ⟨F.len, fun A outer s H args us vs Q E hr => F.run A outer s H args us vs Q E (hr.mono h)⟩
/-- the global name nm calls what does f -/
def CallP (P : Program) (w : World) (K : PySem.W.Frag) (mg : Str → Option Value) (base : Heap) (k : Nat) (nm : Str) (f : List D → M D) : Prop :=
  ∃ (a : Addr) (fd : FuncData) (ps : List Str), mg nm = some (.ref a) ∧ PySem.W.keepIn K (.ref a) = true ∧ FnG P w K mg base k a fd ps (spOf K mg f) ∧ Binds K fd ps []
theorem CallP.mono {P : Program} {w : World} {K : PySem.W.Frag} {mg : Str → Option Value} {base : Heap} {j k : Nat} {nm : Str} {f : List D → M D} (c : CallP P w K mg base j nm f) (h : j ≤ k) : CallP P w K mg base k nm f := by
  obtain ⟨a, fd, ps, h1, h2, F, b⟩ := c
  exact ⟨a, fd, ps, h1, h2, F.mono h, b⟩
section
variable {X : Cx} {Wx : WX} {pos : Pos}
theorem run_fnG {k : Nat} {f : Addr} {fd : FuncData} {ps : List Str} {sp : Sp} {E : XK} {pins : List (Addr × Obj)} {σ : L2.St} {H : Hp} {s : Shared} {Q : VK} {us : List Value} {vs : List V} (F : FnG X.prog X.w X.K X.mg X.base k f fd ps sp) (hr : Room k X.A) (hg : X.A.guards = some []) (hb : Binds X.K fd ps []) (hx : PassesAt (CX X.prog X.w) X σ E)
    (I : Inv X pins σ H s) (r : Vals vs us) (h : sp vs H Q E) : wpAny (model X.prog X.w) X.A (call (.ref f) us) (EP X pins σ Q) X.xe s := by
  have hl : us.length = ps.length := by rw [← r.length]; exact F.len _ _ _ _ h
  have hb' := hb s us I.kIn (by rw [List.append_nil]; exact hl)
  rw [List.append_nil] at hb'
  refine wpAny_call (codeAny_mono (F.run X.A X.stack s H ⟨us, []⟩ us vs Q E hr hg I.env0 hb' r h) fun r s' hq => ?_)
  cases r with
  | error e => exact hx pins H s e s' I hq
  | ok fl =>
    cases fl with
    | ret u => exact I.after hq
    | next => exact False.elim hq
    | brk => exact False.elim hq
    | cont => exact False.elim hq
theorem pe_callG {k : Nat} {x : Str} {f : List D → M D} {e : Expr} {es : List Expr} {t : TA} {p : Pos} (C : CallP X.prog X.w X.K X.mg X.base k x f) (hr : Room k X.A) (hg : X.A.guards = some []) (hgl : Gl X x) (tk : Takes X Wx)
    (ha : PA X (e :: es) t) (hdb : (x == ("__debug__" : Str)) = false) (he : starEach (e :: es) X.env = (false, eval e X.env) :: starEach es X.env) (hpl : (backTo pos (starEach es X.env)).any (·.1) = false) :
    PE X (.Call (.Name x p) (e :: es) [] pos) (tCallSD (spOf X.K X.mg f) [] (fun σ => WE Wx σ) t) := by
  obtain ⟨a, fd, ps, hm, hk, F, hb⟩ := C
  refine ⟨fun pins s σ H Q I h => ?_⟩
  refine wpAny_Call_Name_kw (ld_glob I hgl hm ?_ hdb)
  refine PySem.W.callWith_K (h₀ := X.base) I.ok.mod.kin hk (thn (ha.run pos pins s σ H _ I h) fun us s1 ⟨vs, H1, I1, r, q⟩ => ⟨I1.kIn, ?_⟩) he hpl
  have q : spOf X.K X.mg f (vs ++ []) H1 Q (WE Wx σ) := q
  rw [List.append_nil] at q
  exact run_fnG F hr hg hb (passAt tk σ) I1 r q
theorem pe_callG0 {k : Nat} {x : Str} {f : List D → M D} {p : Pos} (C : CallP X.prog X.w X.K X.mg X.base k x f) (hr : Room k X.A) (hg : X.A.guards = some []) (hgl : Gl X x) (tk : Takes X Wx)
    (hdb : (x == ("__debug__" : Str)) = false) : PE X (.Call (.Name x p) [] [] pos) (tCallSD (spOf X.K X.mg f) [] (fun σ => WE Wx σ) tNil) := by
  obtain ⟨a, fd, ps, hm, hk, F, hb⟩ := C
  refine ⟨fun pins s σ H Q I h => ?_⟩
  refine wpAny_Call_Name_kw (ld_glob I hgl hm ?_ hdb)
  exact PySem.W.callWith_K0 I.kIn hk (run_fnG (us := []) F hr hg hb (passAt tk σ) I .nil h)

/-! ### calls, read by data -/
theorem read_call {f : List D → M D} {m : TM (List D)} {σ : L2.St} {H : Hp} {Q : VK} {t : TA} (ht : ∀ (σ : L2.St) (H : Hp) (Q : List V → Hp → Prop), tA X.K X.mg Wx m σ H Q → t σ H Q) (h : tE X.K X.mg Wx (fun ρ => m ρ >>= f) σ H Q) : tCallSD (spOf X.K X.mg f) [] (fun σ => WE Wx σ) t σ H Q := by
  obtain ⟨c, ρ, e, h⟩ := h
  refine ht σ H _ ⟨c, ρ, e, (m ρ).mono (fun ds _ q vs H1 x i rv => ?_) (fun _ _ z => z) h⟩
  refine ⟨c.W, Nn c ρ σ, ds, _, (e.ext' x i).vc, by rw [List.append_nil]; exact rv, (f ds).mono (fun d _ q v H2 x2 i2 r2 => q v H2 (x.trans x2) i2 r2) (fun z _ q cls dd H2 x2 i2 r2 => ?_) q⟩
  exact q cls dd H2 (x.trans x2) i2 r2
theorem RepBL.low {K : PySem.W.Frag} {W : Wd} {N : Addr → Prop} {H : Hp} (b : ∀ a, W.vol a → N a) : ∀ {vs : List V} {ds : List D}, RepBL K W N H vs ds → RepL K W W.vol H vs ds
  | _, _, .nil => .nil
  | _, _, .cons h t => by
    refine .cons ?_ (t.low b)
    rcases h with h | ⟨a, vs, ds, rfl, rfl, h3, h4, h5, h6⟩ | ⟨a, o, rfl, g, h3, h4⟩
    · exact h.anti b
    · exact .lst h3 h6 h4 (h5.anti b)
    · cases g with
      | dki z => exact .dci h3 h4 z
      | dkt z k => exact .dct h3 h4 z fun x m => (k x m).anti b
theorem VC.low {W : Wd} {N : Addr → Prop} {H : Hp} {b : Nat} (v : VC W N H b) : VC W W.vol H b := ⟨fun a h => v.kl a (v.bv a h), fun _ h => h, v.inv⟩
theorem VC.fix {K : PySem.W.Frag} {W : Wd} {N : Addr → Prop} {H : Hp} {b : Nat} (v : VC W N H b) {x : V} {d : D} (f : fixedD d = true) (r : Rep K W W.vol H x d) : Rep K W N H x d :=
  Rep.fixed d x f (fun a vs h n => by
    obtain ⟨ws, q, m⟩ := v.kl a n
    rcases h with h | ⟨o, h⟩ <;> rw [q] at h <;> cases h <;> exact m) r
theorem read_callB {f : List D → M D} {m : TM (List D)} {σ : L2.St} {H : Hp} {Q : VK} {t : TA} (ht : ∀ (σ : L2.St) (H : Hp) (Q : List V → Hp → Prop), tAB X.K X.mg Wx m σ H Q → t σ H Q) (h : tE X.K X.mg Wx (fun ρ => m ρ >>= fun ds => fixM (f ds)) σ H Q) : tCallSD (spOf X.K X.mg f) [] (fun σ => WE Wx σ) t σ H Q := by
  obtain ⟨c, ρ, e, h⟩ := h
  refine ht σ H _ ⟨c, ρ, e, (m ρ).mono (fun ds _ q vs H1 x i rv => ?_) (fun _ _ z => z) h⟩
  have v1 := (e.ext' x i).vc
  have q : (f ds).run (fun r b => fixedD r = true ∧ VQ X.K c.W (Nn c ρ σ) H Q r b) (fun _ _ => False) _ := q
  refine ⟨c.W, c.W.vol, ds, _, v1.low, by rw [List.append_nil]; exact rv.low e.vc.bv, (f ds).mono (fun d _ q v H2 x2 i2 r2 => ?_) (fun z _ q => q.elim) q⟩
  exact q.2 v H2 (x.trans x2) i2 ((v1.ext x2 i2).fix q.1 r2)
theorem s_call {k : Nat} {x : Str} {f : List D → M D} {e : Expr} {es : List Expr} {m : TM (List D)} {p : Pos} (C : CallP X.prog X.w X.K X.mg X.base k x f) (hr : Room k X.A) (hg : X.A.guards = some []) (hgl : Gl X x) (tk : Takes X Wx)
    (ha : PAr X Wx (e :: es) m) (hdb : (x == ("__debug__" : Str)) = false) (he : starEach (e :: es) X.env = (false, eval e X.env) :: starEach es X.env) (hpl : (backTo pos (starEach es X.env)).any (·.1) = false) :
    PEr X Wx (.Call (.Name x p) (e :: es) [] pos) fun ρ => m ρ >>= f := pe_imp (pe_callG C hr hg hgl tk ha hdb he hpl) fun σ H Q h => read_call (fun _ _ _ z => z) h
theorem s_call0 {k : Nat} {x : Str} {f : List D → M D} {p : Pos} (C : CallP X.prog X.w X.K X.mg X.base k x f) (hr : Room k X.A) (hg : X.A.guards = some []) (hgl : Gl X x) (tk : Takes X Wx)
    (hdb : (x == ("__debug__" : Str)) = false) : PEr X Wx (.Call (.Name x p) [] [] pos) fun ρ => (pure [] : M (List D)) >>= f := pe_imp (pe_callG0 C hr hg hgl tk hdb) fun σ H Q h => read_call (m := fun _ => pure []) (fun σ H Q z => by
      obtain ⟨c, ρ, e, z⟩ := z
      exact z [] H (Ext.refl H) e.inv .nil) h
theorem s_callB {k : Nat} {x : Str} {f : List D → M D} {e : Expr} {es : List Expr} {m : TM (List D)} {p : Pos} (C : CallP X.prog X.w X.K X.mg X.base k x f) (hr : Room k X.A) (hg : X.A.guards = some []) (hgl : Gl X x) (tk : Takes X Wx)
    (ha : PAb X Wx (e :: es) m) (hdb : (x == ("__debug__" : Str)) = false) (he : starEach (e :: es) X.env = (false, eval e X.env) :: starEach es X.env) (hpl : (backTo pos (starEach es X.env)).any (·.1) = false) :
    PEr X Wx (.Call (.Name x p) (e :: es) [] pos) fun ρ => m ρ >>= fun ds => fixM (f ds) := pe_imp (pe_callG C hr hg hgl tk ha hdb he hpl) fun σ H Q h => read_callB (fun _ _ _ z => z) h
/-- a built-in -/
theorem read_bi {f : List D → M D} {m : TM (List D)} {σ : L2.St} {H : Hp} {Q : VK} (h : tE X.K X.mg Wx (fun ρ => m ρ >>= f) σ H Q) : tCB (rCall X.K f) (tAB X.K X.mg Wx m) σ H Q := by
  obtain ⟨c, ρ, e, h⟩ := h
  refine ⟨c, ρ, e, (m ρ).mono (fun ds _ q vs H1 x i rv => ?_) (fun _ _ z => z) h⟩
  exact ⟨c.W, Nn c ρ σ, ds, _, _, (e.ext' x i).vc, rv, (f ds).mono (fun d _ q v H2 x2 i2 r2 => q v H2 (x.trans x2) i2 r2) (fun _ _ z => z) q⟩
theorem s_biF {id : String} {x : Str} {f : List D → M D} {e : Expr} {es : List Expr} {m : TM (List D)} {p : Pos} (hc : CallR X (.builtin id) (rCall X.K f)) (hg : Gl X x) (hm : X.mg x = none) (hv : bootBuiltins x = some (.builtin id)) (ha : PAb X Wx (e :: es) m) (hn : x ≠ "__name__") (hdb : (x == ("__debug__" : Str)) = false)
    (he : starEach (e :: es) X.env = (false, eval e X.env) :: starEach es X.env) (hpl : (backTo pos (starEach es X.env)).any (·.1) = false) : PEr X Wx (.Call (.Name x p) (e :: es) [] pos) fun ρ => m ρ >>= f :=
  pe_imp (pe_callB hc hg hm hv ha hn hdb he hpl) fun σ H Q h => read_bi h
theorem s_biT {T : String} {x : Str} {f : List D → M D} {e : Expr} {es : List Expr} {m : TM (List D)} {p : Pos} (hc : CallR X (.type T) (rCall X.K f)) (hg : Gl X x) (hm : X.mg x = none) (hv : bootBuiltins x = some (.type T)) (ha : PAb X Wx (e :: es) m) (hn : x ≠ "__name__") (hdb : (x == ("__debug__" : Str)) = false)
    (he : starEach (e :: es) X.env = (false, eval e X.env) :: starEach es X.env) (hpl : (backTo pos (starEach es X.env)).any (·.1) = false) : PEr X Wx (.Call (.Name x p) (e :: es) [] pos) fun ρ => m ρ >>= f :=
  pe_imp (pe_callTy hc hg hm hv ha hn hdb he hpl) fun σ H Q h => read_bi h
/-- isinstance(x, T) -/
theorem s_isa {T : String} {g : D → Bool} {y : Str} {x : Expr} {a : TM D} {p p2 : Pos} (hc : CallR X (.builtin "isinstance") (rIsaC X.K T (on1 (isaD g)))) (hg : Gl X "isinstance") (hm : X.mg "isinstance" = none) (hv : bootBuiltins "isinstance" = some (.builtin "isinstance"))
    (hg2 : Gl X y) (hm2 : X.mg y = none) (hv2 : bootBuiltins y = some (.type T)) (hn2 : y ≠ "__name__") (hd2 : (y == ("__debug__" : Str)) = false) (ha : PEb X Wx x a)
    (he : starEach [x, .Name y p2] X.env = (false, eval x X.env) :: starEach [.Name y p2] X.env) : PEr X Wx (.Call (.Name "isinstance" p) [x, .Name y p2] [] pos) fun ρ => (a ρ >>= fun d => (pure [] : M (List D)) >>= fun ds => pure (d :: ds)) >>= on1 (isaD g) :=
  pe_imp (pe_callB hc hg hm hv (pa_cons ha (pa_cons (pe_bltn (v := .ty T) hg2 hm2 hv2 rfl hn2 hd2) pa_nil rfl) he) (by decide) (by decide) he (by first | rfl | simp [backTo, starEach])) fun σ H Q h => by
    obtain ⟨c, ρ, e, h⟩ := h
    refine ⟨c, ρ, e, (a ρ).mono (fun d _ q v H1 x i rv => ?_) (fun _ _ z => z) h⟩
    exact ⟨c.W, Nn c ρ σ, d, v, _, _, rfl, (e.ext' x i).vc, rv, (on1 (isaD g) [d]).mono (fun d _ q v H2 x2 i2 r2 => q v H2 (x.trans x2) i2 r2) (fun _ _ z => z) q⟩
end

/-! ### the shape of what is written -/
def notStar : Expr → Bool
  | .Starred .. => false
  | _ => true
theorem star_ok {e : Expr} (h : notStar e = true) (es : List Expr) (env : Env) : starEach (e :: es) env = (false, eval e env) :: starEach es env := by
  cases e <;> first | rfl | exact absurd h (by simp [notStar])
theorem star_any : ∀ {es : List Expr}, es.all notStar = true → ∀ (pos : Pos) (env : Env), (backTo pos (starEach es env)).any (·.1) = false
  | [], _, _, _ => rfl
  | e :: es, h, pos, env => by
    simp only [List.all_cons, Bool.and_eq_true] at h
    rw [star_ok h.1]
    show (false || (backTo pos (starEach es env)).any (·.1)) = false
    rw [star_any h.2]
    rfl
def plainE : Expr → Bool
  | .UnaryOp .Not _ _ => false
  | .BoolOp .. => false
  | .IfExp .. => false
  | .Compare .. => false
  | _ => true
theorem plain_ok {x : Expr} (h : plainE x = true) (env : Env) : ∀ whole, PySem.isTrue x env whole = (do let v ← whole; standAt x.pos; holding [v] (truthy v)) := by
  intro whole
  cases x <;> first
    | rfl
    | (rename_i op _ _; cases op <;> first | rfl | exact absurd h (by simp [plainE]))
    | exact absurd h (by simp [plainE])
def notSlice : Expr → Bool
  | .Slice .. => false
  | _ => true
theorem slice_ok {x : Expr} (h : notSlice x = true) : PlainIx x := fun o i => by
  cases x <;> first | rfl | exact absurd h (by simp [notSlice])
def notSet : Expr → Bool
  | .Set .. => false
  | _ => true
theorem set_ok {x : Expr} (h : notSet x = true) (op : CmpOp) : behindInMarks op x = false := by
  cases x <;> first | rfl | exact absurd h (by simp [notSet])
theorem set_fold {x : Expr} (h : notSet x = true) (env : Env) : ∀ v, foldedSetIterable x env v = pure v := fun v => by
  cases x <;> first | rfl | exact absurd h (by simp [notSet])
def notSup : Expr → Bool
  | .Call (.Name ..) [] [] _ => false
  | _ => true
theorem sup_ok {x : Expr} (h : notSup x = true) (a : Str) (env : Env) (w : Sem Value) : attributeBase x a env w = w := by
  unfold attributeBase
  split
  · exact absurd h (by simp [notSup])
  · rfl
end Ad
namespace Ad
open PySem PySem.Calls PySem.W PySem.SeqAt PySem.Spec PyProof.Rows L2

/-! ### exceptions as values, read by data -/
def wd0 : Wd where
  vol := fun _ => False
  dk := none
  vl := fun _ => none
  len := 1
  inv := fun _ _ => True
  known := fun _ _ _ _ h => h.elim
  keep := fun _ _ _ _ _ => trivial
  pos := ⟨by decide, by decide⟩
  dkv := fun _ h => nomatch h
  vlv := fun _ _ h => nomatch h
  dkk := fun _ _ _ _ h => nomatch h
  dkw := fun _ _ _ _ _ _ _ _ _ _ _ _ _ => trivial
  vlk := fun _ _ _ _ _ h => nomatch h
  vlw := fun _ _ _ _ _ h => nomatch h
theorem stat_cls {K : PySem.W.Frag} {nm : Str} {tbl : List (D × D)} {ks : List D} {v : V} (h : Stat K v (clsD nm tbl ks)) : v = .ref (He.ga K nm) ∧ XOk K nm tbl ks ∧ MkOk K nm ks := by
  have h := h wd0 (fun _ => False) (fun _ => none)
  generalize hd : clsD nm tbl ks = d at h
  cases h with
  | cls h1 h2 =>
    cases hd
    exact ⟨rfl, h1, h2⟩
  | _ => cases hd
section
variable {X : Cx} {Wx : WX} {pos : Pos}
/-- C() -/
theorem s_mkx0 {nm : Str} {tbl : List (D × D)} {p : Pos} (hx : XOk X.K nm tbl []) (hk : MkOk X.K nm []) (hm : X.mg nm = some (.ref (He.ga X.K nm))) (hg : Gl X nm) (hdb : (nm == ("__debug__" : Str)) = false) :
    PEr X Wx (.Call (.Name nm p) [] [] pos) fun _ => pure (insD nm tbl [] []) := by
  rcases hk with ⟨_, kC, B, newId, initId, bmB, F, q⟩ | ⟨ne, _⟩
  · refine pe_imp (pe_mkv0 F q hm kC hg hdb) fun σ H Q h => ?_
    obtain ⟨c, ρ, e, h⟩ := h
    intro a ha
    obtain ⟨x, i, n⟩ := e.vc.new (o := exo a (He.ga X.K nm) none) ha
    exact h (.ref a) _ x i (.exo (vs := []) hx (.inl ⟨rfl, upd_same⟩) n .nil)
  · exact absurd rfl ne
/-- C(e, ..) -/
theorem s_mkx {nm : Str} {tbl : List (D × D)} {ks : List D} {x : Expr} {es : List Expr} {m : TM (List D)} {p : Pos} (hx : XOk X.K nm tbl ks) (hk : MkOk X.K nm ks) (hm : X.mg nm = some (.ref (He.ga X.K nm))) (hr : Room 2 X.A) (hg : Gl X nm) (ha : PAr X Wx (x :: es) m) (hn : (x :: es).length = ks.length) (hl : ks.length ≤ 1000) (hdb : (nm == ("__debug__" : Str)) = false) (hs : (x :: es).all notStar = true) :
    PEr X Wx (.Call (.Name nm p) (x :: es) [] pos) fun ρ => m ρ >>= fun ds => M.grd (ds.length = ks.length) >>= fun _ => pure (insD nm tbl ks ds) := by
  rcases hk with ⟨rfl, _⟩ | ⟨ne, T, fI, fd, ps, iC, tI, hb, hF⟩
  · cases hn
  · simp only [List.all_cons, Bool.and_eq_true] at hs
    refine pe_imp (pe_mkv T iC tI (hF _ _ _ _) hr hb pass0 hg hm ha hdb (star_ok hs.1 es X.env) (star_any hs.2 pos X.env)) fun σ H Q h => ?_
    obtain ⟨c, ρ, e, h⟩ := h
    refine ⟨c, ρ, e, (m ρ).mono (fun ds b q vs H1 y i rv => ?_) (fun _ _ z => z) h⟩
    obtain ⟨hl', q⟩ := q
    have e1 := e.ext' y i
    have lv := rv.length
    refine ⟨by omega, fun a ha => ⟨a, vs, rfl, by omega, upd_same, fun dx fs H' hdx hne h1 h2 h3 h4 => ⟨rfl, ?_⟩⟩⟩
    rw [upd_ne hne] at hdx
    have k3 : ∀ b, b ≠ a → b ≠ dx → H' b = H1 b := fun b n1 n2 => by rw [h3 b n1 n2, upd_ne n1]
    have x2 : ∀ b o, H1 b = some o → H' b = some o := fun b o z => by
      rw [k3 b (ne_of_none z ha) (ne_of_none z hdx)]
      exact z
    have i2 : c.W.inv b H' := c.W.keep _ H1 H' i fun b vb => k3 b (fun z => e1.vc.kn b (e1.vc.bv b vb) (z ▸ ha)) (fun z => e1.vc.kn b (e1.vc.bv b vb) (z ▸ hdx))
    exact q (.ref a) H' (y.trans fun b o _ z => x2 b o z) i2 (.exo hx (.inr ⟨dx, fs, h1, h2, fun z => e1.vc.kn dx z hdx, h4⟩) (fun z => e1.vc.kn a z ha) (rv.ext fun b o _ z => x2 b o z))
theorem fldD_run {K : PySem.W.Frag} {W : Wd} {N : Addr → Prop} {H : Hp} {f : Str} {d : D} {v : V} {Q : D → Nat → Prop} {R : XV → Nat → Prop} {b : Nat} (r : Rep K W N H v d) (h : (fldD f d).run Q R b) :
    ∃ a C dx fs u x, v = .ref a ∧ XfC K C ∧ PySem.W.findIn K (.ref C) f = some none ∧ H a = some (exo a C (some dx)) ∧ H dx = some (exd dx fs) ∧ fs.lookup f = some u ∧ Rep K W N H u x ∧ Q x b := by
  unfold fldD at h
  split at h
  · obtain ⟨i, hi, h⟩ := oget_run h
    obtain ⟨x, hx, h⟩ := oget_run h
    cases r with
    | exo h1 h2 h3 h4 =>
      rcases h2 with ⟨rfl, _⟩ | ⟨dx, fs, g1, g2, g3, g4⟩
      · cases hi
      · obtain ⟨u, hu, ru⟩ := h4.get hx
        exact ⟨_, _, dx, fs, u, x, rfl, h1.xf, h1.fl f i hi, g1, g2, (g4 f i hi).trans hu, ru, h⟩
  · exact h.elim
/-- x.f -/
theorem s_fld {f : Str} {x : Expr} {m : TM D} (h : PEr X Wx x m) (hb : notSup x = true) : PEr X Wx (.Attribute x f pos) fun ρ => m ρ >>= fldD f :=
  pe_imp (pe_xfv (n := f) h (sup_ok hb f X.env _)) fun σ H Q q => read1T (r := fun x H1 Q => ∃ a C dx fs v, x = V.ref a ∧ XfC X.K C ∧ PySem.W.findIn X.K (.ref C) f = some none ∧ H1 a = some (exo a C (some dx)) ∧ H1 dx = some (exd dx fs) ∧ fs.lookup f = some v ∧ Q v H1) (fun W N H b d v Q R vc r h => by
    obtain ⟨a, C, dx, fs, u, x, h1, h2, h3, h4, h5, h6, h7, h8⟩ := fldD_run r h
    exact ⟨a, C, dx, fs, u, h1, h2, h3, h4, h5, h6, h8 u H (Ext.refl H) vc.inv h7⟩) q
theorem isxD_run {K : PySem.W.Frag} {W : Wd} {N : Addr → Prop} {H : Hp} {n : Str} {own : Bool} {d : D} {v : V} {Q : D → Nat → Prop} {R : XV → Nat → Prop} {b : Nat} (r : Rep K W N H v d) (h : (isxD own n d).run Q R b) :
    ∃ a C e t, v = .ref a ∧ ExcC K C ∧ H a = some (exo a C e) ∧ (e = none ∨ ∃ dx fs, e = some dx ∧ H dx = some (exd dx fs)) ∧ (own = true → PySem.W.kitOne K (.ref C) (.ref (He.ga K n)) = some t) ∧ (own = false → ∃ T, bootBuiltins n = some (.type T) ∧ PySem.W.kitOne K (.ref C) (.type T) = some t) ∧ Q (.bool t) b := by
  unfold isxD at h
  split at h
  · obtain ⟨t, ht, h⟩ := oget_run h
    cases r with
    | exo h1 h2 h3 h4 =>
      have o1 : own = true → _ := fun z => h1.own n t (z ▸ ht)
      have o2 : own = false → _ := fun z => h1.blt n t (z ▸ ht)
      rcases h2 with ⟨_, g⟩ | ⟨dx, fs, g1, g2, g3, g4⟩
      · exact ⟨_, _, none, t, rfl, h1.ec, g, .inl rfl, o1, o2, h⟩
      · exact ⟨_, _, some dx, t, rfl, h1.ec, g1, .inr ⟨dx, fs, rfl, g2⟩, o1, o2, h⟩
  · exact h.elim
/-- isinstance(x, C), C a class of the program's -/
theorem s_xisO {n : Str} {x : Expr} {m : TM D} {p p2 : Pos} (h : PEr X Wx x m) (hg : Gl X "isinstance") (hm : X.mg "isinstance" = none) (hg2 : Gl X n) (hm2 : X.mg n = some (.ref (He.ga X.K n))) (hd2 : (n == ("__debug__" : Str)) = false) (hs : notStar x = true) :
    PEr X Wx (.Call (.Name "isinstance" p) [x, .Name n p2] [] pos) fun ρ => m ρ >>= isxD true n :=
  pe_imp (pe_callB call_isV hg hm PyProof.Rows.Boot.«isinstance» (pa_cons h (pa_cons (pe_glob (v := .ref (He.ga X.K n)) hg2 hm2 rfl hd2) pa_nil rfl) (star_ok hs _ _)) (by decide) (by decide) (star_ok hs _ _) (by first | rfl | simp [backTo, starEach])) fun σ H Q q =>
    read1T (r := fun x H Q => rIsV X.K [x, .ref (He.ga X.K n)] H Q) (fun W N H b d v Q R vc r h => by
      obtain ⟨a, C, e, t, h1, h2, h3, h4, h5, h6, h7⟩ := isxD_run r h
      exact ⟨a, C, e, .ref (He.ga X.K n), .ref (He.ga X.K n), t, by rw [h1], h2, h3, h4, fun u hu => hu, h5 rfl, h7 (.bl t) H (Ext.refl H) vc.inv (.bl t)⟩) q
/-- isinstance(x, C), C a built-in class -/
theorem s_xisB {n : Str} {x : Expr} {m : TM D} {p p2 : Pos} {T : String} (h : PEr X Wx x m) (hg : Gl X "isinstance") (hm : X.mg "isinstance" = none) (hg2 : Gl X n) (hm2 : X.mg n = none) (hv2 : bootBuiltins n = some (.type T)) (hn2 : n ≠ "__name__") (hd2 : (n == ("__debug__" : Str)) = false) (hs : notStar x = true) :
    PEr X Wx (.Call (.Name "isinstance" p) [x, .Name n p2] [] pos) fun ρ => m ρ >>= isxD false n :=
  pe_imp (pe_callB call_isV hg hm PyProof.Rows.Boot.«isinstance» (pa_cons h (pa_cons (pe_bltn (v := .ty T) hg2 hm2 hv2 rfl hn2 hd2) pa_nil rfl) (star_ok hs _ _)) (by decide) (by decide) (star_ok hs _ _) (by first | rfl | simp [backTo, starEach])) fun σ H Q q =>
    read1T (r := fun x H Q => rIsV X.K [x, .ty T] H Q) (fun W N H b d v Q R vc r h => by
      obtain ⟨a, C, e, t, h1, h2, h3, h4, h5, h6, h7⟩ := isxD_run r h
      obtain ⟨T', g1, g2⟩ := h6 rfl
      rw [hv2] at g1
      cases g1
      exact ⟨a, C, e, .ty T, .type T, t, by rw [h1], h2, h3, h4, fun u hu => hu, g2, h7 (.bl t) H (Ext.refl H) vc.inv (.bl t)⟩) q
end
end Ad
namespace Ad
open PySem PySem.Calls PySem.W PySem.SeqAt PySem.Spec PyProof.Rows L2

/-- the items of what is represented at v, fit for a set -/
def SetArg (K : PySem.W.Frag) (H : Hp) (v : V) (W : Wd) (N : Addr → Prop) (ds : List D) : Prop := ∃ (a : Addr) (vs : List V) (d : D), v = .ref a ∧ RepL K W N H vs ds ∧ ((d = .list ds ∧ SqL K H a vs) ∨ (d = .tuple ds ∧ SqT K H a vs)) ∧ setOk ds
def tSortSet (K : PySem.W.Frag) (te : TE) : TE := fun σ H Q => te σ H fun v H1 => ∃ (W : Wd) (N : Addr → Prop) (ds : List D), SetArg K H1 v W N ds ∧ sortable ds ∧ ∀ p ws cs, H1 p = none → cs.Perm (onceD ds) → RepL K W N H1 ws (sortD cs) → cs.length ≤ sizeLine → Q (.ref p) (upd H1 p (.lst ws))
/-- fit for a set that is counted only -/
def SetArgL (K : PySem.W.Frag) (H : Hp) (v : V) (W : Wd) (N : Addr → Prop) (ds : List D) : Prop := ∃ (a : Addr) (vs : List V) (d : D), v = .ref a ∧ RepL K W N H vs ds ∧ ((d = .list ds ∧ SqL K H a vs) ∨ (d = .tuple ds ∧ SqT K H a vs)) ∧ setOkL ds
def tLenSet (K : PySem.W.Frag) (te : TE) : TE := fun σ H Q => te σ H fun v H1 => ∃ (W : Wd) (N : Addr → Prop) (ds : List D), SetArgL K H1 v W N ds ∧ Q (.int (onceD ds).length) H1
section
variable {X : Cx} {x : Expr} {te : TE} {p p2 q pos : Pos}
theorem once_len : ∀ xs : List D, (onceD xs).length ≤ xs.length
  | [] => Nat.le_refl _
  | x :: xs => Nat.succ_le_succ (Nat.le_trans (List.length_filter_le _ _) (once_len xs))
theorem setOk_len {ds : List D} (h : setOk ds) : (onceD ds).length ≤ 4000 := by
  rcases h with ⟨_, h⟩ | ⟨_, h⟩
  · have := once_len ds
    omega
  · omega
theorem pe_sortSet (hc : X.calm = true) (hu : X.A.units + 66 < cLine) (hg : Gl X "sorted") (hm : X.mg "sorted" = none) (hg2 : Gl X "set") (hm2 : X.mg "set" = none) (ha : PE X x te) (ns : starEach [x] X.env = (false, eval x X.env) :: starEach [] X.env) :
    PE X (.Call (.Name "sorted" p) [.Call (.Name "set" p2) [x] [] q] [] pos) (tSortSet X.K te) := by
  refine ⟨fun pins s σ H Q I h => Call_ (ld_blt I hg hm PyProof.Rows.boot_sorted ?_)⟩
  refine callWith_builtin1 (args_cons ?_ rfl) rfl rfl
  refine Call_ (ld_blt I hg2 hm2 PyProof.Rows.boot_set ?_)
  refine callWith_type1 (args_cons (thn (ha.run pins s σ H _ I h) fun u s1 ⟨v, H1, I1, r1, q1⟩ => args_nil ?_) ns) ns rfl
  obtain ⟨W, N, ds, ⟨a, vs, d, rfl, l, hx, ok⟩, so, fin⟩ := q1
  obtain rfl : u = Value.ref a := r1
  refine set_made hc hu I1 l hx ok fun S h' tk us ws cs eS k sv v lc pm => args_nil ?_
  have I2 : Inv X pins σ H1 { s1 with heap := h', toks := tk } := I1.kept k
  refine sorted_setV (s := { s1 with heap := h', toks := tk }) sv (I2.ok.hd hc) fun s2 out k2 z2 g2 o2 pm2 => ?_
  obtain ⟨ws', cs', v', l', pm'⟩ := perm_align pm2.symm v lc
  have sub : ∀ x, x ∈ cs' → x ∈ ds := fun x hx => once_sub ((pm'.trans pm).mem_iff.mp hx)
  have so' := sortable_sub so sub
  obtain ⟨as, ra⟩ := RepL.reads' I2 (fun d hd => (so'.2.1 d hd).2.2) l' v'
  have ra2 : ReadsAll (sortingHeap (s2.heap.push (seqObj "list" out.toArray 0)) s2.heap.objs.size out) out cs' as := PyProof.Rows.ReadsAll.keeps (fun b o e => by
    have lt := Heap.lt_size (k2 b o e)
    exact sortingHeap_old (Nat.ne_of_lt lt) (Heap.get?_push_of_some _ (k2 b o e))) ra
  refine ⟨_, sorts_data (s := { s2 with heap := sortingHeap (s2.heap.push (seqObj "list" out.toArray 0)) s2.heap.objs.size out }) (each_vals ra2) so' (by show X.A.units + 1 + 1 + 41 < cLine; omega), ?_⟩
  obtain ⟨wz, e1, e2⟩ := sort_out so' v' l' ra2
  have at_ : (s2.heap.push (seqObj "list" out.toArray 0)).get? s2.heap.objs.size = some (seqObj "list" out.toArray 0) := Heap.get?_push_size _ rfl
  generalize hz : sortVals (dataKind (sortingHeap (s2.heap.push (seqObj "list" out.toArray 0)) s2.heap.objs.size out) cs') false out out = zs at e1 ⊢
  obtain ⟨c, hc'⟩ := sortedHeap_at (vs := out) (out := zs.toArray) at_
  have len : cs'.length ≤ sizeLine := by
    have := setOk_len ok
    rw [(pm'.trans pm).length_eq, sizeLine_eq]
    omega
  have k3 : ∀ b o, s1.heap.get? b = some o → (sortedHeap (s2.heap.push (seqObj "list" out.toArray 0)) s2.heap.objs.size out zs.toArray).get? b = some o := fun b o e => by
    have e2 := k2 b o (k b o e)
    have lt := Heap.lt_size e2
    rw [sortedHeap_old (Nat.ne_of_lt lt) (by rw [size_push']; exact Nat.lt_succ_of_lt lt)]
    exact Heap.get?_push_of_some _ e2
  have sz : s1.heap.objs.size ≤ s2.heap.objs.size := Nat.le_of_not_lt fun lt => by
    have z2' : h'.objs.size ≤ s2.heap.objs.size := z2
    obtain ⟨o, _, _, _, ho, _⟩ := sv
    rw [eS] at ho
    exact absurd (Nat.lt_of_lt_of_le (Heap.lt_size ho) z2') (Nat.not_lt.mpr (Nat.le_of_lt lt))
  have hn : H1 s2.heap.objs.size = none := I1.hok.fresh sz
  have J : Inv X pins σ (upd H1 s2.heap.objs.size (.lst wz)) { s1 with heap := sortedHeap (s2.heap.push (seqObj "list" out.toArray 0)) s2.heap.objs.size out zs.toArray, gens := s2.gens, drawn := s2.drawn, toks := s2.toks } :=
    I1.call (ch := []) (Un.laid k3 sz hn) (I1.hok.laid k3 sz ⟨by rw [e2.length]; unfold sortD; rw [List.length_mergeSort]; exact len, zs, c, e1, hc'⟩) (by
      have g2' : s2.gens = s1.gens := g2
      rw [g2']
      exact I1.bare) (fun _ z => nomatch z)
  have e : ({ s2 with heap := sortedHeap (s2.heap.push (seqObj "list" out.toArray 0)) s2.heap.objs.size out zs.toArray } : Shared) = { s1 with heap := sortedHeap (s2.heap.push (seqObj "list" out.toArray 0)) s2.heap.objs.size out zs.toArray, gens := s2.gens, drawn := s2.drawn, toks := s2.toks } := by
    have o2' : s2.os = s1.os := o2
    cases s2
    cases s1
    cases o2'
    rfl
  rw [e]
  exact ⟨.ref s2.heap.objs.size, _, J, rfl, fin _ wz cs' hn (pm'.trans pm) e2 len⟩
theorem pe_lenSet (hc : X.calm = true) (hu : X.A.units + 66 < cLine) (hg : Gl X "len") (hm : X.mg "len" = none) (hg2 : Gl X "set") (hm2 : X.mg "set" = none) (ha : PE X x te) (ns : starEach [x] X.env = (false, eval x X.env) :: starEach [] X.env) :
    PE X (.Call (.Name "len" p) [.Call (.Name "set" p2) [x] [] q] [] pos) (tLenSet X.K te) := by
  refine ⟨fun pins s σ H Q I h => Call_ (ld_blt I hg hm PySem.boot_len ?_)⟩
  refine callWith_builtin1 (args_cons ?_ rfl) rfl rfl
  refine Call_ (ld_blt I hg2 hm2 PyProof.Rows.boot_set ?_)
  refine callWith_type1 (args_cons (thn (ha.run pins s σ H _ I h) fun u s1 ⟨v, H1, I1, r1, q1⟩ => args_nil ?_) ns) ns rfl
  obtain ⟨W, N, ds, ⟨a, vs, d, rfl, l, hx, ok⟩, fin⟩ := q1
  obtain rfl : u = Value.ref a := r1
  refine Sn.set_madeL hc hu I1 l hx ok fun S h' tk us ws cs eS k sv v lc pm => args_nil ?_
  have I2 : Inv X pins σ H1 { s1 with heap := h', toks := tk } := I1.kept k
  obtain ⟨o, es, ep, t, ho, ex, hd, eu, hf, hb, hr, hl⟩ := sv
  have ne : es.size = (onceD ds).length := by
    have e1 : us.length = es.size := by rw [← eu, List.length_map, Array.length_toList]
    rw [← e1, ← v.length, lc.length, pm.length_eq]
  exact call_len_set ho ex hd hf (by unfold scanBound at hb; omega) ⟨.int (onceD ds).length, H1, I2.tok _, ⟨_, by rw [ne]⟩, fin⟩
end
end Ad
namespace Ad
open PySem PySem.Calls PySem.W PySem.SeqAt PySem.Spec PyProof.Rows L2

/-! ### what is walked -/
def WalkD (K : PySem.W.Frag) (W : Wd) (N S : Addr → Prop) (H : Hp) (J : It) (xs : List D) : Prop :=
  ∃ (G : Hp → Prop) (Y : Nat → Hp → V → Hp → Prop), G H ∧ (∀ H1 H2, Ext S H1 H2 → G H1 → G H2) ∧ Walk J xs.length G Y ∧
    ∀ (i : Nat) (Hc : Hp) (v : V) (H2 : Hp) (N' : Addr → Prop), i < xs.length → G Hc → Ext S H Hc → (∀ a, N' a → (N a ∨ H a = none) ∧ Hc a ≠ none) → Y i Hc v H2 →
      Ext W.vol Hc H2 ∧ (∀ b, W.inv b Hc → W.inv b H2) ∧ ∃ d, xs[i]? = some d ∧ Rep K W N' H2 v d
section
variable {K : PySem.W.Frag} {W : Wd} {N S : Addr → Prop} {H : Hp} {xs : List D}
theorem WalkD.list {a : Addr} {vs : List V} (hS : ∀ b, S b → N b) (h : H a = some (.lst vs)) (n : ¬ S a) (l : RepL K W N H vs xs) : WalkD K W N S H (Itl K a) xs := by
  have hl := l.length
  refine ⟨fun H => H a = some (.lst vs), YAt vs, h, fun H1 H2 e g => e a _ n g, ?_, fun i Hc v H2 N' hi g e hN y => ?_⟩
  · have w : Walk (Itl K a) vs.length (fun H => SqL K H a vs) (YAt vs) := walk_list
    rw [hl] at w
    exact w.mono (fun H h => SqL.of h) fun _ _ _ _ _ _ y => y
  · obtain ⟨rfl, hv⟩ := y
    obtain ⟨d, hd, r⟩ := l.getV hv
    exact ⟨Ext.refl _, fun _ z => z, d, hd, Rep.to (fun b nb hb z => (hN b z).1.elim nb hb) (e.wide hS) d v r⟩
theorem WalkD.tup {a : Addr} {vs : List V} (hS : ∀ b, S b → N b) (h : TupN K N H a vs) (l : RepL K W N H vs xs) : WalkD K W N S H (Itt K a) xs := by
  have hl := l.length
  refine ⟨fun H => TupN K S H a vs, YAt vs, ?_, fun H1 H2 e g => ?_, ?_, fun i Hc v H2 N' hi g e hN y => ?_⟩
  · rcases h with h | h
    · exact .inl ⟨h.1, fun z => h.2 (hS _ z)⟩
    · exact .inr h
  · rcases g with g | g
    · exact .inl ⟨g.1.ext e g.2, g.2⟩
    · exact .inr g
  · have w : Walk (Itt K a) vs.length (fun H => SqT K H a vs) (YAt vs) := walk_tup
    rw [hl] at w
    exact w.mono (fun H h => h.sq) fun _ _ _ _ _ _ y => y
  · obtain ⟨rfl, hv⟩ := y
    obtain ⟨d, hd, r⟩ := l.getV hv
    exact ⟨Ext.refl _, fun _ z => z, d, hd, Rep.to (fun b nb hb z => (hN b z).1.elim nb hb) (e.wide hS) d v r⟩
theorem WalkD.str {z : Str} : WalkD K W N S H (Its z) (z.cps.toList.map fun c => .str ⟨#[c]⟩) := by
  refine ⟨fun _ => True, fun i H v H' => H' = H ∧ ∃ c, z.cps[i]? = some c ∧ v = .str ⟨#[c]⟩, trivial, fun _ _ _ _ => trivial, ?_, fun i Hc v H2 N' hi g e hN y => ?_⟩
  · have w := walk_str (z := z)
    rw [List.length_map, Array.length_toList]
    exact w
  · obtain ⟨rfl, c, hc, rfl⟩ := y
    exact ⟨Ext.refl _, fun _ z => z, .str ⟨#[c]⟩, by rw [List.getElem?_map, Array.getElem?_toList, hc]; rfl, .str _⟩
theorem WalkD.range {lo hi : Int} : WalkD K W N S H (Itr lo (hi - lo).toNat) (rangeD lo hi) := by
  have hl : (rangeD lo hi).length = (hi - lo).toNat := by unfold rangeD; rw [List.length_map, List.length_range]
  refine ⟨fun _ => True, YFn fun i => .int (lo + i), trivial, fun _ _ _ _ => trivial, ?_, fun i Hc v H2 N' hi g e hN y => ?_⟩
  · rw [hl]
    exact walk_range
  · obtain ⟨rfl, rfl⟩ := y
    refine ⟨Ext.refl _, fun _ z => z, .int (lo + (i : Nat)), ?_, .int _⟩
    unfold rangeD at hi ⊢
    rw [List.length_map, List.length_range] at hi
    rw [List.getElem?_map, List.getElem?_range hi]
    rfl
/-- a new pair at each turn -/
theorem pair_item {K : PySem.W.Frag} {W : Wd} {N' : Addr → Prop} {Hc H2 : Hp} {T : Addr} {x y : V} {d e : D} (hn : ∀ a, N' a → Hc a ≠ none) (hT : TwoV T Hc H2 x y) (rx : Rep K W N' Hc x d) (ry : Rep K W N' Hc y e) :
    Ext W.vol Hc H2 ∧ (∀ b, W.inv b Hc → W.inv b H2) ∧ Rep K W N' H2 (.ref T) (.tuple [d, e]) := by
  obtain ⟨hT, o, ho, rfl⟩ := hT
  have ex : ∀ M : Addr → Prop, Ext M Hc (upd Hc T (.frz o (.tup [x, y]))) := fun M => Ext.new hT
  refine ⟨ex _, fun b i => W.keep _ _ _ i fun a ha => upd_ne fun z => ?_, ?_⟩
  · obtain ⟨vs, q⟩ := W.known _ _ _ i ha
    rw [z, hT] at q
    cases q
  · exact .tup ⟨o, upd_same, ho⟩ (fun z => hn _ z hT) (by rw [sizeLine_eq]; show 2 ≤ 16777216; decide) (.cons (rx.ext (ex _)) (.cons (ry.ext (ex _)) .nil))
theorem enumD_at {xs : List D} {i : Nat} {d : D} (h : xs[i]? = some d) : (enumD xs)[i]? = some (.tuple [.int (i : Nat), d]) := by
  unfold enumD
  rw [List.getElem?_map, List.getElem?_zipIdx, h]
  simp
theorem enumD_length (xs : List D) : (enumD xs).length = xs.length := by unfold enumD; simp
theorem WalkD.enumL {a : Addr} {vs : List V} (hS : ∀ b, S b → N b) (h : H a = some (.lst vs)) (n : ¬ S a) (l : RepL K W N H vs xs) : WalkD K W N S H (IteS K a) (enumD xs) := by
  have hl := l.length
  refine ⟨fun H => H a = some (.lst vs), YTwo (fun i => some (.int (i : Nat))) (fun i => vs[i]?), h, fun H1 H2 e g => e a _ n g, ?_, fun i Hc v H2 N' hi g e hN y => ?_⟩
  · have w : Walk (IteS K a) vs.length (fun H => SqL K H a vs) _ := walk_enumS
    rw [hl] at w
    rw [enumD_length]
    exact w.mono (fun H h => SqL.of h) fun _ _ _ _ _ _ y => y
  · obtain ⟨T, x, y, rfl, hT, hx, hy⟩ := y
    cases hx
    obtain ⟨d, hd, r⟩ := l.getV hy
    obtain ⟨p1, p2, p3⟩ := pair_item (W := W) (K := K) (d := .int (i : Nat)) (x := .int (i : Nat)) (fun a z => (hN a z).2) hT (.int _) (Rep.to (N' := N') (fun b nb hb z => (hN b z).1.elim nb hb) (e.wide hS) d y r)
    exact ⟨p1, p2, _, enumD_at hd, p3⟩
end

/-! ### iterators, read by data -/
def tI (K : PySem.W.Frag) (mg : Str → Option Value) (Wx : WX) (lent : Bool) (m : TM (List D)) : TI := fun σ H R => ∃ c ρ, EnvOk K c ρ σ H ∧
  (m ρ).run (fun xs b => ∀ J H', Ext c.W.vol H H' → c.W.inv b H' → WalkD K c.W (Nn c ρ σ) (if lent then c.W.vol else Nn c ρ σ) H' J xs → R J H') (XQ K mg Wx c ρ σ H) c.b
abbrev PIr (X : Cx) (Wx : WX) (tg x : Expr) (l : Bool) (m : TM (List D)) : Prop := PI X tg x (tI X.K X.mg Wx l m)
section
variable {X : Cx} {Wx : WX} {pos : Pos} {tg : Expr}
theorem pi_imp {x : Expr} {t t' : TI} (h : PI X tg x t) (i : ∀ (σ : L2.St) (H : Hp) (R : It → Hp → Prop), t' σ H R → t σ H R) : PI X tg x t' := ⟨fun pins s σ H R I q => h.run pins s σ H R I (i σ H R q)⟩
theorem pi_any {e : Expr} {te : TE} (he : PE X e te) : PI X tg e (fun σ H R => te σ H fun x H1 => (∃ a xs, x = .ref a ∧ SqL X.K H1 a xs ∧ R (Itl X.K a) H1) ∨ (∃ a xs, x = .ref a ∧ SqT X.K H1 a xs ∧ R (Itt X.K a) H1) ∨ ∃ z, x = .str z ∧ R (Its z) H1) := by
  refine ⟨fun pins s σ H R I h => ?_⟩
  refine thn (he.run pins s σ H _ I h) fun v s1 ⟨x, H1, I1, r1, q1⟩ => ?_
  rcases q1 with ⟨a, xs, rfl, hq, q⟩ | ⟨a, xs, rfl, hq, q⟩ | ⟨z, rfl, q⟩
  · cases r1
    obtain ⟨its, rv, p, hz⟩ := I1.list hq
    refine wpAny_pyIter_list p.isList ?_
    refine ⟨s1.heap.objs.size, [s1.heap.objs.size], _, _, H1, rfl, I1.kept (t' := s1.toks) fun b o e => Heap.get?_push_of_some _ e, turn_list a _, ⟨_, Heap.get?_push_size _ rfl, rfl, rfl⟩, fun b hb => ?_, q⟩
    have e : b = s1.heap.objs.size := by simpa using hb
    subst e
    exact I1.fpOk (Nat.le_refl _) (I1.hok.fresh (Nat.le_refl _))
  · cases r1
    obtain ⟨its, rv, p, hz⟩ := I1.tuple hq
    refine wpAny_pyIter_tuple (show s1.heap.IsTuple a its.toArray from p) ?_
    refine ⟨s1.heap.objs.size, [s1.heap.objs.size], _, _, H1, rfl, I1.kept (t' := s1.toks) fun b o e => Heap.get?_push_of_some _ e, turn_tuple a _, ⟨_, Heap.get?_push_size _ rfl, rfl, rfl⟩, fun b hb => ?_, q⟩
    have e : b = s1.heap.objs.size := by simpa using hb
    subst e
    exact I1.fpOk (Nat.le_refl _) (I1.hok.fresh (Nat.le_refl _))
  · obtain ⟨t, rfl⟩ := r1
    cases ha : z.cps.all (· < 128)
    · exact wpAny_pyIter_wide ha (pi_one (tk := s1.toks) I1 _ (turn_str _ z t "str_iterator" (.inr rfl)) ⟨_, Heap.get?_push_size _ rfl, rfl, rfl⟩ q)
    · exact wpAny_pyIter_ascii ha (pi_one (tk := s1.toks) I1 _ (turn_str _ z t "str_ascii_iterator" (.inl rfl)) ⟨_, Heap.get?_push_size _ rfl, rfl, rfl⟩ q)
theorem walked_run {d : D} {Q : List D → Nat → Prop} {R : XV → Nat → Prop} {b : Nat} (h : (walked d).run Q R b) : (∃ xs, (d = .list xs ∨ d = .tuple xs) ∧ Q xs b) ∨ ∃ z, d = .str z ∧ Q (z.cps.toList.map fun c => .str ⟨#[c]⟩) b := by
  cases d <;> first
    | exact h.elim
    | exact .inl ⟨_, .inl rfl, h⟩
    | exact .inl ⟨_, .inr rfl, h⟩
    | exact .inr ⟨_, rfl, h⟩
theorem s_iter {x : Expr} {m : TM D} (h : PEr X Wx x m) : PIr X Wx tg x false fun ρ => m ρ >>= walked :=
  pi_imp (pi_any h) fun σ H R q => by
    obtain ⟨c, ρ, e, q⟩ := q
    refine ⟨c, ρ, e, (m ρ).mono (fun d _ q v H1 x i rv => ?_) (fun _ _ z => z) q⟩
    rcases walked_run q with ⟨xs, hd, q⟩ | ⟨z, rfl, q⟩
    · rcases hd with rfl | rfl
      · cases rv with
        | lst h1 h2 h3 h4 => exact .inl ⟨_, _, rfl, SqL.of h1, q _ H1 x i (WalkD.list (fun _ z => z) h1 h2 h4)⟩
      · obtain ⟨a, vs, rfl, h1, h2, h3, h4⟩ := RepB.tup (.inl rv)
        exact .inr (.inl ⟨a, vs, rfl, h1, q _ H1 x i (WalkD.tup (fun _ z => z) h2 h4)⟩)
    · cases rv
      exact .inr (.inr ⟨z, rfl, q _ H1 x i WalkD.str⟩)
theorem s_iterB {x : Expr} {m : TM D} (h : PEb X Wx x m) : PIr X Wx tg x true fun ρ => m ρ >>= walked :=
  pi_imp (pi_any h) fun σ H R q => by
    obtain ⟨c, ρ, e, q⟩ := q
    refine ⟨c, ρ, e, (m ρ).mono (fun d _ q v H1 x i rv => ?_) (fun _ _ z => z) q⟩
    rcases walked_run q with ⟨xs, hd, q⟩ | ⟨z, rfl, q⟩
    · rcases hd with rfl | rfl
      · rcases rv with rv | ⟨a, vs, ds, rfl, e', h3, h4, h5, h6⟩ | ⟨a, o, rfl, g, _⟩
        rotate_left 2
        · obtain ⟨_, _, z⟩ := g.dict
          cases z
        · cases rv with
          | lst h1 h2 h3 h4 => exact .inl ⟨_, _, rfl, SqL.of h1, q _ H1 x i (WalkD.list (fun b z => e.vc.bv b z) h1 (fun z => h2 (e.vc.bv _ z)) h4)⟩
        · cases e'
          exact .inl ⟨a, vs, rfl, SqL.of h3, q _ H1 x i (WalkD.list (fun b z => e.vc.bv b z) h3 h6 h5)⟩
      · obtain ⟨a, vs, rfl, h1, h2, h3, h4⟩ := rv.tup
        exact .inr (.inl ⟨a, vs, rfl, h1, q _ H1 x i (WalkD.tup (fun b z => e.vc.bv b z) h2 h4)⟩)
    · have e' := rv.str
      subst e'
      exact .inr (.inr ⟨z, rfl, q _ H1 x i WalkD.str⟩)
theorem s_range1 {x : Expr} {m : TM (List D)} {p : Pos} (l : Bool) (hg : Gl X "range") (hm : X.mg "range" = none) (ha : PAb X Wx [x] m) (hs : starEach [x] X.env = [(false, eval x X.env)]) : PIr X Wx tg (.Call (.Name "range" p) [x] [] pos) l fun ρ => (m ρ >>= biD .range1) >>= walked :=
  pi_imp (pi_range1 hg hm ha hs) fun σ H R q => by
    obtain ⟨c, ρ, e, q⟩ := q
    refine ⟨c, ρ, e, (m ρ).mono (fun ds _ q vs H1 x i rv => ?_) (fun _ _ z => z) q⟩
    match ds, rv, q with
    | [], _, q => exact q.elim
    | _ :: _ :: _, _, q => exact q.elim
    | [d], rv, q =>
      have q : (asInt d >>= fun j => M.grd (j ≤ 2 ^ 24 ∧ -(2 ^ 62) ≤ j) >>= fun _ => pure (.list (rangeD 0 j)) : M D).run (fun z => (walked z).run _ _) _ _ := q
      obtain ⟨j, rfl, h1, q⟩ := asInt_run q
      obtain ⟨y, rfl, ry⟩ := rv.one
      refine ⟨j, by rw [ry.int], h1.2, by omega, ?_⟩
      have q := q (Itr 0 j.toNat) H1 x i
      refine q ?_
      have w : WalkD X.K c.W (Nn c ρ σ) (if l = true then c.W.vol else Nn c ρ σ) H1 (Itr 0 (j - 0).toNat) (rangeD 0 j) := WalkD.range
      rw [Int.sub_zero] at w
      exact w
theorem s_range2 {x y : Expr} {m : TM (List D)} {p : Pos} (l : Bool) (hg : Gl X "range") (hm : X.mg "range" = none) (ha : PAb X Wx [x, y] m) (hs : starEach [x, y] X.env = [(false, eval x X.env), (false, eval y X.env)]) (hs2 : starEach [y] X.env = [(false, eval y X.env)]) : PIr X Wx tg (.Call (.Name "range" p) [x, y] [] pos) l fun ρ => (m ρ >>= biD .range2) >>= walked :=
  pi_imp (pi_range2 hg hm ha hs hs2) fun σ H R q => by
    obtain ⟨c, ρ, e, q⟩ := q
    refine ⟨c, ρ, e, (m ρ).mono (fun ds _ q vs H1 x i rv => ?_) (fun _ _ z => z) q⟩
    match ds, rv, q with
    | [], _, q => exact q.elim
    | [_], _, q => exact q.elim
    | _ :: _ :: _ :: _, _, q => exact q.elim
    | [d, d'], rv, q =>
      have q : (asInt d >>= fun i => asInt d' >>= fun j => M.grd (L2.RgOk i j) >>= fun _ => pure (.list (rangeD i j)) : M D).run (fun z => (walked z).run _ _) _ _ := q
      obtain ⟨i1, rfl, q⟩ := asInt_run q
      obtain ⟨j, rfl, h1, q⟩ := asInt_run q
      obtain ⟨y1, y2, rfl, ry, ry2⟩ := rv.two
      obtain ⟨b1, b2, b3, b4, b5⟩ := h1
      exact ⟨i1, j, by rw [ry.int, ry2.int], ⟨b1, b2, b3, b4⟩, q _ H1 x i WalkD.range⟩
end
end Ad
/-! enumerate over a tuple -/
namespace PySem
open Sem (wp)
open AutoSeq1 (wpAny_loadPart')
theorem meets_enumerate_newT (l : Addr) (items : Array Value) (n : Nat) (dct : Option Addr) (sl : Array (Option Value)) :
    Meets (Builtin.«enumerate.__new__» ⟨[.type "enumerate", .ref l], []⟩) (fun _ R s => s.heap.get? l = some { cls := .type "tuple", dict := dct, data := .seq items n, slots := sl } ∧
      R (.ok (.ret (.ref (s.heap.push { cls := .type "tuple_iterator", data := .fields #[.ref l, .int 0 0] }).objs.size)))
        { s with heap := (s.heap.push { cls := .type "tuple_iterator", data := .fields #[.ref l, .int 0 0] }).push { cls := .type "enumerate", data := .fields #[.none, .bool false, .ref s.heap.objs.size, rawInt 0, .none, .none] } }) :=
  .of_wp fun prog w A R s h => by
    obtain ⟨hp, g, d, tk, os⟩ := s; obtain ⟨hl, h⟩ := h
    have hsub := sub_enumerate
    have hL : Heap.IsTuple (Shared.heap ⟨hp, g, d, tk, os⟩) l items := ⟨_, hl, rfl, n, rfl⟩
    wp_walk using wpAny_loadPart' hl
    refine wpAny_stack_any fun st => wpAny_pure ?_
    split
    · rename_i c _ _ _ _ _
      cases (c == Value.type "enumerate")
      · wp_walk using wpAny_loadPart' hl, wpAny_pyIter_tuple hL
        exact ⟨_, rfl, h⟩
      · wp_walk using wpAny_loadPart' hl, wpAny_pyIter_tuple hL
        exact ⟨_, rfl, h⟩
    · wp_walk using wpAny_loadPart' hl, wpAny_pyIter_tuple hL
      exact ⟨_, rfl, h⟩
section
variable {prog : Program} {w : World} {A : Around} {E : Value → Shared → Prop} {s : Shared}
theorem call_enumerate_tuple {l : Addr} {items : Array Value} {Q : Value → Shared → Prop} (hL : s.heap.IsTuple l items)
    (h : ∀ h', IsEnum h' (s.heap.objs.size + 1) s.heap.objs.size 0 .none → h'.IsTupleIter s.heap.objs.size l 0 → h'.objs.size = s.heap.objs.size + 2 →
      (∀ b o, s.heap.get? b = some o → h'.get? b = some o) → Q (.ref (s.heap.objs.size + 1)) { s with heap := h' }) :
    wpAny (model prog w) A (call (.type "enumerate") [.ref l]) Q E s := by
  obtain ⟨⟨c, dct, dt, sl⟩, hl, hc, n, hd⟩ := hL
  replace hc : c = .type "tuple" := hc
  replace hd : dt = .seq items n := hd
  subst hc hd
  refine callType_new F.called_enumerate (by decide) (F.typeCall_enumerate_1 _) (F.newCall_enumerate_1 _) (fun obj => F.args_object_init_2 obj _) F.entry_enumerate_new
    (meets_enumerate_newT l items n dct sl) ⟨hl, ?_⟩
  have hz : (s.heap.push { cls := .type "tuple_iterator", data := .fields #[.ref l, .int 0 0] }).objs.size = s.heap.objs.size + 1 := Heap.size_push ..
  show _ ∧ _
  rw [hz]
  have he : IsEnum ((s.heap.push { cls := .type "tuple_iterator", data := .fields #[.ref l, .int 0 0] }).push
      { cls := .type "enumerate", data := .fields #[.none, .bool false, .ref s.heap.objs.size, rawInt 0, .none, .none] }) (s.heap.objs.size + 1) s.heap.objs.size 0 .none := by
    have := Heap.get?_push_size (s.heap.push { cls := .type "tuple_iterator", data := .fields #[.ref l, .int 0 0] })
      (o := { cls := .type "enumerate", data := .fields #[.none, .bool false, .ref s.heap.objs.size, rawInt 0, .none, .none] }) rfl
    rw [hz] at this; exact this
  refine ⟨⟨_, he, rfl⟩, h _ he ⟨_, Heap.get?_push_of_some _ (Heap.get?_push_size _ rfl), rfl, rfl⟩ (by rw [Heap.size_push, hz]) fun b o x => Heap.get?_push_of_some _ (Heap.get?_push_of_some _ x)⟩
end
end PySem
namespace Ad
open PySem PySem.Calls PySem.W PySem.SeqAt PySem.Spec PyProof.Rows L2
def IteT (K : PySem.W.Frag) (a : Addr) : It :=
  ⟨fun i H => ∃ (xs : List V) (x : V), SqT K H a xs ∧ xs[i]? = some x, fun i H v H' => ∃ T x, v = .ref T ∧ TwoV T H H' (.int (i : Nat)) x ∧ ∀ xs, SqT K H a xs → xs[i]? = some x, fun i H => ∃ xs : List V, SqT K H a xs ∧ xs.length = i⟩
theorem turn_enumT {P : Program} {w : World} {K : PySem.W.Frag} {elts : List Expr} {kk : Nat} {tpos : Pos} (a e it : Addr) (ha : a ≠ it) (hea : e ≠ a) :
    Turn P w K (.Tuple elts kk tpos) (IteT K a) [e, it] e (fun i h => (∃ old, IsEnum h e it ((i : Nat) : Int) old) ∧ h.IsTupleIter it a i ∧ e ≠ it) where
  mem := by simp
  obj := fun i h st b hb => by
    obtain ⟨⟨old, he⟩, ⟨o, ho, hc, hd⟩, _⟩ := st
    have e' : b = e ∨ b = it := by simpa using hb
    rcases e' with z | z
    · rw [z]; exact ⟨_, he, fun v q => nomatch q⟩
    · rw [z]; exact ⟨o, ho, fun v q => by rw [hd] at q; cases q⟩
  keep := fun i h h' st k => let ⟨⟨old, he⟩, hi, hne⟩ := st; ⟨⟨old, k e (by simp) _ he⟩, hi.at fun o q => k it (by simp) o q, hne⟩
  item := by
    intro X hP hw hK hc i pins s σ H E I hf st hg
    subst hP hw hK
    obtain ⟨⟨old, he⟩, hit, hne⟩ := st
    obtain ⟨xs, x, hq, hx⟩ := hg
    obtain ⟨its, rv, p, hz⟩ := I.tuple hq
    obtain ⟨u, hu, ru⟩ := rv.get hx
    have hel : e < s.heap.objs.size := Heap.lt_size he
    have hil : it < s.heap.objs.size := by obtain ⟨_, q, _⟩ := hit; exact Heap.lt_size q
    have D := Draws.tuple (prog := X.prog) (w := X.w) (A := X.A.in1) (I.ok.hd hc) it a ha its.toArray
    have hlt : i < its.toArray.size := by
      have h1 := (List.getElem?_eq_some_iff.mp hx).1
      have h2 := rv.length
      simp only [List.size_toArray]
      omega
    refine wpAny_pyNext_enum_itemD D he ⟨hit, p⟩ hlt hne (by simp [hne, hea]) fun u' h' tk hu' ho hit' hT hsz hk => ?_
    have hu2 : u' = u := by
      rw [List.getElem?_toArray, hu] at hu'
      exact (Option.some.inj hu').symm
    subst hu2
    refine ⟨_, rfl, wpAny_letOwnedTupleGo_enum (s := { s with heap := h', toks := tk + 1 }) ho fun h'' he' sb => ?_⟩
    have hT2 : h''.get? s.heap.objs.size = some { cls := .type "tuple", data := .seq #[.int i tk, u'] } := (sb.2 _ (Nat.ne_of_gt hel)).trans hT
    have new := two_new (P := X.prog) (w := X.w) (H' := upd H s.heap.objs.size (.frz { cls := .type "tuple", data := .seq #[.int i tk, u'] } (.tup [.int (i : Nat), x]))) (x := .int (i : Nat)) ⟨_, rfl⟩ ru hT2
    have I1 : Inv X pins σ (upd H s.heap.objs.size (.frz { cls := .type "tuple", data := .seq #[.int i tk, u'] } (.tup [.int (i : Nat), x]))) { s with heap := h'', toks := tk + 1 } :=
      I.turnedNew (ch := [e, it]) (fun b ob hb q => (sb.2 b (fun z => hb (by simp [z]))).trans (hk b ob (fun z => hb (by simp [z])) (fun z => hb (by simp [z])) q)) hf (Nat.le_refl _) new
    refine ⟨.ref s.heap.objs.size, _, I1, rfl, ⟨_, x, rfl, ⟨I.hok.fresh (Nat.le_refl _), _, rfl, rfl⟩, fun ys hy => by rw [I.tuple_inj hy hq]; exact hx⟩, ⟨⟨u', ?_⟩, hit'.1.at fun o q => (sb.2 it (Ne.symm hne)).trans q, hne⟩, fun b hb => ?_⟩
    · have e1 : ((i + 1 : Nat) : Int) = (i : Int) + 1 := by omega
      rw [e1]; exact he'
    · have hb' : b < s.heap.objs.size := by
        have e' : b = e ∨ b = it := by simpa using hb
        rcases e' with z | z
        · rw [z]; exact hel
        · rw [z]; exact hil
      rw [upd_ne (Nat.ne_of_lt hb')]
      exact (hf b hb).1
  done := by
    intro X hP hw hK hc i pins s σ H E I hf st hg
    subst hP hw hK
    obtain ⟨⟨old, he⟩, hit, hne⟩ := st
    obtain ⟨xs, hq, hx⟩ := hg
    obtain ⟨its, rv, p, hz⟩ := I.tuple hq
    obtain ⟨f0, f1, f2, f3, f4, f5⟩ := hf it (by simp)
    have D := Draws.tuple (prog := X.prog) (w := X.w) (A := X.A.in1) (I.ok.hd hc) it a ha its.toArray
    have hl : i = its.toArray.size := by rw [List.size_toArray, ← rv.length, hx]
    exact wpAny_pyNext_enum_endD D he (by rw [← hl]; exact ⟨hit, p⟩) fun h' eb => ⟨rfl, I.turned (t' := s.toks) (fun b o hb q => eb b o hb q) f0 f1 f3 f4 f5⟩
  self := fun A i s Q E st h => let ⟨⟨_, he⟩, _⟩ := st; wpAny_pyIter_enum he h
section
variable {K : PySem.W.Frag} {a : Addr} {xs : List V}
theorem walk_enumT : L2.Walk (IteT K a) xs.length (fun H => SqT K H a xs) (YTwo (fun i => some (.int (i : Nat))) (fun i => xs[i]?)) := by
  refine ⟨fun i _ hi q => ⟨xs, xs[i], q, by simp [hi]⟩, fun _ q => ⟨xs, q, rfl⟩, fun i H v H' _ q y => ?_⟩
  obtain ⟨T, x, h1, h2, h4⟩ := y
  exact ⟨T, .int (i : Nat), x, h1, h2, rfl, h4 xs q⟩
end
section
variable {K : PySem.W.Frag} {W : Wd} {N S : Addr → Prop} {H : Hp} {xs : List D}
theorem WalkD.enumT {a : Addr} {vs : List V} (hS : ∀ b, S b → N b) (h : TupN K N H a vs) (l : RepL K W N H vs xs) : WalkD K W N S H (IteT K a) (enumD xs) := by
  have hl := l.length
  refine ⟨fun H => TupN K S H a vs, YTwo (fun i => some (.int (i : Nat))) (fun i => vs[i]?), ?_, fun H1 H2 e g => ?_, ?_, fun i Hc v H2 N' hi g e hN y => ?_⟩
  · rcases h with h | h
    · exact .inl ⟨h.1, fun z => h.2 (hS _ z)⟩
    · exact .inr h
  · rcases g with g | g
    · exact .inl ⟨g.1.ext e g.2, g.2⟩
    · exact .inr g
  · have w : L2.Walk (IteT K a) vs.length (fun H => SqT K H a vs) _ := walk_enumT
    rw [hl] at w
    rw [enumD_length]
    exact w.mono (fun H h => h.sq) fun _ _ _ _ _ _ y => y
  · obtain ⟨T, x, y, rfl, hT, hx, hy⟩ := y
    cases hx
    obtain ⟨d, hd, r⟩ := l.getV hy
    obtain ⟨p1, p2, p3⟩ := pair_item (W := W) (K := K) (d := .int (i : Nat)) (x := .int (i : Nat)) (fun a z => (hN a z).2) hT (.int _) (Rep.to (N' := N') (fun b nb hb z => (hN b z).1.elim nb hb) (e.wide hS) d y r)
    exact ⟨p1, p2, _, enumD_at hd, p3⟩
end
section
variable {X : Cx} {Wx : WX} {pos : Pos}
theorem pi_enumA {e : Expr} {te : TE} {p tpos : Pos} {elts : List Expr} {kk : Nat} (hg : Gl X "enumerate") (hm : X.mg "enumerate" = none) (he : PE X e te) (hs : starEach [e] X.env = [(false, eval e X.env)]) :
    PI X (.Tuple elts kk tpos) (.Call (.Name "enumerate" p) [e] [] pos) (fun σ H R => te σ H fun x H1 => (∃ a xs, x = .ref a ∧ SqL X.K H1 a xs ∧ R (IteS X.K a) H1) ∨ ∃ a xs, x = .ref a ∧ SqT X.K H1 a xs ∧ R (IteT X.K a) H1) := by
  refine ⟨fun pins s σ H R I h => ?_⟩
  refine Call_ (ld_blt I hg hm boot_enumerate (PyProof.Rows.callWith_type1 (one_arg he I h (fun v s1 x H1 I1 r1 q1 => ?_) hs) hs rfl))
  have fp : ∀ b ∈ [s1.heap.objs.size + 1, s1.heap.objs.size], FpOk X pins H1 b := fun b hb => by
    have e' : b = s1.heap.objs.size + 1 ∨ b = s1.heap.objs.size := by simpa using hb
    have hle : s1.heap.objs.size ≤ b := by
      rcases e' with z | z
      · rw [z]; exact Nat.le_add_right _ _
      · rw [z]; exact Nat.le_refl _
    exact I1.fpOk hle (I1.hok.fresh hle)
  rcases q1 with ⟨a, xs, rfl, hq, q⟩ | ⟨a, xs, rfl, hq, q⟩
  · cases r1
    obtain ⟨its, rv, p', hz⟩ := I1.list hq
    refine call_enumerate_list p'.isList fun h' he' hit hsz hk => wpAny_pyIter_enum he' ?_
    have I2 : Inv X pins σ H1 { s1 with heap := h' } := I1.kept (t' := s1.toks) hk
    exact ⟨s1.heap.objs.size + 1, [s1.heap.objs.size + 1, s1.heap.objs.size], _, _, H1, rfl, I2, turn_enumS a (s1.heap.objs.size + 1) s1.heap.objs.size, ⟨⟨.none, he'⟩, hit, Nat.succ_ne_self _⟩, fp, q⟩
  · cases r1
    obtain ⟨its, rv, p', hz⟩ := I1.tuple hq
    have hlt : a < s1.heap.objs.size := by obtain ⟨o, ho, _⟩ := id p'; exact Heap.lt_size ho
    refine call_enumerate_tuple (show s1.heap.IsTuple a its.toArray from p') fun h' he' hit hsz hk => wpAny_pyIter_enum he' ?_
    have I2 : Inv X pins σ H1 { s1 with heap := h' } := I1.kept (t' := s1.toks) hk
    exact ⟨s1.heap.objs.size + 1, [s1.heap.objs.size + 1, s1.heap.objs.size], _, _, H1, rfl, I2, turn_enumT a (s1.heap.objs.size + 1) s1.heap.objs.size (Nat.ne_of_lt hlt) (Nat.ne_of_gt (Nat.lt_succ_of_lt hlt)), ⟨⟨.none, he'⟩, hit, Nat.succ_ne_self _⟩, fp, q⟩
theorem s_enum {e : Expr} {m : TM D} {p tpos : Pos} {elts : List Expr} {kk : Nat} (hg : Gl X "enumerate") (hm : X.mg "enumerate" = none) (he : PEr X Wx e m) (hs : starEach [e] X.env = (false, eval e X.env) :: starEach [] X.env) :
    PIr X Wx (.Tuple elts kk tpos) (.Call (.Name "enumerate" p) [e] [] pos) false fun ρ => (m ρ >>= fun d => itemsOf d >>= fun xs => pure (.list (enumD xs))) >>= walked :=
  pi_imp (pi_enumA hg hm he hs) fun σ H R q => by
    obtain ⟨c, ρ, e, q⟩ := q
    refine ⟨c, ρ, e, (m ρ).mono (fun d _ q v H1 x i rv => ?_) (fun _ _ z => z) q⟩
    obtain ⟨ds, a, vs, q, rfl, z, l, hx⟩ := RepB.items (.inl rv) q
    rcases hx with ⟨rfl, h1⟩ | ⟨rfl, h1, h2⟩
    · cases rv with
      | lst h1' h2 h3 h4 => exact .inl ⟨a, _, rfl, SqL.of h1', q _ H1 x i (WalkD.enumL (fun _ z => z) h1' h2 h4)⟩
    · exact .inr ⟨a, vs, rfl, h1, q _ H1 x i (WalkD.enumT (fun _ z => z) h2 l)⟩
theorem s_enumB {e : Expr} {m : TM D} {p tpos : Pos} {elts : List Expr} {kk : Nat} (hg : Gl X "enumerate") (hm : X.mg "enumerate" = none) (he : PEb X Wx e m) (hs : starEach [e] X.env = (false, eval e X.env) :: starEach [] X.env) :
    PIr X Wx (.Tuple elts kk tpos) (.Call (.Name "enumerate" p) [e] [] pos) true fun ρ => (m ρ >>= fun d => itemsOf d >>= fun xs => pure (.list (enumD xs))) >>= walked :=
  pi_imp (pi_enumA hg hm he hs) fun σ H R q => by
    obtain ⟨c, ρ, e, q⟩ := q
    refine ⟨c, ρ, e, (m ρ).mono (fun d _ q v H1 x i rv => ?_) (fun _ _ z => z) q⟩
    obtain ⟨ds, a, vs, q, rfl, z, l, hx⟩ := rv.items q
    rcases hx with ⟨rfl, h1⟩ | ⟨rfl, h1, h2⟩
    · refine .inl ⟨a, _, rfl, SqL.of h1, q _ H1 x i (WalkD.enumL (fun b z => e.vc.bv b z) h1 ?_ l)⟩
      rcases rv with rv | ⟨a', vs', ds', e1, e2, h3, h4, h5, h6⟩ | ⟨a', o, _, g, _⟩
      rotate_left 2
      · obtain ⟨_, _, z⟩ := g.dict
        cases z
      · cases rv with
        | lst h1' h2 h3 h4 => exact fun z => h2 (e.vc.bv _ z)
      · cases e1
        exact h6
    · exact .inr ⟨a, vs, rfl, h1, q _ H1 x i (WalkD.enumT (fun b z => e.vc.bv b z) h2 l)⟩
end
end Ad
namespace Ad
open PySem PySem.Calls PySem.W PySem.SeqAt PySem.Spec PyProof.Rows L2

/-! ### slots change -/
section
variable {K : PySem.W.Frag} {c : Cf} {ρ : Ev} {σ : L2.St} {H H' : Hp}
theorem get_set {α : Type} {l : List α} {i j : Nat} {x y : α} (h : (l.set i x)[j]? = some y) : (i = j ∧ i < l.length ∧ x = y) ∨ (i ≠ j ∧ l[j]? = some y) := by
  rw [List.getElem?_set] at h
  split at h
  · split at h
    · exact .inl ⟨‹_›, ‹_›, Option.some.inj h⟩
    · cases h
  · exact .inr ⟨‹_›, h⟩
theorem set_ne {α : Type} {l : List α} {i j : Nat} {x : α} (h : i ≠ j) : (l.set i x)[j]? = l[j]? := by
  rw [List.getElem?_set, if_neg h]
theorem set_eq {α : Type} {l : List α} {i : Nat} {x : α} (h : i < l.length) : (l.set i x)[i]? = some x := by
  rw [List.getElem?_set, if_pos rfl, if_pos h]
/-- not a list of the def's own -/
def Free (ρ : Ev) (i : Nat) : Prop := ∀ d, ρ[i]? ≠ some (some (d, true))
theorem nn_sub {i : Nat} {x : Option (D × Bool)} {v : Option V} (hx : ∀ d, x ≠ some (d, true)) {a : Addr} (h : Nn c (ρ.set i x) (σ.set i v) a) : Nn c ρ σ a := by
  rcases h with h | ⟨j, d, h1, h2⟩
  · exact .inl h
  · rcases get_set h1 with ⟨_, _, q⟩ | ⟨hne, q⟩
    · exact absurd q (hx d)
    · rw [set_ne hne] at h2
      exact .inr ⟨j, d, q, h2⟩
theorem nn_sup {i : Nat} {x : Option (D × Bool)} {v : Option V} (hf : Free ρ i) {a : Addr} (h : Nn c ρ σ a) : Nn c (ρ.set i x) (σ.set i v) a := by
  rcases h with h | ⟨j, d, h1, h2⟩
  · exact .inl h
  · have hne : i ≠ j := fun z => hf d (z ▸ h1)
    exact .inr ⟨j, d, by rw [set_ne hne]; exact h1, by rw [set_ne hne]; exact h2⟩
/-- a slot forgotten, or set to a value -/
theorem EnvOk.seti (e : EnvOk K c ρ σ H) (i : Nat) {x : Option (D × Bool)} {v : Option V} (hx : ∀ d, x ≠ some (d, true)) (r : ∀ d, x = some (d, false) → ∃ u, v = some u ∧ Rep K c.W (Nn c ρ σ) H u d) : EnvOk K c (ρ.set i x) (σ.set i v) H where
  len := by rw [List.length_set, List.length_set, e.len]
  val := fun j d h => by
    rcases get_set h with ⟨rfl, hl, q⟩ | ⟨hne, q⟩
    · obtain ⟨u, rfl, ru⟩ := r d q
      exact ⟨u, set_eq (by rw [← e.len]; exact hl), ru.anti fun a => nn_sub hx⟩
    · obtain ⟨u, h1, h2⟩ := e.val j d q
      exact ⟨u, by rw [set_ne hne]; exact h1, h2.anti fun a => nn_sub hx⟩
  own := fun j d h => by
    rcases get_set h with ⟨rfl, hl, q⟩ | ⟨hne, q⟩
    · exact absurd q (hx d)
    · obtain ⟨a, o, h2, h3, h5, h6, h7⟩ := e.own j d q
      exact ⟨a, o, by rw [set_ne hne]; exact h2, h3, h5.anti fun a => nn_sub hx, h6, h7⟩
  dist := fun j k d d' a h1 h2 h3 h4 => by
    rcases get_set h1 with ⟨rfl, hl, q⟩ | ⟨hne, q⟩
    · exact absurd q (hx d)
    · rcases get_set h2 with ⟨rfl, hl', q'⟩ | ⟨hne', q'⟩
      · exact absurd q' (hx d')
      · rw [set_ne hne] at h3
        rw [set_ne hne'] at h4
        exact e.dist j k d d' a q q' h3 h4
  ext := e.ext
  inv := e.inv
  bkn := e.bkn
  bv := e.bv
theorem EnvOk.setv (e : EnvOk K c ρ σ H) (i : Nat) {d : D} {v : V} (r : Rep K c.W (Nn c ρ σ) H v d) : EnvOk K c (ρ.set i (some (d, false))) (σ.set i (some v)) H :=
  e.seti i (fun _ z => by cases z) fun d' z => by cases z; exact ⟨v, rfl, r⟩
theorem EnvOk.wipes (e : EnvOk K c ρ σ H) : ∀ own : List Nat, EnvOk K c (wipeE ρ own) (wipe σ own) H
  | [] => e
  | v :: vs => (e.wipes vs).seti v (fun _ z => nomatch z) fun _ z => nomatch z
theorem wipeE_get {ρ : Ev} {own : List Nat} {i : Nat} {x : D × Bool} (h : (wipeE ρ own)[i]? = some (some x)) : ρ[i]? = some (some x) ∧ i ∉ own := by
  induction own with
  | nil => exact ⟨h, by simp⟩
  | cons v vs ih =>
    rcases get_set (show ((wipeE ρ vs).set v none)[i]? = some (some x) from h) with ⟨_, _, q⟩ | ⟨hne, q⟩
    · cases q
    · obtain ⟨h1, h2⟩ := ih q
      exact ⟨h1, by simp only [List.mem_cons, not_or]; exact ⟨fun z => hne z.symm, h2⟩⟩
theorem wipe_out {σ : L2.St} {own : List Nat} {i : Nat} (h : i ∉ own) : (wipe σ own)[i]? = σ[i]? := by
  induction own with
  | nil => rfl
  | cons v vs ih =>
    simp only [List.mem_cons, not_or] at h
    show ((wipe σ vs).set v none)[i]? = _
    rw [set_ne (fun z => h.1 z.symm)]
    exact ih h.2
theorem wipeE_out {ρ : Ev} {own : List Nat} {i : Nat} (h : i ∉ own) : (wipeE ρ own)[i]? = ρ[i]? := by
  induction own with
  | nil => rfl
  | cons v vs ih =>
    simp only [List.mem_cons, not_or] at h
    show ((wipeE ρ vs).set v none)[i]? = _
    rw [set_ne (fun z => h.1 z.symm)]
    exact ih h.2
theorem nn_wipe {own : List Nat} (h : noOwn ρ own = true) {a : Addr} : Nn c (wipeE ρ own) (wipe σ own) a ↔ Nn c ρ σ a := by
  constructor
  · rintro (q | ⟨i, d, h1, h2⟩)
    · exact .inl q
    · obtain ⟨h3, h4⟩ := wipeE_get h1
      rw [wipe_out h4] at h2
      exact .inr ⟨i, d, h3, h2⟩
  · rintro (q | ⟨i, d, h1, h2⟩)
    · exact .inl q
    · have hi : i ∉ own := fun z => by
        have := List.all_eq_true.mp h i z
        rw [h1] at this
        cases this
      exact .inr ⟨i, d, by rw [wipeE_out hi]; exact h1, by rw [wipe_out hi]; exact h2⟩
theorem wipe_set {σ : L2.St} {own : List Nat} {i : Nat} {x : Option V} (h : i ∈ own) : wipe (σ.set i x) own = wipe σ own := by
  induction own with
  | nil => cases h
  | cons v vs ih =>
    show (wipe (σ.set i x) vs).set v none = (wipe σ vs).set v none
    by_cases hv : i ∈ vs
    · rw [ih hv]
    · have e : i = v := by simpa [hv] using h
      subst e
      have : ∀ vs : List Nat, i ∉ vs → wipe (σ.set i x) vs = (wipe σ vs).set i x := by
        intro vs
        induction vs with
        | nil => intro _; rfl
        | cons w ws ih2 =>
          intro hw
          simp only [List.mem_cons, not_or] at hw
          show (wipe (σ.set i x) ws).set w none = ((wipe σ ws).set w none).set i x
          rw [ih2 hw.2, List.set_comm _ _ hw.1]
      rw [this vs hv, List.set_set]
theorem wipe_len (σ : L2.St) : ∀ own : List Nat, (wipe σ own).length = σ.length
  | [] => rfl
  | v :: vs => by
    show ((wipe σ vs).set v none).length = _
    rw [List.length_set, wipe_len σ vs]
theorem wipe_wipe {σ : L2.St} (own : List Nat) : wipe (wipe σ own) own = wipe σ own := by
  apply List.ext_getElem?
  intro i
  by_cases hi : i ∈ own
  · have key : ∀ (σ : L2.St) (own : List Nat), i ∈ own → (wipe σ own)[i]? = if i < σ.length then some none else none := by
      intro σ own
      induction own with
      | nil => intro h; cases h
      | cons v vs ih =>
        intro h
        show ((wipe σ vs).set v none)[i]? = _
        by_cases e : v = i
        · subst e
          rw [List.getElem?_set, if_pos rfl, wipe_len]
        · rw [set_ne e]
          exact ih ((List.mem_cons.mp h).resolve_left fun z => e z.symm)
    rw [key _ _ hi, key _ _ hi, wipe_len]
  · rw [wipe_out hi]

/-! ### targets -/
def Tg.slots : Tg → List Nat
  | .n i => [i]
  | .t is => is
def gNames : List Nat → TGs
  | [] => gNil
  | i :: is => gCons (gName i) (gNames is)
def gOf (K : PySem.W.Frag) : Tg → TG
  | .n i => gName i
  | .t is => fun v σ H Q => gTup K is.length (gNames is) v σ H Q ∨ gLst K is.length (gNames is) v σ H Q
theorem PG.or {X : Cx} {x : Expr} {t t' : TG} (h : PG X x t) (g : PG X x t') : PG X x fun v σ H Q => t v σ H Q ∨ t' v σ H Q :=
  ⟨fun pins s σ H v u Q I r q => q.elim (h.run pins s σ H v u Q I r) (g.run pins s σ H v u Q I r)⟩
/-- what binding gives -/
structure Bound (K : PySem.W.Frag) (c : Cf) (ρ : Ev) (σ : L2.St) (sl : List Nat) (H : Hp) (ρ1 : Ev) (σ1 : L2.St) : Prop where
  ok : EnvOk K c ρ1 σ1 H
  sub : ∀ a, Nn c ρ1 σ1 a → Nn c ρ σ a
  sup : (∀ i, i ∈ sl → Free ρ i) → ∀ a, Nn c ρ σ a → Nn c ρ1 σ1 a
  wp : ∀ own : List Nat, (∀ i, i ∈ sl → i ∈ own) → wipe σ1 own = wipe σ own
  fr : ∀ i, Free ρ i → Free ρ1 i
theorem free_set {i j : Nat} {d : D} (h : Free ρ j) : Free (ρ.set i (some (d, false))) j := fun d' q => by
  rcases get_set q with ⟨_, _, z⟩ | ⟨_, z⟩
  · cases z
  · exact h d' z
theorem Bound.one (e : EnvOk K c ρ σ H) (i : Nat) {d : D} {v : V} (r : Rep K c.W (Nn c ρ σ) H v d) : Bound K c ρ σ [i] H (ρ.set i (some (d, false))) (σ.set i (some v)) :=
  ⟨e.setv i r, fun a => nn_sub (fun _ z => by cases z), fun h a => nn_sup (h i (by simp)), fun own h => wipe_set (h i (by simp)), fun j h => free_set h⟩
theorem Bound.nil (e : EnvOk K c ρ σ H) : Bound K c ρ σ [] H ρ σ := ⟨e, fun _ h => h, fun _ _ h => h, fun _ _ => rfl, fun _ h => h⟩
theorem Bound.cons {sl : List Nat} {i : Nat} {ρ1 ρ2 : Ev} {σ1 σ2 : L2.St} (a : Bound K c ρ σ [i] H ρ1 σ1) (b : Bound K c ρ1 σ1 sl H ρ2 σ2) : Bound K c ρ σ (i :: sl) H ρ2 σ2 :=
  ⟨b.ok, fun x h => a.sub x (b.sub x h), fun h x q => b.sup (fun j hj => a.fr j (h j (List.mem_cons_of_mem _ hj))) x (a.sup (fun j hj => by
      have e : j = i := by simpa using hj
      subst e
      exact h j (by simp)) x q),
    fun own h => (b.wp own fun j hj => h j (List.mem_cons_of_mem _ hj)).trans (a.wp own fun j hj => by
      have e : j = i := by simpa using hj
      subst e
      exact h j (by simp)), fun j h => b.fr j (a.fr j h)⟩
theorem bind_names {K : PySem.W.Frag} {c : Cf} {H : Hp} {Q : L2.St → Hp → Prop} : ∀ {is : List Nat} {ds : List D} {vs : List V} {ρ : Ev} {σ : L2.St}, is.length = ds.length → EnvOk K c ρ σ H → RepL K c.W (Nn c ρ σ) H vs ds →
    (∀ σ1, Bound K c ρ σ is H ((is.zip ds).foldl (fun ρ p => ρ.set p.1 (some (p.2, false))) ρ) σ1 → Q σ1 H) → gNames is vs σ H Q
  | [], [], [], ρ, σ, _, e, _, h => ⟨rfl, h σ (Bound.nil e)⟩
  | i :: is, d :: ds, v :: vs, ρ, σ, hl, e, .cons r l, h => by
    refine ⟨v, vs, rfl, ?_⟩
    have b := Bound.one e i r
    exact bind_names (is := is) (ds := ds) (by simpa using hl) b.ok (l.anti fun a => b.sub a) fun σ1 b1 => h σ1 (b.cons b1)
  | [], _ :: _, _, _, _, hl, _, _, _ => by simp at hl
  | _ :: _, [], _, _, _, hl, _, _, _ => by simp at hl
theorem bind_of {tg : Tg} {d : D} {v : V} {Q : L2.St → Hp → Prop} {R : XV → Nat → Prop} {b : Nat} (e : EnvOk K c ρ σ H) (r : Rep K c.W (Nn c ρ σ) H v d) (h : (bindT ρ tg d).run (fun ρ1 b' => b' = b → ∀ σ1, Bound K c ρ σ tg.slots H ρ1 σ1 → Q σ1 H) R b) : gOf K tg v σ H Q := by
  cases tg with
  | n i => exact h rfl _ (Bound.one e i r)
  | t is =>
    cases d <;> try exact h.elim
    · rename_i xs
      obtain ⟨hl, h⟩ := h
      obtain ⟨a, vs, rfl, h1, h3, h4⟩ := RepB.list (.inl r)
      exact .inr ⟨a, vs, rfl, SqL.of h1, by rw [h4.length]; exact hl, bind_names hl.symm e h4 (h rfl)⟩
    · rename_i xs
      obtain ⟨hl, h⟩ := h
      obtain ⟨a, vs, rfl, h1, h2, h3, h4⟩ := RepB.tup (.inl r)
      exact .inl ⟨a, vs, rfl, h1, by rw [h4.length]; exact hl, bind_names hl.symm e h4 (h rfl)⟩
theorem repl_two {K : PySem.W.Frag} {W : Wd} {N : Addr → Prop} {H : Hp} {vs : List V} {x y : D} (h : RepL K W N H vs [x, y]) : ∃ u w, vs = [u, w] ∧ Rep K W N H u x ∧ Rep K W N H w y := by
  cases h with
  | cons a b =>
    cases b with
    | cons c d =>
      cases d
      exact ⟨_, _, rfl, a, c⟩
theorem bind_ofN {i : Nat} {js : List Nat} {d : D} {v : V} {Q : L2.St → Hp → Prop} {R : XV → Nat → Prop} {b : Nat} (e : EnvOk K c ρ σ H) (r : Rep K c.W (Nn c ρ σ) H v d) (h : (bindN ρ i js d).run (fun ρ1 b' => b' = b → ∀ σ1, Bound K c ρ σ (i :: js) H ρ1 σ1 → Q σ1 H) R b) : gTup K 2 (gCons (gName i) (gCons (gOf K (.t js)) gNil)) v σ H Q := by
  cases d <;> try exact h.elim
  rename_i xs
  match xs, r, h with
  | [x, y], r, h =>
    obtain ⟨a, vs, rfl, h1, h2, h3, h4⟩ := RepB.tup (.inl r)
    obtain ⟨u, w, rfl, ru, rw'⟩ := repl_two h4
    have b1 := Bound.one e i ru
    refine ⟨a, [u, w], rfl, h1, rfl, u, [w], rfl, w, [], rfl, bind_of (tg := .t js) (R := R) (b := b) b1.ok (rw'.anti fun a => b1.sub a) ?_⟩
    exact (bindT _ (.t js) y).mono (fun ρ1 _ q hb σ2 b2 => ⟨rfl, q hb σ2 (b1.cons b2)⟩) (fun _ _ z => z) h
  | [], _, h => exact h.elim
  | [_], _, h => exact h.elim
  | _ :: _ :: _ :: _, _, h => exact h.elim
end
section
variable {X : Cx} {Wx : WX} {pos : Pos}
/-! ### a comprehension -/
/-- one turn of a comprehension -/
def lcTurn (own : List Nat) (tg : Tg) (mt me : TM D) (ρ : Ev) (d : D) : M (Option D) := do
  let ρ1 ← bindT (wipeE ρ own) tg d
  let t ← mt ρ1
  let b ← asBool t
  if b then (do let y ← me ρ1; pure (some y)) else pure none
def mLc (own : List Nat) (tg : Tg) (mi : TM (List D)) (mt me : TM D) : TM D := fun ρ => mi ρ >>= fun xs => M.grd (noOwn ρ own = true ∧ fitsD xs) >>= fun _ => M.quiet (lcE (lcTurn own tg mt me ρ) xs) >>= fun ys => pure (.list ys)
def noX : WX := fun _ _ _ _ => False
/-- within the block: the new list is not to be touched -/
def Cf.blk (c : Cf) (D : Addr) : Cf := { c with B := fun a => c.B a ∨ a = D }
theorem nn_blk {c : Cf} {ρ : Ev} {σ : L2.St} {D : Addr} {a : Addr} : Nn (c.blk D) ρ σ a ↔ (Nn c ρ σ a ∨ a = D) := by
  constructor
  · rintro ((h | h) | h)
    · exact .inl (.inl h)
    · exact .inr h
    · exact .inl (.inr h)
  · rintro ((h | h) | h)
    · exact .inl (.inl h)
    · exact .inr h
    · exact .inl (.inr h)
theorem EnvOk.blkM {K : PySem.W.Frag} {c : Cf} {ρ : Ev} {σ : L2.St} {H1 H : Hp} {D : Addr} {o : HO} {b : Nat} (e : EnvOk K c ρ σ H1) (hD : H1 D = none) (x : Ext c.W.vol H1 H) (i : c.W.inv b H) (h : H D = some o) (hm : MutO o) : EnvOk K ((c.at b).blk D) ρ σ H := by
  have e2 := e.ext' x i
  have key : ∀ {v : V} {d : Ad.D}, Rep K c.W (Nn c ρ σ) H1 v d → Rep K c.W (Nn ((c.at b).blk D) ρ σ) H v d := fun {v d} r =>
    Rep.to (fun a n q z => (nn_blk.mp z).elim n fun z => q (z ▸ hD)) (x.wide e.vc.bv) d v r
  have keyL : ∀ {v : List V} {d : List Ad.D}, RepL K c.W (Nn c ρ σ) H1 v d → RepL K c.W (Nn ((c.at b).blk D) ρ σ) H v d := fun {v d} r =>
    RepL.to (fun a n q z => (nn_blk.mp z).elim n fun z => q (z ▸ hD)) (x.wide e.vc.bv) d v r
  exact {
    len := e.len
    val := fun j d h => by
      obtain ⟨v, h1, h2⟩ := e.val j d h
      exact ⟨v, h1, key h2⟩
    own := fun j d h => by
      obtain ⟨a, o, h2, h3, h5, h6, h7⟩ := e.own j d h
      refine ⟨a, o, h2, x a _ (fun z => h7 (e.bv a z)) h3, h5.to (fun a n q z => (nn_blk.mp z).elim n fun z => q (z ▸ hD)) (x.wide e.vc.bv), h6, fun z => z.elim h7 fun z => ?_⟩
      rw [z, hD] at h3
      cases h3
    dist := e.dist
    ext := e2.ext
    inv := i
    bkn := fun a z => by
      rcases z with z | z
      · exact e2.bkn a z
      · exact ⟨o, by rw [z]; exact h, hm⟩
    bv := fun a z => .inl (e.bv a z) }
theorem EnvOk.blk {K : PySem.W.Frag} {c : Cf} {ρ : Ev} {σ : L2.St} {H1 H : Hp} {D : Addr} {acc : List V} {b : Nat} (e : EnvOk K c ρ σ H1) (hD : H1 D = none) (x : Ext c.W.vol H1 H) (i : c.W.inv b H) (h : H D = some (.lst acc)) : EnvOk K ((c.at b).blk D) ρ σ H := e.blkM hD x i h trivial
theorem read_lc {own : List Nat} {tg : Tg} {mi : TM (List D)} {mt me : TM D} {l : Bool} {σ : L2.St} {H : Hp} {Q : VK} {P : Cf → Ev → D → Nat → Prop} (hsl : ∀ i, i ∈ tg.slots → i ∈ own)
    (hP : ∀ (c : Cf) (ρ : Ev) (ys : List D) (b : Nat), EnvOk X.K c ρ σ H → P c ρ (.list ys) b → ∀ (D : Addr) (acc : List V) (H' : Hp), Ext c.W.vol H H' → c.W.inv b H' → ¬ Nn c ρ σ D → H D = none → H' D = some (.lst acc) → ys.length ≤ sizeLine → RepL X.K c.W (fun a => Nn c ρ σ a ∨ a = D) H' acc ys → Q (.ref D) H')
    (h : ∃ c ρ, EnvOk X.K c ρ σ H ∧ (mLc own tg mi mt me ρ).run (P c ρ) (XQ X.K X.mg Wx c ρ σ H) c.b) : tLc (tI X.K X.mg Wx l mi) (gOf X.K tg) (tT X.K X.mg noX mt) (tE X.K X.mg noX me) own σ H Q := by
  obtain ⟨c, ρ, e, h⟩ := h
  refine ⟨c, ρ, e, (mi ρ).mono (fun xs _ q J H1 x1 i1 wk D hD => ?_) (fun _ _ z => z) h⟩
  obtain ⟨⟨hno, hfit⟩, q⟩ := q
  have q : (lcE (lcTurn own tg mt me ρ) xs).run (fun ys => P c ρ (.list ys)) (fun _ _ => False) _ := q
  obtain ⟨G, Y, g0, gst, w, it⟩ := wk
  have e1 := e.ext' x1 i1
  have nD : ¬ Nn c ρ σ D := fun z => e1.vc.kn D z hD
  have nvD : ¬ c.W.vol D := fun z => nD (e1.vc.bv D z)
  have hSv : ∀ {Ha Hb : Hp}, Ext c.W.vol Ha Hb → Ext (if l = true then c.W.vol else Nn c ρ σ) Ha Hb := fun {Ha Hb} z => by
    split
    · exact z
    · exact z.wide e.vc.bv
  refine lc_it w (fun i H' => ∃ acc ds b, H' D = some (.lst acc) ∧ ds.length ≤ i ∧ Ext c.W.vol H1 H' ∧ c.W.inv b H' ∧ RepL X.K c.W (fun a => Nn c ρ σ a ∨ a = D) H' acc ds ∧
    (lcE (lcTurn own tg mt me ρ) (xs.drop i)).run (fun ys => P c ρ (.list (ds ++ ys))) (fun _ _ => False) b) ?_ ?_ ?_ ?_
  · obtain ⟨p1, p2, _⟩ := e1.vc.new (o := .lst []) hD
    exact ⟨[], [], _, upd_same, Nat.le_refl _, p1, p2, .nil, q⟩
  · rintro i H' _ ⟨acc, ds, b, _, _, x, _⟩
    exact gst _ _ (hSv x) g0
  · rintro i v Hc H2 hi ⟨acc, ds, b, hDc, hle, xc, ic, lc, qc⟩ y
    have kc := (e1.ext' xc ic).vc
    obtain ⟨x2, i2, d, hd, rd⟩ := it i Hc v H2 (fun a => Nn c ρ σ a ∨ a = D) hi (gst _ _ (hSv xc) g0) (hSv xc) (fun a z => by
      rcases z with z | z
      · exact ⟨.inl z, kc.kn a z⟩
      · exact ⟨.inr (by rw [z]; exact hD), by rw [z, hDc]; simp⟩) y
    have i2 := i2 b ic
    have hdrop : xs.drop i = d :: xs.drop (i + 1) := by
      obtain ⟨hlt, e⟩ := List.getElem?_eq_some_iff.mp hd
      rw [List.drop_eq_getElem_cons hlt, e]
    rw [hdrop] at qc
    have qc : (lcTurn own tg mt me ρ d).run (fun ob => (lcE (lcTurn own tg mt me ρ) (xs.drop (i + 1))).run (fun bs => P c ρ (.list (ds ++ addO ob bs))) (fun _ _ => False)) (fun _ _ => False) b := qc
    have hD2 : H2 D = some (.lst acc) := x2 D _ nvD hDc
    have eb := ((e1.blk hD (xc.trans x2) i2 hD2).wipes own)
    have nb : ∀ a, Nn ((c.at b).blk D) (wipeE ρ own) (wipe σ own) a ↔ (Nn c ρ σ a ∨ a = D) := fun a => (nn_wipe hno).trans nn_blk
    refine bind_of eb (rd.anti fun a => (nb a).mp) (R := fun _ _ => False) ((bindT _ tg d).mono (fun ρ1 _ qt hb σ1 bd => ⟨by rw [bd.wp _ hsl, wipe_wipe], ?_⟩) (fun _ _ z => z) qc)
    have n1 : ∀ a, Nn ((c.at b).blk D) ρ1 σ1 a ↔ (Nn c ρ σ a ∨ a = D) := fun a => ⟨fun z => (nb a).mp (bd.sub a z), fun z => bd.sup (fun j hj d' z => (wipeE_get z).2 (hsl j hj)) a ((nb a).mpr z)⟩
    subst hb
    refine ⟨_, ρ1, bd.ok, (mt ρ1).mono (fun t _ qt => ?_) (fun _ _ z => z.elim) qt⟩
    obtain ⟨b, rfl, qt⟩ := asBool_run qt
    refine ⟨b, rfl, fun H3 x3 i3 => ?_⟩
    have x13 : Ext c.W.vol H1 H3 := (xc.trans x2).trans x3
    cases b with
    | false =>
      exact ⟨acc, ds, _, x3 D _ nvD hD2, Nat.le_succ_of_le hle, x13, i3, (lc.ext (x2.wide fun a z => .inl (e.vc.bv a z))).ext (x3.wide fun a z => .inl (e.vc.bv a z)), qt⟩
    | true =>
      refine ⟨_, ρ1, bd.ok.ext' x3 i3, (me ρ1).mono (fun yd b4 qy u H4 x4 i4 ru => ?_) (fun _ _ z => z.elim) qt⟩
      have hD4 : H4 D = some (.lst acc) := x4 D _ nvD (x3 D _ nvD hD2)
      have hal : acc.length = ds.length := lc.length
      have hfit : xs.length ≤ sizeLine := hfit
      refine ⟨acc, hD4, by omega, acc ++ [u], ds ++ [yd], b4, upd_same, by simp; omega, ?_, ?_, ?_, ?_⟩
      · intro a o na ha
        have hne : a ≠ D := fun z => by rw [z, hD] at ha; cases ha
        rw [upd_ne hne]
        exact x4 a _ na (x13 a _ na ha)
      · exact c.W.keep _ _ _ i4 fun a ha => upd_ne fun z => nvD (z ▸ ha)
      · refine RepL.ext (Ext.write (.inr rfl)) (RepL.append ?_ (.cons (ru.anti fun a => (n1 a).mpr) .nil))
        exact ((lc.ext (x2.wide fun a z => .inl (e.vc.bv a z))).ext (x3.wide fun a z => .inl (e.vc.bv a z))).ext (x4.wide fun a z => .inl (e.vc.bv a z))
      · have qy : (lcE (lcTurn own tg mt me ρ) (xs.drop (i + 1))).run (fun bs => P c ρ (.list (ds ++ (yd :: bs)))) (fun _ _ => False) b4 := qy
        simpa using qy
  · rintro H' ⟨acc, ds, b, hDc, hle, xc, ic, lc, qc⟩
    rw [List.drop_length] at qc
    have qc : P c ρ (.list (ds ++ [])) b := qc
    rw [List.append_nil] at qc
    have hfit : xs.length ≤ sizeLine := hfit
    have h0 : H D = none := by
      cases q : H D with
      | none => rfl
      | some o => rw [x1 D o nvD q] at hD; cases hD
    exact hP c ρ ds b e qc D acc H' (x1.trans xc) ic nD h0 hDc (by omega) lc
theorem s_lc {tgx iter elt : Expr} {ifs : List Expr} {scope : Scope} {ownp : List (Str × Nat)} {own : List Nat} {tg : Tg} {mi : TM (List D)} {mt me : TM D} {l : Bool} (hc : X.calm = true) (hN : X.N.Nodup) (hi : PIr X Wx tgx iter l mi) (ok : BlkOk X.N X.env.scope scope ownp) (ho : ownp.map (·.2) = own) (hsl : ∀ i, i ∈ tg.slots → i ∈ own)
    (hg : ∀ (s : Shared) (H : Hp) (C : Addr) (cl : List (Str × Addr)) (fp : List Addr), PG (X.blk s H scope (compEnvC scope cl C X.env) fp) tgx (gOf X.K tg))
    (ht : ∀ (s : Shared) (H : Hp) (C : Addr) (cl : List (Str × Addr)) (fp : List Addr), PTs (X.blk s H scope (compEnvC scope cl C X.env) fp) ifs (tT X.K X.mg noX mt))
    (he : ∀ (s : Shared) (H : Hp) (C : Addr) (cl : List (Str × Addr)) (fp : List Addr), PEr (X.blk s H scope (compEnvC scope cl C X.env) fp) noX elt me) (hs : ∀ x, foldedSetIterable iter X.env x = pure x) :
    PEr X Wx (.ListComp elt [⟨tgx, iter, ifs, 0⟩] scope pos) (mLc own tg mi mt me) := by
  subst ho
  refine pe_imp (pe_lc (te := tE X.K X.mg noX me) hc hN hi ok hg ht he hs) fun σ H Q h => ?_
  obtain ⟨c, ρ, e, h⟩ := h
  exact read_lc (P := fun c ρ d => VQ X.K c.W (Nn c ρ σ) H Q d) hsl (fun c ρ ys _ e q D acc H' x i n _ hD z l => q _ H' x i (.lst hD n z (l.anti fun a z => .inl z))) ⟨c, ρ, e, h⟩
end
end Ad
namespace Ad
open PySem PySem.Calls PySem.W PySem.SeqAt PySem.Spec PyProof.Rows L2

/-! ### lists of the def's own -/
section
variable {K : PySem.W.Frag} {c : Cf} {ρ : Ev} {σ : L2.St} {H H' : Hp}
theorem nn_own {i : Nat} {d0 : D} {a x : Addr} (h : Nn c (ρ.set i (some (d0, true))) (σ.set i (some (.ref a))) x) : Nn (c.blk a) ρ σ x := by
  rcases h with h | ⟨j, d, h1, h2⟩
  · exact .inl (.inl h)
  · rcases get_set h1 with ⟨rfl, _, q⟩ | ⟨hne, q⟩
    · rcases get_set h2 with ⟨_, _, q2⟩ | ⟨hne, _⟩
      · cases q2
        exact .inl (.inr rfl)
      · exact absurd rfl hne
    · rw [set_ne hne] at h2
      exact .inr ⟨j, d, q, h2⟩
/-- a list kept apart becomes a slot's own -/
theorem EnvOk.own0' {a : Addr} {o : HO} {d0 : D} (e : EnvOk K (c.blk a) ρ σ H) (i : Nat) (h : H a = some o) (l : OwnR K c.W (Nn (c.blk a) ρ σ) H a o d0) (h0 : c.H0 a = none) (hn : ¬ c.B a)
    (hv : ¬ c.W.vol a) (hd : ∀ (j : Nat) (d : D), ρ[j]? = some (some (d, true)) → σ[j]? ≠ some (some (.ref a))) : EnvOk K c (ρ.set i (some (d0, true))) (σ.set i (some (.ref a))) H where
  len := by rw [List.length_set, List.length_set, e.len]
  val := fun j d q => by
    rcases get_set q with ⟨rfl, hl, q⟩ | ⟨hne, q⟩
    · cases q
    · obtain ⟨u, h1, h2⟩ := e.val j d q
      exact ⟨u, by rw [set_ne hne]; exact h1, h2.anti fun x => nn_own⟩
  own := fun j d q => by
    rcases get_set q with ⟨rfl, hl, q⟩ | ⟨hne, q⟩
    · cases q
      exact ⟨a, o, set_eq (by rw [← e.len]; exact hl), h, l.anti fun x => nn_own, h0, hn⟩
    · obtain ⟨b, o', h2, h3, h5, h6, h7⟩ := e.own j d q
      exact ⟨b, o', by rw [set_ne hne]; exact h2, h3, h5.anti fun x => nn_own, h6, fun q => h7 (.inl q)⟩
  dist := fun j k d d' b h1 h2 h3 h4 => by
    rcases get_set h1 with ⟨rfl, hl, q⟩ | ⟨hne, q⟩
    · rcases get_set h2 with ⟨rfl, hl', q'⟩ | ⟨hne', q'⟩
      · rfl
      · rcases get_set h3 with ⟨_, _, e3⟩ | ⟨hx, _⟩
        · cases e3
          rw [set_ne hne'] at h4
          exact absurd h4 (hd k d' q')
        · exact absurd rfl hx
    · rcases get_set h2 with ⟨rfl, hl', q'⟩ | ⟨hne', q'⟩
      · rcases get_set h4 with ⟨_, _, e3⟩ | ⟨hx, _⟩
        · cases e3
          rw [set_ne hne] at h3
          exact absurd h3 (hd j d q)
        · exact absurd rfl hx
      · rw [set_ne hne] at h3
        rw [set_ne hne'] at h4
        exact e.dist j k d d' b q q' h3 h4
  ext := e.ext
  inv := e.inv
  bkn := fun b z => e.bkn b (.inl z)
  bv := fun b z => by
    rcases e.bv b z with q | q
    · exact q
    · subst q
      exact absurd z hv
/-- a list kept apart becomes a slot's own -/
theorem EnvOk.own0 {a : Addr} {vs : List V} {ds : List D} (e : EnvOk K (c.blk a) ρ σ H) (i : Nat) (h : H a = some (.lst vs)) (z : ds.length ≤ sizeLine) (l : RepL K c.W (Nn (c.blk a) ρ σ) H vs ds) (h0 : c.H0 a = none) (hn : ¬ c.B a)
    (hv : ¬ c.W.vol a) (hd : ∀ (j : Nat) (d : D), ρ[j]? = some (some (d, true)) → σ[j]? ≠ some (some (.ref a))) : EnvOk K c (ρ.set i (some (.list ds, true))) (σ.set i (some (.ref a))) H := e.own0' i h (.lst z l) h0 hn hv hd
/-- an object kept apart becomes a slot's own -/
theorem EnvOk.own1' {a : Addr} {o : HO} {d0 : D} (e : EnvOk K (c.blk a) ρ σ H) (i : Nat) (h : H a = some o) (l : OwnR K c.W (Nn (c.blk a) ρ σ) H a o d0) (h0 : c.H0 a = none) (hn : ¬ c.B a)
    (hv : ¬ c.W.vol a) : EnvOk K c (ρ.set i (some (d0, true))) (σ.set i (some (.ref a))) H := by
  have hd : ∀ (j : Nat) (d : D), ρ[j]? = some (some (d, true)) → σ[j]? ≠ some (some (.ref a)) := fun j d q q2 => by
    obtain ⟨b, o, h2, _, _, _, h7⟩ := e.own j d q
    rw [q2] at h2
    cases h2
    exact h7 (.inr rfl)
  exact EnvOk.own0' e i h l h0 hn hv hd
/-- a list kept apart becomes a slot's own -/
theorem EnvOk.own1 {a : Addr} {vs : List V} {ds : List D} (e : EnvOk K (c.blk a) ρ σ H) (i : Nat) (h : H a = some (.lst vs)) (z : ds.length ≤ sizeLine) (l : RepL K c.W (Nn (c.blk a) ρ σ) H vs ds) (h0 : c.H0 a = none) (hn : ¬ c.B a)
    (hv : ¬ c.W.vol a) : EnvOk K c (ρ.set i (some (.list ds, true))) (σ.set i (some (.ref a))) H := by
  have hd : ∀ (j : Nat) (d : D), ρ[j]? = some (some (d, true)) → σ[j]? ≠ some (some (.ref a)) := fun j d q q2 => by
    obtain ⟨b, o, h2, _, _, _, h7⟩ := e.own j d q
    rw [q2] at h2
    cases h2
    exact h7 (.inr rfl)
  exact EnvOk.own0 e i h z l h0 hn hv hd
theorem nn_setD {w : Nat} {d d0 : D} (hw : ρ[w]? = some (some (d, true))) (x : Addr) : Nn c (ρ.set w (some (d0, true))) σ x ↔ Nn c ρ σ x := by
  constructor
  · rintro (h | ⟨j, d', h1, h2⟩)
    · exact .inl h
    · rcases get_set h1 with ⟨rfl, _, q⟩ | ⟨hne, q⟩
      · exact .inr ⟨w, d, hw, h2⟩
      · exact .inr ⟨j, d', q, h2⟩
  · rintro (h | ⟨j, d', h1, h2⟩)
    · exact .inl h
    · by_cases e : w = j
      · subst e
        exact .inr ⟨w, d0, set_eq (List.getElem?_eq_some_iff.mp hw).1, h2⟩
      · exact .inr ⟨j, d', by rw [set_ne e]; exact h1, h2⟩
theorem nn_setO {w : Nat} {d : D} {ds : List D} (hw : ρ[w]? = some (some (d, true))) (x : Addr) : Nn c (setO ρ w ds) σ x ↔ Nn c ρ σ x := nn_setD hw x
/-- another object at a slot's own place -/
theorem EnvOk.writeD {w : Nat} {a : Addr} {d d0 : D} {o : HO} (e : EnvOk K c ρ σ H) (hw : ρ[w]? = some (some (d, true))) (ha : σ[w]? = some (some (.ref a))) (l : OwnR K c.W (Nn c ρ σ) H a o d0) :
    EnvOk K c (ρ.set w (some (d0, true))) σ (upd H a o) ∧ Ext (Nn c ρ σ) H (upd H a o) := by
  have hN : Nn c ρ σ a := .inr ⟨w, d, hw, ha⟩
  have ex : Ext (Nn c ρ σ) H (upd H a o) := Ext.write hN
  obtain ⟨b, o0, hb, h3, h5, h6, h7⟩ := e.own w d hw
  rw [ha] at hb
  cases hb
  have hnv : ¬ c.W.vol a := fun z => h7 (e.bv a z)
  have n1 := fun x => nn_setD (c := c) (σ := σ) (d0 := d0) hw x
  refine ⟨{
    len := by rw [List.length_set, e.len]
    val := fun j d' q => ?_
    own := fun j d' q => ?_
    dist := fun j k d1 d2 b h1 h2 g1 g2 => ?_
    ext := fun x o n q => ?_
    inv := c.W.keep _ _ _ e.inv fun x hx => upd_ne fun z => hnv (z ▸ hx)
    bkn := fun b hb => ?_
    bv := e.bv }, ex⟩
  · rcases get_set q with ⟨rfl, hl, q⟩ | ⟨hne, q⟩
    · cases q
    · obtain ⟨u, u1, u2⟩ := e.val j d' q
      exact ⟨u, u1, (u2.ext ex).anti fun x => (n1 x).mp⟩
  · rcases get_set q with ⟨rfl, hl, q⟩ | ⟨hne, q⟩
    · cases q
      exact ⟨a, o, ha, upd_same, (l.ext ex).anti fun x => (n1 x).mp, h6, h7⟩
    · obtain ⟨b, o', k2, k3, k5, k6, k7⟩ := e.own j d' q
      have hba : b ≠ a := fun z => hne (e.dist w j d d' a hw q ha (by rw [k2, z]))
      exact ⟨b, o', k2, by rw [upd_ne hba]; exact k3, (k5.ext ex).anti fun x => (n1 x).mp, k6, k7⟩
  · rcases get_set h1 with ⟨rfl, _, q⟩ | ⟨hne, q⟩
    · rcases get_set h2 with ⟨rfl, _, q'⟩ | ⟨hne', q'⟩
      · rfl
      · exact e.dist w k d d2 b hw q' g1 g2
    · rcases get_set h2 with ⟨rfl, _, q'⟩ | ⟨hne', q'⟩
      · exact e.dist j w d1 d b q hw g1 g2
      · exact e.dist j k d1 d2 b q q' g1 g2
  · have hne : x ≠ a := fun z => by rw [z, h6] at q; cases q
    rw [upd_ne hne]
    exact e.ext x o n q
  · by_cases hba : b = a
    · exact ⟨_, by rw [hba]; exact upd_same, l.mut⟩
    · obtain ⟨ws, q, m⟩ := e.bkn b hb
      exact ⟨ws, by rw [upd_ne hba]; exact q, m⟩
theorem EnvOk.write {w : Nat} {a : Addr} {d : D} {vs : List V} {ds : List D} (e : EnvOk K c ρ σ H) (hw : ρ[w]? = some (some (d, true))) (ha : σ[w]? = some (some (.ref a))) (z : ds.length ≤ sizeLine) (l : RepL K c.W (Nn c ρ σ) H vs ds) :
    EnvOk K c (setO ρ w ds) σ (upd H a (.lst vs)) ∧ Ext (Nn c ρ σ) H (upd H a (.lst vs)) := e.writeD hw ha (.lst z l)

/-! ### steps of a body -/
structure Step (c : Cf) (ρ : Ev) (σ : L2.St) (H : Hp) (ρ' : Ev) (σ' : L2.St) (H' : Hp) : Prop where
  ext : Ext (Nn c ρ σ) H H'
  new : ∀ a, Nn c ρ' σ' a → Nn c ρ σ a ∨ H a = none
theorem Step.refl : Step c ρ σ H ρ σ H := ⟨Ext.refl H, fun _ h => .inl h⟩
theorem Step.trans {ρ1 ρ2 : Ev} {σ1 σ2 : L2.St} {H1 H2 : Hp} (a : Step c ρ σ H ρ1 σ1 H1) (b : Step c ρ1 σ1 H1 ρ2 σ2 H2) : Step c ρ σ H ρ2 σ2 H2 :=
  ⟨fun x o n q => b.ext x o (fun z => (a.new x z).elim n fun z => by rw [q] at z; cases z) (a.ext x o n q), fun x z => by
    rcases b.new x z with z | z
    · exact a.new x z
    · by_cases hn : Nn c ρ σ x
      · exact .inl hn
      · cases q : H x with
        | none => exact .inr rfl
        | some o => rw [a.ext x o hn q] at z; cases z⟩
theorem Step.of_vol (e : EnvOk K c ρ σ H) (x : Ext c.W.vol H H') : Step c ρ σ H ρ σ H' := ⟨x.wide e.vc.bv, fun _ h => .inl h⟩
/-- what a statement is to reach -/
def Rq (K : PySem.W.Frag) (c : Cf) (ρ : Ev) (σ : L2.St) (H : Hp) (D : Ends) : Rz → Nat → Prop
  | .nx ρ', b => ∀ σ' H', Step c ρ σ H ρ' σ' H' → EnvOk K (c.at b) ρ' σ' H' → D.nx σ' H'
  | .rt d, b => ∀ v H', Ext c.W.vol c.H0 H' → c.W.inv b H' → Rep K c.W c.B H' v d → D.rt v H'
  | .bk ρ', b => ∀ σ' H', Step c ρ σ H ρ' σ' H' → EnvOk K (c.at b) ρ' σ' H' → D.bk σ' H'
def XS (K : PySem.W.Frag) (mg : Str → Option Value) (Wx : WX) (c : Cf) : XV → Nat → Prop := fun x b => ∀ cls d σ' H', Ext c.W.vol c.H0 H' → c.W.inv b H' → RepX K mg c.W c.B H' x cls d → Wx cls d σ' H'
def tSt (K : PySem.W.Frag) (mg : Str → Option Value) (Wx : WX) (m : Ev → M Rz) : TS := fun D σ H => ∃ c ρ, EnvOk K c ρ σ H ∧ (m ρ).run (Rq K c ρ σ H D) (XS K mg Wx c) c.b
theorem RepX.anti {K : PySem.W.Frag} {mg : Str → Option Value} {W : Wd} {N N' : Addr → Prop} {H : Hp} {x : XV} {cls : Value} {d : Option Addr} (f : ∀ a, N' a → N a) (h : RepX K mg W N H x cls d) : RepX K mg W N' H x cls d := by
  obtain ⟨C, h1, h2, h3⟩ := h
  refine ⟨C, h1, h2, ?_⟩
  rcases h3 with h3 | ⟨h3, dd, vs, h4, h5, h6⟩
  · exact .inl h3
  · exact .inr ⟨h3, dd, vs, h4, h5, h6.anti f⟩
theorem XS.q {mg : Str → Option Value} {Wx : WX} (e : EnvOk K c ρ σ H) {x : XV} {b : Nat} (h : XS K mg Wx c x b) : XQ K mg Wx c ρ σ H x b := fun cls d H' x' i r => h cls d σ H' (e.ext.trans x') i (r.anti fun a z => .inl z)
theorem Step.un {n : Nat} {ρ' : Ev} {σ' : L2.St} (s : Step (c.at n) ρ σ H ρ' σ' H') : Step c ρ σ H ρ' σ' H' := ⟨s.ext, s.new⟩
theorem Step.on {n : Nat} {ρ' : Ev} {σ' : L2.St} (s : Step c ρ σ H ρ' σ' H') : Step (c.at n) ρ σ H ρ' σ' H' := ⟨s.ext, s.new⟩
theorem Rq.later {D : Ends} {ρ1 : Ev} {σ1 : L2.St} {H1 : Hp} {n : Nat} (s : Step c ρ σ H ρ1 σ1 H1) : ∀ {r : Rz} {b : Nat}, Rq K c ρ σ H D r b → Rq K (c.at n) ρ1 σ1 H1 D r b
  | .nx _, _, h => fun σ' H' s' e => h σ' H' (s.trans s'.un) e
  | .rt _, _, h => h
  | .bk _, _, h => fun σ' H' s' e => h σ' H' (s.trans s'.un) e
end
section
variable {X : Cx} {Wx : WX} {pos : Pos}
abbrev PSr (X : Cx) (Wx : WX) (x : Stmt) (m : Ev → M Rz) : Prop := PS X x (tSt X.K X.mg Wx m)
abbrev PSsr (X : Cx) (Wx : WX) (x : List Stmt) (m : Ev → M Rz) : Prop := PSs X x (tSt X.K X.mg Wx m)
theorem ps_imp {x : Stmt} {t t' : TS} (h : PS X x t) (i : ∀ (D : Ends) (σ : L2.St) (H : Hp), t' D σ H → t D σ H) : PS X x t' := ⟨fun pins s σ H D I q => h.run pins s σ H D I (i D σ H q)⟩
theorem pss_imp {x : List Stmt} {t t' : TS} (h : PSs X x t) (i : ∀ (D : Ends) (σ : L2.St) (H : Hp), t' D σ H → t D σ H) : PSs X x t' := ⟨fun pins s σ H D I q => h.run pins s σ H D I (i D σ H q)⟩
theorem st_nil : PSsr X Wx [] fun ρ => pure (.nx ρ) := pss_imp pss_nil fun D σ H h => by
  obtain ⟨c, ρ, e, h⟩ := h
  exact h σ H Step.refl e
/-- one after another -/
def mSeq (a b : Ev → M Rz) : Ev → M Rz := fun ρ => a ρ >>= Rz.sq b
theorem st_cons {x : Stmt} {xs : List Stmt} {a b : Ev → M Rz} (ha : PSr X Wx x a) (hb : PSsr X Wx xs b) : PSsr X Wx (x :: xs) (mSeq a b) := pss_imp (pss_cons ha hb) fun D σ H h => by
  obtain ⟨c, ρ, e, h⟩ := h
  refine ⟨c, ρ, e, (a ρ).mono (fun r _ q => ?_) (fun _ _ z => z) h⟩
  cases r with
  | nx ρ' => exact fun σ' H' s e' => ⟨_, ρ', e', (b ρ').mono (fun r _ q => q.later s) (fun _ _ z => z) q⟩
  | rt d => exact q
  | bk ρ' => exact q
/-- a reading of an expression within a body -/
theorem tE_in {K : PySem.W.Frag} {mg : Str → Option Value} {m : TM D} {c : Cf} {ρ : Ev} {σ : L2.St} {H : Hp} {Q : VK} {P : D → Nat → Prop} (e : EnvOk K c ρ σ H) (h : (m ρ).run P (XS K mg Wx c) c.b) (hP : ∀ d b, P d b → ∀ v H', Ext c.W.vol H H' → c.W.inv b H' → Rep K c.W (Nn c ρ σ) H' v d → Q v H') : tE K mg Wx m σ H Q :=
  ⟨c, ρ, e, (m ρ).mono (fun d b q => hP d b q) (fun _ _ z => z.q e) h⟩
theorem st_ret {x : Expr} {m : TM D} (h : PEr X Wx x m) : PSr X Wx (.Return (some x) pos) fun ρ => m ρ >>= fun d => pure (.rt d) := ps_imp (ps_ret h) fun D σ H q => by
  obtain ⟨c, ρ, e, q⟩ := q
  exact tE_in e q fun d _ q v H' x i r => q v H' (e.ext.trans x) i (r.anti fun a z => .inl z)
theorem st_retN : PSr X Wx (.Return none pos) fun _ => pure (.rt .none) := ps_imp ps_retN fun D σ H q => by
  obtain ⟨c, ρ, e, q⟩ := q
  exact q _ H e.ext e.inv .non
theorem st_pass : PSr X Wx (.Pass pos) fun ρ => pure (.nx ρ) := ps_imp ps_pass fun D σ H q => by
  obtain ⟨c, ρ, e, q⟩ := q
  exact q σ H Step.refl e
theorem st_brk : PSr X Wx (.Break pos) fun ρ => pure (.bk ρ) := ps_imp ps_break fun D σ H q => by
  obtain ⟨c, ρ, e, q⟩ := q
  exact q σ H Step.refl e
theorem st_ex {x : Expr} {m : TM D} (h : PEr X Wx x m) (hs : swapsWith x none pos.line X.env = pure false) : PSr X Wx (.Expr x pos) fun ρ => m ρ >>= fun _ => pure (.nx ρ) := ps_imp (ps_expr h hs) fun D σ H q => by
  obtain ⟨c, ρ, e, q⟩ := q
  exact tE_in e q fun d _ q v H' x i r => q σ H' (Step.of_vol e x) (e.ext' x i)
theorem st_if {z : Expr} {xs ys : List Stmt} {c : TM D} {a b : Ev → M Rz} (hc : PTr X Wx z c) (ha : PSsr X Wx xs a) (hb : PSsr X Wx ys b) : PSr X Wx (.If z xs ys pos) fun ρ => c ρ >>= fun d => asBool d >>= fun r => if r then a ρ else b ρ := ps_imp (ps_if hc ha hb) fun D σ H q => by
  obtain ⟨cf, ρ, e, q⟩ := q
  refine ⟨cf, ρ, e, (c ρ).mono (fun d _ q => ?_) (fun _ _ z => z.q e) q⟩
  obtain ⟨k, rfl, q⟩ := asBool_run q
  refine ⟨k, rfl, fun H1 x i => ?_⟩
  cases k with
  | true => exact ⟨_, ρ, e.ext' x i, (a ρ).mono (fun r _ q => q.later (Step.of_vol e x)) (fun _ _ z => z) q⟩
  | false => exact ⟨_, ρ, e.ext' x i, (b ρ).mono (fun r _ q => q.later (Step.of_vol e x)) (fun _ _ z => z) q⟩
theorem step_set {K : PySem.W.Frag} {c : Cf} {ρ ρ1 : Ev} {σ σ1 : L2.St} {H H1 : Hp} {sl : List Nat} {n : Nat} (e : EnvOk K c ρ σ H) (x : Ext c.W.vol H H1) (b : Bound K (c.at n) ρ σ sl H1 ρ1 σ1) : Step c ρ σ H ρ1 σ1 H1 :=
  ⟨x.wide e.vc.bv, fun a z => .inl (b.sub a z)⟩
theorem st_asg {tgx x : Expr} {tg : Tg} {m : TM D} (h : PEr X Wx x m) (hg : PG X tgx (gOf X.K tg)) (hs : swapsWithSole [tgx] x pos.line X.env = pure false) (hw : swappedStores [tgx] x X.env = pure none)
    (h1 : (assignEach [tgx] X.env).map (·.2) = [assign tgx X.env]) : PSr X Wx (.Assign [tgx] x pos) fun ρ => m ρ >>= fun d => bindT ρ tg d >>= fun ρ' => pure (.nx ρ') := ps_imp (ps_asg h hg hs hw h1) fun D σ H q => by
  obtain ⟨c, ρ, e, q⟩ := q
  exact tE_in e q fun d _ q v H' x i r => bind_of (e.ext' x i) r ((bindT ρ tg d).mono (fun ρ1 _ q1 hb σ1 b => by subst hb; exact q1 σ1 H' (step_set e x b) b.ok) (fun _ _ z => z) q)
theorem st_asgN {tgx x : Expr} {i : Nat} {js : List Nat} {m : TM D} (h : PEr X Wx x m) (hg : PG X tgx (gTup X.K 2 (gCons (gName i) (gCons (gOf X.K (.t js)) gNil)))) (hs : swapsWithSole [tgx] x pos.line X.env = pure false) (hw : swappedStores [tgx] x X.env = pure none)
    (h1 : (assignEach [tgx] X.env).map (·.2) = [assign tgx X.env]) : PSr X Wx (.Assign [tgx] x pos) fun ρ => m ρ >>= fun d => bindN ρ i js d >>= fun ρ' => pure (.nx ρ') := ps_imp (ps_asg h hg hs hw h1) fun D σ H q => by
  obtain ⟨c, ρ, e, q⟩ := q
  exact tE_in e q fun d _ q v H' x i' r => bind_ofN (e.ext' x i') r ((bindN ρ i js d).mono (fun ρ1 _ q1 hb σ1 b => by subst hb; exact q1 σ1 H' (step_set e x b) b.ok) (fun _ _ z => z) q)
end
end Ad
namespace Ad
open PySem PySem.Calls PySem.W PySem.SeqAt PySem.Spec PyProof.Rows L2

/-! ### new lists -/
def FQ (K : PySem.W.Frag) (c : Cf) (ρ : Ev) (σ : L2.St) (H : Hp) (Q : VK) : D → Nat → Prop := fun d b => isOwn d = true ∧ ∀ a o H1, Ext c.W.vol H H1 → c.W.inv b H1 → H1 a = none → OwnR K c.W (Nn c ρ σ) H1 a o d → Q (.ref a) (upd H1 a o)
def tF (K : PySem.W.Frag) (mg : Str → Option Value) (Wx : WX) (m : TM D) : TE := fun σ H Q => ∃ c ρ, EnvOk K c ρ σ H ∧ (m ρ).run (FQ K c ρ σ H Q) (XQ K mg Wx c ρ σ H) c.b
abbrev PFr (X : Cx) (Wx : WX) (x : Expr) (m : TM D) : Prop := PE X x (tF X.K X.mg Wx m)
section
variable {X : Cx} {Wx : WX} {pos : Pos}
theorem f_lst {xs : List Expr} {m : TM (List D)} (h : PAr X Wx xs m) (f : Few m) : PFr X Wx (.List xs pos) fun ρ => m ρ >>= fun ds => pure (.list ds) :=
  pe_imp (pe_lst h) fun σ H Q h => by
    obtain ⟨c, ρ, e, h⟩ := h
    refine ⟨c, ρ, e, (m ρ).mono (fun d _ q v H1 x i rv => ?_) (fun _ _ z => z) (f ρ _ _ _ h)⟩
    exact ⟨by rw [rv.length]; exact q.1, fun p hp => q.2.2 p _ H1 x i hp (.lst q.1 rv)⟩
/-- two parts, then a step by values to a new list -/
theorem read2F {K : PySem.W.Frag} {mg : Str → Option Value} {σ : L2.St} {H : Hp} {Q : VK} {a b : TM D} {f : D → D → M D} {r : R2}
    (hv : ∀ (W : Wd) (N : Addr → Prop) (H : Hp) (b : Nat) (d e : D) (v u : V) (Q : VK) (R : XV → Nat → Prop), VC W N H b → RepB K W N H v d → RepB K W N H u e → (f d e).run (fun d b' => isOwn d = true ∧ ∀ ds, d = .list ds → b' = b → ds.length ≤ sizeLine → ∀ a vs, H a = none → RepL K W N H vs ds → Q (.ref a) (upd H a (.lst vs))) R b → r v u H Q)
    (h : tF K mg Wx (fun ρ => a ρ >>= fun x => b ρ >>= fun y => f x y) σ H Q) : tEB K mg Wx a σ H fun v H1 => tEB K mg Wx b σ H1 fun u H2 => r v u H2 Q := by
  obtain ⟨c, ρ, e, h⟩ := h
  refine ⟨c, ρ, e, (a ρ).mono (fun d _ q v H1 x i rv => ?_) (fun _ _ z => z) h⟩
  refine ⟨_, ρ, e.ext' x i, (b ρ).mono (fun d' _ q' v' H2 x2 i2 r2 => ?_) (fun _ _ z => XQ.later x z) q⟩
  have e2 := (e.ext' x i).ext' x2 i2
  refine hv c.W (Nn c ρ σ) H2 _ d d' v v' Q _ e2.vc (rv.ext x2 e.vc.bv) r2 ((f d d').mono (fun d3 _ q3 => ?_) (fun _ _ z => z) q')
  exact ⟨q3.1, fun ds e hb z a vs ha l => by subst e; exact q3.2 a _ H2 (x.trans x2) (by rw [hb]; exact i2) ha (.lst z l)⟩
theorem f_add {x y : Expr} {a b : TM D} (ha : PEb X Wx x a) (hb : PEb X Wx y b) : PFr X Wx (.BinOp x .Add y pos) fun ρ => a ρ >>= fun d => b ρ >>= fun e => addD d e :=
  pe_imp (pe_op op_cat ha hb) fun σ H Q h => read2F (f := addD) (r := rCat) (fun W N H _ d e v u Q R c r1 r2 h => by
    unfold addD at h
    split at h
    · obtain ⟨e, _⟩ := h; cases e
    · obtain ⟨_, e, _⟩ := h; cases e
    · obtain ⟨_, e, _⟩ := h; cases e
    · obtain ⟨a, vs, rfl, h1, z1, l1⟩ := r1.list
      obtain ⟨b, ws, rfl, h2, z2, l2⟩ := r2.list
      obtain ⟨hz, _, h⟩ := h
      exact ⟨a, b, vs, ws, rfl, rfl, h1, h2, by rw [l1.length, l2.length]; exact hz, fun p hp => h _ rfl rfl (by rw [List.length_append]; exact hz) p _ hp (l1.append l2)⟩
    · exact h.elim) h
theorem f_mul {x y : Expr} {a b : TM D} (ha : PEb X Wx x a) (hb : PEb X Wx y b) : PFr X Wx (.BinOp x .Mult y pos) fun ρ => a ρ >>= fun d => b ρ >>= fun e => mulD d e :=
  pe_imp (pe_op op_rep ha hb) fun σ H Q h => read2F (f := mulD) (r := rRep) (fun W N H _ d e v u Q R c r1 r2 h => by
    unfold mulD at h
    split at h
    · obtain ⟨_, e, _⟩ := h; cases e
    · obtain ⟨a, vs, rfl, h1, z1, l1⟩ := r1.list
      obtain ⟨⟨b1, b2, b3⟩, _, h⟩ := h
      refine ⟨a, _, vs, rfl, r2.int, h1, b1, b2, by rw [l1.length]; exact b3, fun p hp => h _ rfl rfl ?_ p _ hp (l1.flat _)⟩
      rw [List.length_flatten, List.map_replicate, List.sum_replicate_nat, Nat.mul_comm]
      exact b3
    · obtain ⟨_, e, _⟩ := h; cases e
    · exact h.elim) h
theorem f_end {c : Cf} {ρ : Ev} {σ : L2.St} {H H' : Hp} {Q : VK} {D : Addr} {ys : List Ad.D} {acc : List V} {b : Nat} (e : EnvOk X.K c ρ σ H) (q : FQ X.K c ρ σ H Q (.list ys) b) (x : Ext c.W.vol H H') (i : c.W.inv b H') (n : ¬ Nn c ρ σ D) (h0 : H D = none) (hD : H' D = some (.lst acc)) (z : ys.length ≤ sizeLine) (l : RepL X.K c.W (fun a => Nn c ρ σ a ∨ a = D) H' acc ys) : Q (.ref D) H' := by
  obtain ⟨_, q⟩ := q
  have hnv : ¬ c.W.vol D := fun z => n (e.vc.bv D z)
  have hu : upd (fun x => if x = D then none else H' x) D (.lst acc) = H' := by
    funext x
    by_cases hx : x = D
    · rw [hx, upd_same, hD]
    · rw [upd_ne hx]
      exact if_neg hx
  have q := q D (.lst acc) (fun x => if x = D then none else H' x) (fun a o na ha => by
    have hne : a ≠ D := fun z => by rw [z, h0] at ha; cases ha
    show (if a = D then none else H' a) = some o
    rw [if_neg hne]
    exact x a o na ha) (c.W.keep _ H' _ i fun a ha => if_neg fun z => hnv (by rw [← z]; exact ha)) (if_pos rfl) (.lst z
    (RepL.to (N := fun a => Nn c ρ σ a ∨ a = D) (fun a na _ z => na (.inl z)) (fun a o na ha => by
      show (if a = D then none else H' a) = some o
      rw [if_neg fun z => na (.inr z)]
      exact ha) _ _ l))
  rw [hu] at q
  exact q
theorem f_lc {tgx iter elt : Expr} {ifs : List Expr} {scope : Scope} {ownp : List (Str × Nat)} {own : List Nat} {tg : Tg} {mi : TM (List D)} {mt me : TM D} {l : Bool} (hc : X.calm = true) (hN : X.N.Nodup) (hi : PIr X Wx tgx iter l mi) (ok : BlkOk X.N X.env.scope scope ownp) (ho : ownp.map (·.2) = own) (hsl : ∀ i, i ∈ tg.slots → i ∈ own)
    (hg : ∀ (s : Shared) (H : Hp) (C : Addr) (cl : List (Str × Addr)) (fp : List Addr), PG (X.blk s H scope (compEnvC scope cl C X.env) fp) tgx (gOf X.K tg))
    (ht : ∀ (s : Shared) (H : Hp) (C : Addr) (cl : List (Str × Addr)) (fp : List Addr), PTs (X.blk s H scope (compEnvC scope cl C X.env) fp) ifs (tT X.K X.mg noX mt))
    (he : ∀ (s : Shared) (H : Hp) (C : Addr) (cl : List (Str × Addr)) (fp : List Addr), PEr (X.blk s H scope (compEnvC scope cl C X.env) fp) noX elt me) (hs : ∀ x, foldedSetIterable iter X.env x = pure x) :
    PFr X Wx (.ListComp elt [⟨tgx, iter, ifs, 0⟩] scope pos) (mLc own tg mi mt me) := by
  subst ho
  refine pe_imp (pe_lc (te := tE X.K X.mg noX me) hc hN hi ok hg ht he hs) fun σ H Q h => ?_
  exact read_lc (P := fun c ρ d => FQ X.K c ρ σ H Q d) hsl (fun c ρ ys _ e q D acc H' x i n h0 hD z l => f_end e q x i n h0 hD z l) h
theorem read1F {m : TM (List D)} {f : D → M D} {σ : L2.St} {H : Hp} {Q : VK} {r : List V → Hp → VK → Prop}
    (hv : ∀ (W : Wd) (N : Addr → Prop) (H : Hp) (b : Nat) (d : D) (v : V) (Q : VK) (R : XV → Nat → Prop), VC W N H b → RepB X.K W N H v d → (f d).run (fun d b' => isOwn d = true ∧ ∀ ds, d = .list ds → b' = b → ds.length ≤ sizeLine → ∀ a vs, H a = none → RepL X.K W N H vs ds → Q (.ref a) (upd H a (.lst vs))) R b → r [v] H Q)
    (h : tF X.K X.mg Wx (fun ρ => m ρ >>= on1 f) σ H Q) : tCB r (tAB X.K X.mg Wx m) σ H Q := by
  obtain ⟨c, ρ, e, h⟩ := h
  refine ⟨c, ρ, e, (m ρ).mono (fun ds _ q vs H1 x i rv => ?_) (fun _ _ z => z) h⟩
  match ds, rv, q with
  | [], _, q => exact q.elim
  | _ :: _ :: _, _, q => exact q.elim
  | [d], rv, q =>
    obtain ⟨y, rfl, ry⟩ := rv.one
    refine hv c.W (Nn c ρ σ) H1 _ d y Q _ (e.ext' x i).vc ry ((f d).mono (fun d3 _ q3 => ?_) (fun _ _ z => z) q)
    exact ⟨q3.1, fun ds e hb z a vs ha l => by subst e; exact q3.2 a _ H1 x (by rw [hb]; exact i) ha (.lst z l)⟩
/-- list(x) -/
theorem f_list {x : Str} {e : Expr} {es : List Expr} {m : TM (List D)} {p : Pos} (hg : Gl X x) (hm : X.mg x = none) (hv : bootBuiltins x = some (.type "list")) (ha : PAb X Wx (e :: es) m) (hn : x ≠ "__name__") (hdb : (x == ("__debug__" : Str)) = false)
    (he : starEach (e :: es) X.env = (false, eval e X.env) :: starEach es X.env) (hpl : (backTo pos (starEach es X.env)).any (·.1) = false) : PFr X Wx (.Call (.Name x p) (e :: es) [] pos) fun ρ => m ρ >>= biD .list :=
  pe_imp (pe_callTy call_list_of hg hm hv ha hn hdb he hpl) fun σ H Q h => read1F (f := fun d => itemsOf d >>= fun xs => pure (.list xs)) (fun W N H _ d v Q R c r h => by
    obtain ⟨ds, a, vs, ⟨_, q⟩, rfl, z, l, hx⟩ := r.items h
    refine ⟨a, vs, rfl, ?_, fun p hp => q _ rfl rfl z p vs hp l⟩
    rcases hx with ⟨_, hx⟩ | ⟨_, hx, _⟩
    · exact .inl (SqL.of hx)
    · exact .inr hx) h

/-! ### several values at once -/
inductive Pend (K : PySem.W.Frag) (ρ : Ev) (σ : L2.St) (H : Hp) (cf : Cf) : Cf → List Bool → List V → List D → Prop
  | nil : EnvOk K cf ρ σ H → Pend K ρ σ H cf cf [] [] []
  | val {c : Cf} {fl : List Bool} {v : V} {vs : List V} {d : D} {ds : List D} : Rep K c.W (Nn cf ρ σ) H v d → Pend K ρ σ H cf c fl vs ds → Pend K ρ σ H cf c (false :: fl) (v :: vs) (d :: ds)
  | own {c : Cf} {fl : List Bool} {a : Addr} {o : HO} {vs : List V} {d : D} {ds : List D} : H a = some o → OwnR K c.W (Nn cf ρ σ) H a o d → c.H0 a = none → ¬ c.B a → ¬ c.W.vol a → Pend K ρ σ H cf (c.blk a) fl vs ds → Pend K ρ σ H cf c (true :: fl) (.ref a :: vs) (d :: ds)
theorem Pend.w {K : PySem.W.Frag} {ρ : Ev} {σ : L2.St} {H : Hp} {cf c : Cf} {fl : List Bool} {vs : List V} {ds : List D} (p : Pend K ρ σ H cf c fl vs ds) : cf.W = c.W ∧ EnvOk K cf ρ σ H := by
  induction p with
  | nil e => exact ⟨rfl, e⟩
  | val _ _ ih => exact ih
  | own _ _ _ _ _ _ ih => exact ih
def setAllS : L2.St → List Nat → List V → L2.St
  | σ, i :: is, v :: vs => (setAllS σ is vs).set i (some v)
  | σ, _, _ => σ
theorem Pend.done {K : PySem.W.Frag} {ρ : Ev} {σ : L2.St} {H : Hp} {cf c : Cf} {fl : List Bool} {vs : List V} {ds : List D} (p : Pend K ρ σ H cf c fl vs ds) : ∀ (is : List (Nat × Bool)), is.map (·.2) = fl →
    EnvOk K c (setAll ρ is ds) (setAllS σ (is.map (·.1)) vs) H ∧ ∀ x, Nn c (setAll ρ is ds) (setAllS σ (is.map (·.1)) vs) x → Nn cf ρ σ x := by
  induction p with
  | nil e =>
    intro is h
    cases is with
    | nil => exact ⟨e, fun _ z => z⟩
    | cons _ _ => cases h
  | val r p ih =>
    intro is h
    cases is with
    | nil => cases h
    | cons i is =>
      obtain ⟨i, o⟩ := i
      simp only [List.map_cons, List.cons.injEq] at h
      obtain ⟨ho, h⟩ := h
      have ho : o = false := ho
      subst ho
      obtain ⟨e, hn⟩ := ih is h
      exact ⟨e.setv i (r.anti hn), fun x z => hn x (nn_sub (fun _ z => by cases z) z)⟩
  | own h1 h3 h4 h5 h6 p ih =>
    intro is h
    cases is with
    | nil => cases h
    | cons i is =>
      obtain ⟨i, o⟩ := i
      simp only [List.map_cons, List.cons.injEq] at h
      obtain ⟨ho, h⟩ := h
      have ho : o = true := ho
      subst ho
      obtain ⟨e, hn⟩ := ih is h
      exact ⟨e.own1' i h1 (h3.anti hn) h4 h5 h6, fun x z => hn x (nn_own z)⟩
theorem Pend.ext {K : PySem.W.Frag} {ρ : Ev} {σ : L2.St} {H H' : Hp} {cf c : Cf} {fl : List Bool} {vs : List V} {ds : List D} {n : Nat} (p : Pend K ρ σ H cf c fl vs ds) (x : Ext c.W.vol H H') (i : c.W.inv n H') : Pend K ρ σ H' (cf.at n) (c.at n) fl vs ds := by
  induction p with
  | nil e => exact .nil (e.ext' x i)
  | val r p ih =>
    obtain ⟨hw, e⟩ := p.w
    exact .val (r.ext (x.wide fun a z => e.vc.bv a (by rw [hw]; exact z))) (ih x i)
  | own h1 h3 h4 h5 h6 p ih =>
    obtain ⟨hw, e⟩ := p.w
    exact .own (x _ _ h6 h1) (h3.ext (x.wide fun a z => e.vc.bv a (by rw [hw]; exact z))) h4 h5 h6 (ih x i)
def parM : List (Bool × TM D) → TM (List D)
  | [], _ => pure []
  | m :: ms, ρ => m.2 ρ >>= fun d => ownD m.1 d >>= fun d => parM ms ρ >>= fun ds => pure (d :: ds)
def tAP (K : PySem.W.Frag) (mg : Str → Option Value) (Wx : WX) (ms : List (Bool × TM D)) : TA := fun σ H Q => ∃ c ρ, EnvOk K c ρ σ H ∧
  (parM ms ρ).run (fun ds b => ∀ cf vs H', Ext c.W.vol H H' → c.W.inv b H' → Pend K ρ σ H' cf (c.at b) (ms.map (·.1)) vs ds → (∀ x, Nn cf ρ σ x → Nn c ρ σ x ∨ H x = none) → Q vs H') (XQ K mg Wx c ρ σ H) c.b
theorem par_nil : PA X [] (tAP X.K X.mg Wx []) := pa_imp pa_nil fun σ H Q h => by
  obtain ⟨c, ρ, e, h⟩ := h
  exact h c [] H (Ext.refl H) e.inv (.nil e) fun _ z => .inl z
theorem par_val {x : Expr} {xs : List Expr} {m : TM D} {ms : List (Bool × TM D)} (ha : PEr X Wx x m) (hb : PA X xs (tAP X.K X.mg Wx ms)) (hs : starEach (x :: xs) X.env = (false, eval x X.env) :: starEach xs X.env) : PA X (x :: xs) (tAP X.K X.mg Wx ((false, m) :: ms)) :=
  pa_imp (pa_cons ha hb hs) fun σ H Q h => by
    obtain ⟨c, ρ, e, h⟩ := h
    refine ⟨c, ρ, e, (m ρ).mono (fun d _ q v H1 x i rv => ?_) (fun _ _ z => z) h⟩
    refine ⟨_, ρ, e.ext' x i, (parM ms ρ).mono (fun ds _ q2 => ?_) (fun _ _ z => XQ.later x z) q⟩
    refine fun cf vs H2 x2 i2 p hn => ?_
    refine q2 cf (v :: vs) H2 (x.trans x2) i2 (.val (Rep.to (fun a na ha z => (hn a z).elim na ha) (x2.wide e.vc.bv) d v rv) p) fun a z => ?_
    rcases hn a z with z | z
    · exact .inl z
    · by_cases hv : c.W.vol a
      · exact .inl (e.vc.bv a hv)
      · cases q : H a with
        | none => exact .inr rfl
        | some o => rw [x a o hv q] at z; cases z
theorem asList_run {d : D} {Q : List D → Nat → Prop} {R : XV → Nat → Prop} {b : Nat} (h : (asList d).run Q R b) : ∃ xs, d = .list xs ∧ Q xs b := by
  cases d <;> first | exact h.elim | exact ⟨_, rfl, h⟩
theorem ownD_run {d : D} {Q : D → Nat → Prop} {R : XV → Nat → Prop} {b : Nat} (h : (ownD true d).run Q R b) : isOwn d = true ∧ Q d b := by
  cases d with
  | list xs => exact ⟨rfl, h⟩
  | dict kvs =>
    cases kvs with
    | nil => exact h.elim
    | cons x kvs => exact ⟨rfl, h⟩
  | _ => exact h.elim
theorem par_own {x : Expr} {xs : List Expr} {m : TM D} {ms : List (Bool × TM D)} (ha : PFr X Wx x m) (hb : PA X xs (tAP X.K X.mg Wx ms)) (hs : starEach (x :: xs) X.env = (false, eval x X.env) :: starEach xs X.env) : PA X (x :: xs) (tAP X.K X.mg Wx ((true, m) :: ms)) :=
  pa_imp (pa_cons ha hb hs) fun σ H Q h => by
    obtain ⟨c, ρ, e, h⟩ := h
    refine ⟨c, ρ, e, (m ρ).mono (fun d _ q => ?_) (fun _ _ z => z) h⟩
    obtain ⟨ho, q⟩ := ownD_run q
    refine ⟨ho, fun a o H1 x1 i1 ha l => ?_⟩
    have e1 := e.ext' x1 i1
    obtain ⟨xn, xi, nn⟩ := e1.vc.new (o := o) ha
    have nv : ¬ c.W.vol a := fun z => nn (e.vc.bv a z)
    have e2 := e1.blkM ha xn xi (upd_same (o := o)) l.mut
    have h0 : H a = none := by
      cases q : H a with
      | none => rfl
      | some o => rw [x1 a o nv q] at ha; cases ha
    have h00 : c.H0 a = none := by
      cases q : c.H0 a with
      | none => rfl
      | some o => rw [e.ext a o nv q] at h0; cases h0
    refine ⟨_, ρ, e2, (parM ms ρ).mono (fun ds _ q2 => ?_) (fun z _ qz => ?_) q⟩
    · intro cf vs H2 x2 i2 p hn
      have hsub : ∀ x, Nn cf ρ σ x → Nn c ρ σ x ∨ H1 x = none := fun x z => by
        rcases hn x z with z | z
        · rcases nn_blk.mp z with z | z
          · exact .inl z
          · exact .inr (by rw [z]; exact ha)
        · by_cases hx : x = a
          · exact .inr (by rw [hx]; exact ha)
          · rw [upd_ne hx] at z
            exact .inr z
      refine q2 cf (.ref a :: vs) H2 ((x1.trans xn).trans x2) i2 (.own (x2 a _ nv upd_same) (OwnR.to (fun y na hy z => (hsub y z).elim na hy) ((xn.wide e.vc.bv).trans (x2.wide e.vc.bv)) l) h00 (fun z => nn (.inl z)) nv p) fun y z => ?_
      rcases hsub y z with z | z
      · exact .inl z
      · by_cases hv : c.W.vol y
        · exact .inl (e.vc.bv y hv)
        · cases q : H y with
          | none => exact .inr rfl
          | some o => rw [x1 y o hv q] at z; cases z
    · exact fun cls d H' x' i' r => qz cls d H' ((x1.trans xn).trans x') i' (r.anti fun y z => nn_blk.mpr (.inl z))

/-! statements that make a def's own lists -/
theorem own_step {c : Cf} {ρ : Ev} {σ : L2.St} {H H1 : Hp} {a : Addr} {ws : List V} {es : List D} (e : EnvOk X.K c ρ σ H) (i : Nat) {b : Nat} (x1 : Ext c.W.vol H H1) (i1 : c.W.inv b H1) (ha : H1 a = none) (hz : es.length ≤ sizeLine) (l : RepL X.K c.W (Nn c ρ σ) H1 ws es) :
    EnvOk X.K (c.at b) (setO ρ i es) (σ.set i (some (.ref a))) (upd H1 a (.lst ws)) ∧ Step c ρ σ H (setO ρ i es) (σ.set i (some (.ref a))) (upd H1 a (.lst ws)) := by
  have e1 := e.ext' x1 i1
  obtain ⟨xn, xi, nn⟩ := e1.vc.new (o := .lst ws) ha
  have nv : ¬ c.W.vol a := fun z => nn (e.vc.bv a z)
  have e2 := e1.blk ha xn xi (upd_same (o := .lst ws))
  have h0 : H a = none := by
    cases q : H a with
    | none => rfl
    | some o => rw [x1 a o nv q] at ha; cases ha
  have h00 : c.H0 a = none := by
    cases q : c.H0 a with
    | none => rfl
    | some o => rw [e.ext a o nv q] at h0; cases h0
  refine ⟨e2.own1 i upd_same hz (RepL.to (fun y na hy z => (nn_blk.mp z).elim na fun z => hy (by rw [z]; exact ha)) (xn.wide e.vc.bv) es ws l) h00 (fun z => nn (.inl z)) nv, (x1.trans xn).wide e.vc.bv, fun y z => ?_⟩
  rcases nn_blk.mp (nn_own z) with z | z
  · exact .inl z
  · exact .inr (by rw [z]; exact h0)
theorem read_asgO {c : Cf} {ρ : Ev} {σ : L2.St} {H : Hp} {D : Ends} {i : Nat} {m : TM Ad.D} (e : EnvOk X.K c ρ σ H) (q : (m ρ >>= fun d => asList d >>= fun xs => pure (.nx (setO ρ i xs)) : M Rz).run (Rq X.K c ρ σ H D) (XS X.K X.mg Wx c) c.b) : (m ρ).run (FQ X.K c ρ σ H fun x H1 => D.nx (σ.set i (some x)) H1) (XS X.K X.mg Wx c) c.b :=
  (m ρ).mono (fun d _ q => by
    obtain ⟨es, rfl, q⟩ := asList_run q
    refine ⟨rfl, fun a o H1 x1 i1 ha l => ?_⟩
    obtain ⟨ws, rfl, hz, l⟩ := l.list
    obtain ⟨e2, s⟩ := own_step e i x1 i1 ha hz l
    exact q _ _ s e2) (fun _ _ z => z) q
theorem st_asgO {i : Nat} {y : Str} {x : Expr} {m : TM D} {py : Pos} (h : PFr X Wx x m) (hN : X.N.Nodup) (hi : X.N[i]? = some y) (hx : Loc X.env.scope y) (hs : swapsWith x (some (.Name y py)) pos.line X.env = pure false) (hf : X.fn y = true ∨ X.env.scope.names.lookup y = some .local) :
    PSr X Wx (.Assign [.Name y py] x pos) fun ρ => m ρ >>= fun d => asList d >>= fun xs => pure (.nx (setO ρ i xs)) := ps_imp (ps_set hN hi hx h hs hf) fun D σ H q => by
  obtain ⟨c, ρ, e, q⟩ := q
  exact ⟨c, ρ, e, (m ρ).mono (fun _ _ z => z) (fun _ _ z => z.q e) (read_asgO e q)⟩
theorem st_set {i : Nat} {y : Str} {x : Expr} {m : TM D} {py : Pos} (h : PEr X Wx x m) (hN : X.N.Nodup) (hi : X.N[i]? = some y) (hx : Loc X.env.scope y) (hs : swapsWith x (some (.Name y py)) pos.line X.env = pure false) (hf : X.fn y = true ∨ X.env.scope.names.lookup y = some .local) :
    PSr X Wx (.Assign [.Name y py] x pos) fun ρ => m ρ >>= fun d => pure (.nx (ρ.set i (some (d, false)))) := ps_imp (ps_set hN hi hx h hs hf) fun D σ H q => by
  obtain ⟨c, ρ, e, q⟩ := q
  exact tE_in e q fun d _ q v H' x i r => q _ H' (step_set e x (Bound.one (e.ext' x i) _ r)) ((e.ext' x i).setv _ r)
end
end Ad
namespace Ad
open PySem PySem.Calls PySem.W PySem.SeqAt PySem.Spec PyProof.Rows L2

section
variable {X : Cx} {Wx : WX} {pos : Pos}
theorem lookO_run {ρ : Ev} {w : Nat} {Q : List D → Nat → Prop} {R : XV → Nat → Prop} {b : Nat} (h : (lookO ρ w).run Q R b) : ∃ ds, ρ[w]? = some (some (.list ds, true)) ∧ Q ds b := by
  unfold lookO at h
  split at h
  · exact ⟨_, ‹_›, h⟩
  · exact h.elim
/-- a slot's own list, as a value -/
theorem own_var {c : Cf} {ρ : Ev} {σ : L2.St} {H : Hp} {w : Nat} {ds : List D} (e : EnvOk X.K c ρ σ H) (h : ρ[w]? = some (some (.list ds, true))) : ∃ a vs, σ[w]? = some (some (V.ref a)) ∧ H a = some (.lst vs) ∧ ds.length ≤ sizeLine ∧ RepL X.K c.W (Nn c ρ σ) H vs ds ∧ tyV X.K "list" (.ref a) H := by
  obtain ⟨a, o, e2, e3, g, _⟩ := e.own w _ h
  obtain ⟨vs, rfl, e4, e5⟩ := g.list
  exact ⟨a, vs, e2, e3, e4, e5, .inl ⟨rfl, vs, SqL.of e3⟩⟩
theorem bound_step {c : Cf} {ρ ρ1 : Ev} {σ σ1 : L2.St} {H : Hp} {sl : List Nat} (b : Bound X.K c ρ σ sl H ρ1 σ1) : Step c ρ σ H ρ1 σ1 H := ⟨Ext.refl H, fun a z => .inl (b.sub a z)⟩
theorem write_step {c : Cf} {ρ : Ev} {σ : L2.St} {H : Hp} {w : Nat} {a : Addr} {d : D} {vs : List V} {ds : List D} (e : EnvOk X.K c ρ σ H) (hw : ρ[w]? = some (some (d, true))) (ha : σ[w]? = some (some (.ref a))) (z : ds.length ≤ sizeLine) (l : RepL X.K c.W (Nn c ρ σ) H vs ds) :
    EnvOk X.K c (setO ρ w ds) σ (upd H a (.lst vs)) ∧ Step c ρ σ H (setO ρ w ds) σ (upd H a (.lst vs)) := by
  obtain ⟨h1, h2⟩ := e.write hw ha z l
  exact ⟨h1, h2, fun x z => .inl ((nn_setO hw x).mp z)⟩
variable {w : Nat} {wn : Str} {wp apos cpos spos : Pos}
structure NameW (X : Cx) (w : Nat) (wn : Str) : Prop where
  hN : X.N[w]? = some wn
  vis : Vis X.env.scope wn
  d1 : (wn == ("__debug__" : Str)) = false
  d2 : (wn == ("__classdict__" : Str)) = false
theorem NameW.pe {p : Pos} (n : NameW X w wn) : PE X (.Name wn p) (tVar w) := pe_var n.hN n.vis n.d1 n.d2
theorem few_ok {e : Expr} {es : List Expr} (h : (e :: es).all notStar = true) (hl : (e :: es).length < 20) : ((backTo cpos (starEach (e :: es) X.env)).all (fun x => !x.1) && (backToKw cpos (keywordEach [] X.env)).all (fun x => x.1.isSome)
      && decide ((e :: es).length + ([] : List Keyword).length + (if ([] : List Keyword).isEmpty then 0 else 1) < 30)) = true := by
  have h1 : ∀ {es : List Expr}, es.all notStar = true → (backTo cpos (starEach es X.env)).all (fun x => !x.1) = true := by
    intro es
    induction es with
    | nil => intro _; rfl
    | cons e es ih =>
      intro h
      simp only [List.all_cons, Bool.and_eq_true] at h
      rw [star_ok h.1]
      show (!false && (backTo cpos (starEach es X.env)).all (fun x => !x.1)) = true
      rw [ih h.2]
      rfl
  rw [h1 h]
  simp only [List.length_nil, List.isEmpty_nil, if_true, Nat.add_zero, Bool.true_and, Bool.and_eq_true, decide_eq_true_eq]
  exact ⟨rfl, by omega⟩
theorem st_app {x : Expr} {m : TM D} (n : NameW X w wn) (hx : PEr X Wx x m) (hst : notStar x = true) (hline : (apos.endLine == cpos.line) = true) :
    PSr X Wx (.Expr (.Call (.Attribute (.Name wn wp) "append" apos) [x] [] cpos) spos) fun ρ => lookO ρ w >>= fun xs => m ρ >>= fun d => M.grd (xs.length < sizeLine) >>= fun _ => pure (.nx (setO ρ w (xs ++ [d]))) :=
  ps_imp (ps_expr (pe_bm PySem.F.plainAttrs_list PySem.F.slot_list_append PySem.F.type_list_append mt_append n.pe (pa_cons hx pa_nil (star_ok hst _ _)) (sup_ok rfl _ _ _) (few_ok (by simp [hst]) (by simp)) hline (star_ok hst _ _) (star_any rfl _ _)) rfl) fun D σ H q => by
    obtain ⟨c, ρ, e, q⟩ := q
    obtain ⟨ds, hw, q⟩ := lookO_run q
    obtain ⟨a, vs, h1, h2, h3, h4, h5⟩ := own_var e hw
    refine ⟨.ref a, h1, h5, tE_in e q fun d _ q v H' x i r => ?_⟩
    have e' := e.ext' x i
    obtain ⟨a', vs', h1', h2', h3', h4', _⟩ := own_var e' hw
    rw [h1] at h1'
    cases h1'
    have hl := h4'.length
    have q1 : ds.length < sizeLine := q.1
    obtain ⟨e2, s⟩ := write_step e' hw h1 (by rw [List.length_append]; exact q1) (h4'.append (.cons r .nil))
    exact ⟨a, vs', v, rfl, rfl, h2', by rw [hl]; exact q1, q.2 _ _ ((Step.of_vol e x).trans s.un) e2⟩
theorem st_ext {x : Expr} {m : TM D} (n : NameW X w wn) (hx : PEr X Wx x m) (hst : notStar x = true) (hline : (apos.endLine == cpos.line) = true) :
    PSr X Wx (.Expr (.Call (.Attribute (.Name wn wp) "extend" apos) [x] [] cpos) spos) fun ρ => lookO ρ w >>= fun xs => m ρ >>= fun d => asList d >>= fun ys => M.grd (xs.length + ys.length ≤ sizeLine) >>= fun _ => pure (.nx (setO ρ w (xs ++ ys))) :=
  ps_imp (ps_expr (pe_bm PySem.F.plainAttrs_list PySem.F.slot_list_extend PySem.F.type_list_extend mt_extend n.pe (pa_cons hx pa_nil (star_ok hst _ _)) (sup_ok rfl _ _ _) (few_ok (by simp [hst]) (by simp)) hline (star_ok hst _ _) (star_any rfl _ _)) rfl) fun D σ H q => by
    obtain ⟨c, ρ, e, q⟩ := q
    obtain ⟨ds, hw, q⟩ := lookO_run q
    obtain ⟨a, vs, h1, h2, h3, h4, h5⟩ := own_var e hw
    refine ⟨.ref a, h1, h5, tE_in e q fun d _ q v H' x i r => ?_⟩
    obtain ⟨ys, rfl, q⟩ := asList_run q
    have e' := e.ext' x i
    obtain ⟨a', vs', h1', h2', h3', h4', _⟩ := own_var e' hw
    rw [h1] at h1'
    cases h1'
    have hl := h4'.length
    cases r with
    | lst g1 g2 g3 g4 =>
      have hl2 := g4.length
      have q1 : ds.length + ys.length ≤ sizeLine := q.1
      obtain ⟨e2, s⟩ := write_step e' hw h1 (by rw [List.length_append]; exact q1) (h4'.append g4)
      exact ⟨a, _, vs', _, rfl, rfl, h2', g1, by rw [hl, hl2]; exact q1, q.2 _ _ ((Step.of_vol e x).trans s.un) e2⟩
theorem oget_last {vs : List V} {ds : List D} {K : PySem.W.Frag} {W : Wd} {N : Addr → Prop} {H : Hp} (l : RepL K W N H vs ds) {d : D} (h : ds[ds.length - 1]? = some d) : ∃ v, vs[vs.length - 1]? = some v ∧ Rep K W N H v d := by
  rw [l.length]
  exact l.get h
theorem st_pop {i : Nat} {y : Str} {py : Pos} (n : NameW X w wn) (hN : X.N.Nodup) (hi : X.N[i]? = some y) (hx : Loc X.env.scope y) (hf : X.fn y = true ∨ X.env.scope.names.lookup y = some .local) (hline : (apos.endLine == cpos.line) = true) :
    PSr X Wx (.Assign [.Name y py] (.Call (.Attribute (.Name wn wp) "pop" apos) [] [] cpos) spos) fun ρ => lookO ρ w >>= fun xs => oget xs[xs.length - 1]? >>= fun d => pure (.nx ((setO ρ w xs.dropLast).set i (some (d, false)))) :=
  ps_imp (ps_set hN hi hx (pe_bm0 PySem.F.plainAttrs_list PySem.F.slot_list_pop PySem.F.type_list_pop mt_pop n.pe (sup_ok rfl _ _ _) hline) rfl hf) fun D σ H q => by
    obtain ⟨c, ρ, e, q⟩ := q
    obtain ⟨ds, hw, q⟩ := lookO_run q
    obtain ⟨d, hd, q⟩ := oget_run q
    obtain ⟨a, vs, h1, h2, h3, h4, h5⟩ := own_var e hw
    obtain ⟨v, hv, rv⟩ := oget_last h4 hd
    obtain ⟨e2, s⟩ := write_step e hw h1 (by rw [List.length_dropLast]; omega) h4.dropLast
    refine ⟨.ref a, h1, h5, a, vs, v, rfl, rfl, h2, hv, ?_⟩
    have b := Bound.one e2 i ((rv.ext s.ext).anti fun x => (nn_setO hw x).mp)
    exact q _ _ (s.trans (bound_step b)) b.ok
theorem st_aug {i : Nat} {y : Str} {py : Pos} {x : Expr} {m : TM D} (hN : X.N.Nodup) (hi : X.N[i]? = some y) (hx : Loc X.env.scope y) (h : PEr X Wx x m) (hf : X.fn y = true ∨ X.env.scope.names.lookup y = some .local) :
    PSr X Wx (.AugAssign (.Name y py) .Add x pos) fun ρ => look ρ i >>= fun d => asInt d >>= fun a => m ρ >>= fun e => asInt e >>= fun b => pure (.nx (ρ.set i (some (.int (a + b), false)))) :=
  ps_imp (ps_aug hN hi hx h ip_add hf) fun D σ H q => by
    obtain ⟨c, ρ, e, q⟩ := q
    have q : (look ρ i).run (fun d => (asInt d).run (fun a => (m ρ).run (fun e => (asInt e).run (fun b => Rq X.K c ρ σ H D (.nx (ρ.set i (some (.int (a + b), false))))) (XS X.K X.mg Wx c)) (XS X.K X.mg Wx c)) (XS X.K X.mg Wx c)) (XS X.K X.mg Wx c) c.b := q
    unfold look at q
    split at q
    · obtain ⟨v, h1, h2⟩ := e.val _ _ ‹_›
      obtain ⟨a, rfl, q⟩ := asInt_run q
      cases h2
      refine ⟨_, h1, tE_in e q fun d _ q v H' x i' r => ?_⟩
      obtain ⟨b, rfl, q⟩ := asInt_run q
      cases r
      have bd := Bound.one (e.ext' x i') i (.int (a + b))
      exact ⟨a, b, rfl, rfl, q _ _ ((Step.of_vol e x).trans (bound_step bd).un) bd.ok⟩
    · exact q.elim

/-! ### loops -/
theorem for_core {tg : Tg} {b : Ev → M Rz} {D : Ends} {c : Cf} {ρ1 : Ev} {σ1 : L2.St} {H1 : Hp} {J : It} {xs : List Ad.D} (wk : WalkD X.K c.W (Nn c ρ1 σ1) (Nn c ρ1 σ1) H1 J xs) (e1 : EnvOk X.K c ρ1 σ1 H1)
    (q : (forE (fun d ρ => bindT ρ tg d >>= fun ρ' => b ρ') xs ρ1).run (Rq X.K c ρ1 σ1 H1 D) (XS X.K X.mg Wx c) c.b) :
    ∃ W : Nat → Nat → L2.St → Hp → Prop, (∃ m, W 0 m σ1 H1) ∧ ∀ i m σ H, W i m σ H →
      (J.stop i H ∧ D.nx σ H) ∨ (J.go i H ∧ ∃ N : L2.St → Hp → Prop, (∀ σ' H', N σ' H' → ∃ m', m' < m ∧ W (i + 1) m' σ' H') ∧ ∀ x H', J.yld i H x H' → gOf X.K tg x σ H' fun σ2 H2 => tSt X.K X.mg Wx b { D with nx := N, ct := N, bk := D.nx } σ2 H2) := by
  obtain ⟨G, Y, g0, gst, w, it⟩ := wk
  refine for_it w (fun i σ' H' => ∃ ρ' n, EnvOk X.K (c.at n) ρ' σ' H' ∧ Step c ρ1 σ1 H1 ρ' σ' H' ∧ (forE (fun d ρ => bindT ρ tg d >>= fun ρ' => b ρ') (xs.drop i) ρ').run (Rq X.K c ρ1 σ1 H1 D) (XS X.K X.mg Wx c) n) ⟨ρ1, c.b, e1, Step.refl, q⟩ ?_ ?_ ?_
  · rintro i σ' H' _ ⟨ρ', _, _, s, _⟩
    exact gst _ _ s.ext g0
  · rintro i v σ' Hc H2 hi ⟨ρ', n, e', s, qc⟩ y
    obtain ⟨x2, i2, d, hd, rd⟩ := it i Hc v H2 (Nn c ρ' σ') hi (gst _ _ s.ext g0) s.ext (fun a z => ⟨s.new a z, e'.vc.kn a z⟩) y
    have i2 := i2 n e'.inv
    have hdrop : xs.drop i = d :: xs.drop (i + 1) := by
      obtain ⟨hlt, e⟩ := List.getElem?_eq_some_iff.mp hd
      rw [List.drop_eq_getElem_cons hlt, e]
    rw [hdrop] at qc
    have qc : (bindT ρ' tg d).run (fun ρ2 => (b ρ2).run (fun r => (Rz.go (forE (fun d ρ => bindT ρ tg d >>= fun ρ' => b ρ') (xs.drop (i + 1))) r).run (Rq X.K c ρ1 σ1 H1 D) (XS X.K X.mg Wx c)) (XS X.K X.mg Wx c)) (XS X.K X.mg Wx c) n := qc
    have e2 := e'.ext' x2 i2
    have s2 := s.trans (Step.of_vol e' x2).un
    refine bind_of e2 rd ((bindT ρ' tg d).mono (fun ρ2 _ q2 hb σ2 bd => ?_) (fun _ _ z => z) qc)
    subst hb
    have s3 := s2.trans (bound_step bd).un.un
    refine ⟨_, ρ2, bd.ok, (b ρ2).mono (fun r _ qr => ?_) (fun _ _ z => z) q2⟩
    cases r with
    | nx ρ3 => exact fun σ3 H3 st e3 => ⟨ρ3, _, e3, s3.trans st.un.un, qr⟩
    | rt d => exact qr
    | bk ρ3 => exact fun σ3 H3 st e3 => qr σ3 H3 (s3.trans st.un.un) e3
  · rintro σ' H' ⟨ρ', n, e', s, qc⟩
    rw [List.drop_length] at qc
    exact qc σ' H' s e'
theorem st_for {tgx x : Expr} {body : List Stmt} {tg : Tg} {mi : TM (List D)} {b : Ev → M Rz} (hp : PassesOwn (model X.prog X.w) X.A X.env X.xe) (hc : X.calm = true) (hi : PIr X Wx tgx x false mi) (hg : PG X tgx (gOf X.K tg)) (hb : PSsr X Wx body b) (hs : ∀ v, foldedSetIterable x X.env v = pure v) :
    PSr X Wx (.For tgx x body [] pos) fun ρ => mi ρ >>= fun xs => forE (fun d ρ => bindT ρ tg d >>= fun ρ' => b ρ') xs ρ := ps_imp (ps_for hp hc hi hg hb hs) fun D σ H q => by
  obtain ⟨c, ρ, e, q⟩ := q
  refine ⟨c, ρ, e, (mi ρ).mono (fun xs n q J H1 x i wk => ?_) (fun _ _ z => z.q e) q⟩
  exact for_core (c := c.at n) wk (e.ext' x i) ((forE _ xs ρ).mono (fun r _ q => q.later (Step.of_vol e x)) (fun _ _ z => z) q)
theorem st_whl {z : Expr} {body : List Stmt} {cm : TM D} {b : Ev → M Rz} (hp : PassesOwn (model X.prog X.w) X.A X.env X.xe) (hc : PTr X Wx z cm) (hb : PSsr X Wx body b) : PSr X Wx (.While z body [] pos) fun ρ => whE (fun ρ => cm ρ >>= asBool) b ρ := ps_imp (ps_while hp hc hb) fun D σ H q => by
  obtain ⟨c, ρ, e, n, q⟩ := q
  refine ⟨fun m σ' H' => ∃ ρ' k, EnvOk X.K (c.at k) ρ' σ' H' ∧ Step c ρ σ H ρ' σ' H' ∧ (whN (fun ρ => cm ρ >>= asBool) b m ρ').run (Rq X.K c ρ σ H D) (XS X.K X.mg Wx c) k, ⟨n, ρ, c.b, e, Step.refl, q⟩, ?_⟩
  rintro m σ' H' ⟨ρ', kb, e', s, q⟩
  cases m with
  | zero => exact q.elim
  | succ m =>
    have q : (cm ρ').run (fun d => (asBool d).run (fun k => (if k then b ρ' >>= Rz.go (whN (fun ρ => cm ρ >>= asBool) b m) else pure (.nx ρ')).run (Rq X.K c ρ σ H D) (XS X.K X.mg Wx c)) (XS X.K X.mg Wx c)) (XS X.K X.mg Wx c) kb := q
    refine ⟨_, ρ', e', (cm ρ').mono (fun d _ q => ?_) (fun _ _ z => z.q e') q⟩
    obtain ⟨k, rfl, q⟩ := asBool_run q
    refine ⟨k, rfl, fun H1 x i => ?_⟩
    have s1 := s.trans (Step.of_vol e' x).un
    cases k with
    | false => exact q σ' H1 s1 (e'.ext' x i)
    | true =>
      refine ⟨fun σ2 H2 => ∃ ρ2 k, EnvOk X.K (c.at k) ρ2 σ2 H2 ∧ Step c ρ σ H ρ2 σ2 H2 ∧ (whN (fun ρ => cm ρ >>= asBool) b m ρ2).run (Rq X.K c ρ σ H D) (XS X.K X.mg Wx c) k, fun σ2 H2 h => ⟨m, Nat.lt_succ_self m, h⟩, ?_⟩
      refine ⟨_, ρ', e'.ext' x i, (b ρ').mono (fun r _ qr => ?_) (fun _ _ z => z) q⟩
      cases r with
      | nx ρ3 => exact fun σ3 H3 st e3 => ⟨ρ3, _, e3, s1.trans st.un.un, qr⟩
      | rt d => exact qr
      | bk ρ3 => exact fun σ3 H3 st e3 => qr σ3 H3 (s1.trans st.un.un) e3
end
end Ad
namespace Ad
open PySem PySem.Calls PySem.W PySem.SeqAt PySem.Spec PyProof.Rows L2

section
variable {X : Cx} {Wx : WX} {pos : Pos}
/-! ### several targets -/
def setS : L2.St → List Nat → List V → L2.St
  | σ, i :: is, v :: vs => setS (σ.set i (some v)) is vs
  | σ, _, _ => σ
theorem setAllS_set {i : Nat} {x : Option V} : ∀ {is : List Nat} {vs : List V} {σ : L2.St}, i ∉ is → setAllS (σ.set i x) is vs = (setAllS σ is vs).set i x
  | [], _, _, _ => rfl
  | _ :: _, [], _, _ => rfl
  | j :: is, v :: vs, σ, h => by
    simp only [List.mem_cons, not_or] at h
    show (setAllS (σ.set i x) is vs).set j _ = ((setAllS σ is vs).set j _).set i x
    rw [setAllS_set h.2, List.set_comm _ _ h.1]
theorem setS_eq : ∀ {is : List Nat} {vs : List V} {σ : L2.St}, is.Nodup → setS σ is vs = setAllS σ is vs
  | [], _, _, _ => rfl
  | _ :: _, [], _, _ => rfl
  | i :: is, v :: vs, σ, h => by
    show setS (σ.set i (some v)) is vs = (setAllS σ is vs).set i (some v)
    rw [setS_eq (List.nodup_cons.mp h).2, setAllS_set (List.nodup_cons.mp h).1]
theorem gNames_setS {Q : L2.St → Hp → Prop} {H : Hp} : ∀ {is : List Nat} {vs : List V} {σ : L2.St}, is.length = vs.length → Q (setS σ is vs) H → gNames is vs σ H Q
  | [], [], _, _, h => ⟨rfl, h⟩
  | i :: is, v :: vs, σ, hl, h => ⟨v, vs, rfl, gNames_setS (by simpa using hl) h⟩
  | [], _ :: _, _, hl, _ => by simp at hl
  | _ :: _, [], _, hl, _ => by simp at hl
theorem Pend.lens {K : PySem.W.Frag} {ρ : Ev} {σ : L2.St} {H : Hp} {cf c : Cf} {fl : List Bool} {vs : List V} {ds : List D} (p : Pend K ρ σ H cf c fl vs ds) : vs.length = fl.length := by
  induction p with
  | nil _ => rfl
  | val _ _ ih => simp [ih]
  | own _ _ _ _ _ _ ih => simp [ih]
/-- all values there: the slots -/
theorem par_end {c : Cf} {ρ : Ev} {σ : L2.St} {H : Hp} {D : Ends} {is : List (Nat × Bool)} {ms : List (Bool × TM Ad.D)} (e : EnvOk X.K c ρ σ H) (hf : is.map (·.2) = ms.map (·.1))
    (q : (parM ms ρ >>= fun ds => pure (.nx (setAll ρ is ds)) : M Rz).run (Rq X.K c ρ σ H D) (XS X.K X.mg Wx c) c.b) :
    tAP X.K X.mg Wx ms σ H fun vs H1 => vs.length = is.length ∧ D.nx (setAllS σ (is.map (·.1)) vs) H1 ∧ ∀ p o, H1 p = none → D.nx (setAllS σ (is.map (·.1)) vs) (upd H1 p o) := by
  refine ⟨c, ρ, e, (parM ms ρ).mono (fun ds b q cf vs H' x i p hn => ?_) (fun _ _ z => z.q e) q⟩
  have hst : ∀ H'', Ext c.W.vol H' H'' → c.W.inv b H'' → D.nx (setAllS σ (is.map (·.1)) vs) H'' := fun H'' x2 i2 => by
    obtain ⟨e2, n2⟩ := (p.ext x2 i2).done is hf
    refine q _ _ ⟨(x.trans x2).wide e.vc.bv, fun a z => hn a (n2 a z)⟩ e2
  refine ⟨?_, hst _ (Ext.refl _) i, fun a o ha => ?_⟩
  · have := p.lens
    have h2 := congrArg List.length hf
    simp only [List.length_map] at h2 this
    omega
  · obtain ⟨p1, p2, _⟩ := ((e.ext' x i).vc).new (o := o) ha
    exact hst _ p1 p2
theorem st_par2 {i j : Nat} {o1 o2 : Bool} {x y : Str} {a b : Expr} {m1 m2 : TM D} {px py pt : Pos} {kt k2 : Nat} {pt2 : Pos} (hc : X.calm = true) (hN : X.N.Nodup) (hi : X.N[i]? = some x) (hj : X.N[j]? = some y) (hij : i ≠ j)
    (hx : X.env.scope.names.lookup x = some .local) (hy : X.env.scope.names.lookup y = some .local) (ha : PA X [a, b] (tAP X.K X.mg Wx [(o1, m1), (o2, m2)]))
    (hw : swappedStores [.Tuple [.Name x px, .Name y py] kt pt] (.Tuple [a, b] k2 pt2) X.env = pure (some [x, y])) (hs : swapsWithSole [.Tuple [.Name x px, .Name y py] kt pt] (.Tuple [a, b] k2 pt2) pos.line X.env = pure false) :
    PSr X Wx (.Assign [.Tuple [.Name x px, .Name y py] kt pt] (.Tuple [a, b] k2 pt2) pos) fun ρ => parM [(o1, m1), (o2, m2)] ρ >>= fun ds => pure (.nx (setAll ρ [(i, o1), (j, o2)] ds)) :=
  ps_imp (ps_par hc hN hi hj hij hx hy ha hw hs) fun D σ H q => by
    obtain ⟨c, ρ, e, q⟩ := q
    obtain ⟨c', ρ', e', h⟩ := par_end (is := [(i, o1), (j, o2)]) e rfl q
    refine ⟨c', ρ', e', (parM _ ρ').mono (fun ds _ q cf vs H' x i p hn => ?_) (fun _ _ z => z) h⟩
    obtain ⟨hl, q, _⟩ := q cf vs H' x i p hn
    match vs, hl, q with
    | [v, w], _, q =>
      refine ⟨v, w, rfl, ?_⟩
      rw [List.set_comm _ _ hij]
      exact q
theorem st_par3 {i j l : Nat} {o1 o2 o3 : Bool} {x y z : Str} {a b d : Expr} {m1 m2 m3 : TM D} {px py pz pt : Pos} {kt k2 : Nat} {pt2 : Pos} (hc : X.calm = true) (hN : X.N.Nodup) (hi : X.N[i]? = some x) (hj : X.N[j]? = some y) (hl : X.N[l]? = some z) (hij : i ≠ j) (hil : i ≠ l) (hjl : j ≠ l)
    (hx : X.env.scope.names.lookup x = some .local) (hy : X.env.scope.names.lookup y = some .local) (hz : X.env.scope.names.lookup z = some .local) (ha : PA X [a, b, d] (tAP X.K X.mg Wx [(o1, m1), (o2, m2), (o3, m3)]))
    (hw : swappedStores [.Tuple [.Name x px, .Name y py, .Name z pz] kt pt] (.Tuple [a, b, d] k2 pt2) X.env = pure (some [x, y, z])) (hs : swapsWithSole [.Tuple [.Name x px, .Name y py, .Name z pz] kt pt] (.Tuple [a, b, d] k2 pt2) pos.line X.env = pure false) :
    PSr X Wx (.Assign [.Tuple [.Name x px, .Name y py, .Name z pz] kt pt] (.Tuple [a, b, d] k2 pt2) pos) fun ρ => parM [(o1, m1), (o2, m2), (o3, m3)] ρ >>= fun ds => pure (.nx (setAll ρ [(i, o1), (j, o2), (l, o3)] ds)) := by
  have hnd : [i, j, l].Nodup := by simp [hij, hil, hjl]
  exact ps_imp (ps_par3 hc hN hi hj hl hij hil hjl hx hy hz ha hw hs) fun D σ H q => by
    obtain ⟨c, ρ, e, q⟩ := q
    obtain ⟨c', ρ', e', h⟩ := par_end (is := [(i, o1), (j, o2), (l, o3)]) e rfl q
    refine ⟨c', ρ', e', (parM _ ρ').mono (fun ds _ q cf vs H' x i p hn => ?_) (fun _ _ z => z) h⟩
    obtain ⟨hl, q, _⟩ := q cf vs H' x i p hn
    match vs, hl, q with
    | [u, v, w], _, q =>
      refine ⟨u, v, w, rfl, ?_⟩
      have e1 := setS_eq (σ := σ) (vs := [u, v, w]) hnd
      exact (congrArg (fun s => D.nx s H') e1).mpr q
theorem st_parT {is : List (Nat × Bool)} {ts es : List Expr} {ms : List (Bool × TM D)} {pt pt2 : Pos} {kt k2 : Nat} (hc : X.calm = true) (hn : (is.map (·.1)).Nodup) (hf : is.map (·.2) = ms.map (·.1)) (hz : ms.length ≤ 100) (hg : PG X (.Tuple ts kt pt) (gOf X.K (.t (is.map (·.1))))) (ha : PA X es (tAP X.K X.mg Wx ms))
    (hw : swappedStores [.Tuple ts kt pt] (.Tuple es k2 pt2) X.env = pure none) (hs : swapsWithSole [.Tuple ts kt pt] (.Tuple es k2 pt2) pos.line X.env = pure false) (h1 : (assignEach [.Tuple ts kt pt] X.env).map (·.2) = [assign (.Tuple ts kt pt) X.env]) :
    PSr X Wx (.Assign [.Tuple ts kt pt] (.Tuple es k2 pt2) pos) fun ρ => parM ms ρ >>= fun ds => pure (.nx (setAll ρ is ds)) :=
  ps_imp (ps_asg (pe_tup ha) hg hs hw h1) fun D σ H q => by
    obtain ⟨c, ρ, e, q⟩ := q
    obtain ⟨c', ρ', e', h⟩ := par_end (is := is) e hf q
    refine ⟨c', ρ', e', (parM _ ρ').mono (fun ds _ q cf vs H' x i p hn' => ?_) (fun _ _ z => z) h⟩
    obtain ⟨hl, _, q⟩ := q cf vs H' x i p hn'
    have h3 := congrArg List.length hf
    simp only [List.length_map] at h3
    refine ⟨by rw [sizeLine_eq]; omega, fun a ha => ?_⟩
    refine .inl ⟨a, vs, rfl, SqT.of upd_same, by simp [hl], gNames_setS (by simp [hl]) ?_⟩
    rw [setS_eq hn]
    exact q a _ ha
/-! ### the rest -/
variable {w : Nat} {wn : Str} {wp apos cpos spos : Pos}
/-- w[i] = e -/
theorem st_setI {x y : Expr} {m mi : TM D} {tpos : Pos} (n : NameW X w wn) (hx : PEr X Wx x m) (hy : PEr X Wx y mi) (hns : notSlice y = true) (hs : swapsWithSole [.Subscript (.Name wn wp) y tpos] x pos.line X.env = pure false) (hw : swappedStores [.Subscript (.Name wn wp) y tpos] x X.env = pure none) :
    PSr X Wx (.Assign [.Subscript (.Name wn wp) y tpos] x pos) fun ρ => m ρ >>= fun d => lookO ρ w >>= fun xs => mi ρ >>= fun j => asInt j >>= fun k => oget (L2.ixN xs.length k) >>= fun n => pure (.nx (setO ρ w (xs.set n d))) :=
  ps_imp (ps_asg hx (pg_sub n.pe hy set_list fun v => by cases y <;> first | rfl | exact absurd hns (by simp [notSlice])) hs hw rfl) fun D σ H q => by
    obtain ⟨c, ρ, e, q⟩ := q
    refine tE_in e q fun d _ q v H1 x1 i1 r => ?_
    have e1 := e.ext' x1 i1
    obtain ⟨ds, hw, q⟩ := lookO_run q
    obtain ⟨a, vs, h1, h2, h3, h4, h5⟩ := own_var e1 hw
    refine ⟨.ref a, h1, tE_in e1 q fun j _ q u H2 x2 i2 ru => ?_⟩
    obtain ⟨k, rfl, q⟩ := asInt_run q
    obtain ⟨jn, hj, q⟩ := oget_run q
    cases ru
    have e2 := e1.ext' x2 i2
    obtain ⟨a', vs', h1', h2', h3', h4', _⟩ := own_var e2 hw
    rw [h1] at h1'
    cases h1'
    obtain ⟨e3, s⟩ := write_step e2 hw h1 (by rw [List.length_set]; exact h3') (h4'.set (r.ext (x2.wide e.vc.bv)) jn)
    exact ⟨a, vs', k, jn, rfl, rfl, h2', by rw [h4'.length]; exact hj, q _ _ ((Step.of_vol e (x1.trans x2)).trans s.un.un) e3⟩
/-- for .. in a[w.pop()] -/
theorem st_forPop {tgx x : Expr} {body : List Stmt} {tg : Tg} {m : TM D} {b : Ev → M Rz} {fp : Pos} (hp : PassesOwn (model X.prog X.w) X.A X.env X.xe) (hc : X.calm = true) (n : NameW X w wn) (hx : PEr X Wx x m) (hg : PG X tgx (gOf X.K tg)) (hb : PSsr X Wx body b) (hline : (apos.endLine == cpos.line) = true) :
    PSr X Wx (.For tgx (.Subscript x (.Call (.Attribute (.Name wn wp) "pop" apos) [] [] cpos) spos) body [] fp) fun ρ => lookO ρ w >>= fun ys => m ρ >>= fun d => oget ys[ys.length - 1]? >>= fun y => ixD d y >>= fun s => walked s >>= fun xs => forE (fun d ρ => bindT ρ tg d >>= fun ρ' => b ρ') xs (setO ρ w ys.dropLast) :=
  ps_imp (ps_for hp hc (pi_any (pe_ix ix_seq hx (pe_bm0 PySem.F.plainAttrs_list PySem.F.slot_list_pop PySem.F.type_list_pop mt_pop n.pe (sup_ok rfl _ _ _) hline) (slice_ok rfl))) hg hb fun _ => rfl) fun D σ H q => by
    obtain ⟨c, ρ, e, q⟩ := q
    obtain ⟨ds, hw, q⟩ := lookO_run q
    refine tE_in e q fun d _ q v H1 x1 i1 r => ?_
    have e1 := e.ext' x1 i1
    obtain ⟨y, hd, q⟩ := oget_run q
    obtain ⟨a, vs, h1, h2, h3, h4, h5⟩ := own_var e1 hw
    obtain ⟨u, hv, ru⟩ := oget_last h4 hd
    obtain ⟨e2, s⟩ := write_step e1 hw h1 (by rw [List.length_dropLast]; omega) h4.dropLast
    refine ⟨.ref a, h1, h5, a, vs, u, rfl, rfl, h2, hv, ?_⟩
    have r2 : Rep X.K c.W (Nn c (setO ρ w ds.dropLast) σ) (upd H1 a (.lst vs.dropLast)) v d := (r.ext s.ext).anti fun x => (nn_setO hw x).mp
    have ru2 : Rep X.K c.W (Nn c (setO ρ w ds.dropLast) σ) (upd H1 a (.lst vs.dropLast)) u y := (ru.ext s.ext).anti fun x => (nn_setO hw x).mp
    refine val_ix e2.vc (.inl r2) (.inl ru2) (R := XS X.K X.mg Wx c) ((ixD d y).mono (fun s' n2 q v' H2 x2 i2 r' => ?_) (fun _ _ z => z) q)
    have e3 := e2.ext' x2 i2
    have st := ((Step.of_vol e x1).trans s.un).trans (Step.of_vol e2 x2).un
    have go : ∀ {J : It} {xs : List Ad.D}, WalkD X.K c.W (Nn c (setO ρ w ds.dropLast) σ) (Nn c (setO ρ w ds.dropLast) σ) H2 J xs → (forE (fun d ρ => bindT ρ tg d >>= fun ρ' => b ρ') xs (setO ρ w ds.dropLast)).run (Rq X.K c ρ σ H D) (XS X.K X.mg Wx c) n2 → _ :=
      fun {J xs} wk q => for_core (c := c.at n2) wk e3 ((forE _ xs _).mono (fun r _ q => q.later st) (fun _ _ z => z) q)
    rcases walked_run q with ⟨xs, hd, q⟩ | ⟨z, rfl, q⟩
    · rcases hd with rfl | rfl
      · cases r' with
        | lst g1 g2 g3 g4 => exact .inl ⟨_, _, rfl, SqL.of g1, go (WalkD.list (fun _ z => z) g1 g2 g4) q⟩
      · obtain ⟨a', vs', rfl, g1, g2, g3, g4⟩ := RepB.tup (.inl r')
        exact .inr (.inl ⟨a', vs', rfl, g1, go (WalkD.tup (fun _ z => z) g2 g4) q⟩)
    · cases r'
      exact .inr (.inr ⟨z, rfl, go WalkD.str q⟩)
/-- w.append(u.pop(e)) -/
theorem st_appPop {u : Nat} {un : Str} {up apos2 cpos2 : Pos} {x : Expr} {m : TM D} (n : NameW X w wn) (n2 : NameW X u un) (hx : PEr X Wx x m) (hst : notStar x = true) (hline : (apos.endLine == cpos.line) = true) (hline2 : (apos2.endLine == cpos2.line) = true) :
    PSr X Wx (.Expr (.Call (.Attribute (.Name wn wp) "append" apos) [.Call (.Attribute (.Name un up) "pop" apos2) [x] [] cpos2] [] cpos) spos) fun ρ => lookO ρ w >>= fun xs => lookO ρ u >>= fun ys => m ρ >>= fun d => asInt d >>= fun i => M.grd (0 ≤ i ∧ i < ys.length ∧ w ≠ u) >>= fun _ => oget ys[i.toNat]? >>= fun y => M.grd (xs.length < sizeLine) >>= fun _ => pure (.nx (setO (setO ρ u (ys.eraseIdx i.toNat)) w (xs ++ [y]))) :=
  ps_imp (ps_expr (pe_bm PySem.F.plainAttrs_list PySem.F.slot_list_append PySem.F.type_list_append mt_append n.pe
    (pa_cons (pe_bm PySem.F.plainAttrs_list PySem.F.slot_list_pop PySem.F.type_list_pop mt_popAt n2.pe (pa_cons hx pa_nil (star_ok hst _ _)) (sup_ok rfl _ _ _) (few_ok (by simp [hst]) (by simp)) hline2 (star_ok hst _ _) (star_any rfl _ _)) pa_nil (star_ok rfl _ _)) (sup_ok rfl _ _ _) (few_ok rfl (by simp)) hline (star_ok rfl _ _) (star_any rfl _ _)) rfl) fun D σ H q => by
    obtain ⟨c, ρ, e, q⟩ := q
    obtain ⟨ds, hw, q⟩ := lookO_run q
    obtain ⟨es, hu, q⟩ := lookO_run q
    obtain ⟨a, vs, h1, h2, h3, h4, h5⟩ := own_var e hw
    obtain ⟨b, ws, g1, g2, g3, g4, g5⟩ := own_var e hu
    refine ⟨.ref a, h1, h5, .ref b, g1, g5, tE_in e q fun d _ q v H1 x1 i1 r => ?_⟩
    obtain ⟨i, rfl, ⟨q1, q2, q3⟩, q⟩ := asInt_run q
    cases r
    obtain ⟨y, hy, hz, q⟩ := oget_run q
    have e1 := e.ext' x1 i1
    obtain ⟨b', ws', g1', g2', g3', g4', _⟩ := own_var e1 hu
    rw [g1] at g1'
    cases g1'
    have hl := g4'.length
    have hs := sizeLine_eq
    have hlt : i.toNat < ws'.length := by omega
    obtain ⟨yv, hyv, ry⟩ := g4'.get hy
    obtain ⟨e2, s2⟩ := write_step e1 hu g1 (by rw [List.length_eraseIdx]; split <;> omega) (g4'.eraseIdx i.toNat)
    refine ⟨b, ws', i, i.toNat, yv, rfl, rfl, g2', by omega, by omega, PySem.StrLaws.seqIndex_nonneg q1 (by omega), hyv, ?_⟩
    have hw2 : (setO ρ u (es.eraseIdx i.toNat))[w]? = some (some (.list ds, true)) := by
      unfold setO
      rw [set_ne (fun z => q3 z.symm)]
      exact hw
    obtain ⟨a', vs', k1, k2, k3, k4, _⟩ := own_var e2 hw2
    rw [h1] at k1
    cases k1
    have hl2 := k4.length
    have hz : ds.length < sizeLine := hz
    obtain ⟨e3, s3⟩ := write_step e2 hw2 h1 (by rw [List.length_append]; exact hz) (k4.append (.cons ((ry.ext s2.ext).anti fun x => (nn_setO hu x).mp) .nil))
    exact ⟨a, vs', yv, rfl, rfl, k2, by rw [hl2]; exact hz, q _ _ (((Step.of_vol e x1).trans s2.un).trans s3.un) e3⟩
/-- w.append(w.pop(e)) -/
theorem st_rot {up apos2 cpos2 : Pos} {x : Expr} {m : TM D} (n : NameW X w wn) (hx : PEr X Wx x m) (hst : notStar x = true) (hline : (apos.endLine == cpos.line) = true) (hline2 : (apos2.endLine == cpos2.line) = true) :
    PSr X Wx (.Expr (.Call (.Attribute (.Name wn wp) "append" apos) [.Call (.Attribute (.Name wn up) "pop" apos2) [x] [] cpos2] [] cpos) spos) fun ρ => lookO ρ w >>= fun xs => m ρ >>= fun d => asInt d >>= fun i => M.grd (0 ≤ i ∧ i < xs.length) >>= fun _ => oget xs[i.toNat]? >>= fun y => pure (.nx (setO ρ w (xs.eraseIdx i.toNat ++ [y]))) :=
  ps_imp (ps_expr (pe_bm PySem.F.plainAttrs_list PySem.F.slot_list_append PySem.F.type_list_append mt_append n.pe
    (pa_cons (pe_bm PySem.F.plainAttrs_list PySem.F.slot_list_pop PySem.F.type_list_pop mt_popAt n.pe (pa_cons hx pa_nil (star_ok hst _ _)) (sup_ok rfl _ _ _) (few_ok (by simp [hst]) (by simp)) hline2 (star_ok hst _ _) (star_any rfl _ _)) pa_nil (star_ok rfl _ _)) (sup_ok rfl _ _ _) (few_ok rfl (by simp)) hline (star_ok rfl _ _) (star_any rfl _ _)) rfl) fun D σ H q => by
    obtain ⟨c, ρ, e, q⟩ := q
    obtain ⟨es, hu, q⟩ := lookO_run q
    obtain ⟨b, ws, g1, g2, g3, g4, g5⟩ := own_var e hu
    refine ⟨.ref b, g1, g5, .ref b, g1, g5, tE_in e q fun d _ q v H1 x1 i1 r => ?_⟩
    obtain ⟨i, rfl, ⟨q1, q2⟩, q⟩ := asInt_run q
    cases r
    obtain ⟨y, hy, q⟩ := oget_run q
    have e1 := e.ext' x1 i1
    obtain ⟨b', ws', g1', g2', g3', g4', _⟩ := own_var e1 hu
    rw [g1] at g1'
    cases g1'
    have hl := g4'.length
    have hs := sizeLine_eq
    have hlt : i.toNat < ws'.length := by omega
    obtain ⟨yv, hyv, ry⟩ := g4'.get hy
    obtain ⟨e2, s2⟩ := write_step e1 hu g1 (by rw [List.length_eraseIdx]; split <;> omega) (g4'.eraseIdx i.toNat)
    refine ⟨b, ws', i, i.toNat, yv, rfl, rfl, g2', by omega, by omega, PySem.StrLaws.seqIndex_nonneg q1 (by omega), hyv, ?_⟩
    have hw2 : (setO ρ w (es.eraseIdx i.toNat))[w]? = some (some (.list (es.eraseIdx i.toNat), true)) := by
      unfold setO
      rw [List.getElem?_set, if_pos rfl, if_pos (List.getElem?_eq_some_iff.mp hu).1]
    obtain ⟨a', vs', k1, k2, k3, k4, _⟩ := own_var e2 hw2
    rw [g1] at k1
    cases k1
    have hl2 := k4.length
    have hel : (es.eraseIdx i.toNat).length + 1 = es.length := by
      rw [List.length_eraseIdx, if_pos (by omega)]
      omega
    obtain ⟨e3, s3⟩ := write_step e2 hw2 g1 (by rw [List.length_append]; show (es.eraseIdx i.toNat).length + 1 ≤ _; omega) (k4.append (.cons ((ry.ext s2.ext).anti fun x => (nn_setO hu x).mp) .nil))
    have e4 : setO (setO ρ w (es.eraseIdx i.toNat)) w (es.eraseIdx i.toNat ++ [y]) = setO ρ w (es.eraseIdx i.toNat ++ [y]) := List.set_set ..
    rw [e4] at e3 s3
    exact ⟨b, vs', yv, rfl, rfl, k2, by omega, q _ _ (((Step.of_vol e x1).trans s2.un).trans s3.un) e3⟩
/-- w.remove(e) -/
def rRemD (K : PySem.W.Frag) : V → List V → Hp → VK → Prop := fun x vs H Q => ∃ (l : Addr) (y : V) (xs : List V) (W : Wd) (N : Addr → Prop) (ds : List D) (d : D) (j : Nat), x = .ref l ∧ vs = [y] ∧ H l = some (.lst xs) ∧ RepL K W N H xs ds ∧ RepB K W N H y d ∧ (eqOk d ∧ eqOk (.list ds)) ∧
  (ds.findIdx? fun z => PyData.eqv z d) = some j ∧ Q .non (upd H l (.lst (xs.eraseIdx j)))
theorem mt_removeD (hu : X.A.units + 66 < cLine) : MtR X "list.remove" (rRemD X.K) := by
  intro pins s σ H x vs v us Q I rx rv h
  obtain ⟨l, y, xs, W, N, ds, d, j, rfl, rfl, hH, rl, ry, ⟨od, oz⟩, hj, q⟩ := h
  cases rx
  obtain ⟨u, rfl, ru⟩ := rv.one
  obtain ⟨z, its, n, r, hl, e⟩ := I.lstM hH
  have hpl : ∀ z, z ∈ ds → z.plain = true := plainAll_mem oz.1
  obtain ⟨as, ra⟩ := RepL.reads' I hpl rl r
  obtain ⟨bs, rb, _⟩ := ry.reads I (okD_plain _ od.1) ru
  have hm := Nat.min_le_right (PyData.depthAll ds) d.depth
  have hd := od.2
  refine SeqAt.remove_list_data (j := j) (vs := its.toArray) ⟨_, e, rfl, n, rfl⟩ (by rw [List.toList_toArray]; exact ra) rb oz.1 od.1 (by omega) hj ?_ ?_
  · rw [List.size_toArray, ← hl]
    exact z
  · refine ⟨.non, _, I.lset (its' := its.eraseIdx j) hH e ?_ (r.eraseIdx j) ?_, rfl, q⟩
    · rw [List.eraseIdxIfInBounds_toArray]
    · rw [List.length_eraseIdx]
      split <;> omega
theorem st_rem {x : Expr} {m : TM D} (hu : X.A.units + 66 < cLine) (n : NameW X w wn) (hx : PEr X Wx x m) (hst : notStar x = true) (hline : (apos.endLine == cpos.line) = true) :
    PSr X Wx (.Expr (.Call (.Attribute (.Name wn wp) "remove" apos) [x] [] cpos) spos) fun ρ => lookO ρ w >>= fun xs => m ρ >>= fun d => M.grd (eqOk d ∧ eqOk (.list xs)) >>= fun _ => oget (xs.findIdx? fun z => PyData.eqv z d) >>= fun j => pure (.nx (setO ρ w (xs.eraseIdx j))) :=
  ps_imp (ps_expr (pe_bm PySem.F.plainAttrs_list PySem.F.slot_list_remove PySem.F.type_list_remove (mt_removeD hu) n.pe (pa_cons hx pa_nil (star_ok hst _ _)) (sup_ok rfl _ _ _) (few_ok (by simp [hst]) (by simp)) hline (star_ok hst _ _) (star_any rfl _ _)) rfl) fun D σ H q => by
    obtain ⟨c, ρ, e, q⟩ := q
    obtain ⟨ds, hw, q⟩ := lookO_run q
    obtain ⟨a, vs, h1, h2, h3, h4, h5⟩ := own_var e hw
    refine ⟨.ref a, h1, h5, tE_in e q fun d _ q v H' x i r => ?_⟩
    have e' := e.ext' x i
    obtain ⟨a', vs', h1', h2', h3', h4', _⟩ := own_var e' hw
    rw [h1] at h1'
    cases h1'
    obtain ⟨g, q⟩ := q
    obtain ⟨j, hj, q⟩ := oget_run q
    have hl := h4'.length
    obtain ⟨e2, s⟩ := write_step e' hw h1 (by rw [List.length_eraseIdx]; split <;> omega) (h4'.eraseIdx j)
    exact ⟨a, v, vs', _, _, ds, d, j, rfl, rfl, h2', h4', .inl r, g, hj, q _ _ ((Step.of_vol e x).trans s.un) e2⟩
end
end Ad
namespace Ad
open PySem PySem.Calls PySem.W PySem.SeqAt PySem.Spec PyProof.Rows L2

/-! ### the deck of a law -/
section
variable {X : Cx} {Wx : WX} {pos : Pos}
theorem look_run {K : PySem.W.Frag} {c : Cf} {ρ : Ev} {σ : L2.St} {H : Hp} {i : Nat} {Q : D → Nat → Prop} {R : XV → Nat → Prop} {b : Nat} (e : EnvOk K c ρ σ H) (h : (look ρ i).run Q R b) : ∃ d v, Q d b ∧ σ[i]? = some (some v) ∧ Rep K c.W (Nn c ρ σ) H v d := by
  unfold look at h
  split at h
  · obtain ⟨v, h1, h2⟩ := e.val _ _ ‹_›
    exact ⟨_, v, h, h1, h2⟩
  · exact h.elim
theorem volL_run {K : PySem.W.Frag} {W : Wd} {N : Addr → Prop} {H : Hp} {d : D} {v : V} {Q : Bool × Int → Nat → Prop} {R : XV → Nat → Prop} {b : Nat} (r : Rep K W N H v d) (h : (volL d).run Q R b) : ∃ t a, v = .ref a ∧ W.vl t = some a ∧ Q (t, (W.len : Nat)) b := by
  unfold volL at h
  split at h
  · cases r with
    | vls h1 => exact ⟨_, _, rfl, h1, h⟩
  · exact h.elim
theorem deck_rep {K : PySem.W.Frag} {W : Wd} {N : Addr → Prop} {H : Hp} {d : D} {v : V} (r : Rep K W N H v d) (h : isDeck d = true) : ∃ a, v = .ref a ∧ W.dk = some a := by
  unfold isDeck at h
  split at h
  · cases r with
    | dck h1 => exact ⟨_, rfl, h1⟩
  · cases h
theorem s_vlen {i : Nat} {x : Str} {p p2 : Pos} (hg : Gl X "len") (hm : X.mg "len" = none) (hp : PE X (.Name x p2) (tVar i)) : PEr X Wx (.Call (.Name "len" p) [.Name x p2] [] pos) (dE (.vlen i)) :=
  pe_imp (pe_callB call_len hg hm boot_len (pa_cons hp pa_nil rfl) (by decide) (by decide) rfl rfl) fun σ H Q q => by
    obtain ⟨c, ρ, e, q⟩ := q
    have q : (look ρ i).run (fun d => (volL d).run (fun p => VQ X.K c.W (Nn c ρ σ) H Q (.int p.2)) (XQ X.K X.mg Wx c ρ σ H)) (XQ X.K X.mg Wx c ρ σ H) c.b := q
    obtain ⟨d, v, q, h1, h2⟩ := look_run e q
    obtain ⟨t, a, rfl, h3, q⟩ := volL_run h2 q
    obtain ⟨ns, h4, h5⟩ := c.W.vlk _ H t a e.inv h3
    exact ⟨.ref a, h1, .ref a, c.W.len, rfl, .inl ⟨_, SqL.of h4, by rw [List.length_map, h5]⟩, e.vc.vint q⟩
theorem s_vg {i : Nat} {x : Str} {y : Expr} {ei : E} {p2 : Pos} (hp : PE X (.Name x p2) (tVar i)) (hy : PEr X Wx y (dE ei)) (hs : notSlice y = true) : PEr X Wx (.Subscript (.Name x p2) y pos) (dE (.vg i ei)) :=
  pe_imp (pe_ix ix_seq hp hy (slice_ok hs)) fun σ H Q q => by
    obtain ⟨c, ρ, e, q⟩ := q
    have q : (look ρ i).run (fun d => (volL d).run (fun p => (dE ei ρ).run (fun x => (asInt x).run (fun j b => (0 ≤ j ∧ j < p.2) ∧ ∀ k, VQ X.K c.W (Nn c ρ σ) H Q (.int k) b) (XQ X.K X.mg Wx c ρ σ H)) (XQ X.K X.mg Wx c ρ σ H)) (XQ X.K X.mg Wx c ρ σ H)) (XQ X.K X.mg Wx c ρ σ H) c.b := q
    obtain ⟨d, v, q, h1, h2⟩ := look_run e q
    obtain ⟨t, a, rfl, h3, q⟩ := volL_run h2 q
    refine ⟨.ref a, h1, c, ρ, e, (dE ei ρ).mono (fun d n q u H2 x2 i2 r2 => ?_) (fun _ _ z => z) q⟩
    obtain ⟨j, rfl, ⟨g1, g2⟩, q⟩ := asInt_run q
    cases r2
    have e2 := e.ext' x2 i2
    obtain ⟨ns, h4, h5⟩ := c.W.vlk _ H2 t a i2 h3
    have hlt : j.toNat < ns.length := by omega
    refine .inl ⟨a, _, j, .int ns[j.toNat], rfl, rfl, SqL.of h4, ?_, e2.vc.vint fun v H' x' i' r => q _ v H' (x2.trans x') i' r⟩
    unfold L2.atI ixN
    rw [List.length_map, h5, if_pos g1, if_pos g2]
    show (ns.map V.int)[j.toNat]? = _
    rw [List.getElem?_map, List.getElem?_eq_getElem hlt]
    rfl
theorem st_dkUn {w ic it ir : Nat} {wn : Str} {wp pt : Pos} {ts : List Expr} {k : Nat} (hc : X.calm = true) (n : NameW X w wn) (hg : PGs X ts (gNames [ic, it, ir])) (hn : (assignEach ts X.env).length = 3) (hst : (assignEach ts X.env).findIdx? (·.1) = none) :
    PSr X Wx (.Assign [.Tuple ts k pt] (.Name wn wp) pos) (dS (.dkUn ic it ir w)) :=
  ps_imp (ps_asg n.pe (pg_lst hc hg hn hst) rfl rfl rfl) fun D σ H q => by
    obtain ⟨c, ρ, e, q⟩ := q
    have q : (look ρ w).run (fun d b => isDeck d = true ∧ ∀ (L : Nat) (t : Int), 0 < L → L ≤ 63 → 0 ≤ t → t + b ≤ 4294967296 → Rq X.K c ρ σ H D (.nx (((ρ.set ic (some (volD false L, false))).set it (some (.int t, false))).set ir (some (volD true L, false)))) b) (XS X.K X.mg Wx c) c.b := q
    obtain ⟨d, v, ⟨hd, q⟩, h1, h2⟩ := look_run e q
    obtain ⟨a, rfl, h3⟩ := deck_rep h2 hd
    obtain ⟨c1, r1, t, h4, h5, h6, h7, h8⟩ := c.W.dkk _ H a e.inv h3
    refine ⟨.ref a, h1, a, _, rfl, SqL.of h4, rfl, ?_⟩
    refine bind_names (is := [ic, it, ir]) (ds := [volD false c.W.len, .int t, volD true c.W.len]) rfl e (.cons (.vls h5) (.cons (.int t) (.cons (.vls h6) .nil))) fun σ1 b => ?_
    exact q c.W.len t c.W.pos.1 c.W.pos.2 h7 h8 σ1 H (bound_step b) b.ok
theorem vol_write {c : Cf} {ρ : Ev} {σ : L2.St} {H : Hp} {a : Addr} {o : HO} {n : Nat} (e : EnvOk X.K c ρ σ H) (hv : c.W.vol a) (i : c.W.inv n (upd H a o)) : EnvOk X.K (c.at n) ρ σ (upd H a o) ∧ Ext c.W.vol H (upd H a o) := by
  have x : Ext c.W.vol H (upd H a o) := Ext.write hv
  exact ⟨e.ext' x i, x⟩
theorem st_dkInc {w : Nat} {wn : Str} {wp tpos cp : Pos} {k : Nat} {v : Expr} {ev : E} (n : NameW X w wn) (hv : PEr X Wx v (dE ev)) (hs : swapsWithSole [.Subscript (.Name wn wp) (.Constant (.int 1) k cp) tpos] v pos.line X.env = pure false) (hw : swappedStores [.Subscript (.Name wn wp) (.Constant (.int 1) k cp) tpos] v X.env = pure none) :
    PSr X Wx (.Assign [.Subscript (.Name wn wp) (.Constant (.int 1) k cp) tpos] v pos) (dS (.dkInc w ev)) :=
  ps_imp (ps_asg hv (pg_sub n.pe pe_int set_list fun _ => rfl) hs hw rfl) fun D σ H q => by
    obtain ⟨c, ρ, e, q⟩ := q
    have q : (dE ev ρ).run (fun x => (asInt x).run (fun v => (look ρ w).run (fun d b => isDeck d = true ∧ 0 < b ∧ 0 ≤ v ∧ v + (b - 1 : Nat) ≤ 4294967296 ∧ Rq X.K c ρ σ H D (.nx ρ) (b - 1)) (XS X.K X.mg Wx c)) (XS X.K X.mg Wx c)) (XS X.K X.mg Wx c) c.b := q
    refine tE_in e q fun d b q u H1 x1 i1 r => ?_
    obtain ⟨j, rfl, q⟩ := asInt_run q
    cases r
    have e1 := e.ext' x1 i1
    obtain ⟨d, v, ⟨hd, hb, hv0, hle, q⟩, h1, h2⟩ := look_run e1 q
    obtain ⟨a, rfl, h3⟩ := deck_rep h2 hd
    obtain ⟨c1, r1, t, h4, h5, h6, h7, h8⟩ := c.W.dkk _ H1 a i1 h3
    have inv' := c.W.dkw b (b - 1) H1 a c1 r1 t j i1 h3 h4 hv0 hle
    obtain ⟨e2, x2⟩ := vol_write e1 (c.W.dkv a h3) inv'
    refine ⟨.ref a, h1, a, _, 1, 1, rfl, rfl, h4, rfl, ?_⟩
    exact q σ _ (Step.of_vol e (x1.trans x2)) e2
theorem st_vset {i : Nat} {wn : Str} {wp tpos : Pos} {y v : Expr} {ej ev : E} (n : NameW X i wn) (hy : PEr X Wx y (dE ej)) (hv : PEr X Wx v (dE ev)) (hns : notSlice y = true) (hs : swapsWithSole [.Subscript (.Name wn wp) y tpos] v pos.line X.env = pure false) (hw : swappedStores [.Subscript (.Name wn wp) y tpos] v X.env = pure none) :
    PSr X Wx (.Assign [.Subscript (.Name wn wp) y tpos] v pos) (dS (.vset i ej ev)) :=
  ps_imp (ps_asg hv (pg_sub n.pe hy set_list fun v => by cases y <;> first | rfl | exact absurd hns (by simp [notSlice])) hs hw rfl) fun D σ H q => by
    obtain ⟨c, ρ, e, q⟩ := q
    have q : (dE ev ρ).run (fun x => (asInt x).run (fun v => (look ρ i).run (fun d => (volL d).run (fun p b => p.1 = true ∧ (dE ej ρ).run (fun y => (asInt y).run (fun k b => (0 ≤ k ∧ k < p.2) ∧ Rq X.K c ρ σ H D (.nx ρ) b) (XS X.K X.mg Wx c)) (XS X.K X.mg Wx c) b) (XS X.K X.mg Wx c)) (XS X.K X.mg Wx c)) (XS X.K X.mg Wx c)) (XS X.K X.mg Wx c) c.b := q
    refine tE_in e q fun d b q u H1 x1 i1 r => ?_
    obtain ⟨vj, rfl, q⟩ := asInt_run q
    cases r
    have e1 := e.ext' x1 i1
    obtain ⟨d, u, q, h1, h2⟩ := look_run e1 q
    obtain ⟨t, a, rfl, h3, ht, q⟩ := volL_run h2 q
    have ht : t = true := ht
    subst ht
    refine ⟨.ref a, h1, _, ρ, e1, (dE ej ρ).mono (fun d n q u H2 x2 i2 r2 => ?_) (fun _ _ z => XQ.later x1 (z.q e)) q⟩
    obtain ⟨k, rfl, ⟨g1, g2⟩, q⟩ := asInt_run q
    cases r2
    obtain ⟨ns, h4, h5⟩ := c.W.vlk _ H2 true a i2 h3
    have hk : ixN (ns.map V.int).length k = some k.toNat := by
      unfold ixN
      rw [List.length_map, h5, if_pos g1, if_pos g2]
    have hset : (ns.map V.int).set k.toNat (.int vj) = (ns.set k.toNat vj).map V.int := by rw [List.map_set]
    have inv' := c.W.vlw _ H2 a (ns.set k.toNat vj) i2 h3 (by rw [List.length_set, h5])
    obtain ⟨e3, x3⟩ := vol_write (e1.ext' x2 i2) (c.W.vlv true a h3) inv'
    refine ⟨a, _, k, k.toNat, rfl, rfl, h4, hk, ?_⟩
    rw [hset]
    exact q σ _ (Step.of_vol e ((x1.trans x2).trans x3)) e3
end
end Ad
namespace Ad
open PySem PySem.Calls PySem.W PySem.SeqAt PySem.Spec PyProof.Rows L2

/-! ### where an expression stands -/
structure Cc where
  N : List Str
  sc : List (Str × NameKind)
  as : List Str
def nmB (cc : Cc) (i : Nat) : Expr → Bool
  | .Name x _ => decide (cc.N[i]? = some x) && (match cc.sc.lookup x with | some .local => true | some .cell => true | some .free => true | _ => false) && !(x == ("__debug__" : Str)) && !(x == ("__classdict__" : Str))
  | _ => false
def setB (cc : Cc) (i : Nat) : Expr → Bool
  | .Name x _ => decide (cc.N[i]? = some x) && (match cc.sc.lookup x with | some .local => true | some .cell => cc.as.contains x | _ => false)
  | _ => false
def glB (cc : Cc) (x : Str) : Bool := decide (cc.sc.lookup x = some .globalImplicit) && !(x == ("__debug__" : Str))
def setsB (cc : Cc) : List Nat → List Expr → Bool
  | [], [] => true
  | i :: is, x :: xs => setB cc i x && setsB cc is xs
  | _, _ => false
def tupB (cc : Cc) (is : List Nat) : Expr → Bool
  | .Tuple xs _ _ => setsB cc is xs
  | _ => false
def tgB (cc : Cc) : Tg → Expr → Bool
  | .n i, x => setB cc i x
  | .t is, x => tupB cc is x
def bltNames : List Str := ["len", "tuple", "list", "int", "str", "min", "max", "sorted", "set", "repr", "isinstance", "bool", "range", "enumerate", "zip", "sum", "LookupError", "ValueError", "IndexError", "KeyError"]
/-- what is known of the place, for all expressions there -/
structure CtxOk (P : Str → (List D → M D) → Prop) (G : Str → D → Prop) (X : Cx) (Wx : WX) (cc : Cc) : Prop where
  N : X.N = cc.N
  nd : X.N.Nodup
  sc : X.env.scope.names = cc.sc
  kind : X.env.scope.kind = .function
  fn : ∀ x, cc.as.contains x = true → X.fn x = true
  calm : X.calm = true
  tk : Takes X Wx
  grd : X.A.guards = some []
  un : X.A.units + 66 < cLine
  mg : ∀ b, b ∈ bltNames → X.mg b = none
  sys : ∃ o, X.base.get? sysModules = some o
  call : ∀ nm f, P nm f → ∃ k, Room k X.A ∧ CallP X.prog X.w X.K X.mg X.base k nm f
  glob : ∀ nm d, G nm d → ∃ u v, X.mg nm = some u ∧ RelV v u ∧ Stat X.K v d
  rm : Room 2 X.A
section
variable {P : Str → (List D → M D) → Prop} {G : Str → D → Prop} {X : Cx} {Wx : WX} {cc : Cc}
theorem CtxOk.name (c : CtxOk P G X Wx cc) {i : Nat} {x : Expr} (h : nmB cc i x = true) : ∃ nm p, x = .Name nm p ∧ X.N[i]? = some nm ∧ Vis X.env.scope nm ∧ (nm == ("__debug__" : Str)) = false ∧ (nm == ("__classdict__" : Str)) = false := by
  unfold nmB at h
  split at h
  rotate_left
  · cases h
  rename_i nm p
  simp only [Bool.and_eq_true, decide_eq_true_eq, Bool.not_eq_true'] at h
  obtain ⟨⟨⟨h1, h2⟩, h3⟩, h4⟩ := h
  refine ⟨nm, p, rfl, by rw [c.N]; exact h1, ?_, h3, h4⟩
  unfold Vis
  rw [c.sc]
  split at h2 <;> first | exact .inl ‹_› | exact .inr (.inl ‹_›) | exact .inr (.inr ‹_›) | cases h2
theorem CtxOk.set (c : CtxOk P G X Wx cc) {i : Nat} {x : Expr} (h : setB cc i x = true) : ∃ nm p, x = .Name nm p ∧ X.N[i]? = some nm ∧ Loc X.env.scope nm ∧ (X.fn nm = true ∨ X.env.scope.names.lookup nm = some .local) := by
  unfold setB at h
  split at h
  rotate_left
  · cases h
  rename_i nm p
  simp only [Bool.and_eq_true, decide_eq_true_eq] at h
  obtain ⟨h1, h2⟩ := h
  refine ⟨nm, p, rfl, by rw [c.N]; exact h1, ?_⟩
  unfold L2.Loc
  rw [c.sc]
  split at h2
  · exact ⟨.inl ‹_›, .inr ‹_›⟩
  · exact ⟨.inr ‹_›, .inl (c.fn _ h2)⟩
  · cases h2
theorem CtxOk.gl (c : CtxOk P G X Wx cc) {x : Str} (h : glB cc x = true) : Gl X x ∧ (x == ("__debug__" : Str)) = false := by
  simp only [glB, Bool.and_eq_true, decide_eq_true_eq, Bool.not_eq_true'] at h
  refine ⟨?_, h.2⟩
  show X.env.scope.names.lookup x = some .globalImplicit
  rw [c.sc]
  exact h.1
theorem names_assign {cc : Cc} {env : PySem.Env} : ∀ {is : List Nat} {xs : List Expr}, setsB cc is xs = true → (assignEach xs env).length = is.length ∧ (assignEach xs env).findIdx? (·.1) = none ∧ xs.length = is.length
  | [], [], _ => ⟨rfl, rfl, rfl⟩
  | i :: is, x :: xs, h => by
    simp only [setsB, Bool.and_eq_true] at h
    obtain ⟨h1, h2, h3⟩ := names_assign (env := env) h.2
    have h0 := h.1
    unfold setB at h0
    split at h0
    rotate_left
    · cases h0
    refine ⟨by show (assignEach xs env).length + 1 = _; rw [h1]; rfl, ?_, by simp [h3]⟩
    show List.findIdx? _ ((false, _) :: assignEach xs env) = none
    rw [List.findIdx?_cons, h2]
    rfl
  | [], _ :: _, h => by simp [setsB] at h
  | _ :: _, [], h => by simp [setsB] at h
theorem CtxOk.sets (c : CtxOk P G X Wx cc) : ∀ {is : List Nat} {xs : List Expr}, setsB cc is xs = true → PGs X xs (gNames is)
  | [], [], _ => pgs_nil
  | i :: is, x :: xs, h => by
    simp only [setsB, Bool.and_eq_true] at h
    obtain ⟨nm, p, rfl, h1, h2, h3⟩ := c.set h.1
    exact pgs_cons (pg_name c.nd h1 h2 h3) (c.sets h.2) rfl
  | [], _ :: _, h => by simp [setsB] at h
  | _ :: _, [], h => by simp [setsB] at h
theorem CtxOk.tg (c : CtxOk P G X Wx cc) {tg : Tg} {x : Expr} (h : tgB cc tg x = true) : PG X x (gOf X.K tg) := by
  cases tg with
  | n i =>
    obtain ⟨nm, p, rfl, h1, h2, h3⟩ := c.set (show setB cc i x = true from h)
    exact pg_name c.nd h1 h2 h3
  | t is =>
    have h : tupB cc is x = true := h
    unfold tupB at h
    split at h
    · obtain ⟨h1, h2, _⟩ := names_assign (env := X.env) h
      exact Ad.PG.or (pg_tup c.calm (c.sets h) h1 h2) (pg_lst c.calm (c.sets h) h1 h2)
    · cases h
end

/-! ### what is written, against the syntax -/
def nw : E → Bool
  | .w _ => false
  | _ => true
def nwAll : Es → Bool
  | .nil => true
  | .cons e es => nw e && nwAll es
def lenEs : Es → Nat
  | .nil => 0
  | .cons _ es => lenEs es + 1
def tst : Expr → Bool
  | .IfExp .. => false
  | _ => true
def isBO : Expr → Bool
  | .BoolOp _ (_ :: _ :: _) _ => true
  | _ => false
def biName : Bi → Option (Str × Bool)
  | .len => some ("len", true)
  | .tuple => some ("tuple", false)
  | .list => some ("list", false)
  | .int1 => some ("int", false)
  | .str1 => some ("str", false)
  | .min1 => some ("min", true)
  | .max1 => some ("max", true)
  | .min2 => some ("min", true)
  | .max2 => some ("max", true)
  | .sorted => some ("sorted", true)
  | .repr => some ("repr", true)
  | _ => none
def isaName : Bi → Option String
  | .isInt => some "int"
  | .isBool => some "bool"
  | .isStr => some "str"
  | .isTuple => some "tuple"
  | .isList => some "list"
  | _ => none
def scOf (names : List (Str × NameKind)) : Scope := { kind := .function, names := names, isGenerator := false, isCoroutine := false }
def relB (names : List (Str × NameKind)) (sc : List (Str × NameKind)) : List (Str × NameKind) := names.map fun (n, k) => if (k == .free && sc.lookup n == some .cell) then (n, .cell) else (n, k)
def Cc.blk (cc : Cc) (scope : Scope) : Cc := { N := cc.N, sc := relB scope.names cc.sc, as := (scope.names.filter fun y => scope.names.lookup y.1 == some .cell).map (·.1) }
def ownP (cc : Cc) (own : List Nat) : List (Str × Nat) := own.map fun i => (cc.N.getD i "", i)
def slotsIn (own : List Nat) (tg : Tg) : Bool := tg.slots.all fun i => own.contains i
/-! shapes -/
def onCon (x : Expr) (f : Const → Bool) : Bool := match x with
  | .Constant c _ _ => f c
  | _ => false
theorem on_con {x : Expr} {f : Const → Bool} (h : onCon x f = true) : ∃ c k p, x = .Constant c k p ∧ f c = true := by
  unfold onCon at h
  split at h
  · exact ⟨_, _, _, rfl, h⟩
  · cases h
def onName (x : Expr) (f : Str → Bool) : Bool := match x with
  | .Name c _ => f c
  | _ => false
theorem on_name {x : Expr} {f : Str → Bool} (h : onName x f = true) : ∃ c p, x = .Name c p ∧ f c = true := by
  unfold onName at h
  split at h
  · exact ⟨_, _, rfl, h⟩
  · cases h
def onTup (x : Expr) (f : List Expr → Bool) : Bool := match x with
  | .Tuple xs _ _ => f xs
  | _ => false
theorem on_tup {x : Expr} {f : List Expr → Bool} (h : onTup x f = true) : ∃ xs k p, x = .Tuple xs k p ∧ f xs = true := by
  unfold onTup at h
  split at h
  · exact ⟨_, _, _, rfl, h⟩
  · cases h
def onLst (x : Expr) (f : List Expr → Bool) : Bool := match x with
  | .List xs _ => f xs
  | _ => false
theorem on_lst {x : Expr} {f : List Expr → Bool} (h : onLst x f = true) : ∃ xs p, x = .List xs p ∧ f xs = true := by
  unfold onLst at h
  split at h
  · exact ⟨_, _, rfl, h⟩
  · cases h
def onDic (x : Expr) : Bool := match x with
  | .Dict [] [] _ => true
  | _ => false
theorem on_dic {x : Expr} (h : onDic x = true) : ∃ p, x = .Dict [] [] p := by
  unfold onDic at h
  split at h
  · exact ⟨_, rfl⟩
  · cases h
/-- {(): True} -/
def onDtn (x : Expr) : Bool := match x with
  | .Dict [some (.Tuple [] _ _)] [.Constant (.bool true) _ _] _ => true
  | _ => false
theorem on_dtn {x : Expr} (h : onDtn x = true) : ∃ k p1 j p2 p, x = .Dict [some (.Tuple [] k p1)] [.Constant (.bool true) j p2] p := by
  unfold onDtn at h
  split at h
  · exact ⟨_, _, _, _, _, rfl⟩
  · cases h
def onBin (x : Expr) (f : Operator → Expr → Expr → Bool) : Bool := match x with
  | .BinOp y o z _ => f o y z
  | _ => false
theorem on_bin {x : Expr} {f : Operator → Expr → Expr → Bool} (h : onBin x f = true) : ∃ o y z p, x = .BinOp y o z p ∧ f o y z = true := by
  unfold onBin at h
  split at h
  · exact ⟨_, _, _, _, rfl, h⟩
  · cases h
def onNeg (x : Expr) (f : Expr → Bool) : Bool := match x with
  | .UnaryOp .USub y _ => f y
  | _ => false
theorem on_neg {x : Expr} {f : Expr → Bool} (h : onNeg x f = true) : ∃ y p, x = .UnaryOp .USub y p ∧ f y = true := by
  unfold onNeg at h
  split at h
  · exact ⟨_, _, rfl, h⟩
  · cases h
def onNot (x : Expr) (f : Expr → Bool) : Bool := match x with
  | .UnaryOp .Not y _ => f y
  | _ => false
theorem on_not {x : Expr} {f : Expr → Bool} (h : onNot x f = true) : ∃ y p, x = .UnaryOp .Not y p ∧ f y = true := by
  unfold onNot at h
  split at h
  · exact ⟨_, _, rfl, h⟩
  · cases h
def onAnd (x : Expr) (f : Expr → Expr → List Expr → Pos → Bool) : Bool := match x with
  | .BoolOp .And (y :: z :: rest) p => f y z rest p
  | _ => false
theorem on_and {x : Expr} {f : Expr → Expr → List Expr → Pos → Bool} (h : onAnd x f = true) : ∃ y z rest p, x = .BoolOp .And (y :: z :: rest) p ∧ f y z rest p = true := by
  unfold onAnd at h
  split at h
  · exact ⟨_, _, _, _, rfl, h⟩
  · cases h
def onOr (x : Expr) (f : Expr → Expr → List Expr → Pos → Bool) : Bool := match x with
  | .BoolOp .Or (y :: z :: rest) p => f y z rest p
  | _ => false
theorem on_or {x : Expr} {f : Expr → Expr → List Expr → Pos → Bool} (h : onOr x f = true) : ∃ y z rest p, x = .BoolOp .Or (y :: z :: rest) p ∧ f y z rest p = true := by
  unfold onOr at h
  split at h
  · exact ⟨_, _, _, _, rfl, h⟩
  · cases h
def onCmp (x : Expr) (f : CmpOp → Expr → Expr → Bool) : Bool := match x with
  | .Compare y [o] [z] _ => f o y z
  | _ => false
theorem on_cmp {x : Expr} {f : CmpOp → Expr → Expr → Bool} (h : onCmp x f = true) : ∃ o y z p, x = .Compare y [o] [z] p ∧ f o y z = true := by
  unfold onCmp at h
  split at h
  · exact ⟨_, _, _, _, rfl, h⟩
  · cases h
def onCmp2 (x : Expr) (f : CmpOp → CmpOp → Expr → Expr → Expr → Bool) : Bool := match x with
  | .Compare y [o, q] [z, u] _ => f o q y z u
  | _ => false
theorem on_cmp2 {x : Expr} {f : CmpOp → CmpOp → Expr → Expr → Expr → Bool} (h : onCmp2 x f = true) : ∃ o q y z u p, x = .Compare y [o, q] [z, u] p ∧ f o q y z u = true := by
  unfold onCmp2 at h
  split at h
  · exact ⟨_, _, _, _, _, _, rfl, h⟩
  · cases h
def onIf (x : Expr) (f : Expr → Expr → Expr → Bool) : Bool := match x with
  | .IfExp c y z _ => f c y z
  | _ => false
theorem on_if {x : Expr} {f : Expr → Expr → Expr → Bool} (h : onIf x f = true) : ∃ c y z p, x = .IfExp c y z p ∧ f c y z = true := by
  unfold onIf at h
  split at h
  · exact ⟨_, _, _, _, rfl, h⟩
  · cases h
def onSub (x : Expr) (f : Expr → Expr → Bool) : Bool := match x with
  | .Subscript y z _ => f y z
  | _ => false
theorem on_sub {x : Expr} {f : Expr → Expr → Bool} (h : onSub x f = true) : ∃ y z p, x = .Subscript y z p ∧ f y z = true := by
  unfold onSub at h
  split at h
  · exact ⟨_, _, _, rfl, h⟩
  · cases h
def onLo (x : Expr) (f : Expr → Bool) : Bool := match x with
  | .Slice (some y) none none _ => f y
  | _ => false
theorem on_lo {x : Expr} {f : Expr → Bool} (h : onLo x f = true) : ∃ y p, x = .Slice (some y) none none p ∧ f y = true := by
  unfold onLo at h
  split at h
  · exact ⟨_, _, rfl, h⟩
  · cases h
def onHi (x : Expr) (f : Expr → Bool) : Bool := match x with
  | .Slice none (some y) none _ => f y
  | _ => false
theorem on_hi {x : Expr} {f : Expr → Bool} (h : onHi x f = true) : ∃ y p, x = .Slice none (some y) none p ∧ f y = true := by
  unfold onHi at h
  split at h
  · exact ⟨_, _, rfl, h⟩
  · cases h
def onRev (x : Expr) : Bool := match x with
  | .Slice none none (some (.UnaryOp .USub (.Constant (.int 1) _ _) _)) _ => true
  | _ => false
theorem on_rev {x : Expr} (h : onRev x = true) : ∃ k p1 p2 p3, x = .Slice none none (some (.UnaryOp .USub (.Constant (.int 1) k p1) p2)) p3 := by
  unfold onRev at h
  split at h
  · exact ⟨_, _, _, _, rfl⟩
  · cases h
def onLc (x : Expr) (f : Expr → Expr → Expr → List Expr → Scope → Bool) : Bool := match x with
  | .ListComp y [⟨t, i, ifs, 0⟩] scope _ => f y t i ifs scope
  | _ => false
theorem on_lc {x : Expr} {f : Expr → Expr → Expr → List Expr → Scope → Bool} (h : onLc x f = true) : ∃ y t i ifs scope p, x = .ListComp y [⟨t, i, ifs, 0⟩] scope p ∧ f y t i ifs scope = true := by
  unfold onLc at h
  split at h
  · exact ⟨_, _, _, _, _, _, rfl, h⟩
  · cases h
def onCall (x : Expr) (f : Str → List Expr → Bool) : Bool := match x with
  | .Call (.Name g _) xs [] _ => f g xs
  | _ => false
theorem on_call {x : Expr} {f : Str → List Expr → Bool} (h : onCall x f = true) : ∃ g p xs pos, x = .Call (.Name g p) xs [] pos ∧ f g xs = true := by
  unfold onCall at h
  split at h
  · exact ⟨_, _, _, _, rfl, h⟩
  · cases h
def onAtt (x : Expr) (f : Expr → Str → Bool) : Bool := match x with
  | .Attribute o n _ => f o n
  | _ => false
theorem on_att {x : Expr} {f : Expr → Str → Bool} (h : onAtt x f = true) : ∃ o n p, x = .Attribute o n p ∧ f o n = true := by
  unfold onAtt at h
  split at h
  · exact ⟨_, _, _, rfl, h⟩
  · cases h
def onMeth (x : Expr) (f : Expr → Str → Pos → List Expr → Pos → Bool) : Bool := match x with
  | .Call (.Attribute o n ap) xs [] p => f o n ap xs p
  | _ => false
theorem on_meth {x : Expr} {f : Expr → Str → Pos → List Expr → Pos → Bool} (h : onMeth x f = true) : ∃ o n ap xs p, x = .Call (.Attribute o n ap) xs [] p ∧ f o n ap xs p = true := by
  unfold onMeth at h
  split at h
  · exact ⟨_, _, _, _, _, rfl, h⟩
  · cases h
def one (xs : List Expr) (f : Expr → Bool) : Bool := match xs with
  | [x] => f x
  | _ => false
theorem on_one {xs : List Expr} {f : Expr → Bool} (h : one xs f = true) : ∃ x, xs = [x] ∧ f x = true := by
  unfold one at h
  split at h
  · exact ⟨_, rfl, h⟩
  · cases h
def two (xs : List Expr) (f : Expr → Expr → Bool) : Bool := match xs with
  | [x, y] => f x y
  | _ => false
theorem on_two {xs : List Expr} {f : Expr → Expr → Bool} (h : two xs f = true) : ∃ x y, xs = [x, y] ∧ f x y = true := by
  unfold two at h
  split at h
  · exact ⟨_, _, rfl, h⟩
  · cases h
def onNil (x : Expr) : Bool := match x with
  | .List [] _ => true
  | _ => false
theorem on_nil {x : Expr} (h : onNil x = true) : ∃ p, x = .List [] p := by
  unfold onNil at h
  split at h
  · exact ⟨_, rfl⟩
  · cases h
def isTupE : Expr → Bool
  | .Tuple .. => true
  | _ => false
def isStrC : E → Bool
  | .k (.str _) => true
  | _ => false
def isTrueC : E → Bool
  | .k (.bool true) => true
  | _ => false
mutual
def mE (cc : Cc) : E → Expr → Bool
  | .v i, x => nmB cc i x
  | .w i, x => nmB cc i x
  | .k d, x => onCon x fun c => conE c d
  | .g nm _, x => onName x fun n => decide (n = nm) && glB cc n
  | .tup es, x => onTup x fun xs => mEs cc es xs && nwAll es && decide (lenEs es ≤ 1000)
  | .lst es, x => onLst x fun xs => mEs cc es xs && nwAll es && decide (lenEs es ≤ 1000)
  | .dic, x => onDic x
  | .dkn, x => onDic x
  | .dtn, x => onDtn x
  | .bin op a b, x => onBin x fun o y z => decide (o = op) && mE cc a y && mE cc b z
  | .neg a, x => onNeg x fun y => mE cc a y
  | .not a, x => onNot x fun y => mE cc a y && nw a && tst y
  | .and a b, x => onAnd x fun y z rest pos => mE cc a y && nw a && tst y && nw b && (match rest with
    | [] => mE cc b z && tst z
    | r :: rest => mE cc b (.BoolOp .And (z :: r :: rest) pos))
  | .or a b, x => onOr x fun y z rest pos => mE cc a y && nw a && tst y && nw b && (match rest with
    | [] => mE cc b z && tst z
    | r :: rest => mE cc b (.BoolOp .Or (z :: r :: rest) pos))
  | .cmp op a b, x => onCmp x fun o y z => decide (o = op) && mE cc a y && mE cc b z && notSet z
  | .cmp2 p q a b c, x => onCmp2 x fun o o2 y z u => decide (o = p) && decide (o2 = q) && mE cc a y && mE cc b z && mE cc c u && notSet u
  | .ife c a b, x => onIf x fun z y u => mE cc c z && nw c && tst z && mE cc a y && nw a && mE cc b u && nw b
  | .ix a i, x => onSub x fun y z => mE cc a y && mE cc i z && notSlice z
  | .sl true a b, x => onSub x fun y z => mE cc a y && onLo z fun u => mE cc b u
  | .sl false a b, x => onSub x fun y z => mE cc a y && onHi z fun u => mE cc b u
  | .rev a, x => onSub x fun y z => mE cc a y && onRev z
  | .lc own tg it tst' elt, x => onLc x fun y tgx iter ifs scope =>
    (match it with
      | .bi .range1 (.cons e .nil) => onCall iter fun g xs => one xs fun u => decide (g = "range") && glB cc g && mE cc e u && notStar u
      | .bi .range2 (.cons e (.cons f .nil)) => onCall iter fun g xs => two xs fun u v => decide (g = "range") && glB cc g && mE cc e u && notStar u && mE cc f v && notStar v
      | .bi .enum (.cons e .nil) => isTupE tgx && onCall iter fun g xs => one xs fun u => decide (g = "enumerate") && glB cc g && mE cc e u && notStar u
      | e => mE cc e iter) && blkC cc.N (scOf cc.sc) scope (ownP cc own) && slotsIn own tg && tgB (cc.blk scope) tg tgx && mE (cc.blk scope) elt y && nw elt && nw tst' && notSet iter && (match ifs with
    | [] => isTrueC tst'
    | [c] => mE (cc.blk scope) tst' c && tst c
    | _ => false)
  | .call nm _ es, x => onCall x fun g xs => decide (g = nm) && glB cc g && mEs cc es xs && nwAll es
  | .callB nm _ es, x => onCall x fun g xs => decide (g = nm) && glB cc g && mEs cc es xs && !xs.isEmpty
  | .bi b es, x => onCall x fun g xs => glB cc g && (match b with
    | .listRange => decide (g = "list") && one xs fun u => onCall u fun r ys => one ys fun v => decide (r = "range") && glB cc r && mEs cc es [v]
    | .tupRange1 => decide (g = "tuple") && one xs fun u => onCall u fun r ys => one ys fun v => decide (r = "range") && glB cc r && mEs cc es [v]
    | .sortedSet => decide (g = "sorted") && one xs fun u => onCall u fun r ys => one ys fun v => decide (r = "set") && glB cc r && mEs cc es [v]
    | .sumL => decide (g = "sum") && two xs fun u v => onNil v && mEs cc es [u]
    | .lenSetS => decide (g = "len") && one xs fun u => onCall u fun r ys => one ys fun v => decide (r = "set") && glB cc r && mEs cc es [v]
    | .lenSet => decide (g = "len") && one xs fun u => onCall u fun r ys => one ys fun v => decide (r = "set") && glB cc r && mEs cc es [v]
    | b => (match isaName b with
      | some ty => decide (g = "isinstance") && two xs fun u v => onName v fun t => decide (t = Str.ofString ty) && glB cc t && mEs cc es [u]
      | none => (match biName b with
        | some nm => decide (g = nm.1) && mEs cc es xs && !xs.isEmpty
        | none => false)))
  | .mt m o es, x => if m = .geti then (onSub x fun y z => mE cc o y && notSlice z && mEs cc es [z]) else if m = .setNe then (onCmp x fun p y z => decide (p = .NotEq) && onCall y fun g ys => one ys fun u => onCall z fun r zs => one zs fun v => decide (g = "set") && glB cc g && decide (r = "set") && notStar u && mE cc o u && mEs cc es [v]) else onMeth x fun y n apos xs cpos => (match m with
    | .join => decide (n = "join") && mE cc o y && notSup y && mEs cc es xs && one xs (fun _ => true) && (apos.endLine == cpos.line) && isStrC o
    | .index => decide (n = "index") && mE cc o y && notSup y && mEs cc es xs && one xs (fun _ => true) && (apos.endLine == cpos.line)
    | .tindex => decide (n = "index") && mE cc o y && notSup y && mEs cc es xs && one xs (fun _ => true) && (apos.endLine == cpos.line)
    | .count => decide (n = "count") && mE cc o y && notSup y && mEs cc es xs && one xs (fun _ => true) && (apos.endLine == cpos.line)
    | .split => decide (n = "split") && mE cc o y && notSup y && mEs cc es xs && one xs (fun _ => true) && (apos.endLine == cpos.line)
    | .get1 => decide (n = "get") && mE cc o y && notSup y && mEs cc es xs && one xs (fun _ => true) && (apos.endLine == cpos.line)
    | .get2 => decide (n = "get") && mE cc o y && notSup y && mEs cc es xs && two xs (fun _ _ => true) && (apos.endLine == cpos.line)
    | _ => false)
  | .vlen i, x => onCall x fun g xs => decide (g = "len") && glB cc g && one xs fun u => nmB cc i u
  | .vg i e, x => onSub x fun y z => nmB cc i y && mE cc e z && nw e && notSlice z
  | .mkx nm _ ks es, x => onCall x fun g xs => decide (g = nm) && glB cc g && mEs cc es xs && nwAll es && decide (lenEs es = ks.length) && decide (ks.length ≤ 1000)
  | .fld f e, x => onAtt x fun y n => decide (n = f) && mE cc e y && nw e && notSup y
  | .xis nm _ e, x => onCall x fun g xs => decide (g = "isinstance") && glB cc g && two xs fun u v => onName v fun t => decide (t = nm) && glB cc t && mE cc e u && nw e && notStar u
def mEs (cc : Cc) : Es → List Expr → Bool
  | .nil, xs => xs.isEmpty
  | .cons e es, xs => (match xs with
    | x :: xs => notStar x && mE cc e x && mEs cc es xs
    | [] => false)
end
/-- what a for or a comprehension walks -/
def mI (cc : Cc) (it : E) (iter tgx : Expr) : Bool := match it with
  | .bi .range1 (.cons e .nil) => onCall iter fun g xs => one xs fun u => decide (g = "range") && glB cc g && mE cc e u && notStar u
  | .bi .range2 (.cons e (.cons f .nil)) => onCall iter fun g xs => two xs fun u v => decide (g = "range") && glB cc g && mE cc e u && notStar u && mE cc f v && notStar v
  | .bi .enum (.cons e .nil) => isTupE tgx && onCall iter fun g xs => one xs fun u => decide (g = "enumerate") && glB cc g && mE cc e u && notStar u
  | e => mE cc e iter
theorem mE_lc {cc : Cc} {own : List Nat} {tg : Tg} {it t elt : E} {x : Expr} : mE cc (.lc own tg it t elt) x = onLc x fun y tgx iter ifs scope => mI cc it iter tgx && blkC cc.N (scOf cc.sc) scope (ownP cc own) && slotsIn own tg && tgB (cc.blk scope) tg tgx && mE (cc.blk scope) elt y && nw elt && nw t && notSet iter && (match ifs with
    | [] => isTrueC t
    | [c] => mE (cc.blk scope) t c && tst c
    | _ => false) := by
  conv => lhs; unfold mE
  unfold mI
  rfl
end Ad
/-! dicts of a def's own: made, read, written -/
namespace Ad
open PySem PySem.Calls PySem.W PySem.SeqAt PySem.Spec PyProof.Rows L2

section
variable {K : PySem.W.Frag} {W : Wd} {N : Addr → Prop} {H : Hp} {v : V} {d : D}
theorem dkD_inj {a b : List (Int × Int)} (h : dkD a = dkD b) : a = b := by
  unfold dkD at h
  injection h with h
  injection h with _ h
  have key : ∀ {a b : List (Int × Int)}, a.map (fun p => (PyData.int p.1, PyData.int p.2)) = b.map (fun p => (PyData.int p.1, PyData.int p.2)) → a = b := by
    intro a
    induction a with
    | nil => intro b h; cases b with | nil => rfl | cons _ _ => cases h
    | cons x a ih =>
      intro b h
      cases b with
      | nil => cases h
      | cons y b =>
        rw [List.map_cons, List.map_cons] at h
        injection h with h1 h2
        rw [ih h2]
        have e1 := congrArg Prod.fst h1
        have e2 := congrArg Prod.snd h1
        injection e1 with e1
        injection e2 with e2
        rw [show x = y from Prod.ext e1 e2]
  exact key h
theorem dkt_ne {a : List (Int × Int)} {b : List (List Int)} : dkD a ≠ dtD b := by
  intro h
  unfold dkD dtD at h
  injection h with h
  injection h with h _
  have h := congrArg Prod.fst h
  injection h with h
  exact absurd h (by decide)
/-- a dict of ints, lent or given away -/
theorem RepB.dk {kvs : List (Int × Int)} (hv : ∀ a, W.vol a → ∃ vs, H a = some (.lst vs)) (r : RepB K W N H v (dkD kvs)) : ∃ a, v = .ref a ∧ H a = some (.dK (dkO kvs)) ∧ ¬ W.vol a ∧ kvs.length ≤ sizeLine := by
  have nv : ∀ {a : Addr} {o : List (Key × V)}, H a = some (.dK o) → ¬ W.vol a := fun h z => by
    obtain ⟨vs, q⟩ := hv _ z
    rw [h] at q
    cases q
  rcases r with h | ⟨a, vs, ds, rfl, h2, _⟩ | ⟨a, o, rfl, h2, h3, h4⟩
  · generalize hd : dkD kvs = d at h
    cases h with
    | dci h1 h2 h3 =>
      cases dkD_inj hd
      exact ⟨_, rfl, h1, nv h1, h3⟩
    | dct h1 h2 h3 h4 => exact absurd hd dkt_ne
    | _ => cases hd
  · cases h2
  · generalize hd : dkD kvs = d at h2
    cases h2 with
    | dki z =>
      cases dkD_inj hd
      exact ⟨a, rfl, h3, h4, z⟩
    | dkt z k => exact absurd hd dkt_ne
theorem valV_dk {kvs : List (Int × Int)} {k : Int} : valV (dkO kvs) (Sum.inl k : Key) = (dkGet kvs k).map V.int := by
  unfold valV dkO dkGet
  rw [List.find?_map, Option.map_map, Option.map_map]
  have e : ((fun kv : Key × V => decide (kv.1 = (Sum.inl k : Key))) ∘ fun p : Int × Int => ((Sum.inl p.1 : Key), V.int p.2)) = fun p => decide (p.1 = k) := by
    funext p
    simp
  rw [e]
  rfl
theorem putK_dk {kvs : List (Int × Int)} {k v : Int} : putK (dkO kvs) (Sum.inl k : Key) (.int v) = dkO (putI kvs k v) := by
  unfold putK putI dkO
  have e : ((kvs.map fun p => ((Sum.inl p.1 : Key), V.int p.2)).any fun kv => decide (kv.1 = (Sum.inl k : Key))) = kvs.any fun p => decide (p.1 = k) := by
    rw [List.any_map]
    congr 1
    funext p
    simp
  rw [e]
  by_cases h : (kvs.any fun p => decide (p.1 = k)) = true
  · rw [if_pos h, if_pos h, List.map_map, List.map_map]
    refine List.map_congr_left fun p _ => ?_
    by_cases h2 : p.1 = k
    · simp [h2]
    · simp [h2]
  · rw [if_neg h, if_neg h, List.map_append]
    rfl
theorem putI_len {kvs : List (Int × Int)} {k v : Int} : (putI kvs k v).length ≤ kvs.length + 1 := by
  unfold putI
  split
  · rw [List.length_map]; omega
  · rw [List.length_append]; simp
end
section
variable {X : Cx} {Wx : WX} {pos : Pos}
theorem vol_lst {c : Cf} {ρ : Ev} {σ : L2.St} {H : Hp} (e : EnvOk X.K c ρ σ H) : ∀ a, c.W.vol a → ∃ vs, H a = some (.lst vs) := fun a h => c.W.known _ H a e.inv h
theorem M.exi_run {α : Type} {p : α → Prop} {Q : α → Nat → Prop} {R : XV → Nat → Prop} {b : Nat} (h : (M.exi p).run Q R b) : ∃ a, p a ∧ Q a b := h
/-- {} as a dict of ints -/
theorem f_dkn : PFr X Wx (.Dict [] [] pos) fun _ => pure (dkD []) := pe_imp pe_dnewK fun σ H Q h => by
  obtain ⟨c, ρ, e, h⟩ := h
  exact fun a ha => h.2 a _ H (Ext.refl H) e.inv ha (.dic (.dki (kvs := []) (Nat.zero_le _)))
theorem s_dkn : PEr X Wx (.Dict [] [] pos) fun _ => pure (dkD []) := pe_imp pe_dnewK fun σ H Q h => by
  obtain ⟨c, ρ, e, h⟩ := h
  intro a ha
  obtain ⟨p1, p2, p3⟩ := e.vc.new (o := .dK []) ha
  exact h _ _ p1 p2 (.dci (kvs := []) upd_same p3 (Nat.zero_le _))
theorem f_dtn {j kk : Nat} {p1 p2 : Pos} (hu : X.A.units + 66 < cLine) : PFr X Wx (.Dict [some (.Tuple [] kk p1)] [.Constant (.bool true) j p2] pos) fun _ => pure (dtD [[]]) := pe_imp (pe_dtn hu) fun σ H Q h => by
  obtain ⟨c, ρ, e, h⟩ := h
  intro d t o hd ht hne ho
  obtain ⟨p1, p2, p3⟩ := e.vc.new (o := .frz o (.tup [])) ht
  refine h.2 d _ _ p1 p2 (by rw [upd_ne (Ne.symm hne)]; exact hd) (.dic (.dkt (xs := [([], t)]) (by show 1 ≤ sizeLine; rw [sizeLine_eq]; decide) fun x m => ?_))
  have ex : x = ([], t) := by simpa using m
  subst ex
  exact .inl ⟨⟨o, upd_same, ho⟩, p3⟩
theorem s_dtn {j kk : Nat} {p1 p2 : Pos} (hu : X.A.units + 66 < cLine) : PEr X Wx (.Dict [some (.Tuple [] kk p1)] [.Constant (.bool true) j p2] pos) fun _ => pure (dtD [[]]) := pe_imp (pe_dtn hu) fun σ H Q h => by
  obtain ⟨c, ρ, e, h⟩ := h
  intro d t o hd ht hne ho
  obtain ⟨p1, p2, p3⟩ := e.vc.new (o := .frz o (.tup [])) ht
  have e1 := e.ext' p1 p2
  have hd' : upd H t (.frz o (.tup [])) d = none := by rw [upd_ne (Ne.symm hne)]; exact hd
  obtain ⟨r1, r2, r3⟩ := e1.vc.new (o := .ext (DtP d [([], t)])) hd'
  refine h _ _ (p1.trans r1) r2 (.dct (xs := [([], t)]) upd_same r3 (by show 1 ≤ sizeLine; rw [sizeLine_eq]; decide) fun x m => ?_)
  have ex : x = ([], t) := by simpa using m
  subst ex
  exact .inl ⟨⟨o, by rw [upd_ne hne]; exact upd_same, ho⟩, p3⟩
/-- d.get(k, x) -/
theorem s_get2 {o x y : Expr} {eo e f : E} {apos cpos : Pos} (hu : X.A.units + 66 < cLine) (ho : PEb X Wx o (dE eo)) (hx : PEb X Wx x (dE e)) (hy : PEb X Wx y (dE f)) (s1 : notStar x = true) (s2 : notStar y = true) (hsup : notSup o = true) (hline : (apos.endLine == cpos.line) = true) :
    PEr X Wx (.Call (.Attribute o "get" apos) [x, y] [] cpos) (dE (.mt .get2 eo (.cons e (.cons f .nil)))) :=
  pe_imp (pe_dget2 (by omega) ho hx hy ⟨sup_ok hsup _ _ _, few_ok (by simp [s1, s2]) (by simp), hline, by rw [star_ok s1, star_ok s2]; rfl⟩) fun σ H Q q => by
    obtain ⟨c, ρ, ev, q⟩ := q
    refine ⟨c, ρ, ev, (dE eo ρ).mono (fun d b q v H1 x1 i1 rv => ?_) (fun _ _ w => w) q⟩
    obtain ⟨kvs, rfl, q⟩ := M.exi_run (R := XQ X.K X.mg Wx c ρ σ H) (show (M.exi fun kvs => d = dkD kvs).run _ (XQ X.K X.mg Wx c ρ σ H) b from q)
    have e1 := ev.ext' x1 i1
    obtain ⟨a, rfl, ha, nv, _⟩ := RepB.dk (vol_lst e1) rv
    refine ⟨a, rfl, .inl ⟨_, .inl ha⟩, _, ρ, e1, (dE e ρ).mono (fun d2 b2 q v2 H2 x2 i2 r2 => ?_) (fun _ _ w => XQ.later x1 w) q⟩
    have e2 := e1.ext' x2 i2
    refine ⟨_, ρ, e2, (dE f ρ).mono (fun d3 b3 q v3 H3 x3 i3 r3 => ?_) (fun _ _ w => XQ.later x2 (XQ.later x1 w)) q⟩
    have q2 : (mtD .get2 (dkD kvs) [d2, d3]).run (VQ X.K c.W (Nn c ρ σ) H Q) (XQ X.K X.mg Wx c ρ σ H) b3 := q
    clear q
    obtain ⟨k, z, rfl, rfl⟩ : ∃ k z, d2 = .int k ∧ d3 = .int z := by
      cases d2 <;> first
        | exact q2.elim
        | (cases d3 <;> first | exact q2.elim | exact ⟨_, _, rfl, rfl⟩)
    obtain ⟨kvs', e', q⟩ := M.exi_run (R := XQ X.K X.mg Wx c ρ σ H) (show (M.exi fun l => dkD kvs = dkD l).run _ (XQ X.K X.mg Wx c ρ σ H) b3 from q2)
    cases dkD_inj e'
    refine ⟨_, .inl ⟨_, Sum.inl k, .inl (x3 a _ nv (x2 a _ nv ha)), r2.int, rfl⟩, ?_⟩
    rw [valV_dk, r3.int]
    have e3 : ((dkGet kvs k).map V.int).getD (.int z) = .int ((dkGet kvs k).getD z) := by cases dkGet kvs k <;> rfl
    rw [e3]
    exact q _ H3 ((x1.trans x2).trans x3) i3 (.int _)
/-- d.get(k) -/
theorem s_get1 {o x : Expr} {eo e : E} {apos cpos : Pos} (hu : X.A.units + 66 < cLine) (ho : PEb X Wx o (dE eo)) (hx : PEb X Wx x (dE e)) (s1 : notStar x = true) (hsup : notSup o = true) (hline : (apos.endLine == cpos.line) = true) :
    PEr X Wx (.Call (.Attribute o "get" apos) [x] [] cpos) (dE (.mt .get1 eo (.cons e .nil))) :=
  pe_imp (pe_dget1 (by omega) ho hx ⟨sup_ok hsup _ _ _, few_ok (by simp [s1]) (by simp), hline, by rw [star_ok s1]; rfl⟩) fun σ H Q q => by
    obtain ⟨c, ρ, ev, q⟩ := q
    refine ⟨c, ρ, ev, (dE eo ρ).mono (fun d b q v H1 x1 i1 rv => ?_) (fun _ _ w => w) q⟩
    obtain ⟨kvs, rfl, q⟩ := M.exi_run (R := XQ X.K X.mg Wx c ρ σ H) (show (M.exi fun kvs => d = dkD kvs).run _ (XQ X.K X.mg Wx c ρ σ H) b from q)
    have e1 := ev.ext' x1 i1
    obtain ⟨a, rfl, ha, nv, _⟩ := RepB.dk (vol_lst e1) rv
    refine ⟨a, rfl, .inl ⟨_, .inl ha⟩, _, ρ, e1, (dE e ρ).mono (fun d2 b2 q v2 H2 x2 i2 r2 => ?_) (fun _ _ w => XQ.later x1 w) q⟩
    have q2 : (mtD .get1 (dkD kvs) [d2]).run (VQ X.K c.W (Nn c ρ σ) H Q) (XQ X.K X.mg Wx c ρ σ H) b2 := q
    clear q
    obtain ⟨k, rfl⟩ : ∃ k, d2 = .int k := by
      cases d2 <;> first
        | exact q2.elim
        | exact ⟨_, rfl⟩
    obtain ⟨kvs', e', q⟩ := M.exi_run (R := XQ X.K X.mg Wx c ρ σ H) (show (M.exi fun l => dkD kvs = dkD l).run _ (XQ X.K X.mg Wx c ρ σ H) b2 from q2)
    cases dkD_inj e'
    refine ⟨_, .inl ⟨_, Sum.inl k, .inl (x2 a _ nv ha), r2.int, rfl⟩, ?_⟩
    rw [valV_dk]
    have q : (pure (match dkGet kvs k with | some v => .int v | none => .none) : M D).run (VQ X.K c.W (Nn c ρ σ) H Q) (XQ X.K X.mg Wx c ρ σ H) b2 := q
    cases h : dkGet kvs k with
    | none =>
      rw [h] at q
      exact q _ H2 (x1.trans x2) i2 .non
    | some z =>
      rw [h] at q
      exact q _ H2 (x1.trans x2) i2 (.int z)
/-- a slot's own dict -/
theorem own_dk {c : Cf} {ρ : Ev} {σ : L2.St} {H : Hp} {w : Nat} {kvs : List (Int × Int)} (e : EnvOk X.K c ρ σ H) (h : ρ[w]? = some (some (dkD kvs, true))) : ∃ a, σ[w]? = some (some (V.ref a)) ∧ H a = some (.dK (dkO kvs)) ∧ kvs.length ≤ sizeLine := by
  obtain ⟨a, o, e2, e3, g, _⟩ := e.own w _ h
  generalize hd : dkD kvs = d at g
  cases g with
  | lst _ _ => cases hd
  | dic g =>
    cases g with
    | dki z =>
      cases dkD_inj hd
      exact ⟨a, e2, e3, z⟩
    | dkt z k => exact absurd hd dkt_ne
theorem own_dt {c : Cf} {ρ : Ev} {σ : L2.St} {H : Hp} {w : Nat} {ks : List (List Int)} (e : EnvOk X.K c ρ σ H) (h : ρ[w]? = some (some (dtD ks, true))) : ∃ a xs, σ[w]? = some (some (V.ref a)) ∧ H a = some (.ext (DtP a xs)) ∧ xs.length ≤ sizeLine ∧ (∀ x, x ∈ xs → TupN X.K (Nn c ρ σ) H x.2 (x.1.map V.int)) ∧ ks = xs.map (·.1) := by
  obtain ⟨a, o, e2, e3, g, _⟩ := e.own w _ h
  cases g with
  | dic g =>
    generalize hd : dtD ks = d at g
    cases g with
    | dki z => exact absurd hd.symm dkt_ne
    | dkt z k =>
      exact ⟨a, _, e2, e3, z, k, dtD_inj hd⟩
variable {w : Nat} {wn : Str} {wp : Pos}
theorem write_stepD {c : Cf} {ρ : Ev} {σ : L2.St} {H : Hp} {w : Nat} {a : Addr} {d d0 : D} {o : HO} (e : EnvOk X.K c ρ σ H) (hw : ρ[w]? = some (some (d, true))) (ha : σ[w]? = some (some (.ref a))) (l : OwnR X.K c.W (Nn c ρ σ) H a o d0) :
    EnvOk X.K c (ρ.set w (some (d0, true))) σ (upd H a o) ∧ Step c ρ σ H (ρ.set w (some (d0, true))) σ (upd H a o) := by
  obtain ⟨h1, h2⟩ := e.writeD hw ha l
  exact ⟨h1, h2, fun x z => .inl ((nn_setD hw x).mp z)⟩
/-- w[y] = x, w a dict of ints -/
theorem st_dput {x y : Expr} {m mi : TM D} {tpos : Pos} (hu : X.A.units + 66 < cLine) (n : NameW X w wn) (hx : PEr X Wx x m) (hy : PEr X Wx y mi) (hs : swapsWith x (some (.Subscript (.Name wn wp) y tpos)) pos.line X.env = pure false) :
    PSr X Wx (.Assign [.Subscript (.Name wn wp) y tpos] x pos) fun ρ => m ρ >>= fun d => asInt d >>= fun v => M.exi (fun kvs => ρ[w]? = some (some (dkD kvs, true))) >>= fun kvs => mi ρ >>= fun j => asInt j >>= fun k => M.grd (kvs.length < sizeLine) >>= fun _ => pure (.nx (ρ.set w (some (dkD (putI kvs k v), true)))) :=
  ps_imp (ps_dput (by omega) n.pe hy hx hs) fun D σ H q => by
    obtain ⟨c, ρ, e, q⟩ := q
    refine tE_in e q fun d b q v H1 x1 i1 r => ?_
    obtain ⟨i, rfl, q⟩ := asInt_run q
    obtain ⟨kvs, hk, q⟩ := M.exi_run (R := XS X.K X.mg Wx c) q
    cases r
    have e1 := e.ext' x1 i1
    obtain ⟨a, h1, h2, h3⟩ := own_dk e1 hk
    refine ⟨.ref a, h1, tE_in e1 q fun j b2 q u H2 x2 i2 ru => ?_⟩
    obtain ⟨k, rfl, q⟩ := asInt_run q
    obtain ⟨hl, q⟩ := q
    cases ru
    have e2 := e1.ext' x2 i2
    obtain ⟨a', h1', h2', _⟩ := own_dk e2 hk
    rw [h1] at h1'
    cases h1'
    obtain ⟨e3, s⟩ := write_stepD e2 hk h1 (.dic (.dki (kvs := putI kvs k i) (Nat.le_trans putI_len hl)))
    refine ⟨a, _, rfl, DPut.k (k := Sum.inl k) h2' (by unfold dkO; rw [List.length_map]; exact hl), ?_⟩
    rw [putK_dk]
    exact q _ _ ((Step.of_vol e (x1.trans x2)).trans s.un.un) e3
def rSetDt (K : PySem.W.Frag) : V → V → V → Hp → (Hp → Prop) → Prop := fun o i v H Q => ∃ (d b : Addr) (k : List Int) (xs : List (List Int × Addr)), o = .ref d ∧ i = .ref b ∧ v = .bl true ∧ H d = some (.ext (DtP d xs)) ∧ (∀ x, x ∈ xs → SqT K H x.2 (x.1.map V.int)) ∧ SqT K H b (k.map V.int) ∧ k ∉ xs.map (·.1) ∧ xs.length < sizeLine ∧ Q (upd H d (.ext (DtP d (xs ++ [(k, b)]))))
theorem set_dt (hu : X.A.units + 66 < cLine) : PSet X (rSetDt X.K) := by
  intro pins s σ H o i v ov iv u Q I ro ri rv h
  obtain ⟨d, b, k, xs, rfl, rfl, rfl, h1, h2, h3, h4, h5, q⟩ := h
  cases ro
  cases ri
  cases rv
  exact dt_set (by omega) I h1 h2 h3 h4 h5 fun s' J => ⟨_, J, q⟩
/-- w[y] = True, w a dict of tuples, y new -/
theorem st_dtput {x y : Expr} {mi : TM D} {tpos : Pos} (hu : X.A.units + 66 < cLine) (n : NameW X w wn) (hx : PEr X Wx x fun _ => pure (.bool true)) (hy : PEr X Wx y mi) (hns : notSlice y = true) (hs : swapsWithSole [.Subscript (.Name wn wp) y tpos] x pos.line X.env = pure false) (hw : swappedStores [.Subscript (.Name wn wp) y tpos] x X.env = pure none) :
    PSr X Wx (.Assign [.Subscript (.Name wn wp) y tpos] x pos) fun ρ => M.exi (fun ks => ρ[w]? = some (some (dtD ks, true))) >>= fun ks => mi ρ >>= fun d => M.exi (fun k => d = tupD k) >>= fun k => M.grd (k ∉ ks ∧ ks.length < sizeLine) >>= fun _ => pure (.nx (ρ.set w (some (dtD (ks ++ [k]), true)))) :=
  ps_imp (ps_asg hx (pg_sub n.pe hy (set_dt hu) fun v => by cases y <;> first | rfl | exact absurd hns (by simp [notSlice])) hs hw rfl) fun D σ H q => by
    obtain ⟨c, ρ, e, q⟩ := q
    obtain ⟨ks, hk, q⟩ := M.exi_run (R := XS X.K X.mg Wx c) q
    refine ⟨c, ρ, e, fun v H1 x1 i1 r => ?_⟩
    cases r
    have e1 := e.ext' x1 i1
    obtain ⟨a, xs, h1, h2, h3, h4, h5⟩ := own_dt e1 hk
    refine ⟨.ref a, h1, tE_in e1 q fun d b q u H2 x2 i2 ru => ?_⟩
    obtain ⟨k, ed0, q'⟩ := M.exi_run (R := XS X.K X.mg Wx c) q
    clear q
    subst ed0
    obtain ⟨⟨hn, hl⟩, q⟩ := q'
    have e2 := e1.ext' x2 i2
    obtain ⟨a', xs', h1', h2', h3', h4', h5'⟩ := own_dt e2 hk
    rw [h1] at h1'
    cases h1'
    subst h5'
    have hl : xs'.length < sizeLine := by simpa using hl
    obtain ⟨p, vs, rfl, g1, g2, _, l⟩ := RepB.tup (ds := k.map .int) (.inl ru)
    have ev : vs = k.map V.int := repL_int l
    subst ev
    obtain ⟨e3, s⟩ := write_stepD e2 hk h1 (.dic (.dkt (xs := xs' ++ [(k, p)]) (by rw [List.length_append]; exact hl) fun x m => by
      rcases List.mem_append.mp m with m | m
      · exact h4' x m
      · have ex : x = (k, p) := by simpa using m
        subst ex
        exact g2))
    refine ⟨a, p, k, xs', rfl, rfl, rfl, h2', fun x m => (h4' x m).sq, g1, hn, hl, ?_⟩
    have ed : dtD ((xs' ++ [(k, p)]).map (·.1)) = dtD (xs'.map (·.1) ++ [k]) := by rw [List.map_append]; rfl
    rw [ed] at e3 s
    exact q _ _ ((Step.of_vol e (x1.trans x2)).trans s.un.un) e3
end
end Ad
namespace Ad
open PySem PySem.Calls PySem.W PySem.SeqAt PySem.Spec PyProof.Rows L2

/-! ### d[k] of a def's own dict of ints -/
section
variable {X : Cx} {Wx : WX} {pos : Pos}
/-- d[k] -/
theorem s_geti {o x : Expr} {eo e : E} (hu : X.A.units + 66 < cLine) (ho : PEb X Wx o (dE eo)) (hx : PEb X Wx x (dE e)) (hs : notSlice x = true) :
    PEr X Wx (.Subscript o x pos) (dE (.mt .geti eo (.cons e .nil))) :=
  pe_imp (pe_dget (by omega) ho hx (fun _ _ => by cases x <;> first | rfl | exact absurd hs (by simp [notSlice]))) fun σ H Q q => by
    obtain ⟨c, ρ, ev, q⟩ := q
    refine ⟨c, ρ, ev, (dE eo ρ).mono (fun d b q v H1 x1 i1 rv => ?_) (fun _ _ w => w) q⟩
    obtain ⟨kvs, e0, q'⟩ := M.exi_run (R := XQ X.K X.mg Wx c ρ σ H) (show (M.exi fun kvs => d = dkD kvs).run _ (XQ X.K X.mg Wx c ρ σ H) b from q)
    subst e0
    have e1 := ev.ext' x1 i1
    obtain ⟨a, rfl, ha, nv, _⟩ := RepB.dk (vol_lst e1) rv
    refine ⟨_, ρ, e1, (dE e ρ).mono (fun d2 b2 q v2 H2 x2 i2 r2 => ?_) (fun _ _ w => XQ.later x1 w) q'⟩
    have q2 : (mtD .geti (dkD kvs) [d2]).run (VQ X.K c.W (Nn c ρ σ) H Q) (XQ X.K X.mg Wx c ρ σ H) b2 := q
    clear q q'
    obtain ⟨k, rfl⟩ : ∃ k, d2 = .int k := by
      cases d2 <;> first
        | exact q2.elim
        | exact ⟨_, rfl⟩
    obtain ⟨kvs', e', q⟩ := M.exi_run (R := XQ X.K X.mg Wx c ρ σ H) (show (M.exi fun l => dkD kvs = dkD l).run _ (XQ X.K X.mg Wx c ρ σ H) b2 from q2)
    cases dkD_inj e'
    have q : (oget (dkGet kvs k) >>= fun v => (pure (.int v) : M D)).run (VQ X.K c.W (Nn c ρ σ) H Q) (XQ X.K X.mg Wx c ρ σ H) b2 := q
    cases h : dkGet kvs k with
    | none =>
      rw [h] at q
      exact q.elim
    | some z =>
      rw [h] at q
      exact ⟨a, .int z, rfl, .inl ⟨_, Sum.inl k, .inl (x2 a _ nv ha), r2.int, by rw [valV_dk, h]; rfl⟩, q _ H2 (x1.trans x2) i2 (.int z)⟩
/-- lists within a list -/
theorem lists_run {xs : List D} {Q : List (List D) → Nat → Prop} {R : XV → Nat → Prop} {b : Nat} (h : (listsOf xs).run Q R b) : ∃ yss : List (List D), xs = yss.map .list ∧ Q yss b := by
  induction xs generalizing Q b with
  | nil => exact ⟨[], rfl, h⟩
  | cons x xs ih =>
    cases x with
    | list ys =>
      have h : (listsOf xs).run (fun zs b => Q (ys :: zs) b) R b := h
      obtain ⟨yss, rfl, q⟩ := ih h
      exact ⟨ys :: yss, rfl, q⟩
    | _ => exact h.elim
theorem rep_lists {K : PySem.W.Frag} {W : Wd} {N : Addr → Prop} {H : Hp} : ∀ {yss : List (List D)} {vs : List V}, RepL K W N H vs (yss.map .list) →
    ∃ (bs : List Addr) (ws : List (List V)), vs = bs.map V.ref ∧ bs.length = ws.length ∧ (∀ (i : Nat) (b : Addr), bs[i]? = some b → ∃ x, ws[i]? = some x ∧ H b = some (.lst x)) ∧ RepL K W N H ws.flatten yss.flatten ∧ bs.length = yss.length
  | [], _, h => by cases h; exact ⟨[], [], rfl, rfl, fun i b q => by simp at q, .nil, rfl⟩
  | ys :: yss, _, h => by
    cases h with
    | cons h1 h2 =>
      obtain ⟨bs, ws, e, l, q, r, n⟩ := rep_lists h2
      cases h1 with
      | lst g1 g2 g3 g4 =>
        rename_i a vs'
        refine ⟨a :: bs, vs' :: ws, by rw [e]; rfl, by simp [l], fun i b w => ?_, by rw [List.flatten_cons, List.flatten_cons]; exact g4.append r, by simp [n]⟩
        cases i with
        | zero =>
          obtain rfl : a = b := by simpa using w
          exact ⟨_, rfl, g1⟩
        | succ i => simpa using q i b (by simpa using w)
/-- sum(x, []) -/
theorem s_sumL {x : Expr} {e : E} {p p2 pos : Pos} (hc : X.calm = true) (hg : Gl X "sum") (hm : X.mg "sum" = none) (ha : PEb X Wx x (dE e)) (hs : notStar x = true) :
    PEr X Wx (.Call (.Name "sum" p) [x, .List [] p2] [] pos) (dE (.bi .sumL (.cons e .nil))) :=
  pe_imp (pe_callB (cr_sumL0 hc) hg hm PyProof.Rows.boot_sum (pa_cons ha (pa_cons (s_lst (Wx := Wx) (m := fun _ => pure []) s_nil (fun ρ Q R b q => ⟨Nat.zero_le _, q⟩)) pa_nil rfl) (star_ok hs _ _)) (by decide) (by decide) (star_ok hs _ _) rfl) fun σ H Q h => by
    obtain ⟨c, ρ, ev, h⟩ := h
    refine ⟨c, ρ, ev, (dE e ρ).mono (fun d b q v H1 x1 i1 rv => ?_) (fun _ _ z => z) h⟩
    have e1 := ev.ext' x1 i1
    refine ⟨_, ρ, e1, fun v2 H2 x2 i2 r2 => ?_⟩
    have e2 := e1.ext' x2 i2
    have q : (sumLD d).run (VQ X.K c.W (Nn c ρ σ) H Q) (XQ X.K X.mg Wx c ρ σ H) b := q
    have rv2 := rv.ext x2 e1.vc.bv
    cases d with
    | list xs =>
      have q : (listsOf xs).run (fun yss b => yss.flatten.length ≤ sizeLine ∧ VQ X.K c.W (Nn c ρ σ) H Q (.list yss.flatten) b) (XQ X.K X.mg Wx c ρ σ H) b := q
      obtain ⟨yss, rfl, hz, q⟩ := lists_run q
      obtain ⟨a, vs, rfl, h1, _, l⟩ := rv2.list
      obtain ⟨bs, ws, rfl, k1, k2, k3, k4⟩ := rep_lists l
      have r2' := r2
      cases r2 with
      | lst g1 g2 g3 g4 =>
        rename_i a2 vs2
        cases g4
        refine ⟨a, a2, bs, ws, rfl, h1, g1, k1, k2, by rw [k3.length]; exact hz, fun z => ?_, fun p hp => ?_⟩
        · subst z
          have : yss = [] := by
            cases yss with
            | nil => rfl
            | cons _ _ => cases k4
          subst this
          exact q _ H2 (x1.trans x2) i2 r2'
        · exact e2.vc.vlst k3 hz (fun v H' x' i' r => q v H' ((x1.trans x2).trans x') i' r) p hp
    | _ => exact q.elim
end
end Ad
namespace Ad
open PySem PySem.Calls PySem.W PySem.SeqAt PySem.Spec PyProof.Rows L2

/-! ### x.count(y), len(set(x)), set(x) != set(y), of texts -/
theorem mr_count {X : Cx} : MtR X "str.count" (rMtC X.K .count) := by
  intro pins s σ H x xs v us Q I rx rxs h
  obtain ⟨W, N, d, ds, R, b, c, rd, rds, h⟩ := h
  refine mt_count pins s σ H x xs v us Q I rx rxs ?_
  match d, ds, rd, rds, h with
  | .str a, [.str y], rd, rds, h =>
    obtain ⟨yv, rfl, ry⟩ := rds.one
    have e := rd.str
    subst e
    have e := ry.str
    subst e
    exact ⟨a, y, rfl, rfl, c.vint h⟩
  | .str a, [], rd, rds, h => exact h.elim
  | .str a, [.none], rd, rds, h => exact h.elim
  | .str a, [.bool _], rd, rds, h => exact h.elim
  | .str a, [.int _], rd, rds, h => exact h.elim
  | .str a, [.list _], rd, rds, h => exact h.elim
  | .str a, [.tuple _], rd, rds, h => exact h.elim
  | .str a, [.dict _], rd, rds, h => exact h.elim
  | .str a, y :: _ :: _, rd, rds, h => cases y <;> exact False.elim h
  | .none, _, _, _, h => exact h.elim
  | .bool _, _, _, _, h => exact h.elim
  | .int _, _, _, _, h => exact h.elim
  | .list _, _, _, _, h => exact h.elim
  | .tuple _, _, _, _, h => exact h.elim
  | .dict _, _, _, _, h => exact h.elim
section
variable {X : Cx} {Wx : WX} {pos : Pos}
theorem s_count {o y : Expr} {eo : E} {es : Es} {apos cpos : Pos} (ho : PEb X Wx o (dE eo)) (ha : PAb X Wx [y] (dEs es)) (hs : notStar y = true) (hsup : notSup o = true) (hline : (apos.endLine == cpos.line) = true) :
    PEr X Wx (.Call (.Attribute o "count" apos) [y] [] cpos) (dE (.mt .count eo es)) :=
  pe_imp (pe_bm PySem.F.plainAttrs_str PySem.F.slot_str_count PySem.F.type_str_count mr_count ho ha (sup_ok hsup _ _ _) (few_ok (by simp [hs]) (by simp)) hline (star_ok hs _ _) (star_any rfl _ _)) fun σ H Q q => by
    obtain ⟨c, ρ, ev, q⟩ := q
    refine ⟨c, ρ, ev, (dE eo ρ).mono (fun d b q v H1 x i rv => ?_) (fun _ _ w => w) q⟩
    have q : (mtG .count d >>= fun _ => dEs es ρ >>= fun ds => mtD .count d ds).run (VQ X.K c.W (Nn c ρ σ) H Q) (XQ X.K X.mg Wx c ρ σ H) b := q
    match d, rv, q with
    | .str z, rv, q =>
      have q : (dEs es ρ).run (fun ds => (mtD .count (.str z) ds).run (VQ X.K c.W (Nn c ρ σ) H Q) (XQ X.K X.mg Wx c ρ σ H)) (XQ X.K X.mg Wx c ρ σ H) b := q
      have e := rv.str
      subst e
      refine ⟨rfl, _, ρ, ev.ext' x i, (dEs es ρ).mono (fun ds _ q us H2 x2 i2 rs => ?_) (fun _ _ w => XQ.later x w) q⟩
      exact ⟨c.W, Nn c ρ σ, .str z, ds, _, _, ((ev.ext' x i).ext' x2 i2).vc, .inl (.str z), rs, (mtD .count (.str z) ds).mono (fun d _ q v H' x' i' r => q v H' ((x.trans x2).trans x') i' r) (fun _ _ w => w) q⟩
    | .list _, _, q => exact q.elim
    | .none, _, q => exact q.elim
    | .bool _, _, q => exact q.elim
    | .int _, _, q => exact q.elim
    | .tuple _, _, q => exact q.elim
    | .dict _, _, q => exact q.elim
/-- a list or a tuple of texts -/
theorem texts_of {K : PySem.W.Frag} {W : Wd} {N : Addr → Prop} {H : Hp} {v : V} {d : D} {xs : List D} {as : List Str} {Q : List Str → Nat → Prop} {R : XV → Nat → Prop} {b : Nat} (r : RepB K W N H v d) (h : (itemsOf d >>= fun xs => strsOf xs).run Q R b) :
    ∃ (a : Addr) (as : List Str), v = .ref a ∧ (d = .list (as.map .str) ∨ d = .tuple (as.map .str)) ∧ (SqL K H a (as.map V.str) ∨ SqT K H a (as.map V.str)) ∧ Q as b := by
  obtain ⟨ds, a, vs, q, rfl, z, l, hx⟩ := r.items h
  obtain ⟨ys, rfl, q'⟩ := strsOf_run q
  have e := l.strs
  subst e
  refine ⟨a, ys, rfl, hx.imp (fun z => z.1) fun z => z.1, hx.imp (fun z => SqL.of z.2) fun z => z.2.1, q'⟩
theorem once_str (xs : List Str) : (onceD (xs.map .str)).length = (once xs).length := by
  rw [once_enc (enc := PyData.str) fun x y => by
    show (x == y) = _
    rw [Bool.eq_iff_iff, beq_iff_eq, decide_eq_true_eq], List.length_map]
theorem s_lenSetS {x : Expr} {e : E} {p p2 pos2 : Pos} (hc : X.calm = true) (hu : X.A.units + 66 < cLine) (hg : Gl X "len") (hm : X.mg "len" = none) (hg2 : Gl X "set") (hm2 : X.mg "set" = none) (h : PEb X Wx x (dE e)) (hs : notStar x = true) :
    PEr X Wx (.Call (.Name "len" p) [.Call (.Name "set" p2) [x] [] pos2] [] pos) (dE (.bi .lenSetS (.cons e .nil))) :=
  pe_imp (pe_callB cr_lenTx hg hm PySem.boot_len (pa_cons (pe_callTy (cr_setTx hc hu) hg2 hm2 PyProof.Rows.boot_set (pa_cons h pa_nil (star_ok hs _ _)) (by decide) (by decide) (star_ok hs _ _) rfl) pa_nil rfl) (by decide) (by decide) rfl rfl) fun σ H Q q => by
    obtain ⟨c, ρ, ev, q⟩ := q
    refine ⟨c, ρ, ev, (dE e ρ).mono (fun d b q v H1 x i rv => ?_) (fun _ _ z => z) q⟩
    have q : (lenSetSD d).run (VQ X.K c.W (Nn c ρ σ) H Q) (XQ X.K X.mg Wx c ρ σ H) b := q
    have e1 := ev.ext' x i
    obtain ⟨ds, a, vs, q, rfl, z, l, hx⟩ := rv.items q
    obtain ⟨ys, rfl, hl, q⟩ := strsOf_run q
    have e := l.strs
    subst e
    refine ⟨a, ys, rfl, hx.imp (fun z => SqL.of z.2) fun z => z.2.1, hl, fun p hp => ⟨p, ys, rfl, upd_same, ?_⟩⟩
    obtain ⟨x2, i2, _⟩ := e1.vc.new (o := TxO X.prog X.w p ys) hp
    rw [← once_str]
    exact q _ _ (x.trans x2) i2 (.int _)
theorem s_setNe {x y : Expr} {e f : E} {p p2 pos2 pos3 : Pos} (hc : X.calm = true) (hu : X.A.units + 66 < cLine) (hg : Gl X "set") (hm : X.mg "set" = none) (h : PEb X Wx x (dE e)) (g : PEb X Wx y (dE f)) (hs : notStar x = true) (hs2 : notStar y = true) :
    PEr X Wx (.Compare (.Call (.Name "set" p) [x] [] pos2) [.NotEq] [.Call (.Name "set" p2) [y] [] pos3] pos) (dE (.mt .setNe e (.cons f .nil))) ∧ PTr X Wx (.Compare (.Call (.Name "set" p) [x] [] pos2) [.NotEq] [.Call (.Name "set" p2) [y] [] pos3] pos) (dE (.mt .setNe e (.cons f .nil))) := by
  have c1 := pe_callTy (p := p) (pos := pos2) (cr_setTx hc hu) hg hm PyProof.Rows.boot_set (pa_cons h pa_nil (star_ok hs _ _)) (by decide) (by decide) (star_ok hs _ _) rfl
  have c2 := pe_callTy (p := p2) (pos := pos3) (cr_setTx hc hu) hg hm PyProof.Rows.boot_set (pa_cons g pa_nil (star_ok hs2 _ _)) (by decide) (by decide) (star_ok hs2 _ _) rfl
  have key : ∀ (σ : L2.St) (H : Hp) (Q : VK), tE X.K X.mg Wx (dE (.mt .setNe e (.cons f .nil))) σ H Q → tOp (rNeTx X.prog X.w) (tCB (rSetTx X.K X.prog X.w) (tCons (tEB X.K X.mg Wx (dE e)) tNil)) (tCB (rSetTx X.K X.prog X.w) (tCons (tEB X.K X.mg Wx (dE f)) tNil)) σ H Q := fun σ H Q q => by
    obtain ⟨c, ρ, ev, q⟩ := q
    refine ⟨c, ρ, ev, (dE e ρ).mono (fun d b q v H1 x1 i1 rv => ?_) (fun _ _ z => z) q⟩
    have q : (itemsOf d >>= fun xs => strsOf xs >>= fun a => M.grd (a.length < 4000) >>= fun _ => dEs (.cons f .nil) ρ >>= fun ds => mtD .setNe d ds).run (VQ X.K c.W (Nn c ρ σ) H Q) (XQ X.K X.mg Wx c ρ σ H) b := q
    have e1 := ev.ext' x1 i1
    obtain ⟨ds, a, vs, q, rfl, z, l, hx⟩ := rv.items q
    obtain ⟨ys, rfl, hl, q⟩ := strsOf_run q
    have ee := l.strs
    subst ee
    refine ⟨a, ys, rfl, hx.imp (fun z => SqL.of z.2) fun z => z.2.1, hl, fun p hp => ?_⟩
    obtain ⟨x2, i2, n2⟩ := e1.vc.new (o := TxO X.prog X.w p ys) hp
    have e2 := e1.ext' x2 i2
    refine ⟨_, ρ, e2, (dE f ρ).mono (fun d2 b2 q v2 H2 x3 i3 rv2 => ?_) (fun _ _ w => XQ.later x2 (XQ.later x1 w)) q⟩
    have e3 := e2.ext' x3 i3
    have q : (itemsOf d >>= fun xs => itemsOf d2 >>= fun ys => strsOf xs >>= fun a => strsOf ys >>= fun b => M.grd (a.length < 4000 ∧ b.length < 4000) >>= fun _ => (pure (.bool (!sameS a b)) : M D)).run (VQ X.K c.W (Nn c ρ σ) H Q) (XQ X.K X.mg Wx c ρ σ H) b2 := q
    have ed : ∀ {T : List D → Nat → Prop} {R : XV → Nat → Prop} {b : Nat}, (itemsOf d).run T R b → T (ys.map .str) b := fun h => by
      rcases hx with ⟨rfl, _⟩ | ⟨rfl, _⟩
      · exact h
      · exact h
    have q := ed q
    obtain ⟨ds2, a2, vs2, q, rfl, z2, l2, hx2⟩ := rv2.items q
    have es : ∀ (zs : List Str), strsOf (zs.map .str) = pure zs := fun zs => by
      induction zs with
      | nil => rfl
      | cons w zs ih =>
        show (strsOf (zs.map .str) >>= fun r => (pure (w :: r) : M (List Str))) = _
        rw [ih]
        rfl
    have q : (strsOf (ys.map .str) >>= fun a => strsOf ds2 >>= fun b => M.grd (a.length < 4000 ∧ b.length < 4000) >>= fun _ => (pure (.bool (!sameS a b)) : M D)).run (VQ X.K c.W (Nn c ρ σ) H Q) (XQ X.K X.mg Wx c ρ σ H) b2 := q
    rw [es, M.pb] at q
    obtain ⟨zs, rfl, ⟨_, hl2⟩, q⟩ := strsOf_run q
    have ee := l2.strs
    subst ee
    refine ⟨a2, zs, rfl, hx2.imp (fun z => SqL.of z.2) fun z => z.2.1, hl2, fun p' hp' => ?_⟩
    obtain ⟨x4, i4, n4⟩ := e3.vc.new (o := TxO X.prog X.w p' zs) hp'
    have at1 : H2 p = some (TxO X.prog X.w p ys) := x3 p _ (fun z => n2 (e1.vc.bv _ z)) upd_same
    refine ⟨p, p', ys, zs, rfl, rfl, ?_, upd_same, q _ _ (((x1.trans x2).trans x3).trans x4) i4 (.bl _)⟩
    rw [upd_ne (ne_of_none at1 hp')]
    exact at1
  have mk : behindInMarks .NotEq (.Call (.Name "set" p2) [y] [] pos3) = false := set_ok rfl _
  exact ⟨pe_imp (pe_cmpR (or_neTx hu) c1 c2 mk) key, pt_imp (pt_cmpR (or_neTx hu) c1 c2 mk) fun σ H Q q => key σ H _ (tE_of_T q)⟩
end
end Ad
namespace Ad
open PySem PySem.Calls PySem.W PySem.SeqAt PySem.Spec PyProof.Rows L2

section
variable (P : Str → (List D → M D) → Prop) (G : Str → D → Prop)
mutual
/-- what is called, what is read of the top level -/
def cE : E → Prop
  | .v _ => True
  | .w _ => True
  | .k _ => True
  | .g nm d => G nm d
  | .tup es => cEs es
  | .lst es => cEs es
  | .dic => True
  | .dkn => True
  | .dtn => True
  | .bin _ a b => cE a ∧ cE b
  | .neg a => cE a
  | .not a => cE a
  | .and a b => cE a ∧ cE b
  | .or a b => cE a ∧ cE b
  | .cmp _ a b => cE a ∧ cE b
  | .cmp2 _ _ a b c => cE a ∧ cE b ∧ cE c
  | .ife c a b => cE c ∧ cE a ∧ cE b
  | .ix a i => cE a ∧ cE i
  | .sl _ a b => cE a ∧ cE b
  | .rev a => cE a
  | .lc _ _ it t e => cE it ∧ cE t ∧ cE e
  | .call nm f es => P nm f ∧ cEs es
  | .callB nm f es => P nm f ∧ cEs es
  | .bi _ es => cEs es
  | .mt _ o es => cE o ∧ cEs es
  | .vlen _ => True
  | .vg _ e => cE e
  | .mkx nm tbl ks es => G nm (clsD nm tbl ks) ∧ cEs es
  | .fld _ e => cE e
  | .xis nm own e => ((own = true ∧ ∃ tbl ks, G nm (clsD nm tbl ks)) ∨ (own = false ∧ nm ∈ bltNames ∧ ∃ T, bootBuiltins nm = some (.type T))) ∧ cE e
def cEs : Es → Prop
  | .nil => True
  | .cons e es => cE e ∧ cEs es
end
end
section
variable {P : Str → (List D → M D) → Prop} {G : Str → D → Prop}
structure Snd (X : Cx) (Wx : WX) (x : Expr) (e : E) : Prop where
  b : PEb X Wx x (dE e)
  r : nw e = true → PEr X Wx x (dE e)
  t : nw e = true → tst x = true → PTr X Wx x (dE e)
  w : nw e = true → isBO x = true → PWr X Wx x (dE e)
def SndAll (X : Cx) (Wx : WX) : List Expr → Es → Prop
  | x :: xs, .cons e es => Snd X Wx x e ∧ SndAll X Wx xs es
  | _, _ => True
structure Snds (X : Cx) (Wx : WX) (xs : List Expr) (es : Es) : Prop where
  b : PAb X Wx xs (dEs es)
  r : nwAll es = true → PAr X Wx xs (dEs es)
  ns : xs.all notStar = true
  all : SndAll X Wx xs es
  len : lenEs es = xs.length
/-- may be walked by a for -/
def nwI : E → Bool
  | .bi .enum (.cons e .nil) => nw e
  | .w _ => false
  | _ => true
structure SndI (X : Cx) (Wx : WX) (tgx x : Expr) (e : E) : Prop where
  b : PIr X Wx tgx x true fun ρ => dE e ρ >>= walked
  r : nwI e = true → PIr X Wx tgx x false fun ρ => dE e ρ >>= walked
theorem Snd.of {X : Cx} {Wx : WX} {x : Expr} {e : E} (h : PEr X Wx x (dE e)) (p : plainE x = true) : Snd X Wx x e :=
  ⟨b_of h, fun _ => h, fun _ _ => t_of h (plain_ok p X.env), fun _ q => by
    unfold isBO at q
    split at q
    · cases p
    · cases q⟩
theorem dEs_len : ∀ (es : Es) (ρ : Ev) (Q : List D → Nat → Prop) (R : XV → Nat → Prop) (b : Nat), (dEs es ρ).run Q R b → (dEs es ρ).run (fun ds b => ds.length = lenEs es ∧ Q ds b) R b
  | .nil, _, _, _, _, h => ⟨rfl, h⟩
  | .cons e es, ρ, Q, R, b, h => (dE e ρ).mono (fun d _ q => (dEs es ρ).mono (fun ds _ q => ⟨by rw [List.length_cons, q.1]; rfl, q.2⟩) (fun _ _ z => z) (dEs_len es ρ _ _ _ q)) (fun _ _ z => z) h
theorem few_of {es : Es} (h : lenEs es ≤ 1000) : Few (dEs es) := fun ρ Q R b q => (dEs es ρ).mono (fun ds _ q => ⟨by rw [q.1, sizeLine_eq]; omega, q.2⟩) (fun _ _ z => z) (dEs_len es ρ Q R b q)
variable {X : Cx} {Wx : WX} {cc : Cc}
/-- a built-in by its name -/
theorem bi_snd (c : CtxOk P G X Wx cc) {b : Bi} {nm : Str × Bool} {g : Str} {p pos : Pos} {x : Expr} {xs : List Expr} {es : Es} (hb : biName b = some nm) (hg : glB cc g = true) (e : g = nm.1) (h : Snds X Wx (x :: xs) es) : PEr X Wx (.Call (.Name g p) (x :: xs) [] pos) (dE (.bi b es)) := by
  subst e
  obtain ⟨hgl, hd⟩ := c.gl hg
  have hns := h.ns
  simp only [List.all_cons, Bool.and_eq_true] at hns
  have he := star_ok hns.1 xs X.env
  have hp := star_any hns.2 pos X.env
  cases b <;> simp only [biName, Option.some.injEq, reduceCtorEq] at hb <;> subst hb
  · exact s_biF cr_len hgl (c.mg _ (by decide)) boot_len h.b (by decide) hd he hp
  · exact s_biT cr_tuple hgl (c.mg _ (by decide)) PyProof.Rows.boot_tuple h.b (by decide) hd he hp
  · exact s_biT cr_list hgl (c.mg _ (by decide)) PyProof.Rows.boot_list h.b (by decide) hd he hp
  · exact s_biT cr_int1 hgl (c.mg _ (by decide)) PyProof.Rows.boot_int h.b (by decide) hd he hp
  · exact s_biT cr_str1 hgl (c.mg _ (by decide)) PyProof.Rows.boot_str h.b (by decide) hd he hp
  · exact s_biF (cr_min1 c.un c.calm) hgl (c.mg _ (by decide)) PyProof.Rows.boot_min h.b (by decide) hd he hp
  · exact s_biF (cr_min2 c.calm) hgl (c.mg _ (by decide)) PyProof.Rows.boot_min h.b (by decide) hd he hp
  · exact s_biF (cr_max1 c.un c.calm) hgl (c.mg _ (by decide)) PyProof.Rows.boot_max h.b (by decide) hd he hp
  · exact s_biF (cr_max2 c.calm) hgl (c.mg _ (by decide)) PyProof.Rows.boot_max h.b (by decide) hd he hp
  · exact s_biF (cr_sorted c.un) hgl (c.mg _ (by decide)) PyProof.Rows.boot_sorted h.b (by decide) hd he hp
  · exact s_biF (cr_reprD c.un c.grd c.sys) hgl (c.mg _ (by decide)) PyProof.Rows.boot_repr h.b (by decide) hd he hp
theorem on1_one {e : E} {f : D → M D} {ρ : Ev} : (dEs (.cons e .nil) ρ >>= on1 f) = (dE e ρ >>= f) := rfl
theorem isa_snd (c : CtxOk P G X Wx cc) {b : Bi} {ty : String} {p p2 pos : Pos} {g t : Str} {x : Expr} {e : E} (hb : isaName b = some ty) (hg : glB cc g = true) (eg : g = "isinstance") (ht : glB cc t = true) (et : t = Str.ofString ty) (h : PEb X Wx x (dE e)) (hs : notStar x = true) : PEr X Wx (.Call (.Name g p) [x, .Name t p2] [] pos) (dE (.bi b (.cons e .nil))) := by
  subst eg
  subst et
  obtain ⟨hgl, hd⟩ := c.gl hg
  obtain ⟨htl, htd⟩ := c.gl ht
  cases b <;> simp only [isaName, Option.some.injEq, reduceCtorEq] at hb <;> subst hb
  · exact s_isa (cr_isaC cr_isInt) hgl (c.mg _ (by decide)) boot_isinstance htl (c.mg _ (by decide)) PyProof.Rows.boot_int (by decide) htd h (star_ok hs _ _)
  · exact s_isa (cr_isaC cr_isBool) hgl (c.mg _ (by decide)) boot_isinstance htl (c.mg _ (by decide)) PyProof.Rows.boot_bool (by decide) htd h (star_ok hs _ _)
  · exact s_isa (cr_isaC cr_isStr) hgl (c.mg _ (by decide)) boot_isinstance htl (c.mg _ (by decide)) PyProof.Rows.boot_str (by decide) htd h (star_ok hs _ _)
  · exact s_isa (cr_isaC cr_isTuple) hgl (c.mg _ (by decide)) boot_isinstance htl (c.mg _ (by decide)) PyProof.Rows.boot_tuple (by decide) htd h (star_ok hs _ _)
  · exact s_isa (cr_isaC cr_isList) hgl (c.mg _ (by decide)) boot_isinstance htl (c.mg _ (by decide)) PyProof.Rows.boot_list (by decide) htd h (star_ok hs _ _)
/-! ### within a comprehension -/
theorem relabel_eq {scope : Scope} {env : PySem.Env} (hk : env.scope.kind = .function) {sc : List (Str × NameKind)} (hs : env.scope.names = sc) : (relabel scope env).names = relB scope.names sc := by
  unfold relabel relB
  subst hs
  simp only [hk]
  refine congrArg (fun f => List.map f scope.names) (funext fun y => ?_)
  have e : (ScopeKind.function == ScopeKind.function) = true := rfl
  rw [e, Bool.and_true]
  rfl
theorem CtxOk.blk (c : CtxOk P G X Wx cc) (scope : Scope) (hk : scope.kind = .function) (s : Shared) (H : Hp) (C : Addr) (cl : List (Str × Addr)) (fp : List Addr) : CtxOk P G (X.blk s H scope (compEnvC scope cl C X.env) fp) noX (cc.blk scope) where
  N := c.N
  nd := c.nd
  sc := relabel_eq c.kind c.sc
  kind := hk
  fn := fun x h => by
    show (scope.names.lookup x == some .cell) = true
    have h : x ∈ (scope.names.filter fun y => scope.names.lookup y.1 == some .cell).map (·.1) := by simpa [Cc.blk] using h
    obtain ⟨y, hy, rfl⟩ := List.mem_map.mp h
    exact (List.mem_filter.mp hy).2
  calm := c.calm
  tk := takes_none5
  grd := c.grd
  un := c.un
  mg := c.mg
  sys := c.sys
  call := c.call
  glob := c.glob
  rm := c.rm
theorem blkOk_of (c : CtxOk P G X Wx cc) {scope : Scope} {own : List (Str × Nat)} (h : blkC cc.N (scOf cc.sc) scope own = true) : BlkOk X.N X.env.scope scope own := by
  have q := blkOk_by h
  exact { kind := q.kind, uniq := q.uniq, ix := fun p hp => by rw [c.N]; exact q.ix p hp, free := fun y hy e => by rw [c.sc]; exact q.free y hy e, own := fun y hy e => by rw [c.N]; exact q.own y hy e }
theorem ownP_map {cc : Cc} (own : List Nat) : (ownP cc own).map (·.2) = own := by
  unfold ownP
  rw [List.map_map]
  exact List.map_id own
theorem slots_of {own : List Nat} {tg : Tg} (h : slotsIn own tg = true) : ∀ i, i ∈ tg.slots → i ∈ own := fun i hi => by
  have := List.all_eq_true.mp h i hi
  simpa using this
theorem pts_yes {t : E} (ht : isTrueC t = true) : PTs X [] (tT X.K X.mg noX (dE t)) := by
  unfold isTrueC at ht
  split at ht
  · exact ⟨fun pins s σ H Q I h => pts_nil.run pins s σ H Q I (by
      obtain ⟨c, ρ, e, b, eb, q⟩ := h
      cases eb
      exact q H (Ext.refl H) e.inv)⟩
  · cases ht
theorem pts_of {t : E} {x : Expr} (h : PTr X noX x (dE t)) : PTs X [x] (tT X.K X.mg noX (dE t)) := pts_one h

theorem pack {e : E} {x : Expr} (hn : nwI e = nw e) (hI : ∀ tgx, mI cc e x tgx = mE cc e x) (h : mE cc e x = true → Snd X Wx x e) : (mE cc e x = true → Snd X Wx x e) ∧ ∀ tgx, mI cc e x tgx = true → SndI X Wx tgx x e :=
  ⟨h, fun tgx q => by
    rw [hI] at q
    exact ⟨s_iterB (h q).b, fun w => s_iter ((h q).r (by rw [← hn]; exact w))⟩⟩
/-! list(range(n)), tuple(range(n)) -/
theorem rgV_rep {K : PySem.W.Frag} {W : Wd} {N : Addr → Prop} {H : Hp} (a b : Int) : RepL K W N H (rgV a b) (rangeD a b) := by
  unfold rgV rangeD
  generalize List.range (b - a).toNat = l
  induction l with
  | nil => exact .nil
  | cons x xs ih => exact .cons (.int _) ih
theorem rangeD_length (a b : Int) : (rangeD a b).length = (b - a).toNat := by unfold rangeD; rw [List.length_map, List.length_range]
theorem rg_fits {a b : Int} (h : RgOk a b) : (rangeD a b).length ≤ sizeLine := by
  rw [rangeD_length, sizeLine_eq]
  have := h.2.2.2.2
  omega
theorem s_listRg {x : Expr} {e : E} {p p2 pos pos2 : Pos} (hc : X.calm = true) (hg : Gl X "list") (hm : X.mg "list" = none) (hg2 : Gl X "range") (hm2 : X.mg "range" = none) (h : PEb X Wx x (dE e)) (hs : notStar x = true) : PEr X Wx (.Call (.Name "list" p) [.Call (.Name "range" p2) [x] [] pos2] [] pos) (dE (.bi .listRange (.cons e .nil))) :=
  pe_imp (pe_listRg hc hg hm (prg_1 hg2 hm2 h (star_ok hs _ _)) (star_ok rfl _ _)) fun σ H Q q => by
    obtain ⟨c, ρ, ev, q⟩ := q
    refine ⟨c, ρ, ev, (dE e ρ).mono (fun d _ q v H1 x i rv => ?_) (fun _ _ z => z) q⟩
    have q : (asInt d).run (fun j b => RgOk 0 j ∧ VQ X.K c.W (Nn c ρ σ) H Q (.list (rangeD 0 j)) b) (XQ X.K X.mg Wx c ρ σ H) _ := q
    obtain ⟨j, rfl, q1, q2⟩ := asInt_run q
    refine ⟨j, rv.int, q1, (ev.ext' x i).vc.vlst (rgV_rep 0 j) (rg_fits q1) fun v H' x' i' r => q2 v H' (x.trans x') i' r⟩
theorem f_listRg {x : Expr} {e : E} {p p2 pos pos2 : Pos} (hc : X.calm = true) (hg : Gl X "list") (hm : X.mg "list" = none) (hg2 : Gl X "range") (hm2 : X.mg "range" = none) (h : PEb X Wx x (dE e)) (hs : notStar x = true) : PFr X Wx (.Call (.Name "list" p) [.Call (.Name "range" p2) [x] [] pos2] [] pos) (dE (.bi .listRange (.cons e .nil))) :=
  pe_imp (pe_listRg hc hg hm (prg_1 hg2 hm2 h (star_ok hs _ _)) (star_ok rfl _ _)) fun σ H Q q => by
    obtain ⟨c, ρ, ev, q⟩ := q
    refine ⟨c, ρ, ev, (dE e ρ).mono (fun d _ q v H1 x i rv => ?_) (fun _ _ z => z) q⟩
    have q : (asInt d).run (fun j b => RgOk 0 j ∧ FQ X.K c ρ σ H Q (.list (rangeD 0 j)) b) (XQ X.K X.mg Wx c ρ σ H) _ := q
    obtain ⟨j, rfl, q1, _, q2⟩ := asInt_run q
    exact ⟨j, rv.int, q1, fun a ha => q2 a _ H1 x i ha (.lst (rg_fits q1) (rgV_rep 0 j))⟩
theorem s_tupRg {x : Expr} {e : E} {p p2 pos pos2 : Pos} (hc : X.calm = true) (hg : Gl X "tuple") (hm : X.mg "tuple" = none) (hg2 : Gl X "range") (hm2 : X.mg "range" = none) (h : PEb X Wx x (dE e)) (hs : notStar x = true) : PEr X Wx (.Call (.Name "tuple" p) [.Call (.Name "range" p2) [x] [] pos2] [] pos) (dE (.bi .tupRange1 (.cons e .nil))) :=
  pe_imp (pe_tupRgS hc hg hm (prg_1 hg2 hm2 h (star_ok hs _ _)) (star_ok rfl _ _)) fun σ H Q q => by
    obtain ⟨c, ρ, ev, q⟩ := q
    refine ⟨c, ρ, ev, (dE e ρ).mono (fun d _ q v H1 x i rv => ?_) (fun _ _ z => z) q⟩
    have q : (asInt d).run (fun j b => RgOk 0 j ∧ VQ X.K c.W (Nn c ρ σ) H Q (.tuple (rangeD 0 j)) b) (XQ X.K X.mg Wx c ρ σ H) _ := q
    obtain ⟨j, rfl, q1, q2⟩ := asInt_run q
    refine ⟨j, rv.int, q1, (ev.ext' x i).vc.vtup (rgV_rep 0 j) (rg_fits q1) fun v H' x' i' r => q2 v H' (x.trans x') i' r⟩
theorem s_sortSet {x : Expr} {e : E} {p p2 pos pos2 : Pos} (hc : X.calm = true) (hu : X.A.units + 66 < cLine) (hg : Gl X "sorted") (hm : X.mg "sorted" = none) (hg2 : Gl X "set") (hm2 : X.mg "set" = none) (h : PEb X Wx x (dE e)) (hs : notStar x = true) : PEr X Wx (.Call (.Name "sorted" p) [.Call (.Name "set" p2) [x] [] pos2] [] pos) (dE (.bi .sortedSet (.cons e .nil))) :=
  pe_imp (pe_sortSet hc hu hg hm hg2 hm2 h (star_ok hs _ _)) fun σ H Q q => by
    obtain ⟨c, ρ, ev, q⟩ := q
    refine ⟨c, ρ, ev, (dE e ρ).mono (fun d _ q v H1 x i rv => ?_) (fun _ _ z => z) q⟩
    have q : (itemsOf d >>= fun xs => M.grd (sortable xs ∧ setOk xs) >>= fun _ => M.anyPerm (onceD xs) >>= fun ys => (pure (.list (sortD ys)) : M D)).run (VQ X.K c.W (Nn c ρ σ) H Q) (XQ X.K X.mg Wx c ρ σ H) _ := q
    obtain ⟨ds, a, vs, ⟨⟨hk, ok⟩, q⟩, rfl, z, l, hx⟩ := rv.items q
    refine ⟨c.W, Nn c ρ σ, ds, ⟨a, vs, d, rfl, l, hx.imp (fun g => ⟨g.1, SqL.of g.2⟩) fun g => ⟨g.1, g.2.1⟩, ok⟩, hk, fun p ws cs hp pm l2 len => ?_⟩
    exact (ev.ext' x i).vc.vlst l2 (by unfold sortD; rw [List.length_mergeSort]; exact len) (fun v H' x' i' r => q cs pm v H' (x.trans x') i' r) p hp
theorem f_sortSet {x : Expr} {e : E} {p p2 pos pos2 : Pos} (hc : X.calm = true) (hu : X.A.units + 66 < cLine) (hg : Gl X "sorted") (hm : X.mg "sorted" = none) (hg2 : Gl X "set") (hm2 : X.mg "set" = none) (h : PEb X Wx x (dE e)) (hs : notStar x = true) : PFr X Wx (.Call (.Name "sorted" p) [.Call (.Name "set" p2) [x] [] pos2] [] pos) (dE (.bi .sortedSet (.cons e .nil))) :=
  pe_imp (pe_sortSet hc hu hg hm hg2 hm2 h (star_ok hs _ _)) fun σ H Q q => by
    obtain ⟨c, ρ, ev, q⟩ := q
    refine ⟨c, ρ, ev, (dE e ρ).mono (fun d _ q v H1 x i rv => ?_) (fun _ _ z => z) q⟩
    have q : (itemsOf d >>= fun xs => M.grd (sortable xs ∧ setOk xs) >>= fun _ => M.anyPerm (onceD xs) >>= fun ys => (pure (.list (sortD ys)) : M D)).run (FQ X.K c ρ σ H Q) (XQ X.K X.mg Wx c ρ σ H) _ := q
    obtain ⟨ds, a, vs, ⟨⟨hk, ok⟩, q⟩, rfl, z, l, hx⟩ := rv.items q
    refine ⟨c.W, Nn c ρ σ, ds, ⟨a, vs, d, rfl, l, hx.imp (fun g => ⟨g.1, SqL.of g.2⟩) fun g => ⟨g.1, g.2.1⟩, ok⟩, hk, fun p ws cs hp pm l2 len => ?_⟩
    obtain ⟨_, q2⟩ := q cs pm
    exact q2 p _ H1 x i hp (.lst (by unfold sortD; rw [List.length_mergeSort]; exact len) l2)
theorem s_lenSet {x : Expr} {e : E} {p p2 pos pos2 : Pos} (hc : X.calm = true) (hu : X.A.units + 66 < cLine) (hg : Gl X "len") (hm : X.mg "len" = none) (hg2 : Gl X "set") (hm2 : X.mg "set" = none) (h : PEb X Wx x (dE e)) (hs : notStar x = true) : PEr X Wx (.Call (.Name "len" p) [.Call (.Name "set" p2) [x] [] pos2] [] pos) (dE (.bi .lenSet (.cons e .nil))) :=
  pe_imp (pe_lenSet hc hu hg hm hg2 hm2 h (star_ok hs _ _)) fun σ H Q q => by
    obtain ⟨c, ρ, ev, q⟩ := q
    refine ⟨c, ρ, ev, (dE e ρ).mono (fun d _ q v H1 x i rv => ?_) (fun _ _ z => z) q⟩
    have q : (itemsOf d >>= fun xs => M.grd (setOkL xs) >>= fun _ => (pure (.int (onceD xs).length) : M D)).run (VQ X.K c.W (Nn c ρ σ) H Q) (XQ X.K X.mg Wx c ρ σ H) _ := q
    obtain ⟨ds, a, vs, ⟨ok, q⟩, rfl, z, l, hx⟩ := rv.items q
    exact ⟨c.W, Nn c ρ σ, ds, ⟨a, vs, d, rfl, l, hx.imp (fun g => ⟨g.1, SqL.of g.2⟩) fun g => ⟨g.1, g.2.1⟩, ok⟩, (ev.ext' x i).vc.vint fun v H' x' i' r => q v H' (x.trans x') i' r⟩
/-- "..".join(x) -/
theorem s_join {o y : Expr} {z : Str} {es : Es} {apos cpos : Pos} (ho : PEr X Wx o fun _ => pure (.str z)) (ha : PAb X Wx [y] (dEs es)) (hs : notStar y = true) (hsup : notSup o = true) (hline : (apos.endLine == cpos.line) = true) :
    PEr X Wx (.Call (.Attribute o "join" apos) [y] [] cpos) (dE (.mt .join (.k (.str z)) es)) :=
  pe_imp (pe_bm PySem.F.plainAttrs_str PySem.F.slot_str_join PySem.F.type_str_join mr_join ho ha (sup_ok hsup _ _ _) (few_ok (by simp [hs]) (by simp)) hline (star_ok hs _ _) (star_any rfl _ _)) fun σ H Q q => by
    obtain ⟨c, ρ, ev, q⟩ := q
    have q : (dEs es ρ).run (fun ds => (mtD .join (.str z) ds).run (VQ X.K c.W (Nn c ρ σ) H Q) (XQ X.K X.mg Wx c ρ σ H)) (XQ X.K X.mg Wx c ρ σ H) _ := q
    refine ⟨c, ρ, ev, fun v H1 x i rv => ?_⟩
    cases rv
    refine ⟨rfl, _, ρ, ev.ext' x i, (dEs es ρ).mono (fun ds _ q vs H2 x2 i2 rs => ?_) (fun _ _ w => XQ.later x w) q⟩
    exact ⟨c.W, Nn c ρ σ, .str z, ds, _, _, ((ev.ext' x i).ext' x2 i2).vc, .inl (.str z), rs, (mtD .join (.str z) ds).mono (fun d _ q v H' x' i' r => q v H' ((x.trans x2).trans x') i' r) (fun _ _ w => w) q⟩
/-- x.split(y), x a text -/
theorem s_split {o y : Expr} {eo : E} {es : Es} {apos cpos : Pos} (ho : PEb X Wx o (dE eo)) (ha : PAb X Wx [y] (dEs es)) (hs : notStar y = true) (hsup : notSup o = true) (hline : (apos.endLine == cpos.line) = true) :
    PEr X Wx (.Call (.Attribute o "split" apos) [y] [] cpos) (dE (.mt .split eo es)) :=
  pe_imp (pe_bm PySem.F.plainAttrs_str PySem.F.slot_str_split PySem.F.type_str_split mr_split ho ha (sup_ok hsup _ _ _) (few_ok (by simp [hs]) (by simp)) hline (star_ok hs _ _) (star_any rfl _ _)) fun σ H Q q => by
    obtain ⟨c, ρ, ev, q⟩ := q
    refine ⟨c, ρ, ev, (dE eo ρ).mono (fun d b q v H1 x i rv => ?_) (fun _ _ w => w) q⟩
    have q : (mtG .split d >>= fun _ => dEs es ρ >>= fun ds => mtD .split d ds).run (VQ X.K c.W (Nn c ρ σ) H Q) (XQ X.K X.mg Wx c ρ σ H) b := q
    match d, rv, q with
    | .str z, rv, q =>
      have q : (dEs es ρ).run (fun ds => (mtD .split (.str z) ds).run (VQ X.K c.W (Nn c ρ σ) H Q) (XQ X.K X.mg Wx c ρ σ H)) (XQ X.K X.mg Wx c ρ σ H) b := q
      have e := rv.str
      subst e
      refine ⟨rfl, _, ρ, ev.ext' x i, (dEs es ρ).mono (fun ds _ q us H2 x2 i2 rs => ?_) (fun _ _ w => XQ.later x w) q⟩
      exact ⟨c.W, Nn c ρ σ, .str z, ds, _, _, ((ev.ext' x i).ext' x2 i2).vc, .inl (.str z), rs, (mtD .split (.str z) ds).mono (fun d _ q v H' x' i' r => q v H' ((x.trans x2).trans x') i' r) (fun _ _ w => w) q⟩
    | .list _, _, q => exact q.elim
    | .none, _, q => exact q.elim
    | .bool _, _, q => exact q.elim
    | .int _, _, q => exact q.elim
    | .tuple _, _, q => exact q.elim
    | .dict _, _, q => exact q.elim
/-- xs.index(x), xs a list -/
theorem s_index {o y : Expr} {eo : E} {es : Es} {apos cpos : Pos} (hu : X.A.units + 66 < cLine) (ho : PEb X Wx o (dE eo)) (ha : PAb X Wx [y] (dEs es)) (hs : notStar y = true) (hsup : notSup o = true) (hline : (apos.endLine == cpos.line) = true) :
    PEr X Wx (.Call (.Attribute o "index" apos) [y] [] cpos) (dE (.mt .index eo es)) :=
  pe_imp (pe_bm PySem.F.plainAttrs_list PySem.F.slot_list_index PySem.F.type_list_index (mr_index hu) ho ha (sup_ok hsup _ _ _) (few_ok (by simp [hs]) (by simp)) hline (star_ok hs _ _) (star_any rfl _ _)) fun σ H Q q => by
    obtain ⟨c, ρ, ev, q⟩ := q
    refine ⟨c, ρ, ev, (dE eo ρ).mono (fun d b q v H1 x i rv => ?_) (fun _ _ w => w) q⟩
    have q : (mtG .index d >>= fun _ => dEs es ρ >>= fun ds => mtD .index d ds).run (VQ X.K c.W (Nn c ρ σ) H Q) (XQ X.K X.mg Wx c ρ σ H) b := q
    match d, rv, q with
    | .list zs, rv, q =>
      have q : (dEs es ρ).run (fun ds => (mtD .index (.list zs) ds).run (VQ X.K c.W (Nn c ρ σ) H Q) (XQ X.K X.mg Wx c ρ σ H)) (XQ X.K X.mg Wx c ρ σ H) b := q
      obtain ⟨a, vs, e1, e2, e3, l⟩ := rv.list
      refine ⟨by rw [e1]; exact .inl ⟨rfl, vs, SqL.of e2⟩, _, ρ, ev.ext' x i, (dEs es ρ).mono (fun ds _ q us H2 x2 i2 rs => ?_) (fun _ _ w => XQ.later x w) q⟩
      exact ⟨c.W, Nn c ρ σ, .list zs, ds, _, _, ((ev.ext' x i).ext' x2 i2).vc, rv.ext x2 ((ev.ext' x i).vc.bv), rs, (mtD .index (.list zs) ds).mono (fun d _ q v H' x' i' r => q v H' ((x.trans x2).trans x') i' r) (fun _ _ w => w) q⟩
    | .str _, _, q => exact q.elim
    | .none, _, q => exact q.elim
    | .bool _, _, q => exact q.elim
    | .int _, _, q => exact q.elim
    | .tuple _, _, q => exact q.elim
    | .dict _, _, q => exact q.elim
theorem tupN_ty {K : PySem.W.Frag} {N : Addr → Prop} {H : Hp} {v : V} {a : Addr} {vs : List V} (e : v = .ref a) (h : TupN K N H a vs) : tyT K v H := by
  rcases h with h | ⟨o, _, _, h, z⟩
  · exact ⟨a, e, .inl ⟨vs, h.1⟩⟩
  · exact ⟨a, e, .inr ⟨o, h.1, h.2.1, z⟩⟩
/-- t.index(x), t a tuple -/
theorem s_tindex {o y : Expr} {eo : E} {es : Es} {apos cpos : Pos} (hu : X.A.units + 66 < cLine) (ho : PEb X Wx o (dE eo)) (ha : PAb X Wx [y] (dEs es)) (hs : notStar y = true) (hsup : notSup o = true) (hline : (apos.endLine == cpos.line) = true) :
    PEr X Wx (.Call (.Attribute o "index" apos) [y] [] cpos) (dE (.mt .tindex eo es)) :=
  pe_imp (pe_bmT PySem.F.slot_tuple_index PySem.F.type_tuple_index (mr_tindex hu) ho ha (sup_ok hsup _ _ _) (few_ok (by simp [hs]) (by simp)) hline (star_ok hs _ _) (star_any rfl _ _)) fun σ H Q q => by
    obtain ⟨c, ρ, ev, q⟩ := q
    refine ⟨c, ρ, ev, (dE eo ρ).mono (fun d b q v H1 x i rv => ?_) (fun _ _ w => w) q⟩
    have q : (mtG .tindex d >>= fun _ => dEs es ρ >>= fun ds => mtD .tindex d ds).run (VQ X.K c.W (Nn c ρ σ) H Q) (XQ X.K X.mg Wx c ρ σ H) b := q
    match d, rv, q with
    | .tuple zs, rv, q =>
      have q : (dEs es ρ).run (fun ds => (mtD .tindex (.tuple zs) ds).run (VQ X.K c.W (Nn c ρ σ) H Q) (XQ X.K X.mg Wx c ρ σ H)) (XQ X.K X.mg Wx c ρ σ H) b := q
      obtain ⟨a, vs, e1, e4, e2, e3, l⟩ := rv.tup
      refine ⟨tupN_ty e1 e2, _, ρ, ev.ext' x i, (dEs es ρ).mono (fun ds _ q us H2 x2 i2 rs => ?_) (fun _ _ w => XQ.later x w) q⟩
      exact ⟨c.W, Nn c ρ σ, .tuple zs, ds, _, _, ((ev.ext' x i).ext' x2 i2).vc, rv.ext x2 ((ev.ext' x i).vc.bv), rs, (mtD .tindex (.tuple zs) ds).mono (fun d _ q v H' x' i' r => q v H' ((x.trans x2).trans x') i' r) (fun _ _ w => w) q⟩
    | .str _, _, q => exact q.elim
    | .none, _, q => exact q.elim
    | .bool _, _, q => exact q.elim
    | .int _, _, q => exact q.elim
    | .list _, _, q => exact q.elim
    | .dict _, _, q => exact q.elim
mutual
theorem sE : ∀ (e : E) (x : Expr) (X : Cx) (Wx : WX) (cc : Cc), CtxOk P G X Wx cc → cE P G e → (mE cc e x = true → Snd X Wx x e) ∧ ∀ tgx, mI cc e x tgx = true → SndI X Wx tgx x e
  | .v i, x, X, Wx, cc, c, _ => pack rfl (fun _ => rfl) fun h => by
    obtain ⟨nm, p, rfl, h1, h2, h3, h4⟩ := c.name (show nmB cc i x = true from h)
    exact Snd.of (s_var h1 h2 h3 h4) rfl
  | .w i, x, X, Wx, cc, c, _ => pack rfl (fun _ => rfl) fun h => by
    obtain ⟨nm, p, rfl, h1, h2, h3, h4⟩ := c.name (show nmB cc i x = true from h)
    exact ⟨s_varB h1 h2 h3 h4, fun q => (by cases q), fun q => (by cases q), fun q => (by cases q)⟩
  | .k d, x, X, Wx, cc, c, _ => pack rfl (fun _ => rfl) fun h => by
    rw [mE] at h
    obtain ⟨k, j, p, rfl, hh⟩ := on_con h
    clear h
    have h := hh
    clear hh
    exact Snd.of (s_const h) rfl
  | .g nm d, x, X, Wx, cc, c, hg => pack rfl (fun _ => rfl) fun h => by
    rw [mE] at h
    obtain ⟨n, p, rfl, hh⟩ := on_name h
    clear h
    have h := hh
    clear hh
    simp only [Bool.and_eq_true, decide_eq_true_eq] at h
    obtain ⟨rfl, h0⟩ := h
    obtain ⟨h1, h2⟩ := c.gl h0
    obtain ⟨u, v, h3, h4, h5⟩ := c.glob _ _ hg
    exact Snd.of (s_con (pe_glob h1 h3 h4 h2) h5) rfl
  | .tup es, x, X, Wx, cc, c, hc => pack rfl (fun _ => rfl) fun h => by
    rw [mE] at h
    obtain ⟨xs, k, p, rfl, hh⟩ := on_tup h
    clear h
    have h := hh
    clear hh
    simp only [Bool.and_eq_true, decide_eq_true_eq] at h
    exact Snd.of (s_tup ((sEs es xs X Wx cc c hc h.1.1).r h.1.2) (few_of h.2)) rfl
  | .lst es, x, X, Wx, cc, c, hc => pack rfl (fun _ => rfl) fun h => by
    rw [mE] at h
    obtain ⟨xs, p, rfl, hh⟩ := on_lst h
    clear h
    have h := hh
    clear hh
    simp only [Bool.and_eq_true, decide_eq_true_eq] at h
    exact Snd.of (s_lst ((sEs es xs X Wx cc c hc h.1.1).r h.1.2) (few_of h.2)) rfl
  | .dic, x, X, Wx, cc, c, hc => pack rfl (fun _ => rfl) fun h => by
    rw [mE] at h
    obtain ⟨p, rfl⟩ := on_dic h
    exact Snd.of s_dic rfl
  | .dkn, x, X, Wx, cc, c, hc => pack rfl (fun _ => rfl) fun h => by
    rw [mE] at h
    obtain ⟨p, rfl⟩ := on_dic h
    exact Snd.of s_dkn rfl
  | .dtn, x, X, Wx, cc, c, hc => pack rfl (fun _ => rfl) fun h => by
    rw [mE] at h
    obtain ⟨k, p1, j, p2, p, rfl⟩ := on_dtn h
    exact Snd.of (s_dtn c.un) rfl
  | .bin op a b, x, X, Wx, cc, c, hc => pack rfl (fun _ => rfl) fun h => by
    rw [mE] at h
    obtain ⟨o, y, z, p, rfl, hh⟩ := on_bin h
    clear h
    have h := hh
    clear hh
    simp only [Bool.and_eq_true, decide_eq_true_eq] at h
    obtain ⟨⟨rfl, h1⟩, h2⟩ := h
    exact Snd.of (s_bin ((sE a y X Wx cc c hc.1).1 h1).b ((sE b z X Wx cc c hc.2).1 h2).b) rfl
  | .neg a, x, X, Wx, cc, c, hc => pack rfl (fun _ => rfl) fun h => by
    rw [mE] at h
    obtain ⟨y, p, rfl, hh⟩ := on_neg h
    clear h
    have h := hh
    clear hh
    exact Snd.of (s_neg ((sE a y X Wx cc c hc).1 h).b) rfl
  | .not a, x, X, Wx, cc, c, hc => pack rfl (fun _ => rfl) fun h => by
    rw [mE] at h
    obtain ⟨y, p, rfl, hh⟩ := on_not h
    clear h
    have h := hh
    clear hh
    simp only [Bool.and_eq_true] at h
    have q := (sE a y X Wx cc c hc).1 h.1.1
    have r := s_not (pos := p) (q.r h.1.2)
    exact ⟨b_of r, fun _ => r, fun _ _ => s_notT (q.t h.1.2 h.2), fun _ z => (by cases z)⟩
  | .and a b, x, X, Wx, cc, c, hc => pack rfl (fun _ => rfl) fun h => by
    rw [mE] at h
    obtain ⟨y, z, rest, p, rfl, hh⟩ := on_and h
    clear h
    have h := hh
    clear hh
    simp only [Bool.and_eq_true] at h
    obtain ⟨⟨⟨⟨h1, h2⟩, h3⟩, h4⟩, h5⟩ := h
    have q := (sE a y X Wx cc c hc.1).1 h1
    cases rest with
    | nil =>
      simp only [Bool.and_eq_true] at h5
      have q2 := (sE b z X Wx cc c hc.2).1 h5.1
      have r := s_and (pos := p) (q.r h2) (pe_one (q2.r h4))
      have w := s_andW (pos := p) (q.t h2 h3) (pw_and1 (q2.t h4 h5.2))
      exact ⟨b_of r, fun _ => r, fun _ _ => w.pt, fun _ _ => w⟩
    | cons u rest =>
      have q2 := (sE b (.BoolOp .And (z :: u :: rest) p) X Wx cc c hc.2).1 h5
      have r := s_and (pos := p) (q.r h2) (q2.r h4)
      have w := s_andW (pos := p) (q.t h2 h3) (q2.w h4 rfl)
      exact ⟨b_of r, fun _ => r, fun _ _ => w.pt, fun _ _ => w⟩
  | .or a b, x, X, Wx, cc, c, hc => pack rfl (fun _ => rfl) fun h => by
    rw [mE] at h
    obtain ⟨y, z, rest, p, rfl, hh⟩ := on_or h
    clear h
    have h := hh
    clear hh
    simp only [Bool.and_eq_true] at h
    obtain ⟨⟨⟨⟨h1, h2⟩, h3⟩, h4⟩, h5⟩ := h
    have q := (sE a y X Wx cc c hc.1).1 h1
    cases rest with
    | nil =>
      simp only [Bool.and_eq_true] at h5
      have q2 := (sE b z X Wx cc c hc.2).1 h5.1
      have r := s_or (pos := p) (q.r h2) (pe_one (q2.r h4))
      have w := s_orW (pos := p) (q.t h2 h3) (pw_or1 (q2.t h4 h5.2))
      exact ⟨b_of r, fun _ => r, fun _ _ => w.pt, fun _ _ => w⟩
    | cons u rest =>
      have q2 := (sE b (.BoolOp .Or (z :: u :: rest) p) X Wx cc c hc.2).1 h5
      have r := s_or (pos := p) (q.r h2) (q2.r h4)
      have w := s_orW (pos := p) (q.t h2 h3) (q2.w h4 rfl)
      exact ⟨b_of r, fun _ => r, fun _ _ => w.pt, fun _ _ => w⟩
  | .cmp op a b, x, X, Wx, cc, c, hc => pack rfl (fun _ => rfl) fun h => by
    rw [mE] at h
    obtain ⟨o, y, z, p, rfl, hh⟩ := on_cmp h
    clear h
    have h := hh
    clear hh
    simp only [Bool.and_eq_true, decide_eq_true_eq] at h
    obtain ⟨⟨⟨rfl, h1⟩, h2⟩, h3⟩ := h
    have q1 := ((sE a y X Wx cc c hc.1).1 h1).b
    have q2 := ((sE b z X Wx cc c hc.2).1 h2).b
    have r := s_cmp (pos := p) c.un q1 q2 (set_ok h3 o)
    exact ⟨b_of r, fun _ => r, fun _ _ => s_cmpT c.un q1 q2 (set_ok h3 o), fun _ z => (by cases z)⟩
  | .cmp2 o1 o2 a b d, x, X, Wx, cc, c, hc => pack rfl (fun _ => rfl) fun h => by
    rw [mE] at h
    obtain ⟨o, o', y, z, u, p, rfl, hh⟩ := on_cmp2 h
    clear h
    have h := hh
    clear hh
    simp only [Bool.and_eq_true, decide_eq_true_eq] at h
    obtain ⟨⟨⟨⟨⟨rfl, rfl⟩, h1⟩, h2⟩, h3⟩, h4⟩ := h
    have q1 := ((sE a y X Wx cc c hc.1).1 h1).b
    have q2 := ((sE b z X Wx cc c hc.2.1).1 h2).b
    have q3 := ((sE d u X Wx cc c hc.2.2).1 h3).b
    have r := s_cmp2 (pos := p) c.un q1 q2 q3 (o1 := o) (o2 := o') (show behindInMarks o' u = false from set_ok h4 o')
    exact ⟨b_of r, fun _ => r, fun _ _ => s_cmp2T c.un q1 q2 q3 (show behindInMarks o' u = false from set_ok h4 o'), fun _ z => (by cases z)⟩
  | .ife d a b, x, X, Wx, cc, c, hc => pack rfl (fun _ => rfl) fun h => by
    rw [mE] at h
    obtain ⟨z, y, u, p, rfl, hh⟩ := on_if h
    clear h
    have h := hh
    clear hh
    simp only [Bool.and_eq_true] at h
    obtain ⟨⟨⟨⟨⟨⟨h1, h2⟩, h3⟩, h4⟩, h5⟩, h6⟩, h7⟩ := h
    have r := s_if (pos := p) (((sE d z X Wx cc c hc.1).1 h1).t h2 h3) (((sE a y X Wx cc c hc.2.1).1 h4).r h5) (((sE b u X Wx cc c hc.2.2).1 h6).r h7)
    exact ⟨b_of r, fun _ => r, fun _ z => (by cases z), fun _ z => (by cases z)⟩
  | .ix a i, x, X, Wx, cc, c, hc => pack rfl (fun _ => rfl) fun h => by
    rw [mE] at h
    obtain ⟨y, z, p, rfl, hh⟩ := on_sub h
    clear h
    have h := hh
    clear hh
    simp only [Bool.and_eq_true] at h
    exact Snd.of (s_ix ((sE a y X Wx cc c hc.1).1 h.1.1).b ((sE i z X Wx cc c hc.2).1 h.1.2).b (slice_ok h.2)) rfl
  | .sl true a b, x, X, Wx, cc, c, hc => pack rfl (fun _ => rfl) fun h => by
    rw [mE] at h
    obtain ⟨y, z, p, rfl, hh⟩ := on_sub h
    clear h
    have h := hh
    clear hh
    simp only [Bool.and_eq_true] at h
    obtain ⟨u, p2, rfl, h2⟩ := on_lo h.2
    exact Snd.of (s_slL ((sE a y X Wx cc c hc.1).1 h.1).b ((sE b u X Wx cc c hc.2).1 h2).b) rfl
  | .sl false a b, x, X, Wx, cc, c, hc => pack rfl (fun _ => rfl) fun h => by
    rw [mE] at h
    obtain ⟨y, z, p, rfl, hh⟩ := on_sub h
    clear h
    have h := hh
    clear hh
    simp only [Bool.and_eq_true] at h
    obtain ⟨u, p2, rfl, h2⟩ := on_hi h.2
    exact Snd.of (s_slU ((sE a y X Wx cc c hc.1).1 h.1).b ((sE b u X Wx cc c hc.2).1 h2).b) rfl
  | .rev a, x, X, Wx, cc, c, hc => pack rfl (fun _ => rfl) fun h => by
    rw [mE] at h
    obtain ⟨y, z, p, rfl, hh⟩ := on_sub h
    clear h
    have h := hh
    clear hh
    simp only [Bool.and_eq_true] at h
    obtain ⟨k, p1, p2, p3, rfl⟩ := on_rev h.2
    exact Snd.of (s_rev ((sE a y X Wx cc c hc).1 h.1).b) rfl
  | .lc own tg it t elt, x, X, Wx, cc, c, hc => pack rfl (fun _ => rfl) fun h => by
    rw [mE_lc] at h
    obtain ⟨y, tgx, iter, ifs, scope, p, rfl, hh⟩ := on_lc h
    clear h
    have h := hh
    clear hh
    simp only [Bool.and_eq_true] at h
    obtain ⟨⟨⟨⟨⟨⟨⟨⟨h1, h2⟩, h3⟩, h4⟩, h5⟩, h6⟩, h7⟩, h8⟩, h9⟩ := h
    have hk : scope.kind = .function := (blkOk_by h2).kind
    have cb := fun s H C cl fp => c.blk scope hk s H C cl fp
    have hi := ((sE it iter X Wx cc c hc.1).2 tgx h1).b
    have he := fun s H C cl fp => ((sE elt y _ noX (cc.blk scope) (cb s H C cl fp) hc.2.2).1 h5).r h6
    have ht : ∀ (s : Shared) (H : Hp) (C : Addr) (cl : List (Str × Addr)) (fp : List Addr), PTs (X.blk s H scope (compEnvC scope cl C X.env) fp) ifs (tT X.K X.mg noX (dE t)) := by
      intro s H C cl fp
      cases ifs with
      | nil => exact pts_yes (X := X.blk s H scope (compEnvC scope cl C X.env) fp) h9
      | cons z zs =>
        cases zs with
        | nil =>
          have h9 : (mE (cc.blk scope) t z && tst z) = true := h9
          simp only [Bool.and_eq_true] at h9
          exact pts_one (((sE t z _ noX (cc.blk scope) (cb s H C cl fp) hc.2.1).1 h9.1).t h7 h9.2)
        | cons _ _ => cases h9
    exact Snd.of (s_lc c.calm c.nd hi (blkOk_of c h2) (ownP_map own) (slots_of h3) (fun s H C cl fp => (cb s H C cl fp).tg h4) ht he (set_fold h8 _)) rfl
  | .call nm f es, x, X, Wx, cc, c, hc => pack rfl (fun _ => rfl) fun h => by
    rw [mE] at h
    obtain ⟨g, p, xs, pos, rfl, hh⟩ := on_call h
    clear h
    have h := hh
    clear hh
    simp only [Bool.and_eq_true, decide_eq_true_eq] at h
    obtain ⟨⟨⟨rfl, h1⟩, h2⟩, h3⟩ := h
    obtain ⟨hgl, hd⟩ := c.gl h1
    obtain ⟨k, hr, C⟩ := c.call _ _ hc.1
    have q := sEs es xs X Wx cc c hc.2 h2
    cases xs with
    | nil =>
      cases es with
      | nil => exact Snd.of (s_call0 C hr c.grd hgl c.tk hd) rfl
      | cons _ _ => cases h2
    | cons y ys =>
      have hns := q.ns
      simp only [List.all_cons, Bool.and_eq_true] at hns
      exact Snd.of (s_call C hr c.grd hgl c.tk (q.r h3) hd (star_ok hns.1 ys X.env) (star_any hns.2 pos X.env)) rfl
  | .callB nm f es, x, X, Wx, cc, c, hc => pack rfl (fun _ => rfl) fun h => by
    rw [mE] at h
    obtain ⟨g, p, xs, pos, rfl, hh⟩ := on_call h
    clear h
    have h := hh
    clear hh
    simp only [Bool.and_eq_true, decide_eq_true_eq] at h
    obtain ⟨⟨⟨rfl, h1⟩, h2⟩, h3⟩ := h
    obtain ⟨hgl, hd⟩ := c.gl h1
    obtain ⟨k, hr, C⟩ := c.call _ _ hc.1
    have q := sEs es xs X Wx cc c hc.2 h2
    cases xs with
    | nil => cases h3
    | cons y ys =>
      have hns := q.ns
      simp only [List.all_cons, Bool.and_eq_true] at hns
      exact Snd.of (s_callB C hr c.grd hgl c.tk q.b hd (star_ok hns.1 ys X.env) (star_any hns.2 pos X.env)) rfl
  | .bi b es, x, X, Wx, cc, c, hc => by
    have q := fun xs => sEs es xs X Wx cc c hc
    have first : mE cc (.bi b es) x = true → Snd X Wx x (.bi b es) := by
      intro h
      rw [mE] at h
      obtain ⟨g, p, xs, pos, rfl, hh⟩ := on_call h
      clear h
      have h := hh
      clear hh
      simp only [Bool.and_eq_true] at h
      obtain ⟨h0, h⟩ := h
      split at h
      · simp only [Bool.and_eq_true, decide_eq_true_eq] at h
        obtain ⟨rfl, h⟩ := h
        obtain ⟨u, e1, h1⟩ := on_one h
        obtain ⟨r, p2, ys, pos2, e2, h2⟩ := on_call h1
        obtain ⟨v, e3, h3⟩ := on_one h2
        subst e1
        subst e2
        subst e3
        clear h h1 h2
        have h := h3
        clear h3
        simp only [Bool.and_eq_true, decide_eq_true_eq] at h
        obtain ⟨⟨rfl, h1⟩, h2⟩ := h
        have q := q _ h2
        have hns := q.ns
        simp only [List.all_cons, List.all_nil, Bool.and_true] at hns
        match es, q with
        | .cons e .nil, q => exact Snd.of (s_listRg c.calm (c.gl h0).1 (c.mg _ (by decide)) (c.gl h1).1 (c.mg _ (by decide)) q.all.1.b hns) rfl
        | .nil, q => exact absurd q.len (by simp [lenEs])
        | .cons _ (.cons _ _), q => exact absurd q.len (by simp [lenEs])
      · simp only [Bool.and_eq_true, decide_eq_true_eq] at h
        obtain ⟨rfl, h⟩ := h
        obtain ⟨u, e1, h1⟩ := on_one h
        obtain ⟨r, p2, ys, pos2, e2, h2⟩ := on_call h1
        obtain ⟨v, e3, h3⟩ := on_one h2
        subst e1
        subst e2
        subst e3
        clear h h1 h2
        have h := h3
        clear h3
        simp only [Bool.and_eq_true, decide_eq_true_eq] at h
        obtain ⟨⟨rfl, h1⟩, h2⟩ := h
        have q := q _ h2
        have hns := q.ns
        simp only [List.all_cons, List.all_nil, Bool.and_true] at hns
        match es, q with
        | .cons e .nil, q => exact Snd.of (s_tupRg c.calm (c.gl h0).1 (c.mg _ (by decide)) (c.gl h1).1 (c.mg _ (by decide)) q.all.1.b hns) rfl
        | .nil, q => exact absurd q.len (by simp [lenEs])
        | .cons _ (.cons _ _), q => exact absurd q.len (by simp [lenEs])
      · simp only [Bool.and_eq_true, decide_eq_true_eq] at h
        obtain ⟨rfl, h⟩ := h
        obtain ⟨u, e1, h1⟩ := on_one h
        obtain ⟨r, p2, ys, pos2, e2, h2⟩ := on_call h1
        obtain ⟨v, e3, h3⟩ := on_one h2
        subst e1
        subst e2
        subst e3
        clear h h1 h2
        have h := h3
        clear h3
        simp only [Bool.and_eq_true, decide_eq_true_eq] at h
        obtain ⟨⟨rfl, h1⟩, h2⟩ := h
        have q := q _ h2
        have hns := q.ns
        simp only [List.all_cons, List.all_nil, Bool.and_true] at hns
        match es, q with
        | .cons e .nil, q => exact Snd.of (s_sortSet c.calm c.un (c.gl h0).1 (c.mg _ (by decide)) (c.gl h1).1 (c.mg _ (by decide)) q.all.1.b hns) rfl
        | .nil, q => exact absurd q.len (by simp [lenEs])
        | .cons _ (.cons _ _), q => exact absurd q.len (by simp [lenEs])
      · simp only [Bool.and_eq_true, decide_eq_true_eq] at h
        obtain ⟨rfl, h⟩ := h
        obtain ⟨u, v, e1, h1⟩ := on_two h
        subst e1
        simp only [Bool.and_eq_true] at h1
        obtain ⟨p2, rfl⟩ := on_nil h1.1
        have q := q _ h1.2
        have hns := q.ns
        simp only [List.all_cons, List.all_nil, Bool.and_true] at hns
        match es, q with
        | .cons e .nil, q => exact Snd.of (s_sumL c.calm (c.gl h0).1 (c.mg _ (by decide)) q.all.1.b hns) rfl
        | .nil, q => exact absurd q.len (by simp [lenEs])
        | .cons _ (.cons _ _), q => exact absurd q.len (by simp [lenEs])
      · simp only [Bool.and_eq_true, decide_eq_true_eq] at h
        obtain ⟨rfl, h⟩ := h
        obtain ⟨u, e1, h1⟩ := on_one h
        obtain ⟨r, p2, ys, pos2, e2, h2⟩ := on_call h1
        obtain ⟨v, e3, h3⟩ := on_one h2
        subst e1
        subst e2
        subst e3
        clear h h1 h2
        have h := h3
        clear h3
        simp only [Bool.and_eq_true, decide_eq_true_eq] at h
        obtain ⟨⟨rfl, h1⟩, h2⟩ := h
        have q := q _ h2
        have hns := q.ns
        simp only [List.all_cons, List.all_nil, Bool.and_true] at hns
        match es, q with
        | .cons e .nil, q => exact Snd.of (s_lenSetS c.calm c.un (c.gl h0).1 (c.mg _ (by decide)) (c.gl h1).1 (c.mg _ (by decide)) q.all.1.b hns) rfl
        | .nil, q => exact absurd q.len (by simp [lenEs])
        | .cons _ (.cons _ _), q => exact absurd q.len (by simp [lenEs])
      · simp only [Bool.and_eq_true, decide_eq_true_eq] at h
        obtain ⟨rfl, h⟩ := h
        obtain ⟨u, e1, h1⟩ := on_one h
        obtain ⟨r, p2, ys, pos2, e2, h2⟩ := on_call h1
        obtain ⟨v, e3, h3⟩ := on_one h2
        subst e1
        subst e2
        subst e3
        clear h h1 h2
        have h := h3
        clear h3
        simp only [Bool.and_eq_true, decide_eq_true_eq] at h
        obtain ⟨⟨rfl, h1⟩, h2⟩ := h
        have q := q _ h2
        have hns := q.ns
        simp only [List.all_cons, List.all_nil, Bool.and_true] at hns
        match es, q with
        | .cons e .nil, q => exact Snd.of (s_lenSet c.calm c.un (c.gl h0).1 (c.mg _ (by decide)) (c.gl h1).1 (c.mg _ (by decide)) q.all.1.b hns) rfl
        | .nil, q => exact absurd q.len (by simp [lenEs])
        | .cons _ (.cons _ _), q => exact absurd q.len (by simp [lenEs])
      · split at h
        · rename_i ty hty
          simp only [Bool.and_eq_true, decide_eq_true_eq] at h
          obtain ⟨hg, h⟩ := h
          obtain ⟨u, v, e1, h1⟩ := on_two h
          obtain ⟨t, p2, e2, h2⟩ := on_name h1
          subst e1
          subst e2
          clear h h1
          have h := h2
          clear h2
          simp only [Bool.and_eq_true, decide_eq_true_eq] at h
          obtain ⟨⟨ht, h1⟩, h2⟩ := h
          have q := q _ h2
          have hns := q.ns
          simp only [List.all_cons, List.all_nil, Bool.and_true] at hns
          match es, q with
          | .cons e .nil, q => exact Snd.of (isa_snd c hty h0 hg h1 ht q.all.1.b hns) rfl
          | .nil, q => exact absurd q.len (by simp [lenEs])
          | .cons _ (.cons _ _), q => exact absurd q.len (by simp [lenEs])
        · split at h
          · rename_i nm hnm
            simp only [Bool.and_eq_true, decide_eq_true_eq] at h
            obtain ⟨⟨hg, h1⟩, h2⟩ := h
            have q := q _ h1
            cases xs with
            | nil => cases h2
            | cons y ys => exact Snd.of (bi_snd c hnm h0 hg q) rfl
          · cases h
    refine ⟨first, fun tgx h => ?_⟩
    unfold mI at h
    split at h
    · rename_i e heq
      cases heq
      obtain ⟨g, p, xs, pos, e1, h1⟩ := on_call h
      obtain ⟨u, e2, h2⟩ := on_one h1
      subst e1
      subst e2
      clear h h1
      simp only [Bool.and_eq_true, decide_eq_true_eq] at h2
      obtain ⟨⟨⟨hg, h3⟩, h4⟩, h5⟩ := h2
      subst hg
      have q := q [u] (by
        show (notStar u && mE cc e u && mEs cc .nil []) = true
        rw [h4, h5]
        rfl)
      have st := star_ok h5 [] X.env
      exact ⟨s_range1 true (c.gl h3).1 (c.mg _ (by decide)) q.b st, fun _ => s_range1 false (c.gl h3).1 (c.mg _ (by decide)) q.b st⟩
    · rename_i e f heq
      cases heq
      obtain ⟨g, p, xs, pos, e1, h1⟩ := on_call h
      obtain ⟨u, v, e2, h2⟩ := on_two h1
      subst e1
      subst e2
      clear h h1
      simp only [Bool.and_eq_true, decide_eq_true_eq] at h2
      obtain ⟨⟨⟨⟨⟨hg, h3⟩, h4⟩, h5⟩, h6⟩, h7⟩ := h2
      subst hg
      have q := q [u, v] (by
        show (notStar u && mE cc e u && (notStar v && mE cc f v && mEs cc .nil [])) = true
        rw [h4, h5, h6, h7]
        rfl)
      have st := star_ok h5 [v] X.env
      have st2 := star_ok h7 [] X.env
      rw [st2] at st
      exact ⟨s_range2 true (c.gl h3).1 (c.mg _ (by decide)) q.b st st2, fun _ => s_range2 false (c.gl h3).1 (c.mg _ (by decide)) q.b st st2⟩
    · rename_i e heq
      cases heq
      simp only [Bool.and_eq_true] at h
      obtain ⟨ht, h⟩ := h
      obtain ⟨g, p, xs, pos, e1, h1⟩ := on_call h
      obtain ⟨u, e2, h2⟩ := on_one h1
      subst e1
      subst e2
      clear h h1
      simp only [Bool.and_eq_true, decide_eq_true_eq] at h2
      obtain ⟨⟨⟨hg, h3⟩, h4⟩, h5⟩ := h2
      subst hg
      have q := q [u] (by
        show (notStar u && mE cc e u && mEs cc .nil []) = true
        rw [h4, h5]
        rfl)
      have st := star_ok h5 [] X.env
      unfold isTupE at ht
      split at ht
      · exact ⟨s_enumB (c.gl h3).1 (c.mg _ (by decide)) q.all.1.b st, fun hn => s_enum (c.gl h3).1 (c.mg _ (by decide)) (q.all.1.r hn) st⟩
      · cases ht
    · have w := first h
      exact ⟨s_iterB w.b, fun _ => s_iter (w.r rfl)⟩
  | .mt m o es, x, X, Wx, cc, c, hc => pack rfl (fun _ => rfl) fun h => by
    rw [mE] at h
    by_cases hm : m = .geti
    · rw [if_pos hm] at h
      subst hm
      obtain ⟨y, z, p, rfl, hh⟩ := on_sub h
      clear h
      simp only [Bool.and_eq_true] at hh
      obtain ⟨⟨h1, h2⟩, h3⟩ := hh
      have q := sEs es [z] X Wx cc c hc.2 h3
      have qo := (sE o y X Wx cc c hc.1).1 h1
      have hl := q.len
      cases es with
      | nil => cases hl
      | cons e es =>
        cases es with
        | nil => exact Snd.of (s_geti c.un qo.b q.all.1.b h2) rfl
        | cons _ _ => simp [lenEs] at hl
    rw [if_neg hm] at h
    by_cases hm2 : m = .setNe
    · rw [if_pos hm2] at h
      subst hm2
      obtain ⟨o', y, z, p, rfl, hh⟩ := on_cmp h
      clear h
      simp only [Bool.and_eq_true, decide_eq_true_eq] at hh
      obtain ⟨ho, hh⟩ := hh
      obtain ⟨g, p2, ys, p3, e1, hh⟩ := on_call hh
      obtain ⟨u, e2, hh⟩ := on_one hh
      obtain ⟨r, p4, zs, p5, e3, hh⟩ := on_call hh
      obtain ⟨v, e4, hh⟩ := on_one hh
      simp only [Bool.and_eq_true, decide_eq_true_eq] at hh
      obtain ⟨⟨⟨⟨⟨h1, h2⟩, h3⟩, h4⟩, h5⟩, h6⟩ := hh
      subst ho e1 e2 e3 e4 h1 h3
      have q := sEs es [v] X Wx cc c hc.2 h6
      have hns := q.ns
      simp only [List.all_cons, List.all_nil, Bool.and_true] at hns
      have qo := (sE o u X Wx cc c hc.1).1 h5
      have hl := q.len
      cases es with
      | nil => cases hl
      | cons e es =>
        cases es with
        | nil =>
          obtain ⟨r, t⟩ := s_setNe (p := p2) (p2 := p4) (pos2 := p3) (pos3 := p5) (pos := p) c.calm c.un (c.gl h2).1 (c.mg _ (by decide)) qo.b q.all.1.b h4 hns
          exact ⟨b_of r, fun _ => r, fun _ _ => t, fun _ z => (by cases z)⟩
        | cons _ _ => simp [lenEs] at hl
    rw [if_neg hm2] at h
    obtain ⟨y, n, apos, xs, cpos, rfl, hh⟩ := on_meth h
    clear h
    have h := hh
    clear hh
    split at h
    · simp only [Bool.and_eq_true, decide_eq_true_eq] at h
      obtain ⟨⟨⟨⟨⟨⟨rfl, h1⟩, h2⟩, h3⟩, h4⟩, h5⟩, h6⟩ := h
      obtain ⟨z, rfl, _⟩ := on_one h4
      have q := sEs es [z] X Wx cc c hc.2 h3
      have hns := q.ns
      simp only [List.all_cons, List.all_nil, Bool.and_true] at hns
      have qo := (sE o y X Wx cc c hc.1).1 h1
      unfold isStrC at h6
      split at h6
      · exact Snd.of (s_join (qo.r rfl) q.b hns h2 h5) rfl
      · cases h6
    · simp only [Bool.and_eq_true, decide_eq_true_eq] at h
      obtain ⟨⟨⟨⟨⟨rfl, h1⟩, h2⟩, h3⟩, h4⟩, h5⟩ := h
      obtain ⟨z, rfl, _⟩ := on_one h4
      have q := sEs es [z] X Wx cc c hc.2 h3
      have hns := q.ns
      simp only [List.all_cons, List.all_nil, Bool.and_true] at hns
      have qo := (sE o y X Wx cc c hc.1).1 h1
      exact Snd.of (s_index c.un qo.b q.b hns h2 h5) rfl
    · simp only [Bool.and_eq_true, decide_eq_true_eq] at h
      obtain ⟨⟨⟨⟨⟨rfl, h1⟩, h2⟩, h3⟩, h4⟩, h5⟩ := h
      obtain ⟨z, rfl, _⟩ := on_one h4
      have q := sEs es [z] X Wx cc c hc.2 h3
      have hns := q.ns
      simp only [List.all_cons, List.all_nil, Bool.and_true] at hns
      have qo := (sE o y X Wx cc c hc.1).1 h1
      exact Snd.of (s_tindex c.un qo.b q.b hns h2 h5) rfl
    · simp only [Bool.and_eq_true, decide_eq_true_eq] at h
      obtain ⟨⟨⟨⟨⟨rfl, h1⟩, h2⟩, h3⟩, h4⟩, h5⟩ := h
      obtain ⟨z, rfl, _⟩ := on_one h4
      have q := sEs es [z] X Wx cc c hc.2 h3
      have hns := q.ns
      simp only [List.all_cons, List.all_nil, Bool.and_true] at hns
      have qo := (sE o y X Wx cc c hc.1).1 h1
      exact Snd.of (s_count qo.b q.b hns h2 h5) rfl
    · simp only [Bool.and_eq_true, decide_eq_true_eq] at h
      obtain ⟨⟨⟨⟨⟨rfl, h1⟩, h2⟩, h3⟩, h4⟩, h5⟩ := h
      obtain ⟨z, rfl, _⟩ := on_one h4
      have q := sEs es [z] X Wx cc c hc.2 h3
      have hns := q.ns
      simp only [List.all_cons, List.all_nil, Bool.and_true] at hns
      have qo := (sE o y X Wx cc c hc.1).1 h1
      exact Snd.of (s_split qo.b q.b hns h2 h5) rfl
    · simp only [Bool.and_eq_true, decide_eq_true_eq] at h
      obtain ⟨⟨⟨⟨⟨rfl, h1⟩, h2⟩, h3⟩, h4⟩, h5⟩ := h
      obtain ⟨z, rfl, _⟩ := on_one h4
      have q := sEs es [z] X Wx cc c hc.2 h3
      have hns := q.ns
      simp only [List.all_cons, List.all_nil, Bool.and_true] at hns
      have qo := (sE o y X Wx cc c hc.1).1 h1
      have hl := q.len
      cases es with
      | nil => cases hl
      | cons e es =>
        cases es with
        | nil => exact Snd.of (s_get1 c.un qo.b q.all.1.b hns h2 h5) rfl
        | cons _ _ => simp [lenEs] at hl
    · simp only [Bool.and_eq_true, decide_eq_true_eq] at h
      obtain ⟨⟨⟨⟨⟨rfl, h1⟩, h2⟩, h3⟩, h4⟩, h5⟩ := h
      obtain ⟨z, u, rfl, _⟩ := on_two h4
      have q := sEs es [z, u] X Wx cc c hc.2 h3
      have hns := q.ns
      simp only [List.all_cons, List.all_nil, Bool.and_true, Bool.and_eq_true] at hns
      have qo := (sE o y X Wx cc c hc.1).1 h1
      have hl := q.len
      cases es with
      | nil => cases hl
      | cons e es =>
        cases es with
        | nil => simp [lenEs] at hl
        | cons f es =>
          cases es with
          | nil => exact Snd.of (s_get2 c.un qo.b q.all.1.b q.all.2.1.b hns.1 hns.2 h2 h5) rfl
          | cons _ _ => simp [lenEs] at hl
    · cases h
  | .vlen i, x, X, Wx, cc, c, _ => pack rfl (fun _ => rfl) fun h => by
    rw [mE] at h
    obtain ⟨g, p, xs, pos, rfl, hh⟩ := on_call h
    clear h
    simp only [Bool.and_eq_true, decide_eq_true_eq] at hh
    obtain ⟨⟨hg, h1⟩, h2⟩ := hh
    obtain ⟨u, e1, h3⟩ := on_one h2
    obtain ⟨nm, p2, e2, g1, g2, g3, g4⟩ := c.name h3
    subst e1
    subst e2
    subst hg
    exact Snd.of (s_vlen (c.gl h1).1 (c.mg _ (by decide)) (pe_var g1 g2 g3 g4)) rfl
  | .vg i e, x, X, Wx, cc, c, hc => pack rfl (fun _ => rfl) fun h => by
    rw [mE] at h
    obtain ⟨y, z, p, rfl, hh⟩ := on_sub h
    clear h
    simp only [Bool.and_eq_true] at hh
    obtain ⟨⟨⟨h1, h2⟩, h3⟩, h4⟩ := hh
    obtain ⟨nm, p2, rfl, g1, g2, g3, g4⟩ := c.name h1
    exact Snd.of (s_vg (pe_var g1 g2 g3 g4) (((sE e z X Wx cc c hc).1 h2).r h3) h4) rfl
  | .mkx nm tbl ks es, x, X, Wx, cc, c, hc => pack rfl (fun _ => rfl) fun h => by
    rw [mE] at h
    obtain ⟨g, p, xs, pos, rfl, hh⟩ := on_call h
    clear h
    simp only [Bool.and_eq_true, decide_eq_true_eq] at hh
    obtain ⟨⟨⟨⟨⟨eg, h1⟩, h2⟩, h3⟩, h4⟩, h5⟩ := hh
    subst eg
    obtain ⟨u, v, g1, g2, g3⟩ := c.glob _ _ hc.1
    obtain ⟨ev, hx, hk⟩ := stat_cls g3
    subst ev
    have g2 : u = .ref (He.ga X.K g) := g2
    subst g2
    have q := sEs es xs X Wx cc c hc.2 h2
    obtain ⟨k1, k2⟩ := c.gl h1
    have ql := q.len
    cases es with
    | nil =>
      cases xs with
      | cons _ _ => cases ql
      | nil =>
        cases ks with
        | cons _ _ => cases h4
        | nil =>
          have e0 : dE (.mkx g tbl [] .nil) = fun _ => pure (insD g tbl [] []) := by
            funext ρ
            show (M.grd (([] : List D).length = ([] : List D).length) >>= fun _ => (pure (insD g tbl [] []) : M D)) = _
            rw [M.grd_bind rfl]
          exact Snd.of (by rw [e0]; exact s_mkx0 hx hk g1 k1 k2) rfl
    | cons e es =>
      cases xs with
      | nil => cases ql
      | cons y ys => exact Snd.of (s_mkx hx hk g1 c.rm k1 (q.r h3) (by rw [← ql, h4]) h5 k2 q.ns) rfl
  | .fld f e, x, X, Wx, cc, c, hc => pack rfl (fun _ => rfl) fun h => by
    rw [mE] at h
    obtain ⟨y, n, p, rfl, hh⟩ := on_att h
    clear h
    simp only [Bool.and_eq_true, decide_eq_true_eq] at hh
    obtain ⟨⟨⟨en, h1⟩, h2⟩, h3⟩ := hh
    subst en
    exact Snd.of (s_fld (((sE e y X Wx cc c hc).1 h1).r h2) h3) rfl
  | .xis nm own e, x, X, Wx, cc, c, hc => pack rfl (fun _ => rfl) fun h => by
    rw [mE] at h
    obtain ⟨g, p, xs, pos, rfl, hh⟩ := on_call h
    clear h
    simp only [Bool.and_eq_true, decide_eq_true_eq] at hh
    obtain ⟨⟨eg, h1⟩, h2⟩ := hh
    subst eg
    obtain ⟨y, z, e1, h3⟩ := on_two h2
    obtain ⟨t, p2, e2, h8⟩ := on_name h3
    subst e1
    subst e2
    simp only [Bool.and_eq_true, decide_eq_true_eq] at h8
    obtain ⟨⟨⟨⟨et, h7⟩, h4⟩, h5⟩, h6⟩ := h8
    subst et
    obtain ⟨k1, k2⟩ := c.gl h1
    obtain ⟨l1, l2⟩ := c.gl h7
    have qe := ((sE e y X Wx cc c hc.2).1 h4).r h5
    rcases hc.1 with ⟨rfl, tbl, ks, hG⟩ | ⟨rfl, hb, T, hT⟩
    · obtain ⟨u, v, g1, g2, g3⟩ := c.glob _ _ hG
      obtain ⟨ev, hx, hk⟩ := stat_cls g3
      subst ev
      have g2 : u = .ref (He.ga X.K t) := g2
      subst g2
      exact Snd.of (s_xisO qe k1 (c.mg _ (by decide)) l1 g1 l2 h6) rfl
    · exact Snd.of (s_xisB qe k1 (c.mg _ (by decide)) l1 (c.mg _ hb) hT (fun z => absurd hb (by rw [z]; decide)) l2 h6) rfl
theorem sEs : ∀ (es : Es) (xs : List Expr) (X : Cx) (Wx : WX) (cc : Cc), CtxOk P G X Wx cc → cEs P G es → mEs cc es xs = true → Snds X Wx xs es
  | .nil, xs, X, Wx, cc, c, _, h => by
    cases xs with
    | nil => exact ⟨s_nilB, fun _ => s_nil, rfl, trivial, rfl⟩
    | cons _ _ => cases h
  | .cons e es, xs, X, Wx, cc, c, hc, h => by
    cases xs with
    | nil => cases h
    | cons x xs =>
      have h : (notStar x && mE cc e x && mEs cc es xs) = true := h
      simp only [Bool.and_eq_true] at h
      have q1 := (sE e x X Wx cc c hc.1).1 h.1.2
      have q2 := sEs es xs X Wx cc c hc.2 h.2
      refine ⟨s_consB q1.b q2.b (star_ok h.1.1 xs X.env), fun hn => ?_, ?_, ⟨q1, q2.all⟩, by rw [List.length_cons, ← q2.len]; rfl⟩
      · have hn : (nw e && nwAll es) = true := hn
        simp only [Bool.and_eq_true] at hn
        exact s_cons (q1.r hn.1) (q2.r hn.2) (star_ok h.1.1 xs X.env)
      · simp only [List.all_cons, Bool.and_eq_true]
        exact ⟨h.1.1, q2.ns⟩
end
end
end Ad
namespace Ad
open PySem PySem.Calls PySem.W PySem.SeqAt PySem.Spec PyProof.Rows L2

section
variable {P : Str → (List D → M D) → Prop} {G : Str → D → Prop} {X : Cx} {Wx : WX} {cc : Cc}
/-- makes a new list -/
def isF : E → Bool
  | .lst _ => true
  | .dkn => true
  | .dtn => true
  | .lc .. => true
  | .bin .Add _ _ => true
  | .bin .Mult _ _ => true
  | .bi .list _ => true
  | .bi .listRange (.cons _ .nil) => true
  | .bi .sortedSet (.cons _ .nil) => true
  | _ => false
/-- the parts of a comprehension -/
structure LcOk (X : Cx) (Wx : WX) (own : List Nat) (tg : Tg) (it t elt : E) (y tgx iter : Expr) (ifs : List Expr) (scope : Scope) (ownp : List (Str × Nat)) : Prop where
  hi : PIr X Wx tgx iter true fun ρ => dE it ρ >>= walked
  ok : BlkOk X.N X.env.scope scope ownp
  ho : ownp.map (·.2) = own
  hsl : ∀ i, i ∈ tg.slots → i ∈ own
  hg : ∀ (s : Shared) (H : Hp) (C : Addr) (cl : List (Str × Addr)) (fp : List Addr), PG (X.blk s H scope (compEnvC scope cl C X.env) fp) tgx (gOf X.K tg)
  ht : ∀ (s : Shared) (H : Hp) (C : Addr) (cl : List (Str × Addr)) (fp : List Addr), PTs (X.blk s H scope (compEnvC scope cl C X.env) fp) ifs (tT X.K X.mg noX (dE t))
  he : ∀ (s : Shared) (H : Hp) (C : Addr) (cl : List (Str × Addr)) (fp : List Addr), PEr (X.blk s H scope (compEnvC scope cl C X.env) fp) noX y (dE elt)
  hs : ∀ v, foldedSetIterable iter X.env v = pure v
theorem lc_ok (c : CtxOk P G X Wx cc) {own : List Nat} {tg : Tg} {it t elt : E} {x : Expr} (hc : cE P G (.lc own tg it t elt)) (h : mE cc (.lc own tg it t elt) x = true) :
    ∃ y tgx iter ifs scope p, x = .ListComp y [⟨tgx, iter, ifs, 0⟩] scope p ∧ LcOk X Wx own tg it t elt y tgx iter ifs scope (ownP cc own) := by
  rw [mE_lc] at h
  obtain ⟨y, tgx, iter, ifs, scope, p, rfl, hh⟩ := on_lc h
  clear h
  have h := hh
  clear hh
  simp only [Bool.and_eq_true] at h
  obtain ⟨⟨⟨⟨⟨⟨⟨⟨h1, h2⟩, h3⟩, h4⟩, h5⟩, h6⟩, h7⟩, h8⟩, h9⟩ := h
  have hk : scope.kind = .function := (blkOk_by h2).kind
  have cb := fun s H C cl fp => c.blk scope hk s H C cl fp
  refine ⟨y, tgx, iter, ifs, scope, p, rfl, ⟨((sE it iter X Wx cc c hc.1).2 tgx h1).b, blkOk_of c h2, ownP_map own, slots_of h3, fun s H C cl fp => (cb s H C cl fp).tg h4, ?_, fun s H C cl fp => ((sE elt y _ noX (cc.blk scope) (cb s H C cl fp) hc.2.2).1 h5).r h6, set_fold h8 _⟩⟩
  intro s H C cl fp
  cases ifs with
  | nil => exact pts_yes (X := X.blk s H scope (compEnvC scope cl C X.env) fp) h9
  | cons z zs =>
    cases zs with
    | nil =>
      have h9 : (mE (cc.blk scope) t z && tst z) = true := h9
      simp only [Bool.and_eq_true] at h9
      exact pts_one (((sE t z _ noX (cc.blk scope) (cb s H C cl fp) hc.2.1).1 h9.1).t h7 h9.2)
    | cons _ _ => cases h9
/-- new lists -/
theorem sF (c : CtxOk P G X Wx cc) {e : E} {x : Expr} (hc : cE P G e) (hf : isF e = true) (h : mE cc e x = true) : PFr X Wx x (dE e) := by
  unfold isF at hf
  split at hf
  · rw [mE] at h
    obtain ⟨xs, p, rfl, hh⟩ := on_lst h
    simp only [Bool.and_eq_true, decide_eq_true_eq] at hh
    exact f_lst ((sEs _ xs X Wx cc c hc hh.1.1).r hh.1.2) (few_of hh.2)
  · rw [mE] at h
    obtain ⟨p, rfl⟩ := on_dic h
    exact f_dkn
  · rw [mE] at h
    obtain ⟨k, p1, j, p2, p, rfl⟩ := on_dtn h
    exact f_dtn c.un
  · obtain ⟨y, tgx, iter, ifs, scope, p, rfl, l⟩ := lc_ok c hc h
    exact f_lc c.calm c.nd l.hi l.ok l.ho l.hsl l.hg l.ht l.he l.hs
  · rw [mE] at h
    obtain ⟨o, y, z, p, rfl, hh⟩ := on_bin h
    simp only [Bool.and_eq_true, decide_eq_true_eq] at hh
    obtain ⟨⟨rfl, h1⟩, h2⟩ := hh
    exact f_add ((sE _ y X Wx cc c hc.1).1 h1).b ((sE _ z X Wx cc c hc.2).1 h2).b
  · rw [mE] at h
    obtain ⟨o, y, z, p, rfl, hh⟩ := on_bin h
    simp only [Bool.and_eq_true, decide_eq_true_eq] at hh
    obtain ⟨⟨rfl, h1⟩, h2⟩ := hh
    exact f_mul ((sE _ y X Wx cc c hc.1).1 h1).b ((sE _ z X Wx cc c hc.2).1 h2).b
  · rw [mE] at h
    obtain ⟨g, p, xs, pos, rfl, hh⟩ := on_call h
    clear h
    simp only [Bool.and_eq_true] at hh
    obtain ⟨h0, h⟩ := hh
    have h : (decide (g = (("list" : Str), false).1) && mEs cc _ xs && !xs.isEmpty) = true := h
    simp only [Bool.and_eq_true, decide_eq_true_eq] at h
    obtain ⟨⟨rfl, h1⟩, h2⟩ := h
    obtain ⟨hgl, hd⟩ := c.gl h0
    have q := sEs _ xs X Wx cc c hc h1
    cases xs with
    | nil => cases h2
    | cons y ys =>
      have hns := q.ns
      simp only [List.all_cons, Bool.and_eq_true] at hns
      exact f_list hgl (c.mg _ (by decide)) PyProof.Rows.boot_list q.b (by decide) hd (star_ok hns.1 ys X.env) (star_any hns.2 pos X.env)
  · rw [mE] at h
    obtain ⟨g, p, xs, pos, rfl, hh⟩ := on_call h
    clear h
    simp only [Bool.and_eq_true, decide_eq_true_eq] at hh
    obtain ⟨h0, hg, h⟩ := hh
    subst hg
    obtain ⟨u, e1, h1⟩ := on_one h
    obtain ⟨r, p2, ys, pos2, e2, h2⟩ := on_call h1
    obtain ⟨v, e3, h3⟩ := on_one h2
    subst e1
    subst e2
    subst e3
    simp only [Bool.and_eq_true, decide_eq_true_eq] at h3
    obtain ⟨⟨hr, h5⟩, h4⟩ := h3
    subst hr
    have q := sEs _ [v] X Wx cc c hc h4
    have hns := q.ns
    simp only [List.all_cons, List.all_nil, Bool.and_true] at hns
    exact f_listRg c.calm (c.gl h0).1 (c.mg _ (by decide)) (c.gl h5).1 (c.mg _ (by decide)) q.all.1.b hns
  · rw [mE] at h
    obtain ⟨g, p, xs, pos, rfl, hh⟩ := on_call h
    clear h
    simp only [Bool.and_eq_true, decide_eq_true_eq] at hh
    obtain ⟨h0, hg, h⟩ := hh
    subst hg
    obtain ⟨u, e1, h1⟩ := on_one h
    obtain ⟨r, p2, ys, pos2, e2, h2⟩ := on_call h1
    obtain ⟨v, e3, h3⟩ := on_one h2
    subst e1
    subst e2
    subst e3
    simp only [Bool.and_eq_true, decide_eq_true_eq] at h3
    obtain ⟨⟨hr, h5⟩, h4⟩ := h3
    subst hr
    have q := sEs _ [v] X Wx cc c hc h4
    have hns := q.ns
    simp only [List.all_cons, List.all_nil, Bool.and_true] at hns
    exact f_sortSet c.calm c.un (c.gl h0).1 (c.mg _ (by decide)) (c.gl h5).1 (c.mg _ (by decide)) q.all.1.b hns
  · cases hf

/-! ### where a store and a comprehension are exchanged -/
def isLc : Expr → Bool
  | .ListComp .. => true
  | .SetComp .. => true
  | .DictComp .. => true
  | _ => false
theorem sw_not {x : Expr} (h : isLc x = false) (t : Option Expr) (n : Nat) (env : PySem.Env) : swapsWith x t n env = pure false := by
  cases x <;> first | rfl | exact absurd h (by simp [isLc])
def lcSw (cc : Cc) (y : Str) (py : Pos) (x : Expr) : Bool := match x with
  | .ListComp _ _ s p => decide (cc.sc.lookup y = some .local) && (py.line == p.line) && !(s.names.any fun (n, k) => n == y && (k == .local || k == .cell))
  | _ => false
theorem sw_lc (c : CtxOk P G X Wx cc) {y : Str} {py : Pos} {x : Expr} (h : ∃ a b s p, x = .ListComp a b s p) (n : Nat) : swapsWith x (some (.Name y py)) n X.env = pure (lcSw cc y py x) := by
  obtain ⟨a, b, s, p, rfl⟩ := h
  show (pure (X.env.blockKind == .function && X.env.kindOf y == some .local && py.line == p.line && !(s.names.any fun (n, k) => n == y && (k == .local || k == .cell))) : Sem Bool) = _
  refine congrArg pure ?_
  have hk : X.env.blockKind = .function := by
    unfold Env.blockKind
    rw [c.kind]
    rfl
  rw [hk, show X.env.kindOf y = cc.sc.lookup y from by unfold Env.kindOf; rw [c.sc]]
  unfold lcSw
  have e1 : (ScopeKind.function == ScopeKind.function) = true := rfl
  rw [e1, Bool.true_and, Bool.beq_eq_decide_eq]
theorem st_setLc {i : Nat} {y : Str} {py spos p : Pos} {own : List Nat} {tg : Tg} {it t elt : E} {z tgx iter : Expr} {ifs : List Expr} {scope : Scope} {ownp : List (Str × Nat)} (hc : X.calm = true) (hN : X.N.Nodup) (hi : X.N[i]? = some y) (hy : X.env.scope.names.lookup y = some .local) (l : LcOk X Wx own tg it t elt z tgx iter ifs scope ownp)
    (hsw : swapsWith (.ListComp z [⟨tgx, iter, ifs, 0⟩] scope p) (some (.Name y py)) spos.line X.env = pure true) :
    PSr X Wx (.Assign [.Name y py] (.ListComp z [⟨tgx, iter, ifs, 0⟩] scope p) spos) fun ρ => dE (.lc own tg it t elt) ρ >>= fun d => pure (.nx (ρ.set i (some (d, false)))) := by
  obtain ⟨hI, ok, ho, hsl, hg, ht, he, hs⟩ := l
  subst ho
  refine ps_imp (ps_setLc (te := tE X.K X.mg noX (dE elt)) hc hN hi hy hsw hI ok hg ht he hs) fun D σ H q => ?_
  obtain ⟨c, ρ, e, q⟩ := q
  show tLc _ _ _ _ _ σ H fun x H1 => D.nx (σ.set i (some x)) H1
  refine read_lc (Wx := Wx) (P := fun c ρ d => VQ X.K c.W (Nn c ρ σ) H (fun x H1 => D.nx (σ.set i (some x)) H1) d) hsl (fun c ρ ys _ e q D acc H' x i n _ hD z l => q _ H' x i (.lst hD n z (l.anti fun a z => .inl z))) ⟨c, ρ, e, ?_⟩
  have q : (mLc (ownp.map (·.2)) tg (fun ρ => dE it ρ >>= walked) (dE t) (dE elt) ρ).run (fun d => Rq X.K c ρ σ H D (.nx (ρ.set i (some (d, false))))) (XS X.K X.mg Wx c) c.b := q
  refine (mLc (ownp.map (·.2)) tg (fun ρ => dE it ρ >>= walked) (dE t) (dE elt) ρ).mono (Q' := fun d => VQ X.K c.W (Nn c ρ σ) H (fun x H1 => D.nx (σ.set i (some x)) H1) d) (fun d _ q v H' x i' r => ?_) (fun _ _ z => z.q e) q
  exact q _ _ (step_set e x (Bound.one (e.ext' x i') _ r)) ((e.ext' x i').setv _ r)
theorem st_setLcO {i : Nat} {y : Str} {py spos p : Pos} {own : List Nat} {tg : Tg} {it t elt : E} {z tgx iter : Expr} {ifs : List Expr} {scope : Scope} {ownp : List (Str × Nat)} (hc : X.calm = true) (hN : X.N.Nodup) (hi : X.N[i]? = some y) (hy : X.env.scope.names.lookup y = some .local) (l : LcOk X Wx own tg it t elt z tgx iter ifs scope ownp)
    (hsw : swapsWith (.ListComp z [⟨tgx, iter, ifs, 0⟩] scope p) (some (.Name y py)) spos.line X.env = pure true) :
    PSr X Wx (.Assign [.Name y py] (.ListComp z [⟨tgx, iter, ifs, 0⟩] scope p) spos) fun ρ => dE (.lc own tg it t elt) ρ >>= fun d => asList d >>= fun xs => pure (.nx (setO ρ i xs)) := by
  obtain ⟨hI, ok, ho, hsl, hg, ht, he, hs⟩ := l
  subst ho
  refine ps_imp (ps_setLc (te := tE X.K X.mg noX (dE elt)) hc hN hi hy hsw hI ok hg ht he hs) fun D σ H q => ?_
  obtain ⟨c, ρ, e, q⟩ := q
  show tLc _ _ _ _ _ σ H fun x H1 => D.nx (σ.set i (some x)) H1
  refine read_lc (Wx := Wx) (P := fun c ρ d => FQ X.K c ρ σ H (fun x H1 => D.nx (σ.set i (some x)) H1) d) hsl (fun c ρ ys _ e q D' acc H' x i' n h0 hD z l => ?_) ⟨c, ρ, e, (mLc _ tg (fun ρ => dE it ρ >>= walked) (dE t) (dE elt) ρ).mono (fun _ _ z => z) (fun _ _ z => z.q e) (read_asgO e q)⟩
  exact f_end e q x i' n h0 hD z l
end
end Ad
namespace Ad
open PySem PySem.Calls PySem.W PySem.SeqAt PySem.Spec PyProof.Rows L2

section
variable {P : Str → (List D → M D) → Prop} {G : Str → D → Prop} {X : Cx} {Wx : WX} {cc : Cc}
/-! ### a, b = x, y -/
def isStar : Expr → Bool
  | .Starred .. => true
  | _ => false
def locName (cc : Cc) (line : Nat) : Expr → Option Str
  | .Name id pos => if cc.sc.lookup id == some .local && pos.line == line then some id else none
  | _ => none
def swapOf (cc : Cc) (ts vs : List Expr) : Option (Option (List Str)) :=
  if !(ts.length == 2 || ts.length == 3) || vs.length != ts.length then some none
  else if vs.any isStar then some none
  else
    let names := ts.filterMap (locName cc ((ts.head?.map (·.pos.line)).getD 0))
    if names.length != ts.length || names.eraseDups.length != names.length then some none
    else if vs.all (foldedForSure 8) then some none
    else if vs.all (constantsAlone 8) then none
    else some (some names)
def swBody (b : Bool) (f : Expr → Option Str) (g : Expr → Bool) (ts vs : List Expr) : Sem (Option (List Str)) := do
  if !(ts.length == 2 || ts.length == 3) || vs.length != ts.length || b then return none
  if vs.any g then return none
  let names := ts.filterMap f
  if names.length != ts.length || names.eraseDups.length != names.length then return none
  if vs.all (foldedForSure 8) then return none
  if vs.all (constantsAlone 8) then unsupported "assign.tuple-of-constant-expressions:order-of-the-stores"
  return some names
theorem sw_body {ts vs : List Expr} {kt k2 : Nat} {pt p2 : Pos} {env : PySem.Env} : swappedStores [.Tuple ts kt pt] (.Tuple vs k2 p2) env = swBody (env.blockKind != .function)
    (fun t => match t with
      | .Name id pos => if env.kindOf id == some .local && pos.line == (ts.head?.map (·.pos.line)).getD 0 then some id else none
      | _ => none) (fun t => match t with | .Starred .. => true | _ => false) ts vs := rfl
theorem swap_ok (c : CtxOk P G X Wx cc) {ts vs : List Expr} {kt k2 : Nat} {pt p2 : Pos} {r : Option (List Str)} (h : swapOf cc ts vs = some r) : swappedStores [.Tuple ts kt pt] (.Tuple vs k2 p2) X.env = pure r := by
  have hk : (X.env.blockKind != .function) = false := by
    unfold Env.blockKind
    rw [c.kind]
    rfl
  have hn : (fun t : Expr => match t with
      | .Name id pos => if X.env.kindOf id == some .local && pos.line == (ts.head?.map (·.pos.line)).getD 0 then some id else none
      | _ => none) = locName cc ((ts.head?.map (·.pos.line)).getD 0) := by
    funext t
    cases t <;> try rfl
    show (if X.env.kindOf _ == some .local && _ then _ else _) = (if cc.sc.lookup _ == some .local && _ then _ else _)
    rw [show ∀ y, X.env.kindOf y = cc.sc.lookup y from fun y => by unfold Env.kindOf; rw [c.sc]]
  have hs : (fun t : Expr => match t with | .Starred .. => true | _ => false) = isStar := by
    funext t
    cases t <;> rfl
  rw [sw_body, hk, hn, hs]
  unfold swapOf at h
  unfold swBody
  rw [Bool.or_false]
  split at h
  · rename_i q
    rw [if_pos q]
    cases h
    rfl
  · rename_i q
    rw [if_neg q]
    split at h
    · rename_i q
      cases h
      rw [if_pos q]
    · rename_i q
      rw [if_neg q]
      dsimp only at h ⊢
      split at h
      · rename_i q
        cases h
        rw [if_pos q]
      · rename_i q
        rw [if_neg q]
        split at h
        · rename_i q
          cases h
          rw [if_pos q]
        · rename_i q
          rw [if_neg q]
          split at h
          · cases h
          · rename_i q
            cases h
            rw [if_neg q]

/-! ### shapes of statements -/
def onAsg (x : Stmt) (f : Expr → Expr → Bool) : Bool := match x with
  | .Assign [t] v _ => f t v
  | _ => false
theorem on_asg {x : Stmt} {f : Expr → Expr → Bool} (h : onAsg x f = true) : ∃ t v p, x = .Assign [t] v p ∧ f t v = true := by
  unfold onAsg at h
  split at h
  · exact ⟨_, _, _, rfl, h⟩
  · cases h
def onAug (x : Stmt) (f : Expr → Expr → Bool) : Bool := match x with
  | .AugAssign t .Add v _ => f t v
  | _ => false
theorem on_aug {x : Stmt} {f : Expr → Expr → Bool} (h : onAug x f = true) : ∃ t v p, x = .AugAssign t .Add v p ∧ f t v = true := by
  unfold onAug at h
  split at h
  · exact ⟨_, _, _, rfl, h⟩
  · cases h
def onFor (x : Stmt) (f : Expr → Expr → List Stmt → Bool) : Bool := match x with
  | .For t i b [] _ => f t i b
  | _ => false
theorem on_for {x : Stmt} {f : Expr → Expr → List Stmt → Bool} (h : onFor x f = true) : ∃ t i b p, x = .For t i b [] p ∧ f t i b = true := by
  unfold onFor at h
  split at h
  · exact ⟨_, _, _, _, rfl, h⟩
  · cases h
def onWhl (x : Stmt) (f : Expr → List Stmt → Bool) : Bool := match x with
  | .While c b [] _ => f c b
  | _ => false
theorem on_whl {x : Stmt} {f : Expr → List Stmt → Bool} (h : onWhl x f = true) : ∃ c b p, x = .While c b [] p ∧ f c b = true := by
  unfold onWhl at h
  split at h
  · exact ⟨_, _, _, rfl, h⟩
  · cases h
def onIte (x : Stmt) (f : Expr → List Stmt → List Stmt → Bool) : Bool := match x with
  | .If c a b _ => f c a b
  | _ => false
theorem on_ite {x : Stmt} {f : Expr → List Stmt → List Stmt → Bool} (h : onIte x f = true) : ∃ c a b p, x = .If c a b p ∧ f c a b = true := by
  unfold onIte at h
  split at h
  · exact ⟨_, _, _, _, rfl, h⟩
  · cases h
def onEx (x : Stmt) (f : Expr → Bool) : Bool := match x with
  | .Expr v _ => f v
  | _ => false
theorem on_ex {x : Stmt} {f : Expr → Bool} (h : onEx x f = true) : ∃ v p, x = .Expr v p ∧ f v = true := by
  unfold onEx at h
  split at h
  · exact ⟨_, _, rfl, h⟩
  · cases h
def onRet (x : Stmt) (f : Option Expr → Bool) : Bool := match x with
  | .Return v _ => f v
  | _ => false
theorem on_ret {x : Stmt} {f : Option Expr → Bool} (h : onRet x f = true) : ∃ v p, x = .Return v p ∧ f v = true := by
  unfold onRet at h
  split at h
  · exact ⟨_, _, rfl, h⟩
  · cases h
def isPass : Stmt → Bool
  | .Pass _ => true
  | _ => false
def isRaise : Stmt → Bool
  | .Raise _ _ _ => true
  | _ => false
def isBrk : Stmt → Bool
  | .Break _ => true
  | _ => false
/-- w.name(xs) -/
def onWM (cc : Cc) (w : Nat) (nm : Str) (x : Expr) (f : List Expr → Bool) : Bool := onMeth x fun o n ap xs p => nmB cc w o && decide (n = nm) && (ap.endLine == p.line) && f xs
def parMs : List (Nat × Bool) → Es → List (Bool × TM D)
  | i :: is, .cons e es => (i.2, dE e) :: parMs is es
  | _, _ => []
def mP (cc : Cc) : List (Nat × Bool) → Es → List Expr → Bool
  | [], .nil, [] => true
  | i :: is, .cons e es, x :: xs => (if i.2 then isF e else nw e) && mE cc e x && notStar x && mP cc is es xs
  | _, _, _ => false
theorem mP_ok (c : CtxOk P G X Wx cc) : ∀ {is : List (Nat × Bool)} {es : Es} {xs : List Expr}, cEs P G es → mP cc is es xs = true → PA X xs (tAP X.K X.mg Wx (parMs is es)) ∧ (∀ ρ, dPar is es ρ = parM (parMs is es) ρ) ∧ is.map (·.2) = (parMs is es).map (·.1) ∧ xs.length = is.length ∧ (parMs is es).length = is.length
  | [], .nil, [], _, _ => ⟨par_nil, fun _ => rfl, rfl, rfl, rfl⟩
  | i :: is, .cons e es, x :: xs, hc, h => by
    simp only [mP, Bool.and_eq_true] at h
    obtain ⟨⟨⟨h1, h2⟩, h3⟩, h4⟩ := h
    obtain ⟨q1, q2, q3, q4, q5⟩ := mP_ok c hc.2 h4
    have hs := star_ok h3 xs X.env
    obtain ⟨i, o⟩ := i
    refine ⟨?_, fun ρ => ?_, ?_, by simp [q4], by simp [parMs, q5]⟩
    · cases o with
      | false => exact par_val (((sE e x X Wx cc c hc.1).1 h2).r h1) q1 hs
      | true => exact par_own (sF c hc.1 h1 h2) q1 hs
    · show (dE e ρ >>= fun d => ownD o d >>= fun d => dPar is es ρ >>= fun ds => pure (d :: ds)) = _
      rw [q2]
      rfl
    · show o :: is.map (·.2) = o :: (parMs is es).map (·.1)
      rw [q3]
  | [], .nil, _ :: _, _, h => by simp [mP] at h
  | [], .cons _ _, _, _, h => by simp [mP] at h
  | _ :: _, .nil, _, _, h => by simp [mP] at h
  | _ :: _, .cons _ _, [], _, h => by simp [mP] at h
def lc1 (cc : Cc) : Expr → Str → Bool
  | .Name x _, y => decide (x = y) && decide (cc.sc.lookup x = some .local)
  | _, _ => false
/-- the three ways in which a, b = x, y is done -/
def mPar (cc : Cc) (is : List (Nat × Bool)) (es : Es) (ts xs : List Expr) : Bool := setsB cc (is.map (·.1)) ts && mP cc is es xs && decide (is.map (·.1)).Nodup && decide (is.length ≤ 100) && (match swapOf cc ts xs with
  | some none => true
  | some (some [a, b]) => (match ts with | [t, u] => lc1 cc t a && lc1 cc u b | _ => false)
  | some (some [a, b, d]) => (match ts with | [t, u, v] => lc1 cc t a && lc1 cc u b && lc1 cc v d | _ => false)
  | _ => false)
theorem lc1_ok (c : CtxOk P G X Wx cc) {t : Expr} {a : Str} (h : lc1 cc t a = true) : ∃ p, t = .Name a p ∧ X.env.scope.names.lookup a = some .local := by
  unfold lc1 at h
  split at h
  · simp only [Bool.and_eq_true, decide_eq_true_eq] at h
    obtain ⟨rfl, h⟩ := h
    exact ⟨_, rfl, by rw [c.sc]; exact h⟩
  · cases h
theorem set_at (c : CtxOk P G X Wx cc) {i : Nat} {a : Str} {p : Pos} (h : setB cc i (.Name a p) = true) : X.N[i]? = some a := by
  obtain ⟨nm, p', e, h1, _⟩ := c.set h
  cases e
  exact h1
theorem mPar_ok (c : CtxOk P G X Wx cc) {is : List (Nat × Bool)} {es : Es} {ts xs : List Expr} {kt k2 : Nat} {pt p2 pos : Pos} (hc : cEs P G es) (h : mPar cc is es ts xs = true) : PSr X Wx (.Assign [.Tuple ts kt pt] (.Tuple xs k2 p2) pos) (dS (.par is es)) := by
  unfold mPar at h
  simp only [Bool.and_eq_true, decide_eq_true_eq] at h
  obtain ⟨⟨⟨⟨h1, h2⟩, h3⟩, h4⟩, h5⟩ := h
  obtain ⟨q1, q2, q3, q4, q5⟩ := mP_ok c hc h2
  have hd : dS (.par is es) = fun ρ => parM (parMs is es) ρ >>= fun ds => pure (.nx (setAll ρ is ds)) := by
    funext ρ
    show (dPar is es ρ >>= fun ds => pure (Rz.nx (setAll ρ is ds)) : M Rz) = _
    rw [q2]
  rw [hd]
  have hss : swapsWithSole [.Tuple ts kt pt] (.Tuple xs k2 p2) pos.line X.env = pure false := rfl
  split at h5
  · rename_i e
    have htg : tgB cc (.t (is.map (·.1))) (.Tuple ts kt pt) = true := h1
    exact st_parT c.calm h3 q3 (by rw [q5]; exact h4) (c.tg htg) q1 (swap_ok c e) hss rfl
  · rename_i a b e
    split at h5
    · simp only [Bool.and_eq_true] at h5
      obtain ⟨p, rfl, l1⟩ := lc1_ok c h5.1
      obtain ⟨q, rfl, l2⟩ := lc1_ok c h5.2
      match is, es, xs, e, h1, h2, h3, q1, q4 with
      | [(i, o1), (j, o2)], .cons e1 (.cons e2 .nil), [x, y], e, h1, h2, h3, q1, q4 =>
        simp only [List.map_cons, List.map_nil, setsB, Bool.and_eq_true] at h1
        have hij : i ≠ j := by simpa using h3
        exact st_par2 c.calm c.nd (set_at c h1.1) (set_at c h1.2.1) hij l1 l2 q1 (swap_ok c e) hss
      | [(i, o1), (j, o2)], .nil, _, e, h1, h2, h3, q1, q4 => simp [mP] at h2
      | [(i, o1), (j, o2)], .cons _ .nil, [], e, h1, h2, h3, q1, q4 => simp [mP] at h2
      | [(i, o1), (j, o2)], .cons _ .nil, _ :: _, e, h1, h2, h3, q1, q4 => simp [mP] at h2
      | [(i, o1), (j, o2)], .cons _ (.cons _ (.cons _ _)), [], e, h1, h2, h3, q1, q4 => simp [mP] at h2
      | [(i, o1), (j, o2)], .cons _ (.cons _ (.cons _ _)), [_], e, h1, h2, h3, q1, q4 => simp [mP] at h2
      | [(i, o1), (j, o2)], .cons _ (.cons _ (.cons _ _)), _ :: _ :: _, e, h1, h2, h3, q1, q4 => simp [mP] at h2
      | [], _, _, _, h1, _, _, _, _ => simp [setsB] at h1
      | [_], _, _, _, h1, _, _, _, _ => simp [setsB] at h1
      | _ :: _ :: _ :: _, _, _, _, h1, _, _, _, _ => simp [setsB] at h1
      | [(i, o1), (j, o2)], .cons e1 (.cons e2 .nil), [], e, h1, h2, h3, q1, q4 => simp at q4
      | [(i, o1), (j, o2)], .cons e1 (.cons e2 .nil), [_], e, h1, h2, h3, q1, q4 => simp at q4
      | [(i, o1), (j, o2)], .cons e1 (.cons e2 .nil), _ :: _ :: _ :: _, e, h1, h2, h3, q1, q4 => simp at q4
    · cases h5
  · rename_i a b d e
    split at h5
    · simp only [Bool.and_eq_true] at h5
      obtain ⟨p, rfl, l1⟩ := lc1_ok c h5.1.1
      obtain ⟨q, rfl, l2⟩ := lc1_ok c h5.1.2
      obtain ⟨r, rfl, l3⟩ := lc1_ok c h5.2
      match is, es, xs, e, h1, h2, h3, q1, q4 with
      | [(i, o1), (j, o2), (l, o3)], .cons e1 (.cons e2 (.cons e3 .nil)), [x, y, z], e, h1, h2, h3, q1, q4 =>
        simp only [List.map_cons, List.map_nil, setsB, Bool.and_eq_true] at h1
        simp only [List.map_cons, List.map_nil, List.nodup_cons, List.mem_cons, List.not_mem_nil, or_false, not_or, List.nodup_nil, and_true, not_false_eq_true] at h3
        exact st_par3 c.calm c.nd (set_at c h1.1) (set_at c h1.2.1) (set_at c h1.2.2.1) h3.1.1 h3.1.2 h3.2 l1 l2 l3 q1 (swap_ok c e) hss
      | [_, _, _], .nil, _, e, h1, h2, h3, q1, q4 => simp [mP] at h2
      | [_, _, _], .cons _ .nil, [], e, h1, h2, h3, q1, q4 => simp [mP] at h2
      | [_, _, _], .cons _ .nil, _ :: _, e, h1, h2, h3, q1, q4 => simp [mP] at h2
      | [_, _, _], .cons _ (.cons _ .nil), [], e, h1, h2, h3, q1, q4 => simp [mP] at h2
      | [_, _, _], .cons _ (.cons _ .nil), [_], e, h1, h2, h3, q1, q4 => simp [mP] at h2
      | [_, _, _], .cons _ (.cons _ .nil), _ :: _ :: _, e, h1, h2, h3, q1, q4 => simp [mP] at h2
      | [_, _, _], .cons _ (.cons _ (.cons _ (.cons _ _))), [], e, h1, h2, h3, q1, q4 => simp [mP] at h2
      | [_, _, _], .cons _ (.cons _ (.cons _ (.cons _ _))), [_], e, h1, h2, h3, q1, q4 => simp [mP] at h2
      | [_, _, _], .cons _ (.cons _ (.cons _ (.cons _ _))), [_, _], e, h1, h2, h3, q1, q4 => simp [mP] at h2
      | [_, _, _], .cons _ (.cons _ (.cons _ (.cons _ _))), _ :: _ :: _ :: _, e, h1, h2, h3, q1, q4 => simp [mP] at h2
      | [], _, _, _, h1, _, _, _, _ => simp [setsB] at h1
      | [_], _, _, _, h1, _, _, _, _ => simp [setsB] at h1
      | [_, _], _, _, _, h1, _, _, _, _ => simp [setsB] at h1
      | _ :: _ :: _ :: _ :: _, _, _, _, h1, _, _, _, _ => simp [setsB] at h1
      | [_, _, _], .cons e1 (.cons e2 (.cons e3 .nil)), [], e, h1, h2, h3, q1, q4 => simp at q4
      | [_, _, _], .cons e1 (.cons e2 (.cons e3 .nil)), [_], e, h1, h2, h3, q1, q4 => simp at q4
      | [_, _, _], .cons e1 (.cons e2 (.cons e3 .nil)), [_, _], e, h1, h2, h3, q1, q4 => simp at q4
      | [_, _, _], .cons e1 (.cons e2 (.cons e3 .nil)), _ :: _ :: _ :: _ :: _, e, h1, h2, h3, q1, q4 => simp at q4
    · cases h5
  · cases h5
/-- a, (b, c) -/
def mNest (cc : Cc) (i : Nat) (js : List Nat) (ts : List Expr) : Bool := match ts with
  | [a, b] => setB cc i a && tgB cc (.t js) b
  | _ => false
theorem mNest_ok (c : CtxOk P G X Wx cc) {i : Nat} {js : List Nat} {ts : List Expr} {k : Nat} {p : Pos} (h : mNest cc i js ts = true) : PG X (.Tuple ts k p) (gTup X.K 2 (gCons (gName i) (gCons (gOf X.K (.t js)) gNil))) := by
  match ts, h with
  | [a, b], h =>
    simp only [mNest, Bool.and_eq_true] at h
    obtain ⟨h1, h2⟩ := h
    have hb : ∃ ys k2 p2, b = .Tuple ys k2 p2 := by
      have h3 : tupB cc js b = true := h2
      unfold tupB at h3
      split at h3
      · exact ⟨_, _, _, rfl⟩
      · cases h3
    obtain ⟨nm, q, rfl, g1, g2, g3⟩ := c.set h1
    have gb := c.tg h2
    obtain ⟨ys, k2, p2, rfl⟩ := hb
    exact pg_tup c.calm (pgs_cons (pg_name c.nd g1 g2 g3) (pgs_cons gb pgs_nil rfl) rfl) rfl rfl
end
end Ad
namespace Ad
open PySem PySem.Calls PySem.W PySem.Spec PyProof.Rows L2

/-! ### several except clauses, each with a name or without -/
/-- what is reached behind a suite whose name goes -/
def endX : Option Nat → Ends → Ends
  | none, D => D
  | some i, D => { nx := fun σ' H' => D.nx (σ'.set i none) H', rt := D.rt, bk := fun σ' H' => D.bk (σ'.set i none) H', ct := fun σ' H' => D.ct (σ'.set i none) H' }
def begX (σ : L2.St) (a : Addr) : Option Nat → L2.St
  | none => σ
  | some i => σ.set i (some (.ref a))
/-- a clause's reading: the value of its class, its name's slot, its suite -/
structure Cl where
  c : Value
  i : Option Nat
  ts : Addr → Value → Option Addr → TS
def wHds (K : PySem.W.Frag) (Wout : WX) (D : Ends) : List Cl → WX
  | [] => Wout
  | h :: r => fun cls d σ H => ∃ b, PySem.W.exmOne K cls h.c = some b ∧ (b = true → ∀ a, H a = none → h.ts a cls d (endX h.i D) (begX σ a h.i) H) ∧ (b = false → wHds K Wout D r cls d σ H)
def SlotOf (X : Cx) : Option Str → Option Nat → Prop
  | none, none => True
  | some n, some i => X.N[i]? = some n ∧ X.env.kindOf n = some .local
  | _, _ => False
inductive HdsN (X : Cx) : List ExceptHandler → List Cl → Prop
  | nil : HdsN X [] []
  | cons {x : Str} {n : Option Str} {h : Cl} {b₀ : Stmt} {suite : List Stmt} {np pos' : Pos} {hds : List ExceptHandler} {l : List Cl} (hc : Names X x h.c) (hn : SlotOf X n h.i)
      (hsu : ∀ (a : Addr) (oe : Obj) (cls : Value) (d : Option Addr) (pn : List (Addr × Obj)), Zc cls d oe → (∃ vs, oe.data = .fields vs) → PSs (X.suite a ((a, oe) :: pn)) (b₀ :: suite) (h.ts a cls d)) (r : HdsN X hds l) :
      HdsN X (.ExceptHandler (some (.Name x np)) n (b₀ :: suite) pos' :: hds) (h :: l)
section
variable {X : Cx} {body : List Stmt} {h₀ : ExceptHandler} {hds : List ExceptHandler} {l : List Cl} {pos : Pos} {tb : WX → TS} {Wout : WX}
theorem ps_try_hds (hs : X.stack = X.env :: X.outer) (hf : X.env.frame = some X.env.locals) (hN : X.N.Nodup) (tk : Takes X Wout)
    (hb : ∀ (W : WX) (pn : List (Addr × Obj)) (xe : Value → Shared → Prop), Takes (X.tr pn xe) W → PassesOwn (model X.prog X.w) X.A X.env xe → PSs (X.tr pn xe) body (tb W))
    (hh : HdsN X (h₀ :: hds) l) : PS X (.Try body (h₀ :: hds) [] [] pos) (fun D σ H => tb (wHds X.K Wout D l) D σ H) := by
  refine ⟨fun pins s σ H D I h => ?_⟩
  have ok := I.ok
  have hfr : X.A.frames = some (X.env :: X.outer) := by rw [ok.frames, hs]
  refine wpAny_Try_except ?_
  refine wpAny_mono ((hb (wHds X.K Wout D l) (X.pn ++ pins) (fun e s₁ => wpAny (model X.prog X.w) X.A (noteFrame e X.env) (fun _ s₂ => wpAny (model X.prog X.w) X.A (setFlight e none) (fun _ s₃ =>
    wpAny (model X.prog X.w) X.A (handleBy e X.env (h₀ :: hds)) (SP X pins D) X.xe s₃) X.xe s₂) X.xe s₁) (fun u s' xx => ?_) PassesOwn.looking).run [] s σ H D (I.toTry _) h) (fun f s1 hsp => ?_) (fun e s1 he => he)
  · obtain ⟨a, B, sI, pins', σ', H', cls, d, rfl, J', nb, up, sky, na, os, ag, w⟩ := xx
    have J : L2.Inv X pins σ' H' sI := J'.ofTry ok
    have sky' : Sky B (X.env :: X.outer) a (Zc cls d) X.env.locals s'.heap := by rw [← hs]; exact sky
    show wpAny (model X.prog X.w) X.A (noteFrame (.ref a) X.env) _ _ _
    refine Sky.land Zc.steady hfr hf sky' fun h3 fl3 up3 => ?_
    have J3 : L2.Inv X pins σ' H' { s' with heap := h3 } := J.landed nb fl3.1 (up.trans up3) os ag
    obtain ⟨oe3, vs3, he3, hz3, hd3⟩ := fl3.there
    have notFr : ∀ {h : Heap} {o : Obj} {vs : Array Value}, h.FunFrames B (X.env :: X.outer) → h.get? a = some o → o.data = .fields vs → a ∉ frs (X.env :: X.outer) := fun {h o vs} ff e dd hm => by
      obtain ⟨_, o', e', hnf⟩ := ff.mem hm
      rw [e] at e'; cases e'
      exact hnf _ dd
    have nfr := notFr fl3.2.2.1 he3 hd3
    have nL : a ≠ X.env.locals := fun z => nfr (List.mem_filterMap.mpr ⟨X.env, List.mem_cons_self, by rw [hf, z]⟩)
    have nF : a ∉ X.fs := fun hm => by
      obtain ⟨e, he, q⟩ := List.mem_filterMap.mp hm
      exact nfr (List.mem_filterMap.mpr ⟨e, List.mem_cons_of_mem _ he, q⟩)
    have S3 := J3.suite he3 hd3 na nL nF
    have go : ∀ {hds' : List ExceptHandler} {l' : List Cl}, HdsN X hds' l' → wHds X.K Wout D l' cls d σ' H' →
        wpAny (model X.prog X.w) X.A (handleBy (.ref a) X.env hds') (SP X pins D) X.xe { s' with heap := h3 } := by
      intro hds' l' hk
      induction hk with
      | nil =>
        intro w
        refine wpAny_handleBy_nil ?_
        obtain ⟨k1, k2, k3, oe, vs, T, oT, ts', he, hz, hd, h1, hr⟩ := id fl3
        unfold PySem.passOn
        refine wpAny_bind (wpAny_field he hd h1 ?_)
        rw [if_neg (show ¬ ((Value.ref T == Value.none) = true) from by simp)]
        have fin : wpAny (model X.prog X.w) X.A (setFlight (.ref a) X.env.frame) (fun _ s4 => wpAny (model X.prog X.w) X.A (throw (.ref a) : Sem Flow) (SP X pins D) X.xe s4) X.xe { s' with heap := h3 } := by
          rw [hf]
          refine HandSPX.setFlight_upZ fl3 fun h4 hh4 up4 => wpAny_throw (tk _ _ ?_)
          exact ⟨a, B, sI, pins, σ', H', cls, d, rfl, J, nb, (up.trans up3).trans up4, .inr (.inr (by rw [hs]; exact hh4)), na, os, ag, w⟩
        first
          | exact wpAny_bind (wpAny_pure (wpAny_bind fin))
          | exact wpAny_bind fin
      | @cons x n h b₀ suite np pos' hds2 l2 hc hn hsu r ih =>
        intro w
        obtain ⟨b, hb1, hyes, hno⟩ := w
        refine wpAny_handleBy_cons (codeAny_handlers_test ?_) (by intro q; cases q)
        have LT : PySem.W.Looks (model X.prog X.w) h3 (typeOf (.ref a)) cls := fun A Q E s k q => wpAny_typeOf_ref (k _ _ he3) (by rw [hz3.1]; exact q)
        have LM := PySem.W.exm_one (M := model X.prog X.w) (J3.kIn) LT hb1
        have test : ∀ {Q : Value → Shared → Prop} {E : Value → Shared → Prop}, Q h.c { s' with heap := h3 } → wpAny (model X.prog X.w) (X.A.mark (some (.ref a))) (eval (.Name x np) X.env) Q E { s' with heap := h3 } := fun {Q E} q => by
          obtain ⟨hg, hdbg, hm | ⟨hm, hv, hnn⟩⟩ := hc
          · exact ld_glob (X := X.suite a ((a, oe3) :: (X.pn ++ pins))) S3 hg hm q hdbg
          · exact ld_blt (X := X.suite a ((a, oe3) :: (X.pn ++ pins))) S3 hg hm hv q hnn hdbg
        refine test (LM.here ?_)
        cases b with
        | true =>
          obtain ⟨c, i, ts⟩ := h
          cases n with
          | none =>
            cases i with
            | some i => exact absurd hn id
            | none =>
              refine codeAny_handlers_suite ?_
              refine HandSPX.lands_againZ fl3 fun h4 fl4 up4 => ?_
              have J4 : L2.Inv X pins σ' H' { s' with heap := h4 } := J.landed nb fl4.1 ((up.trans up3).trans up4) os ag
              obtain ⟨oe4, vs4, he4, hz4, hd4⟩ := fl4.there
              have S4 := J4.suite he4 hd4 na nL nF
              refine wpAny_mono ((hsu a oe4 cls d (X.pn ++ pins) hz4 ⟨_, hd4⟩).run [] _ _ H' _ S4 (hyes rfl a na)) (fun f s6 hsp => ?_) (fun _ _ z => False.elim z)
              cases f with
              | next =>
                obtain ⟨σ6, H6, S6, q6⟩ := hsp
                exact ⟨_, _, S6.unsuite ok, q6⟩
              | brk =>
                obtain ⟨σ6, H6, S6, q6⟩ := hsp
                exact ⟨_, _, S6.unsuite ok, q6⟩
              | cont =>
                obtain ⟨σ6, H6, S6, q6⟩ := hsp
                exact ⟨_, _, S6.unsuite ok, q6⟩
              | ret u =>
                obtain ⟨v6, σ6, H6, S6, r6, q6⟩ := hsp
                exact ⟨_, _, _, S6.unsuite ok, r6, q6⟩
          | some n =>
            cases i with
            | none => exact absurd hn id
            | some i =>
              obtain ⟨hi, hln⟩ := hn
              have hloc : Loc X.env.scope n := .inl hln
              refine codeAny_handlers_suite_as ?_
              refine HandSPX.lands_againZ fl3 fun h4 fl4 up4 => ?_
              have J4 : L2.Inv X pins σ' H' { s' with heap := h4 } := J.landed nb fl4.1 ((up.trans up3).trans up4) os ag
              obtain ⟨oe4, vs4, he4, hz4, hd4⟩ := fl4.there
              have S4 := J4.suite he4 hd4 na nL nF
              refine store_ok (X := X.suite a ((a, oe4) :: (X.pn ++ pins))) (v := .ref a) S4 hN hi hloc rfl (fun s5 S5 => ?_) (.inr hln)
              refine wpAny_mono ((hsu a oe4 cls d (X.pn ++ pins) hz4 ⟨_, hd4⟩).run [] s5 _ H' _ S5 (hyes rfl a na)) (fun f s6 hsp => ?_) (fun _ _ z => False.elim z)
              have end_ : ∀ {σ6 : L2.St} {H6 : Hp} {Q : Shared → Prop}, L2.Inv (X.suite a ((a, oe4) :: (X.pn ++ pins))) [] σ6 H6 s6 → (∀ s7, L2.Inv X pins (σ6.set i none) H6 s7 → Q s7) →
                  wpAny (model X.prog X.w) X.A (do bindName X.env n .none; unbindBehindTheSuite X.env n pos') (fun _ s7 => Q s7) X.xe s6 := fun {σ6 H6 Q} S6 hq => gone_ok (S6.unsuite ok) hN hi hln hq
              cases f with
              | next =>
                obtain ⟨σ6, H6, S6, q6⟩ := hsp
                exact end_ S6 fun s7 J7 => ⟨_, _, J7, q6⟩
              | brk =>
                obtain ⟨σ6, H6, S6, q6⟩ := hsp
                exact end_ S6 fun s7 J7 => ⟨_, _, J7, q6⟩
              | cont =>
                obtain ⟨σ6, H6, S6, q6⟩ := hsp
                exact end_ S6 fun s7 J7 => ⟨_, _, J7, q6⟩
              | ret u =>
                obtain ⟨v6, σ6, H6, S6, r6, q6⟩ := hsp
                exact end_ S6 fun s7 J7 => ⟨_, _, _, J7, r6, q6⟩
        | false =>
          show wpAny _ X.A (handleBy (.ref a) X.env hds2) _ _ _
          exact ih (hno rfl)
    exact go hh w
  · cases f with
    | next =>
      obtain ⟨σ', H', J', q⟩ := hsp
      exact wpAny_execs_nil ⟨σ', H', J'.ofTry ok, q⟩
    | brk =>
      obtain ⟨σ', H', J', q⟩ := hsp
      exact ⟨σ', H', J'.ofTry ok, q⟩
    | cont =>
      obtain ⟨σ', H', J', q⟩ := hsp
      exact ⟨σ', H', J'.ofTry ok, q⟩
    | ret u =>
      obtain ⟨v, σ', H', J', r, q⟩ := hsp
      exact ⟨v, σ', H', J'.ofTry ok, r, q⟩
end
end Ad
namespace Ad
open PySem PySem.Calls PySem.W PySem.SeqAt PySem.Spec PyProof.Rows L2

/-! ### exceptions of the program's own classes -/
def spInit (K : PySem.W.Frag) (f : Str) : Sp := fun vs H Q _ => ∃ (a C : Addr) (v : V), vs = [.ref a, v] ∧ OexC K C ∧ PySem.W.findIn K (.ref C) f = some none ∧ H a = some (exo a C none) ∧
  ∀ dx, H dx = none → dx ≠ a → Q .non (upd (upd H dx (exd dx [(f, v)])) a (exo a C (some dx)))
/-- a class whose __init__ keeps its one argument -/
structure ExcT (K : PySem.W.Frag) (mg : Str → Option Value) (nm f : Str) (C fI : Addr) (fd : FuncData) : Prop where
  gC : mg nm = some (.ref C)
  T : OexC K C
  no : PySem.W.findIn K (.ref C) f = some none
  xf : XfC K C
  iC : PySem.W.findIn K (.ref C) "__init__" = some (some (.ref fI))
  tI : PySem.W.typeIn K (.ref fI) = some (.type "function")
  F : ∀ (P : Program) (w : World) (base : Heap), FnOk P w K mg base CX0 1 fI fd ["self", f] (spInit K f)
  hb : Binds K fd ["self", f] []
def IsExc (K : PySem.W.Frag) (mg : Str → Option Value) (nm f : Str) : Prop := ∃ C fI fd, ExcT K mg nm f C fI fd
/-- what is known of an except clause's class -/
def HdC (K : PySem.W.Frag) (mg : Str → Option Value) (h : Hd) : Prop := ∃ D, mg h.cls = some (.ref D) ∧ (∀ y, y ∈ h.yes → ∃ C, mg y = some (.ref C) ∧ PySem.W.exmOne K (.ref C) (.ref D) = some true) ∧
  (∀ y, y ∈ h.no → ∃ C, mg y = some (.ref C) ∧ PySem.W.exmOne K (.ref C) (.ref D) = some false) ∧ ∀ f, Hi.f f ∈ h.its → ∃ y C, h.yes = [y] ∧ mg y = some (.ref C) ∧ XfC K C ∧ PySem.W.findIn K (.ref C) f = some none
def iniB (f : Str) (body : List Stmt) : Bool := match body with
  | [.Assign [.Attribute (.Name x _) g _] (.Name y _) _] => decide (x = "self") && decide (g = f) && decide (y = f)
  | _ => false
theorem exc_init {K : PySem.W.Frag} {mg : Str → Option Value} {f x qual : Str} {params : Arguments} {body : List Stmt} {scope : Scope} {fI : Addr} {fd : FuncData} (F : FunD K x qual params body scope [] [] fI fd) (S : FnScope ["self", f] ["self", f] scope)
    (hb : iniB f body = true) (h0 : scope.names.lookup ("self" : Str) = some .local) (h1 : scope.names.lookup f = some .local) (hd : (f == ("__debug__" : Str)) = false) (hc : (f == ("__classdict__" : Str)) = false) (P : Program) (w : World) (base : Heap) : FnOk P w K mg base CX0 1 fI fd ["self", f] (spInit K f) := by
  have hb' : ∃ q1 q2 q3 q4, body = [.Assign [.Attribute (.Name "self" q1) f q2] (.Name f q3) q4] := by
    unfold iniB at hb
    split at hb
    · simp only [Bool.and_eq_true, decide_eq_true_eq] at hb
      obtain ⟨⟨rfl, rfl⟩, rfl⟩ := hb
      exact ⟨_, _, _, _, rfl⟩
    · cases hb
  obtain ⟨q1, q2, q3, q4, rfl⟩ := hb'
  refine F.ok S (fun vs H Q E h => ?_) fun cdv A outer s H vs Q E hr h => ⟨_, pss_one (ps_ost (pe_var (i := 0) rfl (.inl h0)) (pe_var (i := 1) rfl (.inl h1) hd hc)), ?_⟩
  · obtain ⟨a, C, v, rfl, _⟩ := h
    rfl
  · obtain ⟨a, C, v, rfl, T, no, ha, q⟩ := h
    exact ⟨v, rfl, .ref a, rfl, a, C, rfl, T, no, .inl ⟨ha, fun dx n ne => q dx n ne⟩⟩
section
variable {X : Cx} {Wx : WX} {pos : Pos}
theorem del_back {H1 H2 : Hp} {a dx : Addr} {o : HO} (ha : H1 a = none) (h : ∀ b, b ≠ a → b ≠ dx → H2 b = H1 b) : upd (L2.del H2 a) dx o = upd H1 dx o := by
  funext b
  by_cases hb : b = dx
  · rw [hb, upd_same, upd_same]
  · rw [upd_ne hb, upd_ne hb]
    by_cases hb2 : b = a
    · rw [hb2, del_same, ha]
    · rw [del_ne hb2, h b hb2 hb]
/-- raise C(e) -/
theorem st_rse {nm f : Str} {e : Expr} {es : List Expr} {m : TM (List D)} {p pos2 : Pos} (T : IsExc X.K X.mg nm f) (hc : X.calm = true) (hr : Room 2 X.A) (tk : Takes X Wx) (hg : Gl X nm) (ha : PAr X Wx (e :: es) m) (hdb : (nm == ("__debug__" : Str)) = false)
    (he : starEach (e :: es) X.env = (false, eval e X.env) :: starEach es X.env) (hpl : (backTo pos (starEach es X.env)).any (·.1) = false) :
    PSr X Wx (.Raise (some (.Call (.Name nm p) (e :: es) [] pos)) none pos2) fun ρ => m ρ >>= fun ds => M.grd (ds.length = [f].length ∧ [f] ≠ []) >>= fun _ => M.thr ⟨nm, [f].zip ds⟩ := by
  obtain ⟨C, fI, fd, T⟩ := T
  refine ps_imp (ps_raise hc tk (pmk_oex T.T T.iC T.tI (T.F _ _ _) hr T.hb .nil pass0 hg T.gC ha hdb he hpl)) fun D σ H q => ?_
  obtain ⟨c, ρ, e, q⟩ := q
  refine ⟨c, ρ, e, (m ρ).mono (fun ds b q vs H1 x i rv => ?_) (fun _ _ z => z.q e) q⟩
  obtain ⟨⟨hl, _⟩, q⟩ := q
  match ds, hl, rv, q with
  | [d], _, rv, q =>
    cases rv with
    | @cons v _ _ _ r t =>
      cases t
      refine ⟨by simp, fun a ha => ⟨a, C, v, rfl, T.T, T.no, upd_same, fun dx hdx hne => ⟨rfl, dx, [(f, v)], upd_same, ?_, ?_, ?_⟩⟩⟩
      · rw [upd_ne hne, upd_same]
      · rwa [upd_ne hne] at hdx
      · rw [upd_ne hne] at hdx
        rw [del_back (H1 := H1) ha fun b h1 h2 => by rw [upd_ne h1, upd_ne h2, upd_ne h1]]
        have e1 := e.ext' x i
        obtain ⟨x2, i2, n2⟩ := e1.vc.new (o := .xd [(f, v)]) hdx
        refine q (.ref C) (some dx) σ _ (e1.ext.trans x2) i2 ⟨C, T.gC, rfl, .inr ⟨by simp, dx, [v], rfl, upd_same, .cons ((r.ext (x2.wide e.vc.bv)).anti fun a z => .inl z) .nil⟩⟩

/-! ### try -/
/-- what a statement needs of the def that it stands in -/
structure StOk (X : Cx) : Prop where
  po : PassesOwn (model X.prog X.w) X.A X.env X.xe
  stk : X.stack = X.env :: X.outer
  frm : X.env.frame = some X.env.locals
theorem CtxOk.tr {P : Str → (List D → M D) → Prop} {G : Str → D → Prop} {cc : Cc} (c : CtxOk P G X Wx cc) {W : WX} {pn : List (Addr × Obj)} {xe : Value → Shared → Prop} (tk : Takes (X.tr pn xe) W) : CtxOk P G (X.tr pn xe) W cc :=
  ⟨c.N, c.nd, c.sc, c.kind, c.fn, c.calm, tk, c.grd, c.un, c.mg, c.sys, c.call, c.glob, c.rm⟩
def hiB (cc : Cc) (slot : Option Nat) : Hi → Expr → Bool
  | .s z, x => onCon x fun c => conE c (.str z)
  | .f nm, .Attribute o n _ => (match slot with | some i => nmB cc i o | none => false) && decide (n = nm) && notSup o
  | _, _ => false
def hisB (cc : Cc) (slot : Option Nat) : List Hi → List Expr → Bool
  | [], [] => true
  | h :: hs, x :: xs => hiB cc slot h x && notStar x && hisB cc slot hs xs
  | _, _ => false
def slotB (cc : Cc) : Option Nat → Option Str → Bool
  | none, none => true
  | some i, some n => decide (cc.N[i]? = some n) && decide (cc.sc.lookup n = some .local)
  | _, _ => false
def hdB (cc : Cc) (h : Hd) : ExceptHandler → Bool
  | .ExceptHandler (some (.Name x _)) n [.Assign [t] (.List xs _) _] _ => decide (x = h.cls) && glB cc x && slotB cc h.slot n && setB cc h.out t && hisB cc h.slot h.its xs && decide (h.slot ≠ some h.out) && decide (h.its.length ≤ 1000)
  | _ => false
def hdsB (cc : Cc) : List Hd → List ExceptHandler → Bool
  | [], [] => true
  | h :: hs, x :: xs => hdB cc h x && hdsB cc hs xs
  | _, _ => false
variable {P : Str → (List D → M D) → Prop} {G : Str → D → Prop} {cc : Cc}
/-- what stands in the list, at the exception a -/
def tHi (C a : Addr) (cls : Value) (d : Option Addr) (slot : Option Nat) : Hi → TE
  | .s z => tC (.str z)
  | .f nm => (match slot with | some i => tXf a cls d C nm (tVar i) | none => fun _ _ _ => False)
def tHis (C a : Addr) (cls : Value) (d : Option Addr) (slot : Option Nat) : List Hi → TA
  | [] => tNil
  | h :: hs => tCons (tHi C a cls d slot h) (tHis C a cls d slot hs)
theorem his_pa (c : CtxOk P G X Wx cc) {C a : Addr} {oe : Obj} {cls : Value} {d : Option Addr} {pn : List (Addr × Obj)} {slot : Option Nat} (hz : Zc cls d oe) (hf : ∃ vs, oe.data = .fields vs) : ∀ {its : List Hi} {xs : List Expr}, (∀ f, Hi.f f ∈ its → XfC X.K C ∧ PySem.W.findIn X.K (.ref C) f = some none) → hisB cc slot its xs = true →
    PA (X.suite a ((a, oe) :: pn)) xs (tHis C a cls d slot its) ∧ xs.length = its.length
  | [], [], _, _ => ⟨pa_nil, rfl⟩
  | h :: hs, x :: xs, hC, hB => by
    simp only [hisB, Bool.and_eq_true] at hB
    obtain ⟨⟨h1, h2⟩, h3⟩ := hB
    obtain ⟨g1, g2⟩ := his_pa c (slot := slot) hz hf (fun f q => hC f (List.mem_cons_of_mem _ q)) h3
    refine ⟨pa_cons ?_ g1 (star_ok h2 _ _), by simp [g2]⟩
    cases h with
    | s z =>
      obtain ⟨k, j, p, rfl, q⟩ := on_con (show onCon x (fun c => conE c (.str z)) = true from h1)
      have ek : k = .str z := by
        cases k <;> first
          | (have e3 := of_decide_eq_true q; rw [e3]; done)
          | cases q
      subst ek
      exact pe_str
    | f nm =>
      obtain ⟨o1, o2⟩ := hC nm List.mem_cons_self
      unfold hiB at h1
      split at h1
      · rename_i q; cases q
      · rename_i nm' o n p q
        cases q
        simp only [Bool.and_eq_true, decide_eq_true_eq] at h1
        obtain ⟨⟨k1, rfl⟩, k3⟩ := h1
        cases slot with
        | none => cases k1
        | some i =>
          obtain ⟨wn, wp, rfl, m1, m2, m3, m4⟩ := c.name k1
          exact pe_xf o1 o2 hz hf (pe_var (X := X.suite a ((a, oe) :: pn)) m1 m2 m3 m4) (sup_ok k3 _ _ _)
      · cases h1
  | [], _ :: _, _, hB => by simp [hisB] at hB
  | _ :: _, [], _, hB => by simp [hisB] at hB
/-- the clause's list is made of the exception's fields -/
theorem his_run {K : PySem.W.Frag} {W : Wd} {N : Addr → Prop} {H : Hp} {C a : Addr} {cls : Value} {d : Option Addr} {slot : Option Nat} {σ : L2.St} {x : XV} {R : XV → Nat → Prop} {b : Nat} (hs : ∀ i, slot = some i → σ[i]? = some (some (.ref a)))
    (hx : (x.fs = [] ∧ d = none) ∨ (x.fs ≠ [] ∧ ∃ dd vs, d = some dd ∧ H dd = some (.xd ((x.fs.map (·.1)).zip vs)) ∧ RepL K W N H vs (x.fs.map (·.2)))) :
    ∀ {its : List Hi} {Q : List D → Nat → Prop} {T : List V → Hp → Prop}, (∀ f, Hi.f f ∈ its → cls = .ref C) → (mapE (hiV x) its).run Q R b → (slot = none → ∀ f, Hi.f f ∉ its) → (∀ vs ds, Q ds b → RepL K W N H vs ds → T vs H) → tHis C a cls d slot its σ H T
  | [], Q, T, _, q, _, h => h [] [] q .nil
  | it :: its, Q, T, hC, q, hn, h => by
    have q : (hiV x it).run (fun d0 b' => (mapE (hiV x) its).run (fun ds b'' => Q (d0 :: ds) b'') R b') R b := q
    cases it with
    | s z =>
      exact his_run (its := its) hs hx (fun f m => hC f (List.mem_cons_of_mem _ m)) q (fun e f m => hn e f (List.mem_cons_of_mem _ m)) fun vs ds q r => h _ _ q (.cons (.str z) r)
    | f nm =>
      obtain ⟨d0, hl, q⟩ := oget_run (show (oget (x.fs.lookup nm)).run _ R b from q)
      have hv : ∃ dd v, d = some dd ∧ (∃ fs, H dd = some (.xd fs) ∧ fs.lookup nm = some v) ∧ Rep K W N H v d0 := by
        rcases hx with ⟨e, _⟩ | ⟨_, dd, vs, e1, e2, e3⟩
        · rw [e] at hl; cases hl
        · have key : ∀ {fs : List (Str × D)} {vs : List V}, RepL K W N H vs (fs.map (·.2)) → fs.lookup nm = some d0 → ∃ v, ((fs.map (·.1)).zip vs).lookup nm = some v ∧ Rep K W N H v d0 := by
            intro fs
            induction fs with
            | nil => intro vs _ z; cases z
            | cons y fs ih =>
              intro vs r z
              obtain ⟨y1, y2⟩ := y
              cases r with
              | @cons v vs' _ _ r0 r1 =>
                rw [List.map_cons, List.zip_cons_cons]
                by_cases e : nm = y1
                · subst e
                  rw [List.lookup_cons_self] at z
                  cases z
                  exact ⟨v, List.lookup_cons_self, r0⟩
                · have e' : (nm == y1) = false := by simpa using e
                  simp only [List.lookup, e'] at z ⊢
                  exact ih r1 z
          obtain ⟨v, l1, l2⟩ := key e3 hl
          exact ⟨dd, v, e1, ⟨_, e2, l1⟩, l2⟩
      obtain ⟨dd, v, e1, ⟨fs, e2, e3⟩, r⟩ := hv
      cases slot with
      | none => exact absurd List.mem_cons_self (hn rfl nm)
      | some i =>
        refine ⟨.ref a, hs i rfl, rfl, hC nm List.mem_cons_self, dd, fs, v, e1, e2, e3, ?_⟩
        exact his_run (its := its) hs hx (fun f m => hC f (List.mem_cons_of_mem _ m)) q (fun e f m => hn e f (List.mem_cons_of_mem _ m)) fun vs ds q r' => h _ _ q (.cons r r')
theorem his_len {x : XV} : ∀ {its : List Hi} {Q : List D → Nat → Prop} {R : XV → Nat → Prop} {b : Nat}, (mapE (hiV x) its).run Q R b → (mapE (hiV x) its).run (fun ds b => ds.length = its.length ∧ Q ds b) R b
  | [], _, _, _, q => ⟨rfl, q⟩
  | it :: its, Q, R, b, q => (hiV x it).mono (fun d0 b' q => (mapE (hiV x) its).mono (fun ds _ q => ⟨by rw [List.length_cons, List.length_cons, q.1], q.2⟩) (fun _ _ z => z) (his_len q)) (fun _ _ z => z) (show (hiV x it).run (fun d0 b' => (mapE (hiV x) its).run (fun ds b'' => Q (d0 :: ds) b'') R b') R b from q)
theorem his_slot {cc : Cc} {its : List Hi} {xs : List Expr} (h : hisB cc none its xs = true) : ∀ f, Hi.f f ∉ its := by
  induction its generalizing xs with
  | nil => intro f z; cases z
  | cons it its ih =>
    cases xs with
    | nil => simp [hisB] at h
    | cons x xs =>
      simp only [hisB, Bool.and_eq_true] at h
      intro f z
      rcases List.mem_cons.mp z with e | z
      · subst e
        have h1 := h.1.1
        unfold hiB at h1
        split at h1
        · rename_i q; cases q
        · simp at h1
        · cases h1
      · exact ih h.2 f z
theorem slot_ok (c : CtxOk P G X Wx cc) {i : Option Nat} {n : Option Str} (h : slotB cc i n = true) : SlotOf X n i := by
  unfold slotB at h
  split at h
  · trivial
  · simp only [Bool.and_eq_true, decide_eq_true_eq] at h
    refine ⟨by rw [c.N]; exact h.1, ?_⟩
    unfold Env.kindOf
    rw [c.sc]
    exact h.2
  · cases h
theorem hd_shape {h : Hd} {x : ExceptHandler} (q : hdB cc h x = true) : ∃ np n t xs lp ap hp, x = .ExceptHandler (some (.Name h.cls np)) n [.Assign [t] (.List xs lp) ap] hp ∧ glB cc h.cls = true ∧ slotB cc h.slot n = true ∧ setB cc h.out t = true ∧ hisB cc h.slot h.its xs = true ∧ h.slot ≠ some h.out ∧ h.its.length ≤ 1000 := by
  unfold hdB at q
  split at q
  · simp only [Bool.and_eq_true, decide_eq_true_eq] at q
    obtain ⟨⟨⟨⟨⟨⟨rfl, q1⟩, q2⟩, q3⟩, q4⟩, q5⟩, q6⟩ := q
    exact ⟨_, _, _, _, _, _, _, rfl, q1, q2, q3, q4, q5, q6⟩
  · cases q
theorem set3 {σ : L2.St} {i o : Nat} {x y : Option V} (h : i ≠ o) : ((σ.set i x).set o y).set i none = (σ.set o y).set i none := by
  have e : (σ.set i x).set o y = (σ.set o y).set i x := List.set_comm _ _ h
  rw [e, List.set_set]
theorem hds_ok (c : CtxOk P G X Wx cc) : ∀ {hs : List Hd} {hds : List ExceptHandler}, hdsB cc hs hds = true → (∀ h, h ∈ hs → HdC X.K X.mg h) →
    ∃ l, HdsN X hds l ∧ ∀ (D : Ends) (cf : Cf) (ρ : Ev) (σ : L2.St) (H : Hp) (xv : XV) (n : Nat), EnvOk X.K cf ρ σ H → (hdE xv ρ hs).run (Rq X.K cf ρ σ H D) (XS X.K X.mg Wx cf) n → XQ X.K X.mg (wHds X.K Wx D l) cf ρ σ H xv n
  | [], [], _, _ => ⟨[], .nil, fun D cf ρ σ H xv n ev q => XS.q ev q⟩
  | h :: hs, y :: hds, hB, hC => by
    have hB : (hdB cc h y && hdsB cc hs hds) = true := hB
    simp only [Bool.and_eq_true] at hB
    obtain ⟨hB1, hB2⟩ := hB
    obtain ⟨l, hN, hW⟩ := hds_ok c hB2 fun h' m => hC h' (List.mem_cons_of_mem _ m)
    obtain ⟨np, n, t, xs, lp, ap, hp, rfl, b1, b2, b3, b4, b5, b6⟩ := hd_shape hB1
    obtain ⟨D0, m0, my, mn, mf⟩ := hC h List.mem_cons_self
    have hC0 : ∃ C0, ∀ f, Hi.f f ∈ h.its → (XfC X.K C0 ∧ PySem.W.findIn X.K (.ref C0) f = some none) ∧ ∃ y, h.yes = [y] ∧ X.mg y = some (.ref C0) := by
      by_cases ex : ∃ f, Hi.f f ∈ h.its
      · obtain ⟨f0, hf0⟩ := ex
        obtain ⟨y, C, e1, e2, e3, e4⟩ := mf f0 hf0
        refine ⟨C, fun f hf => ?_⟩
        obtain ⟨y', C', e1', e2', e3', e4'⟩ := mf f hf
        rw [e1] at e1'
        cases e1'
        rw [e2] at e2'
        cases e2'
        exact ⟨⟨e3', e4'⟩, y, e1, e2⟩
      · exact ⟨0, fun f hf => absurd ⟨f, hf⟩ ex⟩
    obtain ⟨C0, hC0⟩ := hC0
    obtain ⟨tn, tp, rfl, g1, g2, g3⟩ := c.set b3
    obtain ⟨gl, dbg⟩ := c.gl b1
    refine ⟨⟨.ref D0, h.slot, fun a cls d => tAsg (tLst (tHis C0 a cls d h.slot h.its)) (gName h.out)⟩ :: l, HdsN.cons (h := ⟨.ref D0, h.slot, fun a cls d => tAsg (tLst (tHis C0 a cls d h.slot h.its)) (gName h.out)⟩) ⟨gl, dbg, .inl m0⟩ (slot_ok c b2) (fun a oe cls d pn hz hf => pss_one (ps_set (X := X.suite a ((a, oe) :: pn)) c.nd g1 g2 (pe_lst (his_pa c hz hf (fun f m => (hC0 f m).1) b4).1) rfl g3)) hN, ?_⟩
    intro D cf ρ σ H xv nn ev q cls d H' x i' rx
    obtain ⟨C, rC, rcls, rf⟩ := id rx
    unfold hdE at q
    split at q
    · rename_i hy
      obtain ⟨C', e1, e2⟩ := my xv.cls (by simpa using hy)
      rw [rC] at e1
      cases e1
      refine ⟨true, by rw [rcls]; exact e2, fun _ a na => ?_, fun z => Bool.noConfusion z⟩
      obtain ⟨hsI, q⟩ := q
      have q : (mapE (hiV xv) h.its).run (fun ds n => Rq X.K cf ρ σ H D (.nx (wipeO (ρ.set h.out (some (.list ds, false))) h.slot)) n) (XS X.K X.mg Wx cf) nn := q
      show tHis C0 a cls d h.slot h.its (begX σ a h.slot) H' fun xs H1 => xs.length ≤ sizeLine ∧ ∀ p, H1 p = none → (endX h.slot D).nx ((begX σ a h.slot).set h.out (some (.ref p))) (upd H1 p (.lst xs))
      have e1 := ev.ext' x i'
      have hsl : ∀ i, h.slot = some i → (begX σ a h.slot)[i]? = some (some (.ref a)) := fun i ei => by
        rw [ei]
        rw [ei] at hsI
        exact set_eq (by rw [← ev.len]; exact hsI)
      refine his_run (W := cf.W) (N := Nn cf ρ σ) hsl rf (fun f m => ?_) (his_len q) (fun e f => ?_) fun vs ds q r => ?_
      · obtain ⟨_, y, e3, e4⟩ := hC0 f m
        rw [e3] at hy
        have e5 : xv.cls = y := by simpa using hy
        rw [e5, e4] at rC
        cases rC
        exact rcls
      · rw [e] at b4
        exact his_slot b4 f
      · obtain ⟨hl, q⟩ := q
        have hz : ds.length ≤ sizeLine := by rw [hl, sizeLine_eq]; omega
        refine ⟨by rw [r.length]; exact hz, fun p hp => ?_⟩
        obtain ⟨x2, i2, n2⟩ := e1.vc.new (o := .lst vs) hp
        have e2 := e1.ext' x2 i2
        have rp : Rep X.K cf.W (Nn cf ρ σ) (upd H' p (.lst vs)) (.ref p) (.list ds) := .lst upd_same n2 hz (r.ext (x2.wide ev.vc.bv))
        have bd := Bound.one e2 h.out rp
        have st : Step cf ρ σ H _ _ (upd H' p (.lst vs)) := step_set ev (x.trans x2) bd
        cases hsl2 : h.slot with
        | none =>
          rw [hsl2] at q
          exact q _ _ st bd.ok
        | some i =>
          rw [hsl2] at q b5
          show D.nx ((((σ.set i (some (.ref a))).set h.out (some (.ref p)))).set i none) _
          rw [set3 (fun z => b5 (by rw [z]))]
          exact q _ _ (st.trans ⟨Ext.refl _, fun a z => .inl (nn_sub (fun _ z => by cases z) z)⟩) (bd.ok.seti i (fun _ z => by cases z) fun _ z => by cases z)
    · split at q
      · rename_i hy
        obtain ⟨C', e1, e2⟩ := mn xv.cls (by simpa using hy)
        rw [rC] at e1
        cases e1
        exact ⟨false, by rw [rcls]; exact e2, fun z => Bool.noConfusion z, fun _ => hW D cf ρ σ H xv nn ev q cls d H' x i' rx⟩
      · exact q.elim
  | [], _ :: _, hB, _ => by simp [hdsB] at hB
  | _ :: _, [], hB, _ => by simp [hdsB] at hB
/-- try: x = e, and what follows; except C as n: y = [..] -/
theorem st_tri (c : CtxOk P G X Wx cc) (so : StOk X) {i : Nat} {e : E} {b : Ev → M Rz} {hs : List Hd} {t v : Expr} {p : Pos} {body' : List Stmt} {hds : List ExceptHandler} (h1 : setB cc i t = true) (hl : isLc v = false)
    (hv : ∀ (W : WX) (pn : List (Addr × Obj)) (xe : Value → Shared → Prop), Takes (X.tr pn xe) W → PEr (X.tr pn xe) W v (dE e))
    (hb : ∀ (W : WX) (pn : List (Addr × Obj)) (xe : Value → Shared → Prop), Takes (X.tr pn xe) W → PassesOwn (model X.prog X.w) X.A X.env xe → PSsr (X.tr pn xe) W body' b)
    (hh : hdsB cc hs hds = true) (hne : hds ≠ []) (hc : ∀ h, h ∈ hs → HdC X.K X.mg h) :
    PSr X Wx (.Try (.Assign [t] v p :: body') hds [] [] pos) fun ρ => M.cat (dE e ρ) (fun d => M.quiet (b (ρ.set i (some (d, false))))) fun x => hdE x ρ hs := by
  obtain ⟨y, py, rfl, g1, g2, g3⟩ := c.set h1
  obtain ⟨l, hN, hW⟩ := hds_ok c hh hc
  cases hds with
  | nil => exact absurd rfl hne
  | cons h₀ hds =>
    refine ps_imp (ps_try_hds (tb := fun W => tSeq (tAsg (tE X.K X.mg W (dE e)) (gName i)) (tSt X.K X.mg W b)) so.stk so.frm c.nd c.tk (fun W pn xe tk po => pss_cons (ps_set (X := X.tr pn xe) c.nd g1 g2 (hv W pn xe tk) (sw_not hl _ _ _) g3) (hb W pn xe tk po)) hN) fun D σ H q => ?_
    obtain ⟨cf, ρ, ev, q⟩ := q
    refine ⟨cf, ρ, ev, (dE e ρ).mono (fun d n q v H' x i' r => ?_) (fun xv n q => hW D cf ρ σ H xv n ev q) q⟩
    have bd := Bound.one (ev.ext' x i') i r
    exact ⟨cf.at n, _, bd.ok, (b _).mono (fun r _ q => q.later (step_set ev x bd)) (fun _ _ z => z.elim) q⟩
end
end Ad
namespace Ad
open PySem PySem.Calls PySem.W PySem.SeqAt PySem.Spec PyProof.Rows L2

section
variable (P : Str → (List D → M D) → Prop) (G : Str → D → Prop) (K : PySem.W.Frag) (mg : Str → Option Value)
mutual
def cS : S → Prop
  | .asg _ e => cE P G e
  | .asgO _ e => cE P G e
  | .pop _ _ => True
  | .asgT _ e => cE P G e
  | .asgN _ _ e => cE P G e
  | .par _ es => cEs P G es
  | .app _ e => cE P G e
  | .appPop _ _ e => cE P G e
  | .rot _ e => cE P G e
  | .rem _ e => cE P G e
  | .ext _ e => cE P G e
  | .set _ i e => cE P G i ∧ cE P G e
  | .aug _ e => cE P G e
  | .ex e => cE P G e
  | .ite c a b => cE P G c ∧ cSs a ∧ cSs b
  | .for _ it b => cE P G it ∧ cSs b
  | .forPop _ a _ b => cE P G a ∧ cSs b
  | .whl c b => cE P G c ∧ cSs b
  | .ret e => cE P G e
  | .retn => True
  | .brk => True
  | .pass => True
  | .nev => True
  | .frz _ => True
  | .dkUn .. => True
  | .dkInc _ e => cE P G e
  | .vset _ j e => cE P G j ∧ cE P G e
  | .dput _ i e => cE P G i ∧ cE P G e
  | .dtput _ e => cE P G e
  | .rse cls fs es => (∃ f, fs = [f] ∧ IsExc K mg cls f) ∧ cEs P G es
  | .tri _ e rest hs => cE P G e ∧ cSs rest ∧ ∀ h, h ∈ hs → HdC K mg h
def cSs : Ss → Prop
  | .nil => True
  | .cons s ss => cS s ∧ cSs ss
end
end
def onRse (x : Stmt) (f : Str → List Expr → Bool) : Bool := match x with
  | .Raise (some (.Call (.Name g _) xs [] _)) none _ => f g xs
  | _ => false
theorem on_rse {x : Stmt} {f : Str → List Expr → Bool} (h : onRse x f = true) : ∃ g p xs pos pos2, x = .Raise (some (.Call (.Name g p) xs [] pos)) none pos2 ∧ f g xs = true := by
  unfold onRse at h
  split at h
  · exact ⟨_, _, _, _, _, rfl, h⟩
  · cases h
def onTry (x : Stmt) (f : Expr → Expr → List Stmt → List ExceptHandler → Bool) : Bool := match x with
  | .Try (.Assign [t] v _ :: body) hds [] [] _ => f t v body hds
  | _ => false
theorem on_try {x : Stmt} {f : Expr → Expr → List Stmt → List ExceptHandler → Bool} (h : onTry x f = true) : ∃ t v p body hds pos, x = .Try (.Assign [t] v p :: body) hds [] [] pos ∧ f t v body hds = true := by
  unfold onTry at h
  split at h
  · exact ⟨_, _, _, _, _, _, rfl, h⟩
  · cases h
def isLcE : E → Bool
  | .lc .. => true
  | _ => false
mutual
def mS (cc : Cc) : S → Stmt → Bool
  | .asg i e, x => onAsg x fun t v => setB cc i t && mE cc e v && nw e && (!isLc v || isLcE e)
  | .asgO i e, x => onAsg x fun t v => setB cc i t && mE cc e v && isF e && (!isLc v || isLcE e)
  | .pop i w, x => onAsg x fun t v => setB cc i t && onWM cc w "pop" v fun xs => xs.isEmpty
  | .asgT is e, x => onAsg x fun t v => tupB cc is t && mE cc e v && nw e && !isTupE v && !isLc v
  | .asgN i js e, x => onAsg x fun t v => onTup t fun ts => onTup v fun xs => mNest cc i js ts && (match swapOf cc ts xs with | some none => true | _ => false) && mE cc e v && nw e
  | .par is es, x => onAsg x fun t v => onTup t fun ts => onTup v fun xs => mPar cc is es ts xs
  | .app w e, x => onEx x fun v => onWM cc w "append" v fun xs => one xs fun y => mE cc e y && nw e && notStar y
  | .appPop w u e, x => onEx x fun v => onWM cc w "append" v fun xs => one xs fun y => onWM cc u "pop" y fun ys => one ys fun z => mE cc e z && nw e && notStar z
  | .rot w e, x => onEx x fun v => onWM cc w "append" v fun xs => one xs fun y => onWM cc w "pop" y fun ys => one ys fun z => mE cc e z && nw e && notStar z
  | .rem w e, x => onEx x fun v => onWM cc w "remove" v fun xs => one xs fun y => mE cc e y && nw e && notStar y
  | .ext w e, x => onEx x fun v => onWM cc w "extend" v fun xs => one xs fun y => mE cc e y && nw e && notStar y
  | .set w i e, x => onAsg x fun t v => onSub t fun o y => nmB cc w o && mE cc i y && nw i && notSlice y && mE cc e v && nw e && !isLc v
  | .aug i e, x => onAug x fun t v => setB cc i t && mE cc e v && nw e
  | .ex e, x => onEx x fun v => mE cc e v && nw e && !isLc v
  | .ite c a b, x => onIte x fun z xs ys => mE cc c z && nw c && tst z && mSs cc a xs && mSs cc b ys
  | .for tg it b, x => onFor x fun tgx iter xs => mI cc it iter tgx && nwI it && tgB cc tg tgx && notSet iter && mSs cc b xs
  | .forPop tg a w b, x => onFor x fun tgx iter xs => onSub iter (fun y z => mE cc a y && nw a && onWM cc w "pop" z fun ys => ys.isEmpty) && tgB cc tg tgx && mSs cc b xs
  | .whl c b, x => onWhl x fun z xs => mE cc c z && nw c && tst z && mSs cc b xs
  | .ret e, x => onRet x fun v => (match v with | some y => mE cc e y && nw e | none => false)
  | .retn, x => onRet x fun v => (match v with | some _ => false | none => true)
  | .brk, x => isBrk x
  | .pass, x => isPass x
  | .nev, x => isRaise x
  | .frz _, _ => false
  | .dkUn ic it ir w, x => onAsg x fun t v => tupB cc [ic, it, ir] t && nmB cc w v
  | .dkInc w e, x => onAsg x fun t v => onSub t fun o y => nmB cc w o && onCon y (fun k => conE k (.int 1)) && mE cc e v && nw e && !isTupE v && !isLc v
  | .vset i j e, x => onAsg x fun t v => onSub t fun o y => nmB cc i o && mE cc j y && nw j && notSlice y && mE cc e v && nw e && !isTupE v && !isLc v
  | .dput w i e, x => onAsg x fun t v => onSub t fun o y => nmB cc w o && mE cc i y && nw i && mE cc e v && nw e && !isLc v
  | .dtput w e, x => onAsg x fun t v => onSub t fun o y => nmB cc w o && mE cc e y && nw e && notSlice y && onCon v (fun k => conE k (.bool true))
  | .rse cls _ es, x => onRse x fun g xs => decide (g = cls) && glB cc g && mEs cc es xs && nwAll es && !xs.isEmpty
  | .tri i e rest hs, x => onTry x fun t v body hds => setB cc i t && mE cc e v && nw e && !isLc v && mSs cc rest body && hdsB cc hs hds && !hds.isEmpty
def mSs (cc : Cc) : Ss → List Stmt → Bool
  | .nil, xs => xs.isEmpty
  | .cons s ss, xs => (match s with
    | .frz _ => mSs cc ss xs
    | s => (match xs with
      | x :: xs => mS cc s x && mSs cc ss xs
      | [] => false))
end
section
variable {P : Str → (List D → M D) → Prop} {G : Str → D → Prop} {X : Cx} {Wx : WX} {cc : Cc}
theorem on_wm {w : Nat} {nm : Str} {x : Expr} {f : List Expr → Bool} (c : CtxOk P G X Wx cc) (h : onWM cc w nm x f = true) : ∃ wn wp ap xs p, x = .Call (.Attribute (.Name wn wp) nm ap) xs [] p ∧ NameW X w wn ∧ (ap.endLine == p.line) = true ∧ f xs = true := by
  unfold onWM at h
  obtain ⟨o, n, ap, xs, p, rfl, hh⟩ := on_meth h
  simp only [Bool.and_eq_true, decide_eq_true_eq] at hh
  obtain ⟨⟨⟨h1, rfl⟩, h2⟩, h3⟩ := hh
  obtain ⟨wn, wp, rfl, g1, g2, g3, g4⟩ := c.name h1
  exact ⟨wn, wp, ap, xs, p, rfl, ⟨g1, g2, g3, g4⟩, h2, h3⟩
/-- a list of the def's own is given away -/
theorem EnvOk.frz {K : PySem.W.Frag} {c : Cf} {ρ : Ev} {σ : L2.St} {H : Hp} {i : Nat} {d : D} (e : EnvOk K c ρ σ H) (h : ρ[i]? = some (some (d, true))) : EnvOk K c (ρ.set i (some (d, false))) σ H ∧ ∀ a, Nn c (ρ.set i (some (d, false))) σ a → Nn c ρ σ a := by
  obtain ⟨a, o, h2, h3, h5, h6, h7⟩ := e.own i d h
  have hn : ∀ x, Nn c (ρ.set i (some (d, false))) σ x → Nn c ρ σ x := by
    rintro x (q | ⟨j, d', q1, q2⟩)
    · exact .inl q
    · rcases get_set q1 with ⟨_, _, q⟩ | ⟨hne, q⟩
      · cases q
      · exact .inr ⟨j, d', q, q2⟩
  have ha : ¬ Nn c (ρ.set i (some (d, false))) σ a := by
    rintro (q | ⟨j, d', q1, q2⟩)
    · exact h7 q
    · rcases get_set q1 with ⟨_, _, q⟩ | ⟨hne, q⟩
      · cases q
      · exact hne (e.dist i j _ d' a h q h2 q2)
  refine ⟨{
    len := by rw [List.length_set, e.len]
    val := fun j d' q => ?_
    own := fun j d' q => ?_
    dist := fun j k d1 d2 b q1 q2 g1 g2 => ?_
    ext := e.ext
    inv := e.inv
    bkn := e.bkn
    bv := e.bv }, hn⟩
  · rcases get_set q with ⟨rfl, hl, q⟩ | ⟨hne, q⟩
    · cases q
      refine ⟨.ref a, h2, ?_⟩
      cases h5 with
      | lst z l => exact .lst h3 ha z (l.anti hn)
      | dic g =>
        cases g with
        | dki z => exact .dci h3 ha z
        | dkt z k => exact .dct h3 ha z fun x m => (k x m).anti hn
    · obtain ⟨u, u1, u2⟩ := e.val j d' q
      exact ⟨u, u1, u2.anti hn⟩
  · rcases get_set q with ⟨rfl, hl, q⟩ | ⟨hne, q⟩
    · cases q
    · obtain ⟨b, o', k2, k3, k5, k6, k7⟩ := e.own j d' q
      exact ⟨b, o', k2, k3, k5.anti hn, k6, k7⟩
  · rcases get_set q1 with ⟨_, _, q⟩ | ⟨_, q⟩
    · cases q
    · rcases get_set q2 with ⟨_, _, q'⟩ | ⟨_, q'⟩
      · cases q'
      · exact e.dist j k d1 d2 b q q' g1 g2
theorem st_frz {xs : List Stmt} {i : Nat} {b : Ev → M Rz} (h : PSsr X Wx xs b) : PSsr X Wx xs (mSeq (dS (.frz i)) b) := pss_imp h fun D σ H q => by
  obtain ⟨c, ρ, e, q⟩ := q
  have q : ((match ρ[i]? with
    | some (some (d, _)) => pure (.nx (ρ.set i (some (d, false))))
    | _ => M.fail) : M Rz).run (fun r => (Rz.sq b r).run (Rq X.K c ρ σ H D) (XS X.K X.mg Wx c)) (XS X.K X.mg Wx c) c.b := q
  split at q
  · rename_i d o hd
    have q : (b (ρ.set i (some (d, false)))).run (Rq X.K c ρ σ H D) (XS X.K X.mg Wx c) c.b := q
    cases o with
    | true =>
      obtain ⟨e2, hn⟩ := e.frz hd
      exact ⟨c, _, e2, (b _).mono (fun r _ q => q.later (n := c.b) ⟨Ext.refl H, fun a z => .inl (hn a z)⟩) (fun _ _ z => z) q⟩
    | false =>
      have hs : ρ.set i (some (d, false)) = ρ := by
        apply List.ext_getElem?
        intro j
        by_cases hj : i = j
        · subst hj
          rw [set_eq (List.getElem?_eq_some_iff.mp hd).1, hd]
        · rw [set_ne hj]
      rw [hs] at q
      exact ⟨c, ρ, e, q⟩
  · exact q.elim
theorem lcE_of {e : E} (h : isLcE e = true) : ∃ own tg it t elt, e = .lc own tg it t elt := by
  unfold isLcE at h
  split at h
  · exact ⟨_, _, _, _, _, rfl⟩
  · cases h
theorem asg_ok (c : CtxOk P G X Wx cc) {i : Nat} {e : E} {t v : Expr} {p : Pos} (hc : cE P G e) (h1 : setB cc i t = true) (h2 : mE cc e v = true) (h3 : nw e = true) (h4 : (!isLc v || isLcE e) = true) : PSr X Wx (.Assign [t] v p) (dS (.asg i e)) := by
  obtain ⟨y, py, rfl, g1, g2, g3⟩ := c.set h1
  have r := ((sE e v X Wx cc c hc).1 h2).r h3
  cases hl : isLc v with
  | false => exact st_set r c.nd g1 g2 (sw_not hl _ _ _) g3
  | true =>
    rw [hl] at h4
    obtain ⟨own, tg, it, t', elt, rfl⟩ := lcE_of h4
    obtain ⟨z, tgx, iter, ifs, scope, q, rfl, l⟩ := lc_ok c hc h2
    have hsw := sw_lc c (y := y) (py := py) ⟨z, [⟨tgx, iter, ifs, 0⟩], scope, q, rfl⟩ p.line
    cases hb : lcSw cc y py (.ListComp z [⟨tgx, iter, ifs, 0⟩] scope q) with
    | false => rw [hb] at hsw; exact st_set r c.nd g1 g2 hsw g3
    | true =>
      rw [hb] at hsw
      have hy : X.env.scope.names.lookup y = some .local := by
        unfold lcSw at hb
        simp only [Bool.and_eq_true, decide_eq_true_eq] at hb
        rw [c.sc]
        exact hb.1.1
      exact st_setLc c.calm c.nd g1 hy l hsw
theorem asgO_ok (c : CtxOk P G X Wx cc) {i : Nat} {e : E} {t v : Expr} {p : Pos} (hc : cE P G e) (h1 : setB cc i t = true) (h2 : mE cc e v = true) (h3 : isF e = true) (h4 : (!isLc v || isLcE e) = true) : PSr X Wx (.Assign [t] v p) (dS (.asgO i e)) := by
  obtain ⟨y, py, rfl, g1, g2, g3⟩ := c.set h1
  have r := sF c hc h3 h2
  cases hl : isLc v with
  | false => exact st_asgO r c.nd g1 g2 (sw_not hl _ _ _) g3
  | true =>
    rw [hl] at h4
    obtain ⟨own, tg, it, t', elt, rfl⟩ := lcE_of h4
    obtain ⟨z, tgx, iter, ifs, scope, q, rfl, l⟩ := lc_ok c hc h2
    have hsw := sw_lc c (y := y) (py := py) ⟨z, [⟨tgx, iter, ifs, 0⟩], scope, q, rfl⟩ p.line
    cases hb : lcSw cc y py (.ListComp z [⟨tgx, iter, ifs, 0⟩] scope q) with
    | false => rw [hb] at hsw; exact st_asgO r c.nd g1 g2 hsw g3
    | true =>
      rw [hb] at hsw
      have hy : X.env.scope.names.lookup y = some .local := by
        unfold lcSw at hb
        simp only [Bool.and_eq_true, decide_eq_true_eq] at hb
        rw [c.sc]
        exact hb.1.1
      exact st_setLcO c.calm c.nd g1 hy l hsw
theorem notLc_of {v : Expr} (h : (!isLc v) = true) : isLc v = false := by simpa using h
theorem noSwapS {y z v : Expr} {p : Pos} (env : PySem.Env) : swappedStores [.Subscript y z p] v env = pure none := by
  cases v <;> rfl
theorem noSwap {t v : Expr} (h : (!isTupE v) = true) (env : PySem.Env) : swappedStores [t] v env = pure none := by
  have hv : isTupE v = false := by simpa using h
  cases v <;> first | (cases t <;> rfl) | (exact absurd hv (by simp [isTupE]))
mutual
theorem sS : ∀ (s : S) (x : Stmt) (X : Cx) (Wx : WX), CtxOk P G X Wx cc → StOk X → cS P G X.K X.mg s → mS cc s x = true → PSr X Wx x (dS s)
  | .asg i e, x, X, Wx, c, hp, hc, h => by
    rw [mS] at h
    obtain ⟨t, v, p, rfl, hh⟩ := on_asg h
    simp only [Bool.and_eq_true] at hh
    exact asg_ok c hc hh.1.1.1 hh.1.1.2 hh.1.2 hh.2
  | .asgO i e, x, X, Wx, c, hp, hc, h => by
    rw [mS] at h
    obtain ⟨t, v, p, rfl, hh⟩ := on_asg h
    simp only [Bool.and_eq_true] at hh
    exact asgO_ok c hc hh.1.1.1 hh.1.1.2 hh.1.2 hh.2
  | .pop i w, x, X, Wx, c, hp, hc, h => by
    rw [mS] at h
    obtain ⟨t, v, p, rfl, hh⟩ := on_asg h
    simp only [Bool.and_eq_true] at hh
    obtain ⟨y, py, rfl, g1, g2, g3⟩ := c.set hh.1
    obtain ⟨wn, wp, ap, xs, q, rfl, n, hl, hx⟩ := on_wm c hh.2
    have hx : xs = [] := by simpa using hx
    subst hx
    exact st_pop n c.nd g1 g2 g3 hl
  | .asgT is e, x, X, Wx, c, hp, hc, h => by
    rw [mS] at h
    obtain ⟨t, v, p, rfl, hh⟩ := on_asg h
    simp only [Bool.and_eq_true] at hh
    obtain ⟨⟨⟨⟨h1, h2⟩, h3⟩, h4⟩, h5⟩ := hh
    have htg : tgB cc (.t is) t = true := h1
    have ha : (assignEach [t] X.env).map (·.2) = [assign t X.env] := by
      unfold tupB at h1
      split at h1
      · rfl
      · cases h1
    exact st_asg (((sE e v X Wx cc c hc).1 h2).r h3) (c.tg htg) (sw_not (notLc_of h5) _ _ _) (noSwap h4 _) ha
  | .asgN i js e, x, X, Wx, c, hp, hc, h => by
    rw [mS] at h
    obtain ⟨t, v, p, rfl, hh⟩ := on_asg h
    obtain ⟨ts, k, p1, rfl, h1⟩ := on_tup hh
    obtain ⟨xs, k2, p2, rfl, h2⟩ := on_tup h1
    simp only [Bool.and_eq_true] at h2
    obtain ⟨⟨⟨h2, h3⟩, h4⟩, h5⟩ := h2
    have hw : swapOf cc ts xs = some none := by
      split at h3
      · assumption
      · cases h3
    exact st_asgN (((sE e _ X Wx cc c hc).1 h4).r h5) (mNest_ok c h2) rfl (swap_ok c hw) rfl
  | .par is es, x, X, Wx, c, hp, hc, h => by
    rw [mS] at h
    obtain ⟨t, v, p, rfl, hh⟩ := on_asg h
    obtain ⟨ts, k, p1, rfl, h1⟩ := on_tup hh
    obtain ⟨xs, k2, p2, rfl, h2⟩ := on_tup h1
    exact mPar_ok c hc h2
  | .app w e, x, X, Wx, c, hp, hc, h => by
    rw [mS] at h
    obtain ⟨v, p, rfl, hh⟩ := on_ex h
    obtain ⟨wn, wp, ap, xs, q, rfl, n, hl, hx⟩ := on_wm c hh
    obtain ⟨y, rfl, hy⟩ := on_one hx
    simp only [Bool.and_eq_true] at hy
    exact st_app n (((sE e y X Wx cc c hc).1 hy.1.1).r hy.1.2) hy.2 hl
  | .appPop w u e, x, X, Wx, c, hp, hc, h => by
    rw [mS] at h
    obtain ⟨v, p, rfl, hh⟩ := on_ex h
    obtain ⟨wn, wp, ap, xs, q, rfl, n, hl, hx⟩ := on_wm c hh
    obtain ⟨y, rfl, hy⟩ := on_one hx
    obtain ⟨un, up, ap2, ys, q2, rfl, n2, hl2, hx2⟩ := on_wm c hy
    obtain ⟨z, rfl, hz⟩ := on_one hx2
    simp only [Bool.and_eq_true] at hz
    exact st_appPop n n2 (((sE e z X Wx cc c hc).1 hz.1.1).r hz.1.2) hz.2 hl hl2
  | .rot w e, x, X, Wx, c, hp, hc, h => by
    rw [mS] at h
    obtain ⟨v, p, rfl, hh⟩ := on_ex h
    obtain ⟨wn, wp, ap, xs, q, rfl, n, hl, hx⟩ := on_wm c hh
    obtain ⟨y, rfl, hy⟩ := on_one hx
    obtain ⟨un, up, ap2, ys, q2, rfl, n2, hl2, hx2⟩ := on_wm c hy
    obtain ⟨z, rfl, hz⟩ := on_one hx2
    simp only [Bool.and_eq_true] at hz
    have en : un = wn := Option.some.inj (n2.hN.symm.trans n.hN)
    subst en
    exact st_rot n (((sE e z X Wx cc c hc).1 hz.1.1).r hz.1.2) hz.2 hl hl2
  | .rem w e, x, X, Wx, c, hp, hc, h => by
    rw [mS] at h
    obtain ⟨v, p, rfl, hh⟩ := on_ex h
    obtain ⟨wn, wp, ap, xs, q, rfl, n, hl, hx⟩ := on_wm c hh
    obtain ⟨y, rfl, hy⟩ := on_one hx
    simp only [Bool.and_eq_true] at hy
    exact st_rem c.un n (((sE e y X Wx cc c hc).1 hy.1.1).r hy.1.2) hy.2 hl
  | .ext w e, x, X, Wx, c, hp, hc, h => by
    rw [mS] at h
    obtain ⟨v, p, rfl, hh⟩ := on_ex h
    obtain ⟨wn, wp, ap, xs, q, rfl, n, hl, hx⟩ := on_wm c hh
    obtain ⟨y, rfl, hy⟩ := on_one hx
    simp only [Bool.and_eq_true] at hy
    exact st_ext n (((sE e y X Wx cc c hc).1 hy.1.1).r hy.1.2) hy.2 hl
  | .set w i e, x, X, Wx, c, hp, hc, h => by
    rw [mS] at h
    obtain ⟨t, v, p, rfl, hh⟩ := on_asg h
    obtain ⟨o, y, p2, rfl, h1⟩ := on_sub hh
    simp only [Bool.and_eq_true] at h1
    obtain ⟨⟨⟨⟨⟨⟨g1, g2⟩, g3⟩, g4⟩, g5⟩, g6⟩, g8⟩ := h1
    obtain ⟨wn, wp, rfl, k1, k2, k3, k4⟩ := c.name g1
    exact st_setI ⟨k1, k2, k3, k4⟩ (((sE e v X Wx cc c hc.2).1 g5).r g6) (((sE i y X Wx cc c hc.1).1 g2).r g3) g4 (show swapsWith v (some (.Subscript (.Name wn wp) y p2)) p.line X.env = pure false from sw_not (notLc_of g8) _ _ _) (noSwapS _)
  | .aug i e, x, X, Wx, c, hp, hc, h => by
    rw [mS] at h
    obtain ⟨t, v, p, rfl, hh⟩ := on_aug h
    simp only [Bool.and_eq_true] at hh
    obtain ⟨y, py, rfl, g1, g2, g3⟩ := c.set hh.1.1
    exact st_aug c.nd g1 g2 (((sE e v X Wx cc c hc).1 hh.1.2).r hh.2) g3
  | .ex e, x, X, Wx, c, hp, hc, h => by
    rw [mS] at h
    obtain ⟨v, p, rfl, hh⟩ := on_ex h
    simp only [Bool.and_eq_true] at hh
    exact st_ex (((sE e v X Wx cc c hc).1 hh.1.1).r hh.1.2) (sw_not (notLc_of hh.2) _ _ _)
  | .ite z a b, x, X, Wx, c, hp, hc, h => by
    rw [mS] at h
    obtain ⟨zx, xs, ys, p, rfl, hh⟩ := on_ite h
    simp only [Bool.and_eq_true] at hh
    obtain ⟨⟨⟨⟨h1, h2⟩, h3⟩, h4⟩, h5⟩ := hh
    exact st_if (((sE z zx X Wx cc c hc.1).1 h1).t h2 h3) (sSs a xs X Wx c hp hc.2.1 h4) (sSs b ys X Wx c hp hc.2.2 h5)
  | .for tg it b, x, X, Wx, c, hp, hc, h => by
    rw [mS] at h
    obtain ⟨tgx, iter, xs, p, rfl, hh⟩ := on_for h
    simp only [Bool.and_eq_true] at hh
    obtain ⟨⟨⟨⟨h1, h2⟩, h3⟩, h4⟩, h5⟩ := hh
    exact st_for hp.po c.calm (((sE it iter X Wx cc c hc.1).2 tgx h1).r h2) (c.tg h3) (sSs b xs X Wx c hp hc.2 h5) (set_fold h4 _)
  | .forPop tg a w b, x, X, Wx, c, hp, hc, h => by
    rw [mS] at h
    obtain ⟨tgx, iter, xs, p, rfl, hh⟩ := on_for h
    simp only [Bool.and_eq_true] at hh
    obtain ⟨⟨h1, h2⟩, h3⟩ := hh
    obtain ⟨y, z, p2, rfl, h4⟩ := on_sub h1
    simp only [Bool.and_eq_true] at h4
    obtain ⟨wn, wp, ap, ys, q, rfl, n, hl, hx⟩ := on_wm c h4.2
    have hx : ys = [] := by simpa using hx
    subst hx
    exact st_forPop hp.po c.calm n (((sE a y X Wx cc c hc.1).1 h4.1.1).r h4.1.2) (c.tg h2) (sSs b xs X Wx c hp hc.2 h3) hl
  | .whl z b, x, X, Wx, c, hp, hc, h => by
    rw [mS] at h
    obtain ⟨zx, xs, p, rfl, hh⟩ := on_whl h
    simp only [Bool.and_eq_true] at hh
    obtain ⟨⟨⟨h1, h2⟩, h3⟩, h4⟩ := hh
    exact st_whl hp.po (((sE z zx X Wx cc c hc.1).1 h1).t h2 h3) (sSs b xs X Wx c hp hc.2 h4)
  | .ret e, x, X, Wx, c, hp, hc, h => by
    rw [mS] at h
    obtain ⟨v, p, rfl, hh⟩ := on_ret h
    split at hh
    · simp only [Bool.and_eq_true] at hh
      exact st_ret (((sE e _ X Wx cc c hc).1 hh.1).r hh.2)
    · cases hh
  | .retn, x, X, Wx, c, hp, hc, h => by
    rw [mS] at h
    obtain ⟨v, p, rfl, hh⟩ := on_ret h
    split at hh
    · cases hh
    · exact st_retN
  | .brk, x, X, Wx, c, hp, hc, h => by
    rw [mS] at h
    unfold isBrk at h
    split at h
    · exact st_brk
    · cases h
  | .nev, x, X, Wx, c, hp, hc, h => ⟨fun pins s σ H D I q => by
    obtain ⟨c, ρ, e, q⟩ := q
    exact q.elim⟩
  | .pass, x, X, Wx, c, hp, hc, h => by
    rw [mS] at h
    unfold isPass at h
    split at h
    · exact st_pass
    · cases h
  | .frz _, x, X, Wx, c, hp, hc, h => by
    rw [mS] at h
    cases h
  | .dkUn ic it ir w, x, X, Wx, c, hp, hc, h => by
    rw [mS] at h
    obtain ⟨t, v, p, rfl, hh⟩ := on_asg h
    clear h
    simp only [Bool.and_eq_true] at hh
    obtain ⟨h1, h2⟩ := hh
    obtain ⟨wn, wp, rfl, k1, k2, k3, k4⟩ := c.name h2
    unfold tupB at h1
    split at h1
    · obtain ⟨g1, g2, _⟩ := names_assign (env := X.env) h1
      exact st_dkUn c.calm ⟨k1, k2, k3, k4⟩ (c.sets h1) g1 g2
    · cases h1
  | .dkInc w e, x, X, Wx, c, hp, hc, h => by
    rw [mS] at h
    obtain ⟨t, v, p, rfl, hh⟩ := on_asg h
    obtain ⟨o, y, p2, rfl, h1⟩ := on_sub hh
    simp only [Bool.and_eq_true] at h1
    obtain ⟨⟨⟨⟨⟨g1, g2⟩, g3⟩, g4⟩, g5⟩, g6⟩ := h1
    obtain ⟨wn, wp, rfl, k1, k2, k3, k4⟩ := c.name g1
    obtain ⟨kc, kk, kp, e1, g7⟩ := on_con g2
    have e2 : kc = .int 1 := by
      cases kc <;> first
        | (have e3 := of_decide_eq_true g7; rw [e3]; done)
        | cases g7
    subst e1
    subst e2
    exact st_dkInc ⟨k1, k2, k3, k4⟩ (((sE e v X Wx cc c hc).1 g3).r g4) (show swapsWith v (some (.Subscript (.Name wn wp) (.Constant (.int 1) kk kp) p2)) p.line X.env = pure false from sw_not (notLc_of g6) _ _ _) (noSwap g5 _)
  | .vset i j e, x, X, Wx, c, hp, hc, h => by
    rw [mS] at h
    obtain ⟨t, v, p, rfl, hh⟩ := on_asg h
    obtain ⟨o, y, p2, rfl, h1⟩ := on_sub hh
    simp only [Bool.and_eq_true] at h1
    obtain ⟨⟨⟨⟨⟨⟨⟨g1, g2⟩, g3⟩, g4⟩, g5⟩, g6⟩, g7⟩, g8⟩ := h1
    obtain ⟨wn, wp, rfl, k1, k2, k3, k4⟩ := c.name g1
    exact st_vset ⟨k1, k2, k3, k4⟩ (((sE j y X Wx cc c hc.1).1 g2).r g3) (((sE e v X Wx cc c hc.2).1 g5).r g6) g4 (show swapsWith v (some (.Subscript (.Name wn wp) y p2)) p.line X.env = pure false from sw_not (notLc_of g8) _ _ _) (noSwap g7 _)
  | .dput w i e, x, X, Wx, c, hp, hc, h => by
    rw [mS] at h
    obtain ⟨t, v, p, rfl, hh⟩ := on_asg h
    obtain ⟨o, y, p2, rfl, h1⟩ := on_sub hh
    simp only [Bool.and_eq_true] at h1
    obtain ⟨⟨⟨⟨⟨g1, g2⟩, g3⟩, g5⟩, g6⟩, g8⟩ := h1
    obtain ⟨wn, wp, rfl, k1, k2, k3, k4⟩ := c.name g1
    exact st_dput c.un ⟨k1, k2, k3, k4⟩ (((sE e v X Wx cc c hc.2).1 g5).r g6) (((sE i y X Wx cc c hc.1).1 g2).r g3) (show swapsWith v (some (.Subscript (.Name wn wp) y p2)) p.line X.env = pure false from sw_not (notLc_of g8) _ _ _)
  | .dtput w e, x, X, Wx, c, hp, hc, h => by
    rw [mS] at h
    obtain ⟨t, v, p, rfl, hh⟩ := on_asg h
    obtain ⟨o, y, p2, rfl, h1⟩ := on_sub hh
    simp only [Bool.and_eq_true] at h1
    obtain ⟨⟨⟨⟨g1, g2⟩, g3⟩, g4⟩, g5⟩ := h1
    obtain ⟨wn, wp, rfl, k1, k2, k3, k4⟩ := c.name g1
    obtain ⟨kc, kk, kp, rfl, g7⟩ := on_con g5
    exact st_dtput c.un ⟨k1, k2, k3, k4⟩ (s_const g7) (((sE e y X Wx cc c hc).1 g2).r g3) g4 (show swapsWith (.Constant kc kk kp) (some (.Subscript (.Name wn wp) y p2)) p.line X.env = pure false from sw_not rfl _ _ _) (noSwapS _)
  | .rse cls fs es, x, X, Wx, c, hp, hc, h => by
    rw [mS] at h
    obtain ⟨nm, p, xs, pos, pos2, rfl, hh⟩ := on_rse h
    clear h
    simp only [Bool.and_eq_true, decide_eq_true_eq] at hh
    obtain ⟨⟨⟨⟨rfl, h1⟩, h2⟩, h3⟩, h4⟩ := hh
    obtain ⟨⟨f, ef, T⟩, hc⟩ := hc
    subst ef
    obtain ⟨hgl, hd⟩ := c.gl h1
    have q := sEs es xs X Wx cc c hc h2
    cases xs with
    | nil => cases h4
    | cons y ys =>
      have hns := q.ns
      simp only [List.all_cons, Bool.and_eq_true] at hns
      exact st_rse T c.calm c.rm c.tk hgl (q.r h3) hd (star_ok hns.1 ys X.env) (star_any hns.2 pos X.env)
  | .tri i e rest hs, x, X, Wx, c, hp, hc, h => by
    rw [mS] at h
    obtain ⟨t, v, p, body, hds, pos, rfl, hh⟩ := on_try h
    clear h
    simp only [Bool.and_eq_true] at hh
    obtain ⟨⟨⟨⟨⟨⟨h1, h2⟩, h3⟩, h4⟩, h5⟩, h6⟩, h7⟩ := hh
    refine st_tri c hp h1 (notLc_of h4) (fun W pn xe tk => ((sE e v (X.tr pn xe) W cc (c.tr tk) hc.1).1 h2).r h3) (fun W pn xe tk po => sSs rest body (X.tr pn xe) W (c.tr tk) ⟨po, hp.stk, hp.frm⟩ hc.2.1 h5) h6 ?_ hc.2.2
    intro z
    subst z
    cases h7
theorem sSs : ∀ (ss : Ss) (xs : List Stmt) (X : Cx) (Wx : WX), CtxOk P G X Wx cc → StOk X → cSs P G X.K X.mg ss → mSs cc ss xs = true → PSsr X Wx xs (dSs ss)
  | .nil, xs, X, Wx, c, hp, hc, h => by
    rw [mSs] at h
    have hx : xs = [] := by simpa using h
    subst hx
    exact st_nil
  | .cons s ss, xs, X, Wx, c, hp, hc, h => by
    unfold mSs at h
    split at h
    · exact st_frz (sSs ss xs X Wx c hp hc.2 h)
    · cases xs with
      | nil => cases h
      | cons x xs =>
        have h : (mS cc s x && mSs cc ss xs) = true := h
        simp only [Bool.and_eq_true] at h
        exact st_cons (sS s x X Wx c hp hc.1 h.1) (sSs ss xs X Wx c hp hc.2 h.2)
end
end
end Ad
namespace Ad
open PySem PySem.Calls PySem.W PySem.SeqAt PySem.Spec PyProof.Rows L2

/-! ### a def -/
section
variable {Pr : Program} {w : World} {K : PySem.W.Frag} {mg : Str → Option Value} {base : Heap}
/-- fn_of, the guards known -/
theorem fn_ofG {k : Nat} {f : Addr} {name qual : Str} {params : Arguments} {body : List Stmt} {scope : Scope} {dV kV doc pm cdv ct oc : Value} {an od : Option Addr}
    {osl : Array (Option Value)} {N ps : List Str} {sp : Sp} (lk : K.lookup f = some ⟨oc, od, .func (PySem.W.fnOf name qual params body scope dV kV doc pm an cdv ct), osl⟩) (hcd : PySem.W.codeIn K cdv qual = true) (S : FnScope N ps scope)
    (len : ∀ vs H Q E, sp vs H Q E → vs.length = ps.length)
    (hbody : ∀ (A : Around) (outer : List Env) (s : Shared) (H : Hp) (vs : List V) (Q : VK) (E : XK), Room k (A.deeper (envOfC qual scope s.heap.objs.size f cdv)) → A.guards = some [] → Mod K mg base → sp vs H Q E →
      ∃ t, PSs (cxOf (CX Pr w) Pr w K mg base N qual scope f cdv A outer s H E) body t ∧ t { nx := fun _ H' => Q .non H', rt := Q } (start N vs) H) :
    FnG Pr w K mg base (k + 1) f (PySem.W.fnOf name qual params body scope dV kV doc pm an cdv ct) ps sp := by
  refine ⟨len, fun A outer s H args us vs Q E hr hg e0 hb r hsp => ?_⟩
  have hl := len _ _ _ _ hsp
  have KX : K.In s.heap := e0.mod.kin.keeps fun b o e => (e0.bs b o e).1
  have lim : s.heap.NoLimit := e0.mod.nolimit.keeps fun b o e => (e0.bs b o e).1
  have hkind : ∀ y ∈ ps.zip us, scope.names.lookup y.1 = some .local ∨ (scope.names.lookup y.1 = some .cell ∧ ((cellsFrom (s.heap.objs.size + 1) scope.names []).lookup y.1).isSome = true) := fun ⟨n, v⟩ hy => by
    rcases S.par n (List.of_mem_zip hy).1 with q | q
    · exact .inl q
    · exact .inr ⟨q, PySem.W.cellsFrom_some _ _ _ (.inl q)⟩
  refine codeAny_call_function hr.depth (KX _ _ lk) rfl S.co S.gen rfl (PySem.W.codeRec_of KX hcd) (hb _ _ _ _ ?_)
  refine wpAny_newFunctionEnv_cells S.kind hkind fun env he s1 x => ?_
  subst he
  refine ⟨lim.keeps x.toInCall.keep, codeAny_func ?_⟩
  obtain ⟨t, ht, hq⟩ := hbody A outer s H vs Q E (hr.deeper _) hg e0.mod hsp
  have I : L2.Inv (cxOf (CX Pr w) Pr w K mg base N qual scope f cdv A outer s H E) [] (start N vs) H s1 := inv_start S hr.hd e0 hl r x
  refine wpAny_mono (ht.run [] s1 (start N vs) H _ I hq) (fun fl s' hs => ?_) fun e s' hs => hs
  have fin : ∀ {σ' : L2.St} {H' : Hp} {v : V} {u : Value}, L2.Inv (cxOf (CX Pr w) Pr w K mg base N qual scope f cdv A outer s H E) [] σ' H' s' → RelV v u → Q v H' → CE outer Pr w H s Q u s' :=
    fun {σ' H' v u} J rv q => ⟨v, H', J.os, J.bare, J.base, J.hok, rv, q⟩
  cases fl with
  | ret u =>
    obtain ⟨v, σ', H', J, rv, q⟩ := hs
    exact fin J rv q
  | next =>
    obtain ⟨σ', H', J, q⟩ := hs
    exact fin (v := V.non) (u := Value.none) J rfl q
  | brk =>
    obtain ⟨_, _, _, q⟩ := hs
    exact False.elim q
  | cont =>
    obtain ⟨_, _, _, q⟩ := hs
    exact False.elim q
/-- what all defs of a law share -/
structure Top (K : PySem.W.Frag) (mg : Str → Option Value) (base : Heap) : Prop where
  blt : ∀ b, b ∈ bltNames → mg b = none
  sys : ∃ o, base.get? sysModules = some o
theorem ctx_fn {k : Nat} (h2 : 2 ≤ k) {N ps : List Str} {qual : Str} {scope : Scope} {f : Addr} {cdv : Value} {A : Around} {outer : List Env} {s : Shared} {H : Hp} {E : XK} (T : Top K mg base) (S : FnScope N ps scope) (hr : Room k (A.deeper (envOfC qual scope s.heap.objs.size f cdv))) (hg : A.guards = some []) {P : Str → (List D → M D) → Prop} {G : Str → D → Prop}
    (hP : ∀ nm g, P nm g → CallP Pr w K mg base k nm g) (hG : ∀ nm d, G nm d → ∃ u v, mg nm = some u ∧ RelV v u ∧ Stat K v d) :
    CtxOk P G (cxOf (CX Pr w) Pr w K mg base N qual scope f cdv A outer s H E) (fun cls d _ H => E cls d H) ⟨N, scope.names, scope.names.map (·.1)⟩ where
  N := rfl
  nd := S.nd
  sc := rfl
  kind := S.kind
  fn := fun _ _ => rfl
  calm := rfl
  tk := takes_of rfl rfl rfl rfl
  grd := hg
  un := by have := hr.un; show (A.deeper _).units + 66 < cLine; omega
  mg := T.blt
  sys := T.sys
  call := fun nm g h => ⟨k, hr, hP nm g h⟩
  glob := hG
  rm := hr.mono h2
theorem dFn_len {np n : Nat} {b : Ss} {ds : List D} {Q : D → Nat → Prop} {R : XV → Nat → Prop} {t : Nat} (h : (dFn np n b ds).run Q R t) : ds.length = np := h.1
/-- where a def's body begins -/
theorem start_fit {N : List Str} {np n : Nat} {b : Ss} (hn : N.length = n) {vs : List V} {H : Hp} {Q : VK} {E : XK} (hsp : spOf K mg (dFn np n b) vs H Q E) : tSt K mg (fun cls d _ H => E cls d H) (dSs b) { nx := fun _ H' => Q .non H', rt := Q } (start N vs) H := by
  obtain ⟨W, B, ds, t, vc, l, h⟩ := hsp
  obtain ⟨hl, h⟩ := h
  have hlv := l.length
  refine ⟨⟨W, B, H, t⟩, ds.map (fun d => some (d, false)) ++ List.replicate (n - ds.length) none, ?_, ?_⟩
  · have nn : ∀ a, Nn ⟨W, B, H, t⟩ (ds.map (fun d => some (d, false)) ++ List.replicate (n - ds.length) none) (start N vs) a → B a := by
      rintro a (z | ⟨i, d, z, _⟩)
      · exact z
      · rw [List.getElem?_append] at z
        split at z
        · rw [List.getElem?_map] at z
          cases q : ds[i]? <;> rw [q] at z <;> cases z
        · rw [List.getElem?_replicate] at z
          split at z <;> cases z
    exact {
      len := by
        unfold L2.start
        rw [List.length_append, List.length_append, List.length_map, List.length_map, List.length_replicate, List.length_replicate, hlv, hn]
      val := fun i d z => by
        rw [List.getElem?_append] at z
        split at z
        · rename_i hi
          rw [List.getElem?_map] at z
          cases q : ds[i]? with
          | none => rw [q] at z; cases z
          | some e =>
            rw [q] at z
            cases z
            obtain ⟨v, h1, h2⟩ := l.get q
            refine ⟨v, ?_, h2.anti nn⟩
            unfold L2.start
            rw [List.getElem?_append_left (by rw [List.length_map]; exact (List.getElem?_eq_some_iff.mp h1).1), List.getElem?_map, h1]
            rfl
        · rw [List.getElem?_replicate] at z
          split at z <;> cases z
      own := fun i d z => by
        rw [List.getElem?_append] at z
        split at z
        · rw [List.getElem?_map] at z
          cases q : ds[i]? <;> rw [q] at z <;> cases z
        · rw [List.getElem?_replicate] at z
          split at z <;> cases z
      dist := fun i j d e a z _ _ _ => by
        rw [List.getElem?_append] at z
        split at z
        · rw [List.getElem?_map] at z
          cases q : ds[i]? <;> rw [q] at z <;> cases z
        · rw [List.getElem?_replicate] at z
          split at z <;> cases z
      ext := Ext.refl H
      inv := vc.inv
      bkn := vc.kl
      bv := vc.bv }
  · refine (dSs b _).mono (fun r _ q => ?_) (fun x _ q => ?_) h
    · cases r with
      | nx ρ' => exact fun σ' H' s e => q _ H' e.ext e.inv .non
      | rt d => exact fun v H' x i r => q v H' x i r
      | bk ρ' => exact q.elim
    · exact fun cls d σ' H' x' i r => q cls d H' x' i r
/-- a def keeps its promise -/
theorem fn_dFnG {k : Nat} (h2 : 2 ≤ k) {f : Addr} {x qual : Str} {params : Arguments} {body : List Stmt} {scope : Scope} {fd : FuncData} {N ps : List Str} {np n : Nat} {b : Ss} (F : FunD K x qual params body scope [] [] f fd) (T : Top K mg base) (S : FnScope N ps scope) (hn : N.length = n) (hp : ps.length = np)
    (hm : ∀ {P : Str → (List D → M D) → Prop} {G : Str → D → Prop} (X : Cx) (Wx : WX), CtxOk P G X Wx ⟨N, scope.names, scope.names.map (·.1)⟩ → StOk X → cSs P G X.K X.mg b → PSsr X Wx body (dSs b)) {P : Str → (List D → M D) → Prop} {G : Str → D → Prop} (hc : cSs P G K mg b) (hP : ∀ nm g, P nm g → CallP Pr w K mg base k nm g) (hG : ∀ nm d, G nm d → ∃ u v, mg nm = some u ∧ RelV v u ∧ Stat K v d) :
    FnG Pr w K mg base (k + 1) f fd ps (spOf K mg (dFn np n b)) := by
  obtain ⟨oc, od, dV, kV, doc, pm, an, cdv, ct, osl, rfl, lk, hcd, _, _⟩ := F.ex
  refine fn_ofG lk hcd S (fun vs H Q E h => ?_) fun A outer s H vs Q E hr hg hM hsp => ⟨_, hm _ _ (ctx_fn h2 T S hr hg hP hG) ⟨passes_of rfl, rfl, rfl⟩ hc, ?_⟩
  · obtain ⟨W, B, ds, t, vc, l, h⟩ := h
    rw [l.length, dFn_len h, hp]
  · exact start_fit hn hsp
/-- the same, by the walk's look -/
theorem fn_dFn {k : Nat} (h2 : 2 ≤ k) {f : Addr} {x qual : Str} {params : Arguments} {body : List Stmt} {scope : Scope} {fd : FuncData} {N ps : List Str} {np n : Nat} {b : Ss} (F : FunD K x qual params body scope [] [] f fd) (T : Top K mg base) (S : FnScope N ps scope) (hn : N.length = n) (hp : ps.length = np)
    (hm : mSs ⟨N, scope.names, scope.names.map (·.1)⟩ b body = true) {P : Str → (List D → M D) → Prop} {G : Str → D → Prop} (hc : cSs P G K mg b) (hP : ∀ nm g, P nm g → CallP Pr w K mg base k nm g) (hG : ∀ nm d, G nm d → ∃ u v, mg nm = some u ∧ RelV v u ∧ Stat K v d) :
    FnG Pr w K mg base (k + 1) f fd ps (spOf K mg (dFn np n b)) := fn_dFnG h2 F T S hn hp (fun X Wx c st hc => sSs b body X Wx c st hc hm) hc hP hG
end
end Ad
namespace Ad
open PySem PySem.Calls PySem.W PySem.SeqAt PySem.Spec PyProof.Rows L2

/-! ### how a law's deck is made (l: the row of its def) -/
def deckBody (l : Nat) : List Stmt := [
  .Assign [.Name "_law_cells" ⟨l + 1, 4, l + 1, 14⟩]
    (.BinOp (.Call (.Name "list" ⟨l + 1, 17, l + 1, 21⟩) [.Subscript (.Name "_law_script" ⟨l + 1, 22, l + 1, 33⟩) (.Slice none (some (.Constant (.int 63) 0 ⟨l + 1, 35, l + 1, 37⟩)) none ⟨l + 1, 34, l + 1, 37⟩) ⟨l + 1, 22, l + 1, 38⟩] [] ⟨l + 1, 17, l + 1, 39⟩)
      .Add
      (.BinOp (.List [.Constant (.int 0) 0 ⟨l + 1, 43, l + 1, 44⟩] ⟨l + 1, 42, l + 1, 45⟩) .Mult
        (.Call (.Name "int" ⟨l + 1, 48, l + 1, 51⟩) [.Compare (.Call (.Name "len" ⟨l + 1, 52, l + 1, 55⟩) [.Name "_law_script" ⟨l + 1, 56, l + 1, 67⟩] [] ⟨l + 1, 52, l + 1, 68⟩) [.Eq] [.Constant (.int 0) 0 ⟨l + 1, 72, l + 1, 73⟩] ⟨l + 1, 52, l + 1, 73⟩] [] ⟨l + 1, 48, l + 1, 74⟩) ⟨l + 1, 42, l + 1, 74⟩)
      ⟨l + 1, 17, l + 1, 74⟩) ⟨l + 1, 4, l + 1, 74⟩,
  .Return (some (.List [.Name "_law_cells" ⟨l + 2, 12, l + 2, 22⟩, .Constant (.int 0) 0 ⟨l + 2, 24, l + 2, 25⟩,
    .ListComp (.BinOp (.Name "_law_cell" ⟨l + 2, 28, l + 2, 37⟩) .Mult (.Call (.Name "int" ⟨l + 2, 40, l + 2, 43⟩) [.Compare (.Name "_law_cell" ⟨l + 2, 44, l + 2, 53⟩) [.GtE] [.BinOp (.Constant (.int 10) 0 ⟨l + 2, 57, l + 2, 59⟩) .Pow (.Constant (.int 18) 0 ⟨l + 2, 63, l + 2, 65⟩) ⟨l + 2, 57, l + 2, 65⟩] ⟨l + 2, 44, l + 2, 65⟩] [] ⟨l + 2, 40, l + 2, 66⟩) ⟨l + 2, 28, l + 2, 66⟩)
      [⟨.Name "_law_cell" ⟨l + 2, 71, l + 2, 80⟩, .Name "_law_cells" ⟨l + 2, 84, l + 2, 94⟩, [], 0⟩]
      { kind := .function, names := [(".0", .local), ("_law_cell", .local), ("int", .globalImplicit)], isGenerator := false, isCoroutine := false, more := [] } ⟨l + 2, 27, l + 2, 95⟩] ⟨l + 2, 11, l + 2, 96⟩)) ⟨l + 2, 4, l + 2, 96⟩]
def deckScope : Scope := { kind := .function, names := [("_law_script", .local), ("_law_cells", .local), ("list", .globalImplicit), ("int", .globalImplicit), ("len", .globalImplicit)], isGenerator := false, isCoroutine := false, more := [("fast", .str "_law_script"), ("fast", .str "_law_cells"), ("fast", .str "_law_cell")] }
def deckN : List Str := ["_law_script", "_law_cells", "_law_cell"]
theorem deckS : FnScope deckN ["_law_script"] deckScope := ⟨rfl, rfl, rfl, by decide +kernel, rfl, by decide +kernel, by decide +kernel⟩
/-- a deck just made -/
structure DeckAt (H H' : Hp) (v : V) (dk c r : Addr) (L : Nat) : Prop where
  ev : v = .ref dk
  hdk : H' dk = some (.lst [.ref c, .int 0, .ref r])
  hc : ∃ ns : List Int, H' c = some (.lst (ns.map V.int)) ∧ ns.length = L
  hr : ∃ ns : List Int, H' r = some (.lst (ns.map V.int)) ∧ ns.length = L
  pos : 0 < L ∧ L ≤ 63
  ne : dk ≠ c ∧ dk ≠ r ∧ c ≠ r
def spDeck (K : PySem.W.Frag) : Sp := fun vs H Q _ => ∃ (a : Addr) (ns : List Int), vs = [.ref a] ∧ SqL K H a (ns.map V.int) ∧ ∀ v H' dk c r L, DeckAt H H' v dk c r L → Q v H'
section
variable {Pr : Program} {w : World} {K : PySem.W.Frag} {mg : Str → Option Value} {base : Heap}
theorem sq_new {H : Hp} {a p : Addr} {xs : List V} {o : HO} (h : SqL K H a xs) (hp : H p = none) : SqL K (upd H p o) a xs := by
  rcases h with h | h
  · exact .inl (rd_ext (N := fun _ => False) (Ext.new hp) (fun z => z) h)
  · exact .inr h
theorem cutV_take {xs : List V} : cutV xs none (some 63) = xs.take 63 := by
  unfold cutV
  have e1 : HT.sIx xs.length 0 none = 0 := rfl
  have e2 : HT.sIx xs.length xs.length (some 63) = min 63 xs.length := HT.sIx_nat _ _ 63
  rw [e1, e2, List.drop_zero, Nat.sub_zero]
  by_cases h : 63 ≤ xs.length
  · rw [Nat.min_eq_left h]
  · rw [Nat.min_eq_right (by omega), List.take_of_length_le (Nat.le_refl _), List.take_of_length_le (by omega)]
/-- what the comprehension of rests gives -/
def restOf (n : Int) : Int := n * (if decide ((10 : Int) ^ (18 : Int).toNat ≤ n) then 1 else 0)
theorem ok_deck {k : Nat} {l : Nat} {f : Addr} {q : Str} {params : Arguments} {fd : FuncData} (F : FunD K "_law_deck" q params (deckBody l) deckScope [] [] f fd) (T : Top K mg base) : FnG Pr w K mg base (k + 1) f fd ["_law_script"] (spDeck K) := by
  obtain ⟨oc, od, dV, kV, doc, pm, an, cdv, ct, osl, rfl, lk, hcd, _, _⟩ := F.ex
  refine fn_ofG lk hcd deckS (fun vs H Q E h => ?_) fun A outer s H vs Q E hr hg hM hsp => ?_
  · obtain ⟨a, ns, rfl, _⟩ := h
    rfl
  · obtain ⟨a, ns, rfl, hS, hQ⟩ := hsp
    have g1 : mg "list" = none := T.blt _ (by decide)
    have g2 : mg "int" = none := T.blt _ (by decide)
    have g3 : mg "len" = none := T.blt _ (by decide)
    have hb : blkC deckN deckScope { kind := .function, names := [(".0", .local), ("_law_cell", .local), ("int", .globalImplicit)], isGenerator := false, isCoroutine := false, more := [] } [("_law_cell", 2)] = true := by decide +kernel
    refine ⟨_, pss_cons (ps_set (i := 1) deckS.nd rfl (.inl rfl) (pe_op op_cat (pe_callTy call_list_of rfl g1 PyProof.Rows.boot_list (pa_cons (pe_slice sl_list (pe_var (i := 0) rfl (.inl rfl)) po_none (po_some pe_int)) pa_nil))
        (pe_op op_rep (pe_lst (pa_cons pe_int pa_nil)) (pe_callTy call_int1 rfl g2 PyProof.Rows.boot_int (pa_cons (pe_cmpR op_eq (pe_callB call_len rfl g3 boot_len (pa_cons (pe_var (i := 0) rfl (.inl rfl)) pa_nil)) pe_int rfl) pa_nil)))) rfl (.inl rfl))
      (pss_one (ps_ret (pe_lst (pa_cons (pe_var (i := 1) rfl (.inl rfl)) (pa_cons pe_int (pa_cons (pe_lc (own := [("_law_cell", 2)]) rfl deckS.nd (pi_list (pe_var (i := 1) rfl (.inl rfl))) (blkOk_by hb)
        (fun s H C cl fp => pg_name (i := 2) deckS.nd rfl (.inl rfl) (.inr rfl)) (fun s H C cl fp => pts_nil)
        (fun s H C cl fp => pe_op op_mul (pe_var (i := 2) rfl (.inl rfl)) (pe_callTy call_int1 rfl g2 PyProof.Rows.boot_int (pa_cons (pe_cmpR op_ge (pe_var (i := 2) rfl (.inl rfl)) (pe_op op_pow pe_int pe_int) rfl) pa_nil)))) pa_nil)))))), ?_⟩
    have hz := sizeLine_eq
    refine ⟨.ref a, rfl, 63, rfl, a, _, rfl, hS, fun p1 hp1 => ?_⟩
    refine ⟨p1, _, rfl, .inl (SqL.of upd_same), fun p2 hp2 => ?_⟩
    refine ⟨by rw [hz]; decide, fun p3 hp3 => ?_⟩
    have hS3 := sq_new (o := .lst [.int 0]) (sq_new (o := .lst (cutV (ns.map V.int) none (some 63))) (sq_new (o := .lst (cutV (ns.map V.int) none (some 63))) hS hp1) hp2) hp3
    refine ⟨.ref a, rfl, .ref a, _, rfl, .inl ⟨_, hS3, rfl⟩, rfl, .inr ⟨_, rfl, ?_⟩⟩
    generalize hkk : (if decide (V.int ((ns.map V.int).length : Int) = V.int 0) = true then (1 : Int) else 0) = kk
    have hk01 : kk = (if ns.length = 0 then 1 else 0 : Nat) := by
      rw [← hkk]
      by_cases h0 : ns.length = 0
      · rw [if_pos h0, if_pos]
        · rfl
        · rw [List.length_map, h0]
          exact decide_eq_true rfl
      · rw [if_neg h0, if_neg]
        · rfl
        · rw [List.length_map]
          intro z
          have z := of_decide_eq_true z
          injection z with z
          omega
    have hk2 : 0 ≤ kk ∧ kk ≤ 1 := by rw [hk01]; split <;> omega
    have hzs : (List.replicate kk.toNat [V.int 0]).flatten = (if ns.length = 0 then [(0 : Int)] else []).map V.int := by
      rw [hk01]
      split <;> rfl
    refine ⟨p3, kk, [.int 0], rfl, rfl, upd_same, by omega, by omega, by rw [hz]; simp only [List.length_cons, List.length_nil]; omega, fun p4 hp4 => ?_⟩
    have n32 : p3 ≠ p2 := fun z => by rw [z, upd_same] at hp3; cases hp3
    have n42 : p4 ≠ p2 := fun z => by rw [z, upd_ne (fun z => n32 z.symm), upd_same] at hp4; cases hp4
    rw [cutV_take, ← List.map_take, hzs] at *
    generalize hcs : (ns.take 63) = c1 at *
    have hc1 : c1.length ≤ 63 := by rw [← hcs, List.length_take]; omega
    refine ⟨p2, p4, c1.map V.int, _, rfl, rfl, by rw [upd_ne (fun z => n42 z.symm), upd_ne (fun z => n32 z.symm), upd_same], upd_same, ?_, fun c hc => ?_⟩
    · rw [hz, List.length_map, List.length_map]
      split <;> simp only [List.length_cons, List.length_nil] <;> omega
    rw [← List.map_append]
    have hL : 0 < (c1 ++ (if ns.length = 0 then [(0 : Int)] else [])).length ∧ (c1 ++ (if ns.length = 0 then [(0 : Int)] else [])).length ≤ 63 := by
      rw [List.length_append]
      split
      · rename_i h0
        rw [← hcs, List.length_take, h0]
        simp
      · rename_i h0
        have : c1.length = min 63 ns.length := by rw [← hcs, List.length_take]
        simp only [List.length_nil]
        omega
    generalize (c1 ++ (if ns.length = 0 then [(0 : Int)] else [])) = cs at *
    generalize hHc : upd _ c (.lst (cs.map V.int)) = Hc
    have hcc : Hc c = some (.lst (cs.map V.int)) := by rw [← hHc]; exact upd_same
    refine ⟨.ref c, rfl, .ref c, rfl, c, rfl, ⟨_, SqL.of hcc⟩, fun D hD => ?_⟩
    have nDc : D ≠ c := fun z => by rw [z, hcc] at hD; cases hD
    refine lc_list (xs := cs.map V.int) (fun i H' => ∃ ms : List Int, H' D = some (.lst (ms.map V.int)) ∧ ms.length = i ∧ H' c = some (.lst (cs.map V.int))) ⟨[], upd_same, rfl, by rw [upd_ne (fun z => nDc z.symm)]; exact hcc⟩ (fun i H' _ h => SqL.of h.choose_spec.2.2) ?_ ?_
    · rintro i x H' hx ⟨ms, m1, m2, m3⟩
      obtain ⟨n, rfl⟩ : ∃ n, x = V.int n := by
        rw [List.getElem?_map] at hx
        cases q : cs[i]? with
        | none => rw [q] at hx; cases hx
        | some n => rw [q] at hx; cases hx; exact ⟨n, rfl⟩
      have hi : i < cs.length := by
        have := (List.getElem?_eq_some_iff.mp hx).1
        simpa using this
      refine ⟨rfl, ?_⟩
      unfold tYes
      dsimp only
      rw [if_pos rfl]
      refine ⟨.int n, rfl, .int n, rfl, 10, 18, rfl, rfl, ⟨by decide, by decide, by decide⟩, n, _, rfl, rfl, .inr ⟨_, rfl, ?_⟩⟩
      refine ⟨n, _, rfl, rfl, .inr ?_, ?_⟩
      · split <;> decide
      · exact ⟨_, m1, by rw [List.length_map, hz]; omega, ms ++ [_], by rw [upd_same, List.map_append]; rfl, by simp [m2], by rw [upd_ne (fun z => nDc z.symm)]; exact m3⟩
    · rintro H' ⟨ms, m1, m2, m3⟩
      refine ⟨by rw [hz]; show 3 ≤ 16777216; decide, fun p hp => ?_⟩
      have npc : p ≠ c := fun z => by rw [z, m3] at hp; cases hp
      have npD : p ≠ D := fun z => by rw [z, m1] at hp; cases hp
      refine hQ _ _ p c D cs.length ⟨rfl, upd_same, ⟨cs, by rw [upd_ne npc.symm]; exact m3, rfl⟩, ⟨ms, by rw [upd_ne npD.symm]; exact m1, by rw [m2, List.length_map]⟩, hL, ⟨npc, npD, fun z => nDc z.symm⟩⟩
end
end Ad
namespace Ad
open PySem PySem.Calls PySem.W PySem.SeqAt PySem.Spec PyProof.Rows L2

/-! ### the world of a law: its deck -/
def volsOf (dk c r : Addr) (t : Bool) : Option Addr := if t then some r else some c
def wdDeck (dk c r : Addr) (L : Nat) (hL : 0 < L ∧ L ≤ 63) (ne : dk ≠ c ∧ dk ≠ r ∧ c ≠ r) : Wd where
  vol := fun a => a = dk ∨ a = c ∨ a = r
  dk := some dk
  vl := volsOf dk c r
  len := L
  inv := fun b H => (∃ t : Int, H dk = some (.lst [.ref c, .int t, .ref r]) ∧ 0 ≤ t ∧ t + b ≤ 4294967296) ∧ (∃ ns : List Int, H c = some (.lst (ns.map V.int)) ∧ ns.length = L) ∧ ∃ ns : List Int, H r = some (.lst (ns.map V.int)) ∧ ns.length = L
  known := fun b H a ⟨⟨t, h1, _⟩, ⟨ns, h2, _⟩, ⟨ms, h3, _⟩⟩ h => by
    rcases h with rfl | rfl | rfl
    · exact ⟨_, h1⟩
    · exact ⟨_, h2⟩
    · exact ⟨_, h3⟩
  keep := fun b H H' ⟨⟨t, h1, h1'⟩, ⟨ns, h2, h2'⟩, ⟨ms, h3, h3'⟩⟩ h => ⟨⟨t, by rw [h dk (.inl rfl)]; exact h1, h1'⟩, ⟨ns, by rw [h c (.inr (.inl rfl))]; exact h2, h2'⟩, ⟨ms, by rw [h r (.inr (.inr rfl))]; exact h3, h3'⟩⟩
  pos := hL
  dkv := fun a h => by cases h; exact .inl rfl
  vlv := fun t a h => by
    cases t
    · cases h; exact .inr (.inl rfl)
    · cases h; exact .inr (.inr rfl)
  dkk := fun b H a ⟨⟨t, h1, h1', h1''⟩, _, _⟩ h => by
    cases h
    exact ⟨c, r, t, h1, rfl, rfl, h1', h1''⟩
  dkw := fun b b' H a c' r' t v ⟨⟨t', h1, _⟩, ⟨ns, h2, h2'⟩, ⟨ms, h3, h3'⟩⟩ h hH h0 hle => by
    cases h
    rw [h1] at hH
    cases hH
    exact ⟨⟨v, upd_same, h0, hle⟩, ⟨ns, by rw [upd_ne ne.1.symm]; exact h2, h2'⟩, ⟨ms, by rw [upd_ne ne.2.1.symm]; exact h3, h3'⟩⟩
  vlk := fun b H t a ⟨_, h2, h3⟩ h => by
    cases t
    · cases h; exact h2
    · cases h; exact h3
  vlw := fun b H a ns ⟨⟨t, h1, h1'⟩, ⟨ms, h2, h2'⟩, _⟩ h hl => by
    cases h
    exact ⟨⟨t, by rw [upd_ne ne.2.1]; exact h1, h1'⟩, ⟨ms, by rw [upd_ne ne.2.2]; exact h2, h2'⟩, ⟨ns, upd_same, hl⟩⟩

/-! ### the def law -/
inductive First where
  | one (i : Nat)
  | two (i j : Nat) (o : Bool) (e : E)
def env0 (n : Nat) : Ev := List.replicate n none
def runLaw (n : Nat) : First → Ss → M Rz
  | .one i, b => dSs b ((env0 n).set i (some (deckD, false)))
  | .two i j o e, b => dE e (env0 n) >>= fun d => ownD o d >>= fun d => dSs b (((env0 n).set j (some (d, o))).set i (some (deckD, false)))
def isDeckCall (cc : Cc) (v : Expr) : Bool := onCall v fun g xs => decide (g = "_law_deck") && glB cc g && one xs fun u => nmB cc 0 u
def mFirst (cc : Cc) : First → Stmt → Bool
  | .one i, x => onAsg x fun t v => setB cc i t && isDeckCall cc v
  | .two i j o e, x => onAsg x fun t v => onTup t fun ts => onTup v fun xs => two xs fun u y => isDeckCall cc u && mP cc [(j, o)] (.cons e .nil) [y] && setsB cc [i, j] ts && decide (i ≠ j) && (match swapOf cc ts xs with
    | some none => true
    | some (some [a, b]) => (match ts with | [t, u] => lc1 cc t a && lc1 cc u b | _ => false)
    | _ => false)
section
variable {Pr : Program} {w : World} {K : PySem.W.Frag} {mg : Str → Option Value} {base : Heap}
def spLaw (K : PySem.W.Frag) : Sp := fun vs H Q _ => ∃ (a : Addr) (ns : List Int), vs = [.ref a] ∧ SqL K H a (ns.map V.int) ∧ ∀ H', Q (.bl true) H'
/-- the deck's def at work -/
def CallD (Pr : Program) (w : World) (K : PySem.W.Frag) (mg : Str → Option Value) (base : Heap) (k : Nat) : Prop :=
  ∃ (a : Addr) (fd : FuncData), mg "_law_deck" = some (.ref a) ∧ PySem.W.keepIn K (.ref a) = true ∧ FnG Pr w K mg base k a fd ["_law_script"] (spDeck K) ∧ Binds K fd ["_law_script"] []
theorem pe_deck {X : Cx} {Wx : WX} {P : Str → (List D → M D) → Prop} {G : Str → D → Prop} {cc : Cc} {k : Nat} {x : Expr} (c : CtxOk P G X Wx cc) (hr : Room k X.A) (C : CallD X.prog X.w X.K X.mg X.base k) (h : isDeckCall cc x = true) :
    PE X x (fun σ H Q => ∃ v, σ[0]? = some (some v) ∧ spDeck X.K [v] H Q (fun _ _ _ => False)) := by
  obtain ⟨g, p, xs, pos, rfl, hh⟩ := on_call h
  clear h
  simp only [Bool.and_eq_true, decide_eq_true_eq] at hh
  obtain ⟨⟨rfl, h1⟩, h2⟩ := hh
  obtain ⟨u, rfl, h3⟩ := on_one h2
  obtain ⟨nm, p2, rfl, g1, g2, g3, g4⟩ := c.name h3
  obtain ⟨hgl, hd⟩ := c.gl h1
  obtain ⟨a, fd, hm, hk, F, hb⟩ := C
  refine ⟨fun pins s σ H Q I hq => ?_⟩
  obtain ⟨v, hv, hq⟩ := hq
  refine wpAny_Call_Name_kw (ld_glob I hgl hm ?_ hd)
  refine PySem.W.callWith_K (h₀ := X.base) I.ok.mod.kin hk (thn ((pa_cons (pe_var g1 g2 g3 g4) pa_nil rfl).run pos pins s σ H (fun vs H1 => vs = [v] ∧ H1 = H) I ⟨v, hv, rfl, rfl⟩) fun us s1 ⟨vs, H1, I1, r, e1, e2⟩ => ⟨I1.kIn, ?_⟩) rfl rfl
  subst e1
  subst e2
  exact run_fnG (E := fun _ _ _ => False) F hr c.grd hb (fun pins H s e s' I z => (takes_none5 (X := X)) e s' (XE.of_call I (fun _ _ _ h => h) z)) I1 r hq
theorem env0_none {n i : Nat} {x : D × Bool} : (env0 n)[i]? ≠ some (some x) := fun z => by
  unfold env0 at z
  rw [List.getElem?_replicate] at z
  split at z <;> cases z
/-- nothing is known of the slots -/
theorem env0_ok {c : Cf} {σ : L2.St} {H : Hp} {n : Nat} (hn : n = σ.length) (h0 : c.H0 = H) (hB : ∀ a, c.B a → ∃ o, H a = some o ∧ MutO o) (hv : ∀ a, c.W.vol a → c.B a) (hi : c.W.inv c.b H) : EnvOk K c (env0 n) σ H where
  len := by unfold env0; rw [List.length_replicate, hn]
  val := fun i d z => absurd z env0_none
  own := fun i d z => absurd z env0_none
  dist := fun i j d e a z _ _ _ => absurd z env0_none
  ext := by rw [h0]; exact Ext.refl H
  inv := hi
  bkn := hB
  bv := hv
theorem ok_law {k : Nat} (h2 : 2 ≤ k) {f : Addr} {q : Str} {params : Arguments} {st : Stmt} {body : List Stmt} {scope : Scope} {fd : FuncData} {N : List Str} {n : Nat} {fst : First} {b : Ss} (F : FunD K "law" q params (st :: body) scope [] [] f fd) (T : Top K mg base) (S : FnScope N ["_law_script"] scope) (hn : N.length = n)
    (hf : mFirst ⟨N, scope.names, scope.names.map (·.1)⟩ fst st = true) (hm : mSs ⟨N, scope.names, scope.names.map (·.1)⟩ b body = true) {P : Str → (List D → M D) → Prop} {G : Str → D → Prop} (hc : cSs P G K mg b) (hcf : ∀ i j o e, fst = .two i j o e → cE P G e)
    (hP : ∀ nm g, P nm g → CallP Pr w K mg base k nm g) (hG : ∀ nm d, G nm d → ∃ u v, mg nm = some u ∧ RelV v u ∧ Stat K v d) (hD : CallD Pr w K mg base k)
    (hrun : (runLaw n fst b).run (fun r _ => r = .rt (.bool true)) (fun _ _ => False) 4294967296) : FnG Pr w K mg base (k + 1) f fd ["_law_script"] (spLaw K) := by
  obtain ⟨oc, od, dV, kV, doc, pm, an, cdv, ct, osl, rfl, lk, hcd, _, _⟩ := F.ex
  refine fn_ofG lk hcd S (fun vs H Q E h => ?_) fun A outer s H vs Q E hr hg hM hsp => ?_
  · obtain ⟨a, ns, rfl, _⟩ := h
    rfl
  · obtain ⟨a, ns, rfl, hS, hQ⟩ := hsp
    have cx := ctx_fn h2 (E := E) (outer := outer) (H := H) T S hr hg hP hG
    have rest := sSs b body _ _ cx ⟨passes_of rfl, rfl, rfl⟩ hc hm
    have hlen : n = (L2.start N [V.ref a]).length := by
      unfold L2.start
      rw [List.length_append, List.length_map, List.length_replicate]
      have h1 : ["_law_script"].length ≤ N.length := by
        have := congrArg List.length S.pre
        rw [List.length_take] at this
        simp at this ⊢
        omega
      simp only [List.length_cons, List.length_nil] at h1 ⊢
      omega
    have h0 : (L2.start N [V.ref a])[0]? = some (some (V.ref a)) := rfl
    -- from a state in which the deck stands to the end
    have tail : ∀ (c : Cf) (ρ : Ev) (σ : L2.St) (H' : Hp), EnvOk K c ρ σ H' → (dSs b ρ).run (fun r _ => r = .rt (.bool true)) (fun _ _ => False) c.b → tSt K mg (fun cls d _ H => E cls d H) (dSs b) { nx := fun _ H' => Q .non H', rt := Q } σ H' := fun c ρ σ H' e h =>
      ⟨c, ρ, e, (dSs b ρ).mono (fun r _ q => by
        subst q
        intro v H2 x i r
        cases r
        exact hQ H2) (fun _ _ z => z.elim) h⟩
    cases fst with
    | one i =>
      obtain ⟨t, v, p, rfl, hh⟩ := on_asg hf
      simp only [Bool.and_eq_true] at hh
      obtain ⟨y, py, rfl, g1, g2, g3⟩ := cx.set hh.1
      have hv := hh.2
      have hsw : swapsWith v (some (.Name y py)) p.line (cxOf (CX Pr w) Pr w K mg base N q scope f cdv A outer s H E).env = pure false := by
        obtain ⟨_, _, _, _, rfl, _⟩ := on_call hv
        rfl
      refine ⟨_, pss_cons (ps_set S.nd g1 g2 (pe_deck cx hr hD hv) hsw g3) rest, ⟨.ref a, h0, a, ns, rfl, hS, fun v H' dk c r L d => ?_⟩⟩
      have hn1 := d.ev
      subst hn1
      let W := wdDeck dk c r L d.pos d.ne
      have hinv : W.inv 4294967296 H' := ⟨⟨0, d.hdk, by omega, by omega⟩, d.hc, d.hr⟩
      have e0 : EnvOk K ⟨W, W.vol, H', 4294967296⟩ (env0 n) (L2.start N [V.ref a]) H' := env0_ok hlen rfl (fun a h => Exists.elim (W.known _ _ a hinv h) fun vs q => ⟨.lst vs, q, trivial⟩) (fun _ h => h) hinv
      exact tail _ _ _ _ (e0.setv i (.dck rfl)) hrun
    | two i j o e =>
      obtain ⟨t, v, p, rfl, hh1⟩ := on_asg hf
      obtain ⟨ts, kt, pt, e1, hh2⟩ := on_tup hh1
      obtain ⟨xs, k2, p2, e2, hh3⟩ := on_tup hh2
      obtain ⟨u, y, e3, hh⟩ := on_two hh3
      subst e1
      subst e2
      subst e3
      simp only [Bool.and_eq_true, decide_eq_true_eq] at hh
      obtain ⟨⟨⟨⟨h1, h2⟩, h3⟩, hij⟩, h4⟩ := hh
      have hce : cEs P G (.cons e .nil) := ⟨hcf i j o e rfl, trivial⟩
      obtain ⟨q1, q2, q3, q4, q5⟩ := mP_ok cx hce h2
      have hst : notStar u = true := by
        obtain ⟨_, _, _, _, rfl, _⟩ := on_call h1
        rfl
      have pa := pa_cons (pe_deck cx hr hD h1) q1 (star_ok hst [y] _)
      -- the two values, in their slots
      have two : ∀ (R : List V → Hp → Prop), (∀ v u H2, (tSt K mg (fun cls d _ H => E cls d H) (dSs b) { nx := fun _ H' => Q .non H', rt := Q } (((L2.start N [V.ref a]).set i (some v)).set j (some u)) H2) →
          (∀ p o, H2 p = none → tSt K mg (fun cls d _ H => E cls d H) (dSs b) { nx := fun _ H' => Q .non H', rt := Q } (((L2.start N [V.ref a]).set i (some v)).set j (some u)) (upd H2 p o)) → R [v, u] H2) →
          tCons (fun σ H Q => ∃ v, σ[0]? = some (some v) ∧ spDeck K [v] H Q (fun _ _ _ => False)) (tAP K mg (fun cls d _ H => E cls d H) (parMs [(j, o)] (.cons e .nil))) (L2.start N [V.ref a]) H R := by
        intro R hR
        refine ⟨.ref a, h0, a, ns, rfl, hS, fun v H' dk c r L d => ?_⟩
        have hn1 := d.ev
        subst hn1
        let W := wdDeck dk c r L d.pos d.ne
        have hinv : W.inv 4294967296 H' := ⟨⟨0, d.hdk, by omega, by omega⟩, d.hc, d.hr⟩
        have e0 : EnvOk K ⟨W, W.vol, H', 4294967296⟩ (env0 n) (L2.start N [V.ref a]) H' := env0_ok hlen rfl (fun a h => Exists.elim (W.known _ _ a hinv h) fun vs q => ⟨.lst vs, q, trivial⟩) (fun _ h => h) hinv
        have hrun : (parM (parMs [(j, o)] (.cons e .nil)) (env0 n)).run (fun ds => (dSs b ((setAll (env0 n) [(j, o)] ds).set i (some (deckD, false)))).run (fun r _ => r = .rt (.bool true)) (fun _ _ => False)) (fun _ _ => False) 4294967296 := hrun
        refine ⟨_, env0 n, e0, (parM _ _).mono (fun ds b' q cf vs H2 x2 i2 pd hn2 => ?_) (fun _ _ z => z.elim) hrun⟩
        have hl := pd.lens
        match vs, hl with
        | [u], _ =>
          have go : ∀ H3, Ext W.vol H2 H3 → W.inv b' H3 → tSt K mg (fun cls d _ H => E cls d H) (dSs b) { nx := fun _ H' => Q .non H', rt := Q } (((L2.start N [V.ref a]).set i (some (.ref dk))).set j (some u)) H3 := fun H3 x3 i3 => by
            obtain ⟨e3, _⟩ := (pd.ext x3 i3).done [(j, o)] rfl
            have e4 := e3.setv i (d := deckD) (v := .ref dk) (.dck rfl)
            have e5 : ((setAllS (L2.start N [V.ref a]) [j] [u]).set i (some (.ref dk))) = (((L2.start N [V.ref a]).set i (some (.ref dk))).set j (some u)) := List.set_comm _ _ (fun z => hij z.symm)
            rw [← e5]
            exact tail _ _ _ _ e4 q
          refine hR _ u H2 (go H2 (Ext.refl H2) i2) fun p o hp => ?_
          obtain ⟨p1, p2, _⟩ := (e0.ext' x2 i2).vc.new (o := o) hp
          exact go _ p1 p2
      have hss : swapsWithSole [.Tuple ts kt pt] (.Tuple [u, y] k2 p2) p.line (cxOf (CX Pr w) Pr w K mg base N q scope f cdv A outer s H E).env = pure false := rfl
      split at h4
      · rename_i es
        have htg : tgB ⟨N, scope.names, scope.names.map (·.1)⟩ (.t [i, j]) (.Tuple ts kt pt) = true := h3
        refine ⟨_, pss_cons (ps_asg (pe_tup pa) (cx.tg htg) hss (swap_ok cx es) rfl) rest, ?_⟩
        unfold tSeq tAsg tTup
        dsimp only
        refine two _ fun v u' H2 _ hp => ⟨by rw [sizeLine_eq]; show 2 ≤ 16777216; decide, fun a' ha => .inl ⟨a', _, rfl, SqT.of upd_same, rfl, gNames_setS rfl ?_⟩⟩
        exact hp a' _ ha
      · rename_i a1 b1 es
        split at h4
        · simp only [Bool.and_eq_true] at h4
          obtain ⟨p3, rfl, l1⟩ := lc1_ok cx h4.1
          obtain ⟨p4, rfl, l2⟩ := lc1_ok cx h4.2
          simp only [setsB, Bool.and_eq_true] at h3
          refine ⟨_, pss_cons (ps_par cx.calm S.nd (set_at cx h3.1) (set_at cx h3.2.1) hij l1 l2 pa (swap_ok cx es) hss) rest, ?_⟩
          unfold tSeq tPar
          dsimp only
          exact two _ fun v u' H2 h _ => ⟨v, u', rfl, h⟩
        · cases h4
      · cases h4
end
end Ad
namespace Ad
open PySem PySem.Calls PySem.W PySem.SeqAt PySem.Spec PyProof.Rows L2

/-! ### a number drawn -/
def e1 (e : E) : Es := .cons e .nil
def drawB (c1 c2 c3 c4 c5 c6 c7 c8 c9 : Int) : Ss :=
  .cons (.dkUn 2 3 4 0) <| .cons (.asg 5 (.bin .Mod (.bi .int1 (e1 (.v 3))) (.vlen 2))) <| .cons (.dkInc 0 (.bin .Add (.v 3) (.k (.int 1)))) <|
  .cons (.ite (.cmp .Gt (.vg 4 (.v 5)) (.k (.int 0))) (.cons (.asg 6 (.bin .Mod (.bi .int1 (e1 (.vg 4 (.v 5)))) (.v 1))) <| .cons (.vset 4 (.v 5) (.bin .FloorDiv (.vg 4 (.v 5)) (.v 1))) <| .cons (.ret (.v 6)) .nil) .nil) <|
  .cons (.asg 7 (.bin .Mod (.bin .Pow (.bin .Add (.bin .Add (.bin .Mod (.bi .int1 (e1 (.vg 2 (.v 5)))) (.k (.int c1))) (.bin .Mult (.k (.int c2)) (.v 3))) (.k (.int c3))) (.k (.int 3))) (.k (.int c4)))) <|
  .cons (.asg 8 (.bin .Mod (.bin .Pow (.bin .Add (.bin .Add (.v 7) (.bin .Mult (.k (.int c5)) (.v 3))) (.k (.int c6))) (.k (.int 3))) (.k (.int c7)))) <|
  .cons (.ret (.bin .Mod (.bin .Mod (.bi .int1 (e1 (.bin .Add (.bin .Mult (.v 8) (.k (.int c8))) (.v 7)))) (.k (.int c9))) (.v 1))) .nil
/-- all that a law knows of a draw -/
def drawF : List D → M D
  | [d, .int n] => do
    M.grd (isDeck d = true ∧ 0 < n ∧ n < 1073741824)
    let k ← M.draw n.toNat
    pure (.int (k : Nat))
  | _ => M.fail
def Small (m c : Int) : Prop := 0 < c ∧ c < m
theorem Small.pos {m c : Int} (h : Small m c) : 0 < c := h.1
theorem Small.lt {m c : Int} (h : Small m c) : c < m := h.2
theorem pow_ok {m c d x t : Int} (hm : 0 < m ∧ m ≤ 4294967296) (hx : 0 ≤ x ∧ x < m) (hc : Small 1048576 c) (hd : Small 1048576 d) (ht : 0 ≤ t ∧ t ≤ 4294967296) : L2.CPow (x + c * t + d) 3 := by
  have h1 : 0 ≤ c * t := Int.mul_nonneg (Int.le_of_lt hc.pos) ht.1
  have h2 : c * t ≤ 1048576 * 4294967296 := Int.mul_le_mul (Int.le_of_lt hc.lt) ht.2 ht.1 (by omega)
  have := hd.pos
  have := hd.lt
  refine ⟨by omega, by omega, ?_⟩
  have e : (2 : Nat) ^ 64 = 18446744073709551616 := by decide
  rw [e]
  omega
theorem draw_ref {c1 c2 c3 c4 c5 c6 c7 c8 c9 : Int} (h1 : Small 4294967296 c1) (h2 : Small 1048576 c2) (h3 : Small 1048576 c3) (h4 : Small 4294967296 c4) (h5 : Small 1048576 c5) (h6 : Small 1048576 c6) (h7 : Small 4294967296 c7) (h8 : Small 4294967296 c8) (h9 : 0 < c9) (ds : List D) (Q : D → Nat → Prop) (R : XV → Nat → Prop) (b : Nat)
    (h : (drawF ds).run Q R b) : (dFn 2 9 (drawB c1 c2 c3 c4 c5 c6 c7 c8 c9) ds).run Q R b := by
  unfold drawF at h
  split at h
  · rename_i d n
    obtain ⟨⟨hd, hn, hn2⟩, hb, hq⟩ := h
    unfold isDeck at hd
    split at hd
    · have fin : ∀ x : Int, Q (.int (x % n)) (b - 1) := fun x => by
        have k1 := Int.emod_nonneg x (show n ≠ 0 by omega)
        have k2 := Int.emod_lt_of_pos x hn
        have := hq (x % n).toNat (by omega)
        have e : ((x % n).toNat : Int) = x % n := by omega
        rw [← e]
        exact this
      refine And.intro rfl (And.intro rfl fun L t g1 g2 g3 g4 => ?_)
      have hL : (0 : Int) < (L : Int) := by omega
      have at1 := Int.emod_nonneg t (show (L : Int) ≠ 0 by omega)
      have at2 := Int.emod_lt_of_pos t hL
      refine And.intro hL (And.intro rfl (And.intro hb (And.intro (show 0 ≤ t + 1 by omega) (And.intro (show t + 1 + (b - 1 : Nat) ≤ 4294967296 by omega) ?_))))
      refine And.intro ⟨at1, at2⟩ fun r => ?_
      change (ite (decide (0 < r) = true) _ _ : M Rz).run _ _ _
      by_cases h0 : 0 < r
      · rw [if_pos (decide_eq_true h0)]
        refine And.intro ⟨at1, at2⟩ fun r2 => And.intro hn (And.intro ⟨at1, at2⟩ fun r3 => And.intro ⟨hn, hn2⟩ (And.intro rfl (And.intro ⟨at1, at2⟩ ?_)))
        exact fin r2
      · rw [if_neg (fun z => h0 (of_decide_eq_true z))]
        have ht : 0 ≤ t ∧ t ≤ 4294967296 := ⟨g3, by omega⟩
        refine And.intro ⟨at1, at2⟩ fun r2 => And.intro h1.pos (And.intro (.inl ⟨by have := h2.pos; omega, by have := h2.lt; omega⟩) (And.intro ?_ (And.intro h4.pos ?_)))
        · exact pow_ok ⟨h1.pos, by have := h1.lt; omega⟩ ⟨Int.emod_nonneg r2 (by have := h1.pos; omega), Int.emod_lt_of_pos r2 h1.pos⟩ h2 h3 ht
        refine And.intro (.inl ⟨by have := h5.pos; omega, by have := h5.lt; omega⟩) (And.intro ?_ (And.intro h7.pos ?_))
        · exact pow_ok ⟨h4.pos, by have := h4.lt; omega⟩ ⟨Int.emod_nonneg _ (by have := h4.pos; omega), Int.emod_lt_of_pos _ h4.pos⟩ h5 h6 ht
        refine And.intro (.inr ⟨by have := h8.pos; omega, by have := h8.lt; omega⟩) (And.intro h9 (And.intro hn ?_))
        exact fin _
    · cases hd
  · exact h.elim
end Ad
namespace Ad
open PySem PySem.Calls PySem.W PySem.SeqAt PySem.Spec PyProof.Rows L2

section
variable {Pr : Program} {w : World} {K : PySem.W.Frag} {mg : Str → Option Value} {base : Heap}
theorem FnG.imp {k : Nat} {f : Addr} {fd : FuncData} {ps : List Str} {sp sp' : Sp} (F : FnG Pr w K mg base k f fd ps sp) (h : ∀ vs H Q E, sp' vs H Q E → sp vs H Q E) : FnG Pr w K mg base k f fd ps sp' :=
  ⟨fun vs H Q E z => F.len vs H Q E (h _ _ _ _ z), fun A outer s H args us vs Q E hr hg he hb r z => F.run A outer s H args us vs Q E hr hg he hb r (h _ _ _ _ z)⟩
/-- a def does what refines it -/
theorem FnG.refine {k : Nat} {f : Addr} {fd : FuncData} {ps : List Str} {g g' : List D → M D} (F : FnG Pr w K mg base k f fd ps (spOf K mg g)) (h : ∀ ds (Q : D → Nat → Prop) (R : XV → Nat → Prop) b, (g' ds).run Q R b → (g ds).run Q R b) : FnG Pr w K mg base k f fd ps (spOf K mg g') :=
  F.imp fun vs H Q E z => by
    obtain ⟨W, B, ds, b, v, l, z⟩ := z
    exact ⟨W, B, ds, b, v, l, h _ _ _ _ z⟩
theorem CallP.refine {k : Nat} {nm : Str} {g g' : List D → M D} (c : CallP Pr w K mg base k nm g) (h : ∀ ds (Q : D → Nat → Prop) (R : XV → Nat → Prop) b, (g' ds).run Q R b → (g ds).run Q R b) : CallP Pr w K mg base k nm g' := by
  obtain ⟨a, fd, ps, h1, h2, F, b⟩ := c
  exact ⟨a, fd, ps, h1, h2, F.refine h, b⟩

/-! ### the head -/
/-- the script alone is tracked, where it is no object of the module -/
def scriptH (K : PySem.W.Frag) (a : Addr) (o : Obj) (ns : List Int) : Hp := fun b => if b = a ∧ K.lookup a = none then some (.frz o (.lst (ns.map V.int))) else none
theorem scriptH_or (K : PySem.W.Frag) (a : Addr) (o : Obj) (ns : List Int) (b : Addr) : scriptH K a o ns b = none ∨ (b = a ∧ K.lookup a = none ∧ scriptH K a o ns b = some (.frz o (.lst (ns.map V.int)))) := by
  unfold scriptH
  by_cases h : b = a ∧ K.lookup a = none
  · exact .inr ⟨h.1, h.2, if_pos h⟩
  · exact .inl (if_neg h)
/-- a law's call: its def gives True -/
theorem law_callG {k : Nat} {fa a : Addr} {fd : FuncData} {x : Str} {sp : Sp} {s : Shared} {vs : List Value} {ns : List Int} {mb : Str → Option Value}
    (KX : K.In s.heap) (hg : s.heap.Ns mainGlobals mg) (hb : s.heap.Ns builtinsNs mb) (hbb : ∀ x : Str, x ≠ "__name__" → mb x = bootBuiltins x) (hlim : s.heap.NoLimit) (hgen : s.gens = #[])
    (hsys : ∃ o es n, s.heap.get? sysModules = some o ∧ o.data = .dict es n)
    (ha : s.heap.get? a = some { cls := .type "list", data := .seq vs.toArray }) (hi : IntsAre vs ns) (hl : ns.length ≤ sizeLine) (hr : Room k callerA)
    (F : ∀ base : Heap, K.In base → base.Ns mainGlobals mg → (∃ o, base.get? sysModules = some o) → FnG Pr w K mg base k fa fd [x] sp) (hbind : ∀ (s : Shared) (u : Value), BindsTo s fd ⟨[u], []⟩ [(x, u)])
    (hsp : ∀ H : Hp, SqL K H a (ns.map V.int) → sp [.ref a] H (fun v _ => v = .bl true) fun _ _ _ => False) :
    codeAny (model Pr w) callerA (.call (.ref fa) ⟨[.ref a], []⟩) (fun r s' => r = .ok (.ret (.bool true)) ∧ OldK s.heap s'.heap ∧ s'.os = s.os ∧ AllBare s'.gens) s := by
  have rv := vals_ints hi
  obtain ⟨H, hH⟩ : ∃ H, H = scriptH K a { cls := .type "list", data := .seq vs.toArray } ns := ⟨_, rfl⟩
  have or_ : ∀ b, H b = none ∨ (b = a ∧ K.lookup a = none ∧ H b = some (.frz { cls := .type "list", data := .seq vs.toArray } (.lst (ns.map V.int)))) := fun b => by
    rw [hH]
    exact scriptH_or K a _ ns b
  -- what is not the script is of the base
  have old : ∀ {b : Addr} {o : Obj}, s.heap.get? b = some o → H b = none → (hidT s.heap H).get? b = some o := fun e n => hidT_get e n
  have dicN : ∀ {b : Addr} {o : Obj} {es : Array DictEntry} {n : Nat}, s.heap.get? b = some o → o.data = .dict es n → H b = none := fun {b o es n} e d => by
    rcases or_ b with z | ⟨rfl, _, _⟩
    · exact z
    · rw [ha] at e
      cases e
      cases d
  have nsB : ∀ {b : Addr} {m : Str → Option Value}, s.heap.Ns b m → (hidT s.heap H).Ns b m := fun {b m} ⟨o, es, n, e, d, r⟩ => ⟨o, es, n, old e (dicN e d), d, r⟩
  have KB : K.In (hidT s.heap H) := fun b o e => old (KX b o e) (by
    rcases or_ b with z | ⟨rfl, h, _⟩
    · exact z
    · rw [h] at e
      cases e)
  have M : Mod K mg (hidT s.heap H) := ⟨KB, nsB hg, ⟨mb, nsB hb, hbb⟩, let ⟨mc, h1, h2⟩ := hlim; ⟨mc, nsB h1, h2⟩⟩
  have hok : HOk Pr w H s.heap := fun b u z => by
    rcases or_ b with z' | ⟨rfl, _, z'⟩
    · rw [z'] at z
      cases z
    · rw [z'] at z
      cases z
      exact ⟨ha, by rw [List.length_map]; exact hl, vs, _, rv, ha⟩
  have hS : SqL K H a (ns.map V.int) := by
    cases q : K.lookup a with
    | none => exact .inl (.inr ⟨_, by
        rw [hH]
        exact if_pos ⟨rfl, q⟩⟩)
    | some o =>
      have e := KX a o q
      rw [ha] at e
      cases e
      exact .inr ⟨_, vs.toArray, _, q, rfl, rfl, rfl, by rw [List.size_toArray, hi.length]; exact hl, by simpa using rv⟩
  obtain ⟨so, es, n, e1, e2⟩ := hsys
  have e0 : Env0 Pr w K mg (hidT s.heap H) callerA [] s H := ⟨rfl, M, fun b o e => of_hidT e, Nat.le_of_eq (hidT_size _ _), trivial, fun b z => absurd (show b ∈ ([] : List Addr) from z) (by simp), hok, .of_eq hgen⟩
  refine codeAny_mono ((F _ KB (nsB hg) ⟨_, old e1 (dicN e1 e2)⟩).run callerA [] s H ⟨[.ref a], []⟩ [.ref a] [.ref a] _ _ hr rfl e0 (hbind s (.ref a)) (.cons rfl .nil) (hsp H hS)) fun r s' h => ?_
  cases r with
  | error e =>
    obtain ⟨_, _, _, _, _, _, _, _, _, _, _, _, z⟩ := h
    exact z.elim
  | ok fl =>
    cases fl with
    | next => exact False.elim h
    | brk => exact False.elim h
    | cont => exact False.elim h
    | ret u =>
      obtain ⟨v, H', os, bare, un, hok', r', q⟩ := h
      have q' : v = .bl true := q
      subst q'
      obtain rfl : u = Value.bool true := r'
      refine ⟨rfl, OldK.of_keep fun b o e => ?_, os, bare⟩
      rcases or_ b with z | ⟨_, _, z⟩
      · exact un.keep b o e z (fun z => absurd (show b ∈ ([] : List Addr) from z) (by simp)) (by simp)
      · obtain ⟨e1, _⟩ := hok b _ z
        obtain ⟨e2, _⟩ := hok' b _ (un.frzs b _ _ z)
        rw [e] at e1
        cases e1
        exact e2
/-- the same, as the head wants it -/
theorem walk_ofG {l : PySem.W.OpenLaw} {n k : Nat} {q : Program} {loose : List Str} {XP : (Str → Option Value) → Heap → Prop} {YP : World → Heap → Prop} {d : DefRec} {x : Str}
    (hn : l.most = some n) (hn2 : n ≤ sizeLine) (hdf : d.params.defaults = []) (hr : Room k callerA)
    (F : ∀ (w : World) (mg : Str → Option Value) (fa : Addr) (h : Heap), YP w h → h.Ns mainGlobals mg → mg d.name = some (.ref fa) →
      ∃ (K : PySem.W.Frag) (fd : FuncData), K.In h ∧ (∃ o es n, h.get? sysModules = some o ∧ o.data = .dict es n) ∧ (∀ (s : Shared) (u : Value), BindsTo s fd ⟨[u], []⟩ [(x, u)]) ∧
        ∀ base : Heap, K.In base → base.Ns mainGlobals mg → (∃ o, base.get? sysModules = some o) → FnG l.prog w K mg base k fa fd [x] (spLaw K)) :
    PySem.W.WalkO q loose XP YP l.row.toRowW d [] (fun f vs => PySem.call f vs) := by
  refine Att.attach_call hn hdf fun w s₀ s₁ mg mb fa o pm cd doc a vs ns G Y ho hd hcd hmg hobj hints hlen hg => ?_
  obtain ⟨K, fd, KX, hs, hb, hF⟩ := F w mg fa _ Y G.T.g hmg
  exact law_callG KX G.T.g G.T.b G.T.builtins G.T.nolimit hg hs hobj hints (Nat.le_trans hlen hn2) hr hF hb fun H hS => ⟨a, ns, rfl, hS, fun _ => rfl⟩
end
end Ad
namespace Ad
open PySem PySem.Calls PySem.W PySem.SeqAt PySem.Spec PyProof.Rows L2

/-! ### constants of the module: tuples too -/
mutual
def statB (K : PySem.W.Frag) : D → Value → Bool
  | .int i, .int j _ => decide (i = j)
  | .str x, .str y _ => decide (x = y)
  | .bool x, .bool y => decide (x = y)
  | .none, .none => true
  | .tuple ds, .ref a => (match K.lookup a with
    | some ⟨.type c, none, .seq its _, _⟩ => decide (c = "tuple") && (decide (its.size ≤ sizeLine) && (decide (ds.length ≤ sizeLine) && statsB K ds its.toList))
    | _ => false)
  | _, _ => false
def statsB (K : PySem.W.Frag) : List D → List Value → Bool
  | [], [] => true
  | d :: ds, v :: vs => statB K d v && statsB K ds vs
  | _, _ => false
end
mutual
theorem statB_ok {K : PySem.W.Frag} : ∀ (d : D) (u : Value), statB K d u = true → ∃ v, RelV v u ∧ Stat K v d
  | .int i, .int j t, h => by
    cases of_decide_eq_true h
    exact ⟨.int i, ⟨t, rfl⟩, fun _ _ _ => .int _⟩
  | .str x, .str y t, h => by
    cases of_decide_eq_true h
    exact ⟨.str x, ⟨t, rfl⟩, fun _ _ _ => .str _⟩
  | .bool x, .bool y, h => by
    cases of_decide_eq_true h
    exact ⟨.bl x, rfl, fun _ _ _ => .bl _⟩
  | .none, .none, _ => ⟨.non, rfl, fun _ _ _ => .non⟩
  | .tuple ds, .ref a, h => by
    unfold statB at h
    split at h
    · rename_i c its n sl q
      simp only [Bool.and_eq_true, decide_eq_true_eq] at h
      obtain ⟨h1, h2, h3, h4⟩ := h
      obtain ⟨vs, r, z⟩ := statsB_ok ds _ h4
      exact ⟨.ref a, rfl, fun W N H => .stp ⟨_, its, n, ⟨q, congrArg Value.type h1, rfl, h2, r⟩, rfl⟩ h3 (z W N H)⟩
    · cases h
theorem statsB_ok {K : PySem.W.Frag} : ∀ (ds : List D) (us : List Value), statsB K ds us = true → ∃ vs, Vals vs us ∧ ∀ W N H, RepL K W N H vs ds
  | [], [], _ => ⟨[], .nil, fun _ _ _ => .nil⟩
  | d :: ds, v :: vs, h => by
    unfold statsB at h
    obtain ⟨h1, h2⟩ := Bool.and_eq_true_iff.mp h
    obtain ⟨v', r, z⟩ := statB_ok d v h1
    obtain ⟨vs', rs, zs⟩ := statsB_ok ds vs h2
    exact ⟨v' :: vs', .cons r rs, fun W N H => .cons (z W N H) (zs W N H)⟩
end
/-- the module's name holds this -/
def constB (K : PySem.W.Frag) (c : Str × D) : Bool := match PySem.W.nsIn K mainGlobals c.1 with
  | some (some u) => statB K c.2 u
  | _ => false
theorem constB_ok {K : PySem.W.Frag} {h : Heap} {mg : Str → Option Value} (X : K.In h) (G : h.Ns mainGlobals mg) {nm : Str} {d : D} (c : constB K (nm, d) = true) : ∃ u v, mg nm = some u ∧ RelV v u ∧ Stat K v d := by
  unfold constB at c
  split at c
  · rename_i u q
    obtain ⟨v, r, z⟩ := statB_ok _ _ c
    exact ⟨u, v, PySem.W.mg_of X G q, r, z⟩
  · cases c
/-! ### the head's Hook, sys.modules seen -/
def sysB (g : Addr → Option Obj) : Bool := match g sysModules with
  | some ⟨_, _, .dict _ _, _⟩ => true
  | _ => false
theorem sysB_ok {g : Addr → Option Obj} (h : sysB g = true) : ∃ o es n, g sysModules = some o ∧ o.data = .dict es n := by
  unfold sysB at h
  split at h
  · rename_i c od es n sl q
    exact ⟨_, es, n, q, rfl⟩
  · cases h
abbrev AlE : Type := He.AlD × Bool
def obsE (n : Nat) (fa : List He.Fa) (fn : List He.DefD) (cs : List (Str × D)) (g : Addr → Option Obj) : AlE :=
  (He.obsD fa fn (He.frG g (He.asD g n)), sysB g && cs.all fun c => constB (He.frG g (He.asD g n)) c)
def hookE (n : Nat) (fa : List He.Fa) (fn : List He.DefD) (cs : List (Str × D)) : PySem.W.Hook where
  α := AlE
  obs := fun s => obsE n fa fn cs s.heap.get?
  val := fun _ => (He.valD fn, true)
  says := fun _ h => (∃ K : PySem.W.Frag, K.In h ∧ He.SaysD fa fn K ∧ ∀ c, c ∈ cs → constB K c = true) ∧ ∃ o es n, h.get? sysModules = some o ∧ o.data = .dict es n
  of := fun _ s e => by
    have e1 := congrArg Prod.fst e
    have e2 := congrArg Prod.snd e
    obtain ⟨h1, h2⟩ := Bool.and_eq_true_iff.mp (show (sysB s.heap.get? && cs.all fun c => constB (He.frG s.heap.get? (He.asD s.heap.get? n)) c) = true from e2)
    exact ⟨⟨_, He.frG_in, e1, fun c hc => List.all_eq_true.mp h2 c hc⟩, sysB_ok h1⟩
  keeps := fun _ _ _ ⟨⟨K, hK, c⟩, o, es, n, h1, h2⟩ k => ⟨⟨K, PySem.W.Frag.In.keeps hK k, c⟩, o, es, n, k _ _ h1, h2⟩
theorem obsE_eq {n : Nat} {fa : List He.Fa} {fn : List He.DefD} {cs : List (Str × D)} {g : Addr → Option Obj} {s : Shared} (h : ∀ a, g a = s.heap.get? a) : obsE n fa fn cs g = (hookE n fa fn cs).obs s := by
  have e : g = s.heap.get? := funext h
  rw [e]
  rfl
end Ad
namespace Ad
open PySem PySem.Calls PySem.W PySem.SeqAt PySem.Spec PyProof.Rows L2

/-! ### what the head must tell of exception classes -/
def oexB (K : PySem.W.Frag) (C : Addr) : Bool := match K.lookup C with
  | some ⟨.type t, _, .cls cd, sl⟩ => (match cd.mro, sl.toList with
    | .ref C' :: bm, [_, _, _, _, some (.builtin n), _] => decide (t = "type") && (C' == C && (n == "ValueError.__new__" && (!cd.hasDel && (cd.hasDict && PySem.HandSPX.refsVE bm))))
    | _, _ => false)
  | _ => false
theorem oexB_ok {K : PySem.W.Frag} {C : Addr} (q : oexB K C = true) : ∃ nm q N bs bm sn sub ab col dd k0 k1 k2 k3 k5, K.lookup C = some (excClassObj nm q C N bs bm true sn sub ab col dd k0 k1 k2 k3 k5 "ValueError.__new__") ∧ PySem.HandSPX.refsVE bm = true := by
  unfold oexB at q
  split at q
  · rename_i t dd cd sl ho
    split at q
    · rename_i C' bm k0 k1 k2 k3 n k5 hm hs
      simp only [Bool.and_eq_true, beq_iff_eq, Bool.not_eq_true', decide_eq_true_eq] at q
      obtain ⟨rfl, rfl, rfl, hdel, hdict, ht⟩ := q
      obtain ⟨nm, bs, mro, ns, qn, hd, sn, sub, ab, col, del⟩ := cd
      dsimp only at hm hdel hdict
      subst hm hdel hdict
      have hsl : sl = #[k0, k1, k2, k3, some (.builtin "ValueError.__new__"), k5] := by
        obtain ⟨l⟩ := sl
        simp only at hs
        rw [hs]
      subst hsl
      exact ⟨nm, qn, ns, bs, bm, sn, sub, ab, col, dd, k0, k1, k2, k3, k5, ho, ht⟩
    · cases q
  · cases q
def excB (K : PySem.W.Frag) (c : Str × Str) : Bool :=
  decide (PySem.W.nsIn K mainGlobals c.1 = some (some (.ref (He.ga K c.1)))) && (oexB K (He.ga K c.1) && (decide (PySem.W.findIn K (.ref (He.ga K c.1)) "__setattr__" = some (some (.builtin "object.__setattr__"))) &&
  (decide (PySem.W.subIn K (.ref (He.ga K c.1)) (.type "BaseException") = some true) && (decide (PySem.W.typeIn K (.ref (He.ga K c.1)) = some (.type "type")) && (PySem.W.keepIn K (.ref (He.ga K c.1)) &&
  (decide (PySem.W.findIn K (.ref (He.ga K c.1)) c.2 = some none) && (xfB K (He.ga K c.1) && (decide (PySem.W.findIn K (.ref (He.ga K c.1)) "__init__" = some (some (.ref (He.ma K (He.ga K c.1) "__init__")))) &&
  decide (PySem.W.typeIn K (.ref (He.ma K (He.ga K c.1) "__init__")) = some (.type "function"))))))))))
theorem exc_ok {K : PySem.W.Frag} {h : Heap} {mg : Str → Option Value} {nm f x qual : Str} {params : Arguments} {body : List Stmt} {scope : Scope} {fd : FuncData} (X : K.In h) (G : h.Ns mainGlobals mg) (c : excB K (nm, f) = true)
    (F : FunD K x qual params body scope [] [] (He.ma K (He.ga K nm) "__init__") fd) (S : FnScope ["self", f] ["self", f] scope) (hb : iniB f body = true) (h0 : scope.names.lookup ("self" : Str) = some .local) (h1 : scope.names.lookup f = some .local)
    (hd : (f == ("__debug__" : Str)) = false) (hc : (f == ("__classdict__" : Str)) = false) (b : Binds K fd ["self", f] []) : IsExc K mg nm f := by
  unfold excB at c
  simp only [Bool.and_eq_true, decide_eq_true_eq] at c
  obtain ⟨c1, c2, c3, c4, c5, c6, c7, c8, c9, c10⟩ := c
  exact ⟨_, _, fd, { gC := PySem.W.mg_of X G c1, T := { cls := oexB_ok c2, sa := c3, exC := c4, tyC := c5, kC := c6 }, no := c7, xf := xfB_ok c8, iC := c9, tI := c10, F := exc_init F S hb h0 h1 hd hc, hb := b }⟩
/-- how an exception class meets an except clause's -/
def exmB (K : PySem.W.Frag) (c : Str × Str × Bool) : Bool := decide (PySem.W.nsIn K mainGlobals c.1 = some (some (.ref (He.ga K c.1)))) && (decide (PySem.W.nsIn K mainGlobals c.2.1 = some (some (.ref (He.ga K c.2.1)))) && decide (PySem.W.exmOne K (.ref (He.ga K c.1)) (.ref (He.ga K c.2.1)) = some c.2.2))
def ExM (K : PySem.W.Frag) (mg : Str → Option Value) (x y : Str) (b : Bool) : Prop := ∃ C D, mg x = some (.ref C) ∧ mg y = some (.ref D) ∧ PySem.W.exmOne K (.ref C) (.ref D) = some b
theorem exm_ok {K : PySem.W.Frag} {h : Heap} {mg : Str → Option Value} {x y : Str} {b : Bool} (X : K.In h) (G : h.Ns mainGlobals mg) (c : exmB K (x, y, b) = true) : ExM K mg x y b := by
  unfold exmB at c
  simp only [Bool.and_eq_true, decide_eq_true_eq] at c
  exact ⟨_, _, PySem.W.mg_of X G c.1, PySem.W.mg_of X G c.2.1, c.2.2⟩
/-- a clause that takes one class -/
theorem hdc_one {K : PySem.W.Frag} {mg : Str → Option Value} {cls y : Str} {slot : Option Nat} {no : List Str} {out : Nat} {its : List Hi} (h : ExM K mg y cls true) (hn : ∀ z, z ∈ no → ExM K mg z cls false) (hf : ∀ f, Hi.f f ∈ its → IsExc K mg y f) : HdC K mg ⟨cls, slot, [y], no, out, its⟩ := by
  obtain ⟨C, D, h1, h2, h3⟩ := h
  refine ⟨D, h2, fun z m => ?_, fun z m => ?_, fun f m => ?_⟩
  · have e : z = y := by simpa using m
    subst e
    exact ⟨C, h1, h3⟩
  · obtain ⟨C', D', g1, g2, g3⟩ := hn z m
    rw [h2] at g2
    cases g2
    exact ⟨C', g1, g3⟩
  · obtain ⟨C', fI, fd, T⟩ := hf f m
    exact ⟨y, C', rfl, T.gC, T.xf, T.no⟩
theorem all_nil {α : Type} {P : α → Prop} : ∀ z, z ∈ ([] : List α) → P z := fun _ h => nomatch h
theorem all_cons {α : Type} {P : α → Prop} {x : α} {xs : List α} (h : P x) (t : ∀ z, z ∈ xs → P z) : ∀ z, z ∈ x :: xs → P z := fun z m => by
  rcases List.mem_cons.mp m with e | m
  · rw [e]; exact h
  · exact t z m
/-! ### the head's Hook, with further looks -/
def obsF (n : Nat) (fa : List He.Fa) (fn : List He.DefD) (cs : List (Str × D)) (ck : PySem.W.Frag → Bool) (g : Addr → Option Obj) : AlE :=
  (He.obsD fa fn (He.frG g (He.asD g n)), sysB g && ((cs.all fun c => constB (He.frG g (He.asD g n)) c) && ck (He.frG g (He.asD g n))))
def hookF (n : Nat) (fa : List He.Fa) (fn : List He.DefD) (cs : List (Str × D)) (ck : PySem.W.Frag → Bool) : PySem.W.Hook where
  α := AlE
  obs := fun s => obsF n fa fn cs ck s.heap.get?
  val := fun _ => (He.valD fn, true)
  says := fun _ h => (∃ K : PySem.W.Frag, K.In h ∧ He.SaysD fa fn K ∧ (∀ c, c ∈ cs → constB K c = true) ∧ ck K = true) ∧ ∃ o es n, h.get? sysModules = some o ∧ o.data = .dict es n
  of := fun _ s e => by
    have e1 := congrArg Prod.fst e
    have e2 := congrArg Prod.snd e
    obtain ⟨h1, h2⟩ := Bool.and_eq_true_iff.mp (show (sysB s.heap.get? && ((cs.all fun c => constB (He.frG s.heap.get? (He.asD s.heap.get? n)) c) && ck (He.frG s.heap.get? (He.asD s.heap.get? n)))) = true from e2)
    obtain ⟨h2, h3⟩ := Bool.and_eq_true_iff.mp h2
    exact ⟨⟨_, He.frG_in, e1, fun c hc => List.all_eq_true.mp h2 c hc, h3⟩, sysB_ok h1⟩
  keeps := fun _ _ _ ⟨⟨K, hK, c⟩, o, es, n, h1, h2⟩ k => ⟨⟨K, PySem.W.Frag.In.keeps hK k, c⟩, o, es, n, k _ _ h1, h2⟩
theorem obsF_eq {n : Nat} {fa : List He.Fa} {fn : List He.DefD} {cs : List (Str × D)} {ck : PySem.W.Frag → Bool} {g : Addr → Option Obj} {s : Shared} (h : ∀ a, g a = s.heap.get? a) : obsF n fa fn cs ck g = (hookF n fa fn cs ck).obs s := by
  have e : g = s.heap.get? := funext h
  rw [e]
  rfl
/-- the looks at exception classes -/
def ckX (xs : List (Str × Str)) (ms : List (Str × Str × Bool)) (K : PySem.W.Frag) : Bool := xs.all (excB K) && ms.all (exmB K)
theorem ckX_x {xs : List (Str × Str)} {ms : List (Str × Str × Bool)} {K : PySem.W.Frag} (h : ckX xs ms K = true) {c : Str × Str} (m : c ∈ xs) : excB K c = true := List.all_eq_true.mp (Bool.and_eq_true_iff.mp h).1 c m
theorem ckX_m {xs : List (Str × Str)} {ms : List (Str × Str × Bool)} {K : PySem.W.Frag} (h : ckX xs ms K = true) {c : Str × Str × Bool} (m : c ∈ ms) : exmB K c = true := List.all_eq_true.mp (Bool.and_eq_true_iff.mp h).2 c m
end Ad
namespace Ad
open PySem PySem.Calls PySem.W PySem.SeqAt PySem.Spec PyProof.Rows L2

/-! ### what the head must tell of classes that stand as values -/
def excCB (K : PySem.W.Frag) (D : Addr) : Bool :=
  decide (PySem.W.findIn K (.ref D) "__getattribute__" = some (some (.builtin "BaseException.__getattribute__"))) && (decide (PySem.W.findIn K (.ref D) "__getattr__" = some none) && (decide (PySem.W.subIn K (.ref D) (.type "BaseException") = some true) &&
  (PySem.W.hasDictIn K D && (decide (PySem.W.findIn K (.ref D) "__class__" = some (some (.builtin "object.__class__"))) && (decide (PySem.W.specialIn K (.builtin "object.__class__") "__get__" = some (some (.builtin "getset_descriptor.__get__"))) &&
  (decide (PySem.W.takesIn K (.builtin "object.__class__") = some true) && decide (PySem.W.mroIn K D (.type "object") = some true)))))))
theorem excCB_ok {K : PySem.W.Frag} {D : Addr} (h : excCB K D = true) : ExcC K D := by
  unfold excCB at h
  simp only [Bool.and_eq_true, decide_eq_true_eq] at h
  obtain ⟨h1, h2, h3, h4, h5, h6, h7, h8⟩ := h
  exact ⟨h1, h2, h3, h4, h5, h6, h7, h8⟩
def entB (K : PySem.W.Frag) (C : Addr) : D × D → Bool
  | (.str m, .bool b) => decide (PySem.W.kitOne K (.ref C) (.ref (He.ga K m)) = some b)
  | (.str m, .int i) => (match bootBuiltins m with
    | some (.type T) => decide (PySem.W.kitOne K (.ref C) (.type T) = some (i == 1))
    | _ => false)
  | _ => false
theorem ent_own {K : PySem.W.Frag} {C : Addr} {n : Str} {b : Bool} : ∀ {tbl : List (D × D)}, tbl.all (entB K C) = true → tblAt true tbl n = some b → PySem.W.kitOne K (.ref C) (.ref (He.ga K n)) = some b
  | [], _, h => by cases h
  | (k, d) :: r, ha, h => by
    rw [List.all_cons, Bool.and_eq_true] at ha
    unfold tblAt at h
    split at h
    · rename_i m c r' e
      cases e
      split at h
      · rename_i q
        obtain ⟨_, rfl⟩ := q
        cases h
        exact of_decide_eq_true ha.1
      · exact ent_own ha.2 h
    · rename_i m i r' e
      cases e
      rw [if_neg (by simp)] at h
      exact ent_own ha.2 h
    · cases h
theorem ent_blt {K : PySem.W.Frag} {C : Addr} {n : Str} {b : Bool} : ∀ {tbl : List (D × D)}, tbl.all (entB K C) = true → tblAt false tbl n = some b → ∃ T, bootBuiltins n = some (.type T) ∧ PySem.W.kitOne K (.ref C) (.type T) = some b
  | [], _, h => by cases h
  | (k, d) :: r, ha, h => by
    rw [List.all_cons, Bool.and_eq_true] at ha
    unfold tblAt at h
    split at h
    · rename_i m c r' e
      cases e
      rw [if_neg (by simp)] at h
      exact ent_blt ha.2 h
    · rename_i m i r' e
      cases e
      split at h
      · rename_i q
        obtain ⟨_, rfl⟩ := q
        cases h
        have h1 : (match bootBuiltins m with
          | some (.type T) => decide (PySem.W.kitOne K (.ref C) (.type T) = some (i == 1))
          | _ => false) = true := ha.1
        split at h1
        · exact ⟨_, ‹_›, of_decide_eq_true h1⟩
        · cases h1
      · exact ent_blt ha.2 h
    · cases h
def keyB (K : PySem.W.Frag) (C : Addr) : D → Bool
  | .str f => decide (PySem.W.findIn K (.ref C) f = some none)
  | _ => false
theorem key_find {K : PySem.W.Frag} {C : Addr} {f : Str} : ∀ {ks : List D} {i : Nat}, ks.all (keyB K C) = true → keyAt ks f = some i → PySem.W.findIn K (.ref C) f = some none
  | [], _, _, h => by cases h
  | k :: r, i, ha, h => by
    rw [List.all_cons, Bool.and_eq_true] at ha
    cases k with
    | str g =>
      have h : (if g = f then some 0 else (keyAt r f).map (· + 1)) = some i := h
      by_cases q : g = f
      · rw [← q]
        exact of_decide_eq_true ha.1
      · rw [if_neg q] at h
        cases q2 : keyAt r f with
        | none => rw [q2] at h; cases h
        | some j => exact key_find ha.2 q2
    | _ => cases h
def xokB (K : PySem.W.Frag) (nm : Str) (tbl : List (D × D)) (ks : List D) : Bool := excCB K (He.ga K nm) && (tbl.all (entB K (He.ga K nm)) && ks.all (keyB K (He.ga K nm)))
theorem xokB_ok {K : PySem.W.Frag} {nm : Str} {tbl : List (D × D)} {ks : List D} (h : xokB K nm tbl ks = true) : XOk K nm tbl ks := by
  unfold xokB at h
  simp only [Bool.and_eq_true] at h
  obtain ⟨h1, h2, h3⟩ := h
  exact ⟨excCB_ok h1, fun f i q => key_find h3 q, fun n b q => ent_own h2 q, fun n b q => ent_blt h2 q⟩
/-- a class of exceptions over ValueError (false) or LookupError (true) -/
def oexgB (K : PySem.W.Frag) (t : Bool) (C : Addr) : Bool := (match K.lookup C with
  | some ⟨.type ty, _, .cls cd, sl⟩ => (match cd.mro, sl.toList with
    | .ref C' :: bm, [_, _, _, _, some (.builtin n), _] => decide (ty = "type") && (C' == C && (n == (if t then "LookupError.__new__" else "ValueError.__new__") && (!cd.hasDel && (cd.hasDict && decide (bm.dropWhile isOwnC = if t then leTail else HandSPX.veTail)))))
    | _, _ => false)
  | _ => false) && (decide (PySem.W.findIn K (.ref C) "__setattr__" = some (some (.builtin "object.__setattr__"))) && PySem.W.keepIn K (.ref C))
theorem oexgB_ok {K : PySem.W.Frag} {t : Bool} {C : Addr} (q : oexgB K t C = true) : OexG K C := by
  unfold oexgB at q
  rw [Bool.and_eq_true, Bool.and_eq_true, decide_eq_true_eq] at q
  obtain ⟨q, q2, q3⟩ := q
  refine ⟨?_, q2, q3⟩
  split at q
  · rename_i ty dd cd sl ho
    split at q
    · rename_i C' bm k0 k1 k2 k3 n k5 hm hs
      simp only [Bool.and_eq_true, beq_iff_eq, Bool.not_eq_true', decide_eq_true_eq] at q
      obtain ⟨rfl, rfl, hn, hdel, hdict, ht⟩ := q
      obtain ⟨nm, bs, mro, ns, qn, hd, sn, sub, ab, col, del⟩ := cd
      dsimp only at hm hdel hdict
      subst hm hdel hdict hn
      have hsl : sl = #[k0, k1, k2, k3, some (.builtin (if t = true then "LookupError.__new__" else "ValueError.__new__")), k5] := by
        obtain ⟨l⟩ := sl
        simp only at hs
        rw [hs]
      subst hsl
      cases t with
      | true => exact ⟨_, _, _, _, nm, qn, ns, bs, bm, sn, sub, ab, col, dd, k0, k1, k2, k3, k5, base_LE, ho, ht⟩
      | false => exact ⟨_, _, _, _, nm, qn, ns, bs, bm, sn, sub, ab, col, dd, k0, k1, k2, k3, k5, base_VE, ho, ht⟩
    · cases q
  · cases q
def nmGB (K : PySem.W.Frag) (nm : Str) : Bool := decide (PySem.W.nsIn K mainGlobals nm = some (some (.ref (He.ga K nm))))
/-- a class without an own __init__ -/
def mk0B (K : PySem.W.Frag) (nm : Str) : Bool := PySem.W.keepIn K (.ref (He.ga K nm)) && PySem.W.excIn K (He.ga K nm) HandSPX.veTail "ValueError.__new__"
theorem mk0_ok {K : PySem.W.Frag} {nm : Str} (h : mk0B K nm = true) : MkOk K nm [] := by
  unfold mk0B at h
  rw [Bool.and_eq_true] at h
  exact .inl ⟨rfl, h.1, _, _, _, _, F.excBase_ValueError, h.2⟩
/-- a class with one -/
def mk1B (K : PySem.W.Frag) (t : Bool) (nm : Str) : Bool := oexgB K t (He.ga K nm) && (decide (PySem.W.findIn K (.ref (He.ga K nm)) "__init__" = some (some (.ref (He.ma K (He.ga K nm) "__init__")))) && decide (PySem.W.typeIn K (.ref (He.ma K (He.ga K nm) "__init__")) = some (.type "function")))
section
variable {K : PySem.W.Frag} {x qual nm f g : Str} {params : Arguments} {body : List Stmt} {scope : Scope} {fI : Addr} {fd : FuncData}
theorem keep_1 (F : FunD K x qual params body scope [] [] fI fd) (S : FnScope ["self", f] ["self", f] scope) (hb : iniB f body = true) (h0 : scope.names.lookup ("self" : Str) = some .local) (h1 : scope.names.lookup f = some .local) (hd : (f == ("__debug__" : Str)) = false) (hc : (f == ("__classdict__" : Str)) = false)
    (T : OexG K (He.ga K nm)) (no : PySem.W.findIn K (.ref (He.ga K nm)) f = some none) (P : Program) (w : World) (mg : Str → Option Value) (base : Heap) : FnOk P w K mg base CX0 1 fI fd ["self", f] (spKeep (He.ga K nm) [.str f]) := by
  have hb' : ∃ q1 q2 q3 q4, body = [.Assign [.Attribute (.Name "self" q1) f q2] (.Name f q3) q4] := by
    unfold iniB at hb
    split at hb
    · simp only [Bool.and_eq_true, decide_eq_true_eq] at hb
      obtain ⟨⟨rfl, rfl⟩, rfl⟩ := hb
      exact ⟨_, _, _, _, rfl⟩
    · cases hb
  obtain ⟨q1, q2, q3, q4, rfl⟩ := hb'
  refine F.ok S (fun vs H Q E h => ?_) fun cdv A outer s H vs Q E hr h => ⟨_, pss_one (ps_ogt (pe_var (i := 0) rfl (.inl h0)) (pe_var (i := 1) rfl (.inl h1) hd hc)), ?_⟩
  · obtain ⟨a, ws, rfl, hl, _⟩ := h
    match ws, hl with | [_], _ => rfl
  · obtain ⟨a, ws, rfl, hl, ha, q⟩ := h
    match ws, hl, q with
    | [v], _, q =>
      refine ⟨v, rfl, .ref a, rfl, a, _, rfl, T, no, .inl ⟨ha, fun dx n ne => q dx [(f, v)] _ n ne upd_same (by rw [upd_ne ne, upd_same]) (fun b b1 b2 => by rw [upd_ne b1, upd_ne b2]) fun h i hk => ?_⟩⟩
      rw [lookup_put]
      unfold keyAt at hk
      by_cases e : f = h
      · rw [if_pos e] at hk
        cases hk
        rw [if_pos e.symm]
        rfl
      · rw [if_neg e] at hk
        cases hk
theorem mk1_ok (c : mk1B K false nm = true ∨ mk1B K true nm = true) (no : PySem.W.findIn K (.ref (He.ga K nm)) f = some none) (F : FunD K x qual params body scope [] [] (He.ma K (He.ga K nm) "__init__") fd) (S : FnScope ["self", f] ["self", f] scope) (hb : iniB f body = true) (h0 : scope.names.lookup ("self" : Str) = some .local) (h1 : scope.names.lookup f = some .local) (hd : (f == ("__debug__" : Str)) = false) (hc : (f == ("__classdict__" : Str)) = false)
    (b : Binds K fd ["self", f] []) : MkOk K nm [.str f] := by
  have c' : OexG K (He.ga K nm) ∧ PySem.W.findIn K (.ref (He.ga K nm)) "__init__" = some (some (.ref (He.ma K (He.ga K nm) "__init__"))) ∧ PySem.W.typeIn K (.ref (He.ma K (He.ga K nm) "__init__")) = some (.type "function") := by
    rcases c with c | c <;> (unfold mk1B at c; rw [Bool.and_eq_true, Bool.and_eq_true, decide_eq_true_eq, decide_eq_true_eq] at c; exact ⟨oexgB_ok c.1, c.2⟩)
  exact .inr ⟨fun z => (by cases z), c'.1, _, fd, _, c'.2.1, c'.2.2, b, fun P w mg base => keep_1 F S hb h0 h1 hd hc c'.1 no P w mg base⟩
def ini2B (f g : Str) (body : List Stmt) : Bool := match body with
  | [s, t] => iniB f [s] && iniB g [t]
  | _ => false
theorem ini_of {f : Str} {s : Stmt} (h : iniB f [s] = true) : ∃ q1 q2 q3 q4, s = .Assign [.Attribute (.Name "self" q1) f q2] (.Name f q3) q4 := by
  unfold iniB at h
  split at h
  · rename_i e
    simp only [Bool.and_eq_true, decide_eq_true_eq] at h
    obtain ⟨⟨rfl, rfl⟩, rfl⟩ := h
    cases e
    exact ⟨_, _, _, _, rfl⟩
  · cases h
theorem keep_2 (F : FunD K x qual params body scope [] [] fI fd) (S : FnScope ["self", f, g] ["self", f, g] scope) (hb : ini2B f g body = true) (h0 : scope.names.lookup ("self" : Str) = some .local) (h1 : scope.names.lookup f = some .local) (h2 : scope.names.lookup g = some .local) (hd : (f == ("__debug__" : Str)) = false) (hc : (f == ("__classdict__" : Str)) = false)
    (hd2 : (g == ("__debug__" : Str)) = false) (hc2 : (g == ("__classdict__" : Str)) = false) (ne : f ≠ g)
    (T : OexG K (He.ga K nm)) (no : PySem.W.findIn K (.ref (He.ga K nm)) f = some none) (no2 : PySem.W.findIn K (.ref (He.ga K nm)) g = some none) (P : Program) (w : World) (mg : Str → Option Value) (base : Heap) : FnOk P w K mg base CX0 1 fI fd ["self", f, g] (spKeep (He.ga K nm) [.str f, .str g]) := by
  have hb' : ∃ s t, body = [s, t] ∧ iniB f [s] = true ∧ iniB g [t] = true := by
    unfold ini2B at hb
    split at hb
    · rw [Bool.and_eq_true] at hb
      exact ⟨_, _, rfl, hb⟩
    · cases hb
  obtain ⟨s, t, rfl, b1, b2⟩ := hb'
  obtain ⟨q1, q2, q3, q4, rfl⟩ := ini_of b1
  obtain ⟨r1, r2, r3, r4, rfl⟩ := ini_of b2
  refine F.ok S (fun vs H Q E h => ?_) fun cdv A outer s H vs Q E hr h => ⟨_, pss_cons (ps_ogt (pe_var (i := 0) rfl (.inl h0)) (pe_var (i := 1) rfl (.inl h1) hd hc)) (pss_one (ps_ogt (pe_var (i := 0) rfl (.inl h0)) (pe_var (i := 2) rfl (.inl h2) hd2 hc2))), ?_⟩
  · obtain ⟨a, ws, rfl, hl, _⟩ := h
    match ws, hl with | [_, _], _ => rfl
  · obtain ⟨a, ws, rfl, hl, ha, q⟩ := h
    match ws, hl, q with
    | [v, u], _, q =>
      refine ⟨v, rfl, .ref a, rfl, a, _, rfl, T, no, .inl ⟨ha, fun dx n hne => ?_⟩⟩
      refine ⟨u, rfl, .ref a, rfl, a, _, rfl, T, no2, .inr ⟨dx, [(f, v)], upd_same, by rw [upd_ne hne, upd_same], show 1 ≤ 900 by decide, ?_⟩⟩
      refine q dx [(g, u), (f, v)] _ n hne (by rw [upd_ne (Ne.symm hne), upd_same]) upd_same (fun b b1 b2 => by rw [upd_ne b2, upd_ne b1, upd_ne b2]) fun h i hk => ?_
      rw [lookup_put, lookup_put]
      unfold keyAt at hk
      by_cases e : f = h
      · rw [if_pos e] at hk
        cases hk
        subst e
        rw [if_neg ne, if_pos rfl]
        rfl
      · rw [if_neg e] at hk
        unfold keyAt at hk
        by_cases e2 : g = h
        · rw [if_pos e2] at hk
          cases hk
          rw [if_pos e2.symm]
          rfl
        · rw [if_neg e2] at hk
          cases hk
theorem mk2_ok (c : mk1B K false nm = true ∨ mk1B K true nm = true) (no : PySem.W.findIn K (.ref (He.ga K nm)) f = some none) (no2 : PySem.W.findIn K (.ref (He.ga K nm)) g = some none) (F : FunD K x qual params body scope [] [] (He.ma K (He.ga K nm) "__init__") fd) (S : FnScope ["self", f, g] ["self", f, g] scope) (hb : ini2B f g body = true) (h0 : scope.names.lookup ("self" : Str) = some .local) (h1 : scope.names.lookup f = some .local) (h2 : scope.names.lookup g = some .local)
    (hd : (f == ("__debug__" : Str)) = false) (hc : (f == ("__classdict__" : Str)) = false) (hd2 : (g == ("__debug__" : Str)) = false) (hc2 : (g == ("__classdict__" : Str)) = false) (ne : f ≠ g) (b : Binds K fd ["self", f, g] []) : MkOk K nm [.str f, .str g] := by
  have c' : OexG K (He.ga K nm) ∧ PySem.W.findIn K (.ref (He.ga K nm)) "__init__" = some (some (.ref (He.ma K (He.ga K nm) "__init__"))) ∧ PySem.W.typeIn K (.ref (He.ma K (He.ga K nm) "__init__")) = some (.type "function") := by
    rcases c with c | c <;> (unfold mk1B at c; rw [Bool.and_eq_true, Bool.and_eq_true, decide_eq_true_eq, decide_eq_true_eq] at c; exact ⟨oexgB_ok c.1, c.2⟩)
  exact .inr ⟨fun z => (by cases z), c'.1, _, fd, _, c'.2.1, c'.2.2, b, fun P w mg base => keep_2 F S hb h0 h1 h2 hd hc hd2 hc2 ne c'.1 no no2 P w mg base⟩
end
/-- what is looked at: a class's name, 0: no own __init__, 1: one over ValueError, 2: one over LookupError; its table, its fields -/
def valB (K : PySem.W.Frag) (c : Str × Nat × List (D × D) × List D) : Bool := nmGB K c.1 && (xokB K c.1 c.2.2.1 c.2.2.2 && (if c.2.1 = 0 then mk0B K c.1 else mk1B K (c.2.1 == 2) c.1))
theorem val_ok {K : PySem.W.Frag} {h : Heap} {mg : Str → Option Value} {nm : Str} {n : Nat} {tbl : List (D × D)} {ks : List D} (X : K.In h) (G : h.Ns mainGlobals mg) (c : valB K (nm, n, tbl, ks) = true) (hk : (if n = 0 then mk0B K nm else mk1B K (n == 2) nm) = true → XOk K nm tbl ks → MkOk K nm ks) : ∃ u v, mg nm = some u ∧ RelV v u ∧ Stat K v (clsD nm tbl ks) := by
  unfold valB at c
  simp only [Bool.and_eq_true] at c
  obtain ⟨c1, c2, c3⟩ := c
  have hx := xokB_ok c2
  exact ⟨.ref (He.ga K nm), .ref (He.ga K nm), PySem.W.mg_of X G (of_decide_eq_true c1), rfl, fun W N H => .cls hx (hk c3 hx)⟩
def ckV (xs : List (Str × Nat × List (D × D) × List D)) (K : PySem.W.Frag) : Bool := xs.all (valB K)
theorem ckV_x {xs : List (Str × Nat × List (D × D) × List D)} {K : PySem.W.Frag} (h : ckV xs K = true) {c : Str × Nat × List (D × D) × List D} (m : c ∈ xs) : valB K c = true := List.all_eq_true.mp h c m
end Ad
namespace Ad
open PySem PySem.Calls PySem.W PySem.SeqAt PySem.Spec PyProof.Rows L2

/-! ### the defs of a law, one on another -/
def InL (l : List (Str × (List D → M D))) (nm : Str) (g : List D → M D) : Prop := (nm, g) ∈ l
def InG (l : List (Str × D)) (nm : Str) (d : D) : Prop := (nm, d) ∈ l
/-- a def of the top, as the head tells it -/
def Defd (K : PySem.W.Frag) (mg : Str → Option Value) (nm : Str) (params : Arguments) (body : List Stmt) (scope : Scope) (ps : List Str) : Prop :=
  ∃ (f : Addr) (fd : FuncData), FunD K nm nm params body scope [] [] f fd ∧ mg nm = some (.ref f) ∧ Binds K fd ps []
section
variable {Pr : Program} {w : World} {K : PySem.W.Frag} {mg : Str → Option Value} {base : Heap}
theorem lib_nil {k : Nat} : ∀ nm g, InL [] nm g → CallP Pr w K mg base k nm g := fun _ _ h => nomatch h
theorem lib_cons {j k : Nat} {nm : Str} {g : List D → M D} {l : List (Str × (List D → M D))} (c : CallP Pr w K mg base j nm g) (h : j ≤ k) (t : ∀ nm g, InL l nm g → CallP Pr w K mg base k nm g) : ∀ nm' g', InL ((nm, g) :: l) nm' g' → CallP Pr w K mg base k nm' g' := fun nm' g' q => by
  rcases List.mem_cons.mp q with e | q
  · cases e
    exact c.mono h
  · exact t _ _ q
/-- a def does what its literal says -/
theorem call_of {k : Nat} {nm : Str} {params : Arguments} {body : List Stmt} {scope : Scope} {ps N : List Str} {np n : Nat} {b : Ss} {l : List (Str × (List D → M D))} {cs : List (Str × D)} (d : Defd K mg nm params body scope ps) (T : Top K mg base) (S : FnScope N ps scope) (hn : N.length = n) (hp : ps.length = np)
    (hm : mSs ⟨N, scope.names, scope.names.map (·.1)⟩ b body = true) (hG : ∀ nm d, InG cs nm d → ∃ u v, mg nm = some u ∧ RelV v u ∧ Stat K v d) (hP : ∀ nm g, InL l nm g → CallP Pr w K mg base (k + 2) nm g) (hc : cSs (InL l) (InG cs) K mg b) : CallP Pr w K mg base (k + 3) nm (dFn np n b) := by
  obtain ⟨f, fd, F, hmg, hb⟩ := d
  exact ⟨f, fd, ps, hmg, F.kp, fn_dFn (by omega) F T S hn hp hm hc hP hG, hb⟩
/-- what promises nothing -/
theorem call_fail {k : Nat} {nm : Str} {params : Arguments} {body : List Stmt} {scope : Scope} {ps : List Str} (d : Defd K mg nm params body scope ps) : CallP Pr w K mg base k nm (fun _ => M.fail) := by
  obtain ⟨f, fd, F, hmg, hb⟩ := d
  refine ⟨f, fd, ps, hmg, F.kp, ⟨fun vs H Q E h => ?_, fun A outer s H args us vs Q E _ _ _ _ _ h => ?_⟩, hb⟩
  · obtain ⟨_, _, _, _, _, _, z⟩ := h
    exact z.elim
  · obtain ⟨_, _, _, _, _, _, z⟩ := h
    exact z.elim
theorem call_draw {k : Nat} {params : Arguments} {body : List Stmt} {scope : Scope} {ps N : List Str} {c1 c2 c3 c4 c5 c6 c7 c8 c9 : Int} (d : Defd K mg "_law_draw" params body scope ps) (T : Top K mg base) (S : FnScope N ps scope) (hn : N.length = 9) (hp : ps.length = 2)
    (hm : mSs ⟨N, scope.names, scope.names.map (·.1)⟩ (drawB c1 c2 c3 c4 c5 c6 c7 c8 c9) body = true)
    (h : (Small 4294967296 c1 ∧ Small 1048576 c2 ∧ Small 1048576 c3 ∧ Small 4294967296 c4 ∧ Small 1048576 c5 ∧ Small 1048576 c6 ∧ Small 4294967296 c7 ∧ Small 4294967296 c8 ∧ 0 < c9)) : CallP Pr w K mg base (k + 3) "_law_draw" drawF := by
  have c : CallP Pr w K mg base (k + 3) "_law_draw" (dFn 2 9 (drawB c1 c2 c3 c4 c5 c6 c7 c8 c9)) :=
    call_of (l := []) (cs := []) d T S hn hp hm (fun _ _ z => nomatch z) lib_nil (by simp [drawB, cSs, cS, cE, cEs, e1])
  obtain ⟨h1, h2, h3, h4, h5, h6, h7, h8, h9⟩ := h
  exact c.refine fun ds Q R b z => draw_ref h1 h2 h3 h4 h5 h6 h7 h8 h9 ds Q R b z
theorem call_deck {k l : Nat} {params : Arguments} {body : List Stmt} {scope : Scope} (hb : body = deckBody l) (hs : scope = deckScope) (d : Defd K mg "_law_deck" params body scope ["_law_script"]) (T : Top K mg base) : CallD Pr w K mg base (k + 1) := by
  subst hb hs
  obtain ⟨f, fd, F, hmg, hb⟩ := d
  exact ⟨f, fd, hmg, F.kp, ok_deck F T, hb⟩
theorem law_of {k : Nat} {params : Arguments} {st : Stmt} {body : List Stmt} {scope : Scope} {N : List Str} {n : Nat} {fst : First} {b : Ss} {l : List (Str × (List D → M D))} {cs : List (Str × D)} {f : Addr} {fd : FuncData} (F : FunD K "law" "law" params (st :: body) scope [] [] f fd) (T : Top K mg base) (S : FnScope N ["_law_script"] scope) (hn : N.length = n)
    (hf : mFirst ⟨N, scope.names, scope.names.map (·.1)⟩ fst st = true) (hm : mSs ⟨N, scope.names, scope.names.map (·.1)⟩ b body = true) (hG : ∀ nm d, InG cs nm d → ∃ u v, mg nm = some u ∧ RelV v u ∧ Stat K v d) (hP : ∀ nm g, InL l nm g → CallP Pr w K mg base (k + 2) nm g)
    (hD : CallD Pr w K mg base (k + 2)) (hc : cSs (InL l) (InG cs) K mg b) (hcf : ∀ i j o e, fst = .two i j o e → cE (InL l) (InG cs) e) (hrun : (runLaw n fst b).run (fun r _ => r = .rt (.bool true)) (fun _ _ => False) 4294967296) : FnG Pr w K mg base (k + 3) f fd ["_law_script"] (spLaw K) :=
  ok_law (by omega) F T S hn hf hm hc hcf hP hG hD hrun
end
end Ad
namespace Ad
open PySem PySem.Calls PySem.W PySem.SeqAt PySem.Spec PyProof.Rows L2

/-! ### bodies in which a token is out: str.replace -/
section
variable {X : Cx} {Wx : WX} {pos : Pos}
abbrev PETr (X : Cx) (Wx : WX) (x : Expr) (m : TM D) : Prop := PET X x (tE X.K X.mg Wx m)
abbrev PETb (X : Cx) (Wx : WX) (x : Expr) (m : TM D) : Prop := PET X x (tEB X.K X.mg Wx m)
abbrev PATr (X : Cx) (Wx : WX) (x : List Expr) (m : TM (List D)) : Prop := PAT X x (tA X.K X.mg Wx m)
abbrev PFTr (X : Cx) (Wx : WX) (x : Expr) (m : TM D) : Prop := PET X x (tF X.K X.mg Wx m)
abbrev PSTr (X : Cx) (Wx : WX) (x : Stmt) (m : Ev → M Rz) : Prop := PST X x (tSt X.K X.mg Wx m)
abbrev PSsTr (X : Cx) (Wx : WX) (x : List Stmt) (m : Ev → M Rz) : Prop := PSsT X x (tSt X.K X.mg Wx m)
theorem pet_imp {x : Expr} {t t' : TE} (h : PET X x t) (i : ∀ (σ : L2.St) (H : Hp) (Q : VK), t' σ H Q → t σ H Q) : PET X x t' := fun pins s σ H Q h0 I q => h pins s σ H Q h0 I (i σ H Q q)
theorem pat_imp {x : List Expr} {t t' : TA} (h : PAT X x t) (i : ∀ (σ : L2.St) (H : Hp) (Q : List V → Hp → Prop), t' σ H Q → t σ H Q) : PAT X x t' := fun pos pins s σ H Q h0 I q => h pos pins s σ H Q h0 I (i σ H Q q)
theorem pst_imp {x : Stmt} {t t' : TS} (h : PST X x t) (i : ∀ (D : Ends) (σ : L2.St) (H : Hp), t' D σ H → t D σ H) : PST X x t' := fun pins s σ H D h0 I q => h pins s σ H D h0 I (i D σ H q)
theorem psst_imp {x : List Stmt} {t t' : TS} (h : PSsT X x t) (i : ∀ (D : Ends) (σ : L2.St) (H : Hp), t' D σ H → t D σ H) : PSsT X x t' := fun pins s σ H D h0 I q => h pins s σ H D h0 I (i D σ H q)
/-- x.replace(y, z), x a text -/
theorem s_replT {o : Expr} {eo : E} {y z : Str} {j k : Nat} {c0 c1 apos cpos : Pos} (ho : PEr X Wx o (dE eo)) (hyz : (y == z) = false) (hsup : notSup o = true) (hline : (apos.endLine == cpos.line) = true) :
    PETr X Wx (.Call (.Attribute o "replace" apos) [.Constant (.str y) j c0, .Constant (.str z) k c1] [] cpos) (dE (.mt .replace eo (.cons (.k (.str y)) (.cons (.k (.str z)) .nil)))) :=
  pet_imp (CwR.pet_replC ho hyz rfl (sup_ok hsup _ _ _) hline) fun σ H Q q => by
    obtain ⟨c, ρ, ev, q⟩ := q
    refine ⟨c, ρ, ev, (dE eo ρ).mono (fun d b q v H1 x i rv => ?_) (fun _ _ w => w) q⟩
    have q : (mtD .replace d [.str y, .str z]).run (VQ X.K c.W (Nn c ρ σ) H Q) (XQ X.K X.mg Wx c ρ σ H) b := q
    match d, rv, q with
    | .str a, rv, q =>
      cases rv
      exact ⟨a, rfl, q.1, q.2 _ H1 x i (.str _)⟩
    | .list _, _, q => exact q.elim
    | .none, _, q => exact q.elim
    | .bool _, _, q => exact q.elim
    | .int _, _, q => exact q.elim
    | .tuple _, _, q => exact q.elim
    | .dict _, _, q => exact q.elim
/-- x.replace(..).replace(y, z) -/
theorem s_replTT {o : Expr} {eo : E} {y z : Str} {j k : Nat} {c0 c1 apos cpos : Pos} (ho : PETr X Wx o (dE eo)) (hyz : (y == z) = false) (hsup : notSup o = true) (hline : (apos.endLine == cpos.line) = true) :
    PETr X Wx (.Call (.Attribute o "replace" apos) [.Constant (.str y) j c0, .Constant (.str z) k c1] [] cpos) (dE (.mt .replace eo (.cons (.k (.str y)) (.cons (.k (.str z)) .nil)))) :=
  pet_imp (CwR.pet_replT ho hyz rfl (sup_ok hsup _ _ _) hline) fun σ H Q q => by
    obtain ⟨c, ρ, ev, q⟩ := q
    refine ⟨c, ρ, ev, (dE eo ρ).mono (fun d b q v H1 x i rv => ?_) (fun _ _ w => w) q⟩
    have q : (mtD .replace d [.str y, .str z]).run (VQ X.K c.W (Nn c ρ σ) H Q) (XQ X.K X.mg Wx c ρ σ H) b := q
    match d, rv, q with
    | .str a, rv, q =>
      cases rv
      exact ⟨a, rfl, q.1, q.2 _ H1 x i (.str _)⟩
    | .list _, _, q => exact q.elim
    | .none, _, q => exact q.elim
    | .bool _, _, q => exact q.elim
    | .int _, _, q => exact q.elim
    | .tuple _, _, q => exact q.elim
    | .dict _, _, q => exact q.elim
theorem s_nilT : PATr X Wx [] fun _ => pure [] := pat_imp pat_nil fun σ H Q h => by
  obtain ⟨c, ρ, e, h⟩ := h
  exact h [] H (Ext.refl H) e.inv .nil
theorem s_consT {x : Expr} {xs : List Expr} {a : TM D} {b : TM (List D)} (ha : PETr X Wx x a) (hb : PATr X Wx xs b) (hs : starEach (x :: xs) X.env = (false, eval x X.env) :: starEach xs X.env) : PATr X Wx (x :: xs) fun ρ => a ρ >>= fun d => b ρ >>= fun ds => pure (d :: ds) :=
  pat_imp (pat_cons ha hb hs) fun σ H Q h => by
    obtain ⟨c, ρ, e, h⟩ := h
    refine ⟨c, ρ, e, (a ρ).mono (fun d _ q v H1 x i rv => ?_) (fun _ _ z => z) h⟩
    refine ⟨_, ρ, e.ext' x i, (b ρ).mono (fun d' _ q' v' H2 x2 i2 r2 => ?_) (fun _ _ z => XQ.later x z) q⟩
    exact q' _ H2 (x.trans x2) i2 (.cons (rv.ext (x2.wide e.vc.bv)) r2)
theorem s_lstT {xs : List Expr} {m : TM (List D)} (h : PATr X Wx xs m) (f : Few m) : PETr X Wx (.List xs pos) fun ρ => m ρ >>= fun ds => pure (.list ds) :=
  pet_imp (pet_lst h) fun σ H Q h => by
    obtain ⟨c, ρ, e, h⟩ := h
    refine ⟨c, ρ, e, (m ρ).mono (fun d _ q v H1 x i rv => ?_) (fun _ _ z => z) (f ρ _ _ _ h)⟩
    exact ⟨by rw [rv.length]; exact q.1, (e.ext' x i).vc.vlst rv q.1 fun v H' x' i' r => q.2 v H' (x.trans x') i' r⟩
theorem bT_of {x : Expr} {m : TM D} (h : PETr X Wx x m) : PETb X Wx x m := pet_imp h fun _ _ _ q => tE_of_B q
theorem f_addT {x y : Expr} {a b : TM D} (ha : PEb X Wx x a) (hb : PETb X Wx y b) : PFTr X Wx (.BinOp x .Add y pos) fun ρ => a ρ >>= fun d => b ρ >>= fun e => addD d e :=
  pet_imp (CwR.pet_op op_cat (CwR.PET.of ha) hb) fun σ H Q h => read2F (f := addD) (r := rCat) (fun W N H _ d e v u Q R c r1 r2 h => by
    unfold addD at h
    split at h
    · obtain ⟨e, _⟩ := h; cases e
    · obtain ⟨_, e, _⟩ := h; cases e
    · obtain ⟨_, e, _⟩ := h; cases e
    · obtain ⟨a, vs, rfl, h1, z1, l1⟩ := r1.list
      obtain ⟨b, ws, rfl, h2, z2, l2⟩ := r2.list
      obtain ⟨hz, _, h⟩ := h
      exact ⟨a, b, vs, ws, rfl, rfl, h1, h2, by rw [l1.length, l2.length]; exact hz, fun p hp => h _ rfl rfl (by rw [List.length_append]; exact hz) p _ hp (l1.append l2)⟩
    · exact h.elim) h
theorem s_binT {x y : Expr} {op : Operator} {a b : TM D} (ha : PEb X Wx x a) (hb : PETb X Wx y b) : PETr X Wx (.BinOp x op y pos) fun ρ => a ρ >>= fun d => b ρ >>= fun e => binD op d e :=
  pet_imp (CwR.pet_op (or_bin op) (CwR.PET.of ha) hb) fun σ H Q h => read2 (fun W N H _ d e v u Q R c r1 r2 h => val_bin op c r1 r2 h) h
/-- name = value, a token out -/
theorem pst_set {i : Nat} {x : Str} {e : Expr} {te : TE} {pos' : Pos} (hN : X.N.Nodup) (hi : X.N[i]? = some x) (hx : Loc X.env.scope x) (he : PET X e te) (hs : swapsWith e (some (.Name x pos')) pos.line X.env = pure false) (hf : X.fn x = true ∨ X.env.scope.names.lookup x = some .local) :
    PST X (.Assign [.Name x pos'] e pos) (tAsg te (gName i)) := by
  intro pins s σ H D h0 I h
  refine wpAny_Assign_Name (thn (he pins s σ H _ h0 I h) fun v s1 ⟨y, H1, I1, r1, q1⟩ => ?_) hs
  exact store_ok I1 hN hi hx r1 (fun s2 I2 => ⟨_, H1, I2, q1⟩) hf
theorem st_asgOT {i : Nat} {y : Str} {x : Expr} {m : TM D} {py : Pos} (h : PFTr X Wx x m) (hN : X.N.Nodup) (hi : X.N[i]? = some y) (hx : Loc X.env.scope y) (hs : swapsWith x (some (.Name y py)) pos.line X.env = pure false) (hf : X.fn y = true ∨ X.env.scope.names.lookup y = some .local) :
    PSTr X Wx (.Assign [.Name y py] x pos) fun ρ => m ρ >>= fun d => asList d >>= fun xs => pure (.nx (setO ρ i xs)) := pst_imp (pst_set hN hi hx h hs hf) fun D σ H q => by
  obtain ⟨c, ρ, e, q⟩ := q
  exact ⟨c, ρ, e, (m ρ).mono (fun _ _ z => z) (fun _ _ z => z.q e) (read_asgO e q)⟩
theorem st_setT {i : Nat} {y : Str} {x : Expr} {m : TM D} {py : Pos} (h : PETr X Wx x m) (hN : X.N.Nodup) (hi : X.N[i]? = some y) (hx : Loc X.env.scope y) (hs : swapsWith x (some (.Name y py)) pos.line X.env = pure false) (hf : X.fn y = true ∨ X.env.scope.names.lookup y = some .local) :
    PSTr X Wx (.Assign [.Name y py] x pos) fun ρ => m ρ >>= fun d => pure (.nx (ρ.set i (some (d, false)))) := pst_imp (pst_set hN hi hx h hs hf) fun D σ H q => by
  obtain ⟨c, ρ, e, q⟩ := q
  exact tE_in e q fun d _ q v H' x i r => q _ H' (step_set e x (Bound.one (e.ext' x i) _ r)) ((e.ext' x i).setv _ r)
theorem st_consT {x : Stmt} {xs : List Stmt} {a b : Ev → M Rz} (ha : PSTr X Wx x a) (hb : PSsTr X Wx xs b) : PSsTr X Wx (x :: xs) (mSeq a b) := psst_imp (psst_cons ha hb) fun D σ H h => by
  obtain ⟨c, ρ, e, h⟩ := h
  refine ⟨c, ρ, e, (a ρ).mono (fun r _ q => ?_) (fun _ _ z => z) h⟩
  cases r with
  | nx ρ' => exact fun σ' H' s e' => ⟨_, ρ', e', (b ρ').mono (fun r _ q => q.later s) (fun _ _ z => z) q⟩
  | rt d => exact q
  | bk ρ' => exact q
/-! a statement behind which a token is out -/
def PSk (X : Cx) (st : Stmt) (t : TS) : Prop :=
  ∀ (pins : List (Addr × Obj)) (s : Shared) (σ : L2.St) (H : Hp) (D : Ends), Inv X pins σ H s → t D σ H → wpAny (model X.prog X.w) X.A (exec st X.env) (fun f s1 => 1 ≤ s1.toks ∧ SP X pins D f s1) X.xe s
def PEk (X : Cx) (e : Expr) (t : TE) : Prop :=
  ∀ (pins : List (Addr × Obj)) (s : Shared) (σ : L2.St) (H : Hp) (Q : VK), Inv X pins σ H s → t σ H Q → wpAny (model X.prog X.w) X.A (eval e X.env) (fun v s1 => 1 ≤ s1.toks ∧ EP X pins σ Q v s1) X.xe s
theorem psk_imp {x : Stmt} {t t' : TS} (h : PSk X x t) (i : ∀ (D : Ends) (σ : L2.St) (H : Hp), t' D σ H → t D σ H) : PSk X x t' := fun pins s σ H D I q => h pins s σ H D I (i D σ H q)
theorem pek_imp {x : Expr} {t t' : TE} (h : PEk X x t) (i : ∀ (σ : L2.St) (H : Hp) (Q : VK), t' σ H Q → t σ H Q) : PEk X x t' := fun pins s σ H Q I q => h pins s σ H Q I (i σ H Q q)
theorem pss_k {st : Stmt} {rest : List Stmt} {t u : TS} (h1 : PSk X st t) (h2 : PSsT X rest u) : PSs X (st :: rest) (tSeq t u) := by
  refine ⟨fun pins s σ H D I h => ?_⟩
  refine wpAny_execs_cons (wpAny_mono (h1 pins s σ H { D with nx := u D } I h) (fun f s1 q => ?_) fun _ _ x => x)
  obtain ⟨hk, q⟩ := q
  cases f with
  | next =>
    obtain ⟨σ', H', I', q⟩ := q
    exact h2 pins s1 σ' H' D hk I' q
  | ret v => exact q
  | brk => exact q
  | cont => exact q
theorem psk_set {i : Nat} {x : Str} {e : Expr} {te : TE} {pos' : Pos} (hN : X.N.Nodup) (hi : X.N[i]? = some x) (hx : Loc X.env.scope x) (he : PEk X e te) (hs : swapsWith e (some (.Name x pos')) pos.line X.env = pure false) (hf : X.fn x = true ∨ X.env.scope.names.lookup x = some .local) :
    PSk X (.Assign [.Name x pos'] e pos) (tAsg te (gName i)) := by
  intro pins s σ H D I h
  refine wpAny_Assign_Name (thn (he pins s σ H _ I h) fun v s1 q => ?_) hs
  obtain ⟨hk, y, H1, I1, r1, q1⟩ := q
  refine wpAny_mono (PySem.wpAny_toks (store_ok (Q := fun _ s2 => SP X pins D .next s2) I1 hN hi hx r1 (fun s2 I2 => ⟨_, H1, I2, q1⟩) hf)) (fun _ s2 q => ⟨Nat.le_trans hk q.1, q.2⟩) fun _ _ z => z.2
def tBMk (K : PySem.W.Frag) (T : String) (r : V → List V → Hp → VK → Prop) (to : TE) (z : Str) : TE := fun σ H Q => to σ H fun x H1 => tyV K T x H1 ∧ r x [.str z] H1 Q
theorem pek_bm {o : Expr} {to : TE} {name : Str} {z : Str} {j : Nat} {c0 apos cpos : Pos} {T id : String} {r : V → List V → Hp → VK → Prop} (pa : PlainAttrs T) (slot : Slot T name id) (hty : typeOf (.builtin id) = pure (.type "method_descriptor")) (hm : MtR X id r) (ho : PE X o to)
    (hbase : attributeBase o name X.env (eval o X.env) = eval o X.env) (hline : (apos.endLine == cpos.line) = true) : PEk X (.Call (.Attribute o name apos) [.Constant (.str z) j c0] [] cpos) (tBMk X.K T r to z) := by
  intro pins s σ H Q I h
  refine wpAny_Call_method_late hbase (by rfl) hline rfl (thn (ho.run pins s σ H _ I h) fun v s1 ⟨x, H1, I1, r1, ty, q1⟩ => ?_)
  obtain ⟨h1, h2⟩ := tyV_is I1 r1 ty
  refine ⟨T, id, pa, slot, hty, h1, h2, ?_⟩
  refine Calls.callWith_builtin rfl (Calls.evalArgs_plain ?_)
  show wpAny _ _ (spliced ((false, eval (.Constant (.str z) j c0) X.env) :: backTo cpos (starEach [] X.env))) _ _ s1
  refine Calls.spliced_cons (Calls.Constant_str (Calls.spliced_nil ?_))
  refine wpAny_mono (PySem.wpAny_toks (hm pins { s1 with toks := s1.toks + 1 } σ H1 x [.str z] v [.str z s1.toks] Q (I1.tok _) r1 (.cons ⟨_, rfl⟩ .nil) q1)) (fun u s2 q => ⟨?_, q.2⟩) fun _ _ z => z.2
  have : s1.toks + 1 ≤ s2.toks := q.1
  omega
theorem s_splitK {o : Expr} {eo : E} {z : Str} {j : Nat} {c0 apos cpos : Pos} (ho : PEb X Wx o (dE eo)) (hsup : notSup o = true) (hline : (apos.endLine == cpos.line) = true) :
    PEk X (.Call (.Attribute o "split" apos) [.Constant (.str z) j c0] [] cpos) (tE X.K X.mg Wx (dE (.mt .split eo (.cons (.k (.str z)) .nil)))) :=
  pek_imp (pek_bm PySem.F.plainAttrs_str PySem.F.slot_str_split PySem.F.type_str_split mr_split ho (sup_ok hsup _ _ _) hline) fun σ H Q q => by
    obtain ⟨c, ρ, ev, q⟩ := q
    refine ⟨c, ρ, ev, (dE eo ρ).mono (fun d b q v H1 x i rv => ?_) (fun _ _ w => w) q⟩
    have q : (mtG .split d >>= fun _ => mtD .split d [.str z]).run (VQ X.K c.W (Nn c ρ σ) H Q) (XQ X.K X.mg Wx c ρ σ H) b := q
    match d, rv, q with
    | .str a, rv, q =>
      have e := rv.str
      subst e
      exact ⟨rfl, c.W, Nn c ρ σ, .str a, [.str z], _, _, (ev.ext' x i).vc, .inl (.str a), .cons (.inl (.str z)) .nil, (mtD .split (.str a) [.str z]).mono (fun d _ q v H' x' i' r => q v H' (x.trans x') i' r) (fun _ _ w => w) q⟩
    | .list _, _, q => exact q.elim
    | .none, _, q => exact q.elim
    | .bool _, _, q => exact q.elim
    | .int _, _, q => exact q.elim
    | .tuple _, _, q => exact q.elim
    | .dict _, _, q => exact q.elim
/-- a method of a text that wants a token out, with a text told -/
theorem pet_bm {o : Expr} {to : TE} {name : Str} {z : Str} {j : Nat} {c0 apos cpos : Pos} {T id : String} {r : V → List V → Hp → VK → Prop} (pa : PlainAttrs T) (slot : Slot T name id) (hty : typeOf (.builtin id) = pure (.type "method_descriptor")) (hm : MtR X id r) (ho : PET X o to)
    (hbase : attributeBase o name X.env (eval o X.env) = eval o X.env) (hline : (apos.endLine == cpos.line) = true) : PET X (.Call (.Attribute o name apos) [.Constant (.str z) j c0] [] cpos) (tBMk X.K T r to z) := by
  intro pins s σ H Q h0 I h
  refine wpAny_Call_method_late hbase (by rfl) hline rfl (thn (ho pins s σ H _ h0 I h) fun v s1 ⟨x, H1, I1, r1, ty, q1⟩ => ?_)
  obtain ⟨h1, h2⟩ := tyV_is I1 r1 ty
  refine ⟨T, id, pa, slot, hty, h1, h2, ?_⟩
  refine Calls.callWith_builtin rfl (Calls.evalArgs_plain ?_)
  show wpAny _ _ (spliced ((false, eval (.Constant (.str z) j c0) X.env) :: backTo cpos (starEach [] X.env))) _ _ s1
  refine Calls.spliced_cons (Calls.Constant_str (Calls.spliced_nil ?_))
  exact hm pins { s1 with toks := s1.toks + 1 } σ H1 x [.str z] v [.str z s1.toks] Q (I1.tok _) r1 (.cons ⟨_, rfl⟩ .nil) q1
theorem s_splitT {o : Expr} {eo : E} {z : Str} {j : Nat} {c0 apos cpos : Pos} (ho : PETr X Wx o (dE eo)) (hsup : notSup o = true) (hline : (apos.endLine == cpos.line) = true) :
    PETr X Wx (.Call (.Attribute o "split" apos) [.Constant (.str z) j c0] [] cpos) (dE (.mt .split eo (.cons (.k (.str z)) .nil))) :=
  pet_imp (pet_bm PySem.F.plainAttrs_str PySem.F.slot_str_split PySem.F.type_str_split mr_split ho (sup_ok hsup _ _ _) hline) fun σ H Q q => by
    obtain ⟨c, ρ, ev, q⟩ := q
    refine ⟨c, ρ, ev, (dE eo ρ).mono (fun d b q v H1 x i rv => ?_) (fun _ _ w => w) q⟩
    have q : (mtG .split d >>= fun _ => mtD .split d [.str z]).run (VQ X.K c.W (Nn c ρ σ) H Q) (XQ X.K X.mg Wx c ρ σ H) b := q
    match d, rv, q with
    | .str a, rv, q =>
      cases rv
      exact ⟨rfl, c.W, Nn c ρ σ, .str a, [.str z], _, _, (ev.ext' x i).vc, .inl (.str a), .cons (.inl (.str z)) .nil, (mtD .split (.str a) [.str z]).mono (fun d _ q v H' x' i' r => q v H' (x.trans x') i' r) (fun _ _ w => w) q⟩
    | .list _, _, q => exact q.elim
    | .none, _, q => exact q.elim
    | .bool _, _, q => exact q.elim
    | .int _, _, q => exact q.elim
    | .tuple _, _, q => exact q.elim
    | .dict _, _, q => exact q.elim
theorem st_setK {i : Nat} {y : Str} {x : Expr} {m : TM D} {py : Pos} (h : PEk X x (tE X.K X.mg Wx m)) (hN : X.N.Nodup) (hi : X.N[i]? = some y) (hx : Loc X.env.scope y) (hs : swapsWith x (some (.Name y py)) pos.line X.env = pure false) (hf : X.fn y = true ∨ X.env.scope.names.lookup y = some .local) :
    PSk X (.Assign [.Name y py] x pos) (tSt X.K X.mg Wx fun ρ => m ρ >>= fun d => pure (.nx (ρ.set i (some (d, false))))) := psk_imp (psk_set hN hi hx h hs hf) fun D σ H q => by
  obtain ⟨c, ρ, e, q⟩ := q
  exact tE_in e q fun d _ q v H' x i r => q _ H' (step_set e x (Bound.one (e.ext' x i) _ r)) ((e.ext' x i).setv _ r)
theorem st_consK {x : Stmt} {xs : List Stmt} {a b : Ev → M Rz} (ha : PSk X x (tSt X.K X.mg Wx a)) (hb : PSsTr X Wx xs b) : PSsr X Wx (x :: xs) (mSeq a b) := pss_imp (pss_k ha hb) fun D σ H h => by
  obtain ⟨c, ρ, e, h⟩ := h
  refine ⟨c, ρ, e, (a ρ).mono (fun r _ q => ?_) (fun _ _ z => z) h⟩
  cases r with
  | nx ρ' => exact fun σ' H' s e' => ⟨_, ρ', e', (b ρ').mono (fun r _ q => q.later s) (fun _ _ z => z) q⟩
  | rt d => exact q
  | bk ρ' => exact q
end
/-! the looks -/
def mRep (cc : Cc) : E → Expr → Bool
  | .mt .replace o (.cons (.k (.str y)) (.cons (.k (.str z)) .nil)), x => onMeth x fun w n ap xs p => decide (n = "replace") && mE cc o w && nw o && notSup w && (ap.endLine == p.line) && !(y == z) && (match xs with
    | [.Constant (.str a) _ _, .Constant (.str b) _ _] => decide (a = y) && decide (b = z)
    | _ => false)
  | _, _ => false
def mReps (cc : Cc) : Es → List Expr → Bool
  | .nil, xs => xs.isEmpty
  | .cons e es, x :: xs => mRep cc e x && mReps cc es xs
  | _, _ => false
/-- x.replace(..).replace(..) .. -/
def mChain (cc : Cc) : E → Expr → Bool
  | .mt .replace o (.cons (.k (.str y)) (.cons (.k (.str z)) .nil)), x => onMeth x fun w n ap xs p => decide (n = "replace") && mChain cc o w && notSup w && (ap.endLine == p.line) && !(y == z) && (match xs with
    | [.Constant (.str a) _ _, .Constant (.str b) _ _] => decide (a = y) && decide (b = z)
    | _ => false)
  | e, x => mE cc e x && nw e
/-- statements that want a token out -/
def mST (cc : Cc) : S → Stmt → Bool
  | .asg i (.mt .split o (.cons (.k (.str z)) .nil)), x => onAsg x fun t v => setB cc i t && onMeth v fun w n ap xs p => decide (n = "split") && mChain cc o w && notSup w && (ap.endLine == p.line) && (match xs with
    | [.Constant (.str a) _ _] => decide (a = z)
    | _ => false)
  | .asgO i (.bin .Add a (.lst es)), x => onAsg x fun t v => setB cc i t && onBin v fun o y z => decide (o = .Add) && mE cc a y && onLst z fun xs => mReps cc es xs && decide (lenEs es ≤ 1000)
  | .asg i (.bin .Add a (.lst es)), x => onAsg x fun t v => setB cc i t && onBin v fun o y z => decide (o = .Add) && mE cc a y && onLst z fun xs => mReps cc es xs && decide (lenEs es ≤ 1000)
  | _, _ => false
/-- statements behind which a token is out -/
def mSk (cc : Cc) : S → Stmt → Bool
  | .asg i (.mt .split o (.cons (.k (.str z)) .nil)), x => onAsg x fun t v => setB cc i t && onMeth v fun w n ap xs p => decide (n = "split") && mE cc o w && notSup w && (ap.endLine == p.line) && (match xs with
    | [.Constant (.str a) _ _] => decide (a = z)
    | _ => false)
  | _, _ => false
def mSsT (cc : Cc) : Ss → List Stmt → Bool
  | .nil, xs => xs.isEmpty
  | .cons s ss, x :: xs => (mS cc s x || mST cc s x) && mSsT cc ss xs
  | _, _ => false
def mSsK (cc : Cc) : Ss → List Stmt → Bool
  | .cons s ss, x :: xs => (mS cc s x && mSsK cc ss xs) || (mSk cc s x && mSsT cc ss xs)
  | _, _ => false
section
variable {P : Str → (List D → M D) → Prop} {G : Str → D → Prop} {X : Cx} {Wx : WX} {cc : Cc}
theorem sRep (c : CtxOk P G X Wx cc) {e : E} {x : Expr} (hc : cE P G e) (h : mRep cc e x = true) : PETr X Wx x (dE e) ∧ notStar x = true := by
  unfold mRep at h
  split at h
  · obtain ⟨w, n, ap, xs, p, rfl, hh⟩ := on_meth h
    simp only [Bool.and_eq_true, decide_eq_true_eq, Bool.not_eq_true'] at hh
    obtain ⟨⟨⟨⟨⟨⟨hn, h1⟩, h2⟩, h3⟩, h4⟩, h5⟩, h6⟩ := hh
    subst hn
    split at h6
    · simp only [Bool.and_eq_true, decide_eq_true_eq] at h6
      obtain ⟨ea, eb⟩ := h6
      subst ea eb
      exact ⟨s_replT (((sE _ w X Wx cc c hc.1).1 h1).r h2) h5 h3 h4, rfl⟩
    · cases h6
  · cases h
theorem sChainN (c : CtxOk P G X Wx cc) (m : Nat) : ∀ (e : E) (x : Expr), sizeOf e < m → cE P G e → mChain cc e x = true → PETr X Wx x (dE e) := by
  induction m with
  | zero => intro e x hs; exact absurd hs (Nat.not_lt_zero _)
  | succ m ih =>
    intro e x hs hc h
    unfold mChain at h
    split at h
    · obtain ⟨w, n, ap, xs, p, rfl, hh⟩ := on_meth h
      simp only [Bool.and_eq_true, decide_eq_true_eq, Bool.not_eq_true'] at hh
      obtain ⟨⟨⟨⟨⟨hn, h1⟩, h3⟩, h4⟩, h5⟩, h6⟩ := hh
      subst hn
      split at h6
      · simp only [Bool.and_eq_true, decide_eq_true_eq] at h6
        obtain ⟨ea, eb⟩ := h6
        subst ea eb
        exact s_replTT (ih _ w (by simp only [E.mt.sizeOf_spec] at hs; omega) hc.1 h1) h5 h3 h4
      · cases h6
    · simp only [Bool.and_eq_true] at h
      exact CwR.PET.of (((sE _ x X Wx cc c hc).1 h.1).r h.2)
theorem sChain (c : CtxOk P G X Wx cc) (e : E) (x : Expr) (hc : cE P G e) (h : mChain cc e x = true) : PETr X Wx x (dE e) := sChainN c _ e x (Nat.lt_succ_self _) hc h
theorem sReps (c : CtxOk P G X Wx cc) : ∀ (es : Es) (xs : List Expr), cEs P G es → mReps cc es xs = true → PATr X Wx xs (dEs es)
  | .nil, xs, hc, h => by
    have hx : xs = [] := by simpa [mReps] using h
    subst hx
    exact s_nilT
  | .cons e es, [], hc, h => by simp [mReps] at h
  | .cons e es, x :: xs, hc, h => by
    have h : (mRep cc e x && mReps cc es xs) = true := h
    simp only [Bool.and_eq_true] at h
    obtain ⟨r, ns⟩ := sRep c hc.1 h.1
    exact s_consT r (sReps c es xs hc.2 h.2) (star_ok ns xs X.env)
theorem sST (c : CtxOk P G X Wx cc) {s : S} {x : Stmt} (hc : cS P G X.K X.mg s) (h : mST cc s x = true) : PSTr X Wx x (dS s) := by
  unfold mST at h
  split at h
  · obtain ⟨t, v, p, rfl, hh⟩ := on_asg h
    simp only [Bool.and_eq_true] at hh
    obtain ⟨h1, h2⟩ := hh
    obtain ⟨w, n, ap, xs, p2, rfl, h3⟩ := on_meth h2
    simp only [Bool.and_eq_true, decide_eq_true_eq] at h3
    obtain ⟨⟨⟨⟨hn, h4⟩, h5⟩, h6⟩, h7⟩ := h3
    subst hn
    obtain ⟨y', py, rfl, g1, g2, g3⟩ := c.set h1
    split at h7
    · have ea := of_decide_eq_true h7
      subst ea
      exact st_setT (s_splitT (sChain c _ w hc.1 h4) h5 h6) c.nd g1 g2 (sw_not rfl _ _ _) g3
    · cases h7
  · obtain ⟨t, v, p, rfl, hh⟩ := on_asg h
    simp only [Bool.and_eq_true] at hh
    obtain ⟨h1, h2⟩ := hh
    obtain ⟨o, y, z, p2, rfl, h3⟩ := on_bin h2
    simp only [Bool.and_eq_true, decide_eq_true_eq] at h3
    obtain ⟨⟨ho, h4⟩, h5⟩ := h3
    subst ho
    obtain ⟨xs, p3, rfl, h6⟩ := on_lst h5
    simp only [Bool.and_eq_true, decide_eq_true_eq] at h6
    obtain ⟨y', py, rfl, g1, g2, g3⟩ := c.set h1
    have r := f_addT (pos := p2) ((sE _ y X Wx cc c hc.1).1 h4).b (bT_of (s_lstT (pos := p3) (sReps c _ xs hc.2 h6.1) (few_of h6.2)))
    exact st_asgOT r c.nd g1 g2 (sw_not rfl _ _ _) g3
  · obtain ⟨t, v, p, rfl, hh⟩ := on_asg h
    simp only [Bool.and_eq_true] at hh
    obtain ⟨h1, h2⟩ := hh
    obtain ⟨o, y, z, p2, rfl, h3⟩ := on_bin h2
    simp only [Bool.and_eq_true, decide_eq_true_eq] at h3
    obtain ⟨⟨ho, h4⟩, h5⟩ := h3
    subst ho
    obtain ⟨xs, p3, rfl, h6⟩ := on_lst h5
    simp only [Bool.and_eq_true, decide_eq_true_eq] at h6
    obtain ⟨y', py, rfl, g1, g2, g3⟩ := c.set h1
    have r := s_binT (op := .Add) (pos := p2) ((sE _ y X Wx cc c hc.1).1 h4).b (bT_of (s_lstT (pos := p3) (sReps c _ xs hc.2 h6.1) (few_of h6.2)))
    exact st_setT r c.nd g1 g2 (sw_not rfl _ _ _) g3
  · cases h
theorem sSk (c : CtxOk P G X Wx cc) {s : S} {x : Stmt} (hc : cS P G X.K X.mg s) (h : mSk cc s x = true) : PSk X x (tSt X.K X.mg Wx (dS s)) := by
  unfold mSk at h
  split at h
  · obtain ⟨t, v, p, rfl, hh⟩ := on_asg h
    simp only [Bool.and_eq_true] at hh
    obtain ⟨h1, h2⟩ := hh
    obtain ⟨w, n, ap, xs, p2, rfl, h3⟩ := on_meth h2
    simp only [Bool.and_eq_true, decide_eq_true_eq] at h3
    obtain ⟨⟨⟨⟨hn, h4⟩, h5⟩, h6⟩, h7⟩ := h3
    subst hn
    obtain ⟨y', py, rfl, g1, g2, g3⟩ := c.set h1
    split at h7
    · have ea := of_decide_eq_true h7
      subst ea
      exact st_setK (s_splitK ((sE _ w X Wx cc c hc.1).1 h4).b h5 h6) c.nd g1 g2 (sw_not rfl _ _ _) g3
    · cases h7
  · cases h
theorem sSsT (c : CtxOk P G X Wx cc) (hp : StOk X) : ∀ (ss : Ss) (xs : List Stmt), cSs P G X.K X.mg ss → mSsT cc ss xs = true → PSsTr X Wx xs (dSs ss)
  | .nil, xs, hc, h => by
    have hx : xs = [] := by simpa [mSsT] using h
    subst hx
    exact PSsT.of st_nil
  | .cons s ss, [], hc, h => by simp [mSsT] at h
  | .cons s ss, x :: xs, hc, h => by
    have h : ((mS cc s x || mST cc s x) && mSsT cc ss xs) = true := h
    simp only [Bool.and_eq_true, Bool.or_eq_true] at h
    refine st_consT ?_ (sSsT c hp ss xs hc.2 h.2)
    rcases h.1 with g | g
    · exact PST.of (sS s x X Wx c hp hc.1 g)
    · exact sST c hc.1 g
theorem sSsK (c : CtxOk P G X Wx cc) (hp : StOk X) : ∀ (ss : Ss) (xs : List Stmt), cSs P G X.K X.mg ss → mSsK cc ss xs = true → PSsr X Wx xs (dSs ss)
  | .nil, xs, hc, h => by simp [mSsK] at h
  | .cons s ss, [], hc, h => by simp [mSsK] at h
  | .cons s ss, x :: xs, hc, h => by
    have h : ((mS cc s x && mSsK cc ss xs) || (mSk cc s x && mSsT cc ss xs)) = true := h
    simp only [Bool.and_eq_true, Bool.or_eq_true] at h
    rcases h with g | g
    · exact st_cons (sS s x X Wx c hp hc.1 g.1) (sSsK c hp ss xs hc.2 g.2)
    · exact st_consK (sSk c hc.1 g.1) (sSsT c hp ss xs hc.2 g.2)
end
section
variable {K : PySem.W.Frag} {mg : Str → Option Value} {base : Heap} {Pr : Program} {w : World}
/-- a def with a text replaced in it -/
theorem call_ofK {k : Nat} {nm : Str} {params : Arguments} {body : List Stmt} {scope : Scope} {ps N : List Str} {np n : Nat} {b : Ss} {l : List (Str × (List D → M D))} {cs : List (Str × D)} (d : Defd K mg nm params body scope ps) (T : Top K mg base) (S : FnScope N ps scope) (hn : N.length = n) (hp : ps.length = np)
    (hm : mSsK ⟨N, scope.names, scope.names.map (·.1)⟩ b body = true) (hG : ∀ nm d, InG cs nm d → ∃ u v, mg nm = some u ∧ RelV v u ∧ Stat K v d) (hP : ∀ nm g, InL l nm g → CallP Pr w K mg base (k + 2) nm g) (hc : cSs (InL l) (InG cs) K mg b) : CallP Pr w K mg base (k + 3) nm (dFn np n b) := by
  obtain ⟨f, fd, F, hmg, hb⟩ := d
  exact ⟨f, fd, ps, hmg, F.kp, fn_dFnG (by omega) F T S hn hp (fun X Wx c st hc => sSsK c st b body hc hm) hc hP hG, hb⟩
end
end Ad
namespace Ad
open PySem PySem.Calls PySem.W PySem.SeqAt PySem.Spec PyProof.Rows L2

/-! ### a def with a parameter: when its body begins, a token is out -/
/-- its frame is made; none of its names is a cell -/
theorem enter_tok {M : Model} {A : Around} {E : Value → Shared → Prop} {s : Shared} {scope : Scope} {globals : Addr} {binds : List (Str × Value)} {qual : Str} {func : Option Addr} {code : Value} {builtins : Addr} {Q : Env → Shared → Prop}
    (hk : scope.kind = .function) (hnc : ∀ y, y ∈ scope.names → y.2 ≠ .cell) (hl : ∀ y, y ∈ binds → scope.names.lookup y.1 = some .local) (hne : 1 ≤ binds.length)
    (hQ : ∀ env, env = newEnv scope s.heap.objs.size globals (cellsFrom (s.heap.objs.size + 1) scope.names []) qual func code none builtins → ∀ s' : Shared, 1 ≤ s'.toks →
      InCallC s env.locals (bindL env.kindOf binds fun _ => none) env.cells (bindC env.kindOf binds fun _ => none) s' → Q env s') :
    wpAny M A (newFunctionEnv scope globals [] binds qual func code none builtins) Q E s := by
  have noC : cellsFrom (s.heap.objs.size + 1) scope.names [] = [] := cells_none _ _ _ hnc
  rw [noC] at hQ
  refine wpAny_newFunctionEnv hnc hl (fun h1 ns but => hQ _ rfl _ (Nat.le_trans hne (Nat.le_add_left _ _)) ?_) hk
  have kinds : ∀ y, y ∈ binds → (newEnv scope s.heap.objs.size globals [] qual func code none builtins).kindOf y.1 = some .local := fun y hy => by
    have := hl y hy
    first
      | exact this
      | (unfold Env.kindOf; rw [if_pos hk]; exact this)
      | simpa [Env.kindOf, newEnv, hk] using this
  have kept : ∀ (b : Addr) (o : Obj), s.heap.get? b = some o → h1.get? b = some o := fun b o g => but.extBut b o (fun z => absurd (Heap.lt_size g) (by rw [z]; exact Nat.lt_irrefl _)) (Heap.get?_push_of_some _ g)
  have tab : bindL (newEnv scope s.heap.objs.size globals [] qual func code none builtins).kindOf binds (fun _ => none) = fun x => binds.reverse.lookup x := funext fun y => (bindL_loc binds _ kinds y).trans (by cases binds.reverse.lookup y <;> rfl)
  rw [tab]
  exact ⟨⟨⟨_, _, rfl⟩, ns, kept, Nat.le_refl _⟩, (fun _ _ z => nomatch z), .nil, fun _ _ z => nomatch z⟩
section
variable {Pr : Program} {w : World} {K : PySem.W.Frag} {mg : Str → Option Value} {base : Heap}
theorem fn_tokG {k : Nat} {f : Addr} {name qual : Str} {params : Arguments} {body : List Stmt} {scope : Scope} {dV kV doc pm cdv ct oc : Value} {an od : Option Addr}
    {osl : Array (Option Value)} {N ps : List Str} {sp : Sp} (lk : K.lookup f = some ⟨oc, od, .func (PySem.W.fnOf name qual params body scope dV kV doc pm an cdv ct), osl⟩) (hcd : PySem.W.codeIn K cdv qual = true) (S : FnScope N ps scope)
    (hnc : ∀ y, y ∈ scope.names → y.2 ≠ .cell) (hps : 1 ≤ ps.length) (len : ∀ vs H Q E, sp vs H Q E → vs.length = ps.length)
    (hbody : ∀ (A : Around) (outer : List Env) (s : Shared) (H : Hp) (vs : List V) (Q : VK) (E : XK), Room k (A.deeper (envOfC qual scope s.heap.objs.size f cdv)) → A.guards = some [] → Mod K mg base → sp vs H Q E →
      ∃ t, PSsT (cxOf (CX Pr w) Pr w K mg base N qual scope f cdv A outer s H E) body t ∧ t { nx := fun _ H' => Q .non H', rt := Q } (start N vs) H) :
    FnG Pr w K mg base (k + 1) f (PySem.W.fnOf name qual params body scope dV kV doc pm an cdv ct) ps sp := by
  refine ⟨len, fun A outer s H args us vs Q E room gd en bd rv prom => ?_⟩
  have n1 := len _ _ _ _ prom
  have at0 : K.In s.heap := en.mod.kin.keeps fun b o q => (en.bs b o q).1
  have free : s.heap.NoLimit := en.mod.nolimit.keeps fun b o q => (en.bs b o q).1
  have loc : ∀ y, y ∈ ps.zip us → scope.names.lookup y.1 = some .local := fun y hy => by
    obtain ⟨x, v⟩ := y
    rcases S.par x (List.of_mem_zip hy).1 with q | q
    · exact q
    · exact absurd rfl (hnc _ (PySem.mem_of_lookup q))
  have many : 1 ≤ (ps.zip us).length := by rw [List.length_zip, ← rv.length, n1, Nat.min_self]; exact hps
  refine codeAny_call_function room.depth (at0 _ _ lk) rfl S.co S.gen rfl (PySem.W.codeRec_of at0 hcd) (bd _ _ _ _ (enter_tok S.kind hnc loc many fun env ee s1 h1 x => ?_))
  subst ee
  refine ⟨free.keeps x.toInCall.keep, codeAny_func ?_⟩
  obtain ⟨t, run, fit⟩ := hbody A outer s H vs Q E (room.deeper _) gd en.mod prom
  have J : L2.Inv (cxOf (CX Pr w) Pr w K mg base N qual scope f cdv A outer s H E) [] (start N vs) H s1 := inv_start S room.hd en n1 rv x
  refine wpAny_mono (run [] s1 (start N vs) H _ h1 J fit) (fun fl s2 e2 => ?_) fun _ _ z => z
  cases fl with
  | ret u =>
    obtain ⟨v, _, H2, J2, r2, q⟩ := e2
    exact ⟨v, H2, J2.os, J2.bare, J2.base, J2.hok, r2, q⟩
  | next =>
    obtain ⟨_, H2, J2, q⟩ := e2
    exact ⟨V.non, H2, J2.os, J2.bare, J2.base, J2.hok, rfl, q⟩
  | brk => obtain ⟨_, _, _, q⟩ := e2; exact q.elim
  | cont => obtain ⟨_, _, _, q⟩ := e2; exact q.elim
/-- a def keeps its promise; a token is out when it begins -/
theorem fn_dFnT {k : Nat} (h2 : 2 ≤ k) {f : Addr} {x qual : Str} {params : Arguments} {body : List Stmt} {scope : Scope} {fd : FuncData} {N ps : List Str} {np n : Nat} {b : Ss} (F : FunD K x qual params body scope [] [] f fd) (T : Top K mg base) (S : FnScope N ps scope) (hn : N.length = n) (hp : ps.length = np) (hnc : scope.names.all (fun y => !(y.2 == .cell)) = true) (h1 : 1 ≤ np)
    (hm : ∀ {P : Str → (List D → M D) → Prop} {G : Str → D → Prop} (X : Cx) (Wx : WX), CtxOk P G X Wx ⟨N, scope.names, scope.names.map (·.1)⟩ → StOk X → cSs P G X.K X.mg b → PSsTr X Wx body (dSs b)) {P : Str → (List D → M D) → Prop} {G : Str → D → Prop} (hc : cSs P G K mg b) (hP : ∀ nm g, P nm g → CallP Pr w K mg base k nm g) (hG : ∀ nm d, G nm d → ∃ u v, mg nm = some u ∧ RelV v u ∧ Stat K v d) :
    FnG Pr w K mg base (k + 1) f fd ps (spOf K mg (dFn np n b)) := by
  obtain ⟨oc, od, dV, kV, doc, pm, an, cdv, ct, osl, rfl, lk, hcd, _, _⟩ := F.ex
  refine fn_tokG lk hcd S (fun y hy z => ?_) (by rw [hp]; exact h1) (fun vs H Q E h => ?_) fun A outer s H vs Q E hr hg hM hsp => ⟨_, hm _ _ (ctx_fn h2 T S hr hg hP hG) ⟨passes_of rfl, rfl, rfl⟩ hc, start_fit hn hsp⟩
  · have := List.all_eq_true.mp hnc y hy
    rw [z] at this
    cases this
  · obtain ⟨W, B, ds, t, vc, l, h⟩ := h
    rw [l.length, dFn_len h, hp]
/-- a def with texts replaced in it, anywhere -/
theorem call_ofT {k : Nat} {nm : Str} {params : Arguments} {body : List Stmt} {scope : Scope} {ps N : List Str} {np n : Nat} {b : Ss} {l : List (Str × (List D → M D))} {cs : List (Str × D)} (d : Defd K mg nm params body scope ps) (T : Top K mg base) (S : FnScope N ps scope) (hn : N.length = n) (hp : ps.length = np) (hnc : scope.names.all (fun y => !(y.2 == .cell)) = true) (h1 : 1 ≤ np)
    (hm : mSsT ⟨N, scope.names, scope.names.map (·.1)⟩ b body = true) (hG : ∀ nm d, InG cs nm d → ∃ u v, mg nm = some u ∧ RelV v u ∧ Stat K v d) (hP : ∀ nm g, InL l nm g → CallP Pr w K mg base (k + 2) nm g) (hc : cSs (InL l) (InG cs) K mg b) : CallP Pr w K mg base (k + 3) nm (dFn np n b) := by
  obtain ⟨f, fd, F, hmg, hb⟩ := d
  exact ⟨f, fd, ps, hmg, F.kp, fn_dFnT (by omega) F T S hn hp hnc h1 (fun X Wx c st hc => sSsT c st b body hc hm) hc hP hG, hb⟩
end
end Ad
namespace Ad
open PySem

/-! ### runs, by rules -/
/-- a for: I i holds ahead of the i-th turn -/
theorem forE_run {f : D → Ev → M Rz} {xs : List D} {I : Nat → Ev → Nat → Prop} {Q : Rz → Nat → Prop} {R : XV → Nat → Prop} {b : Nat} {ρ : Ev} (h0 : I 0 ρ b)
    (hs : ∀ i x, xs[i]? = some x → ∀ ρ b, I i ρ b → (f x ρ).run (fun r b' => match r with | .nx ρ' => I (i + 1) ρ' b' | .rt d => Q (.rt d) b' | .bk ρ' => Q (.nx ρ') b') R b)
    (hq : ∀ ρ b, I xs.length ρ b → Q (.nx ρ) b) : (forE f xs ρ).run Q R b := by
  have aux : ∀ (k i : Nat) (ρ : Ev) (b : Nat), i + k = xs.length → I i ρ b → (forE f (xs.drop i) ρ).run Q R b := by
    intro k
    induction k with
    | zero =>
      intro i ρ b e h
      rw [List.drop_eq_nil_of_le (by omega)]
      have e : i = xs.length := by omega
      subst e
      exact hq ρ b h
    | succ k ih =>
      intro i ρ b e h
      have hi : i < xs.length := by omega
      rw [List.drop_eq_getElem_cons hi]
      refine (f xs[i] ρ).mono (fun r b' q => ?_) (fun _ _ z => z) (hs i xs[i] (List.getElem?_eq_getElem hi) ρ b h)
      cases r with
      | nx ρ' => exact ih (i + 1) ρ' b' (by omega) q
      | rt d => exact q
      | bk ρ' => exact q
  have := aux xs.length 0 ρ b (by omega) h0
  rwa [List.drop_zero] at this
/-- a while: I n holds with n turns left -/
theorem whE_run {c : Ev → M Bool} {f : Ev → M Rz} {I : Nat → Ev → Nat → Prop} {Q : Rz → Nat → Prop} {R : XV → Nat → Prop} {b n : Nat} {ρ : Ev} (h0 : I n ρ b)
    (hs : ∀ n ρ b, I n ρ b → (c ρ).run (fun t b' => if t then ∃ m, n = m + 1 ∧ (f ρ).run (fun r b'' => match r with | .nx ρ' => I m ρ' b'' | .rt d => Q (.rt d) b'' | .bk ρ' => Q (.nx ρ') b'') R b' else Q (.nx ρ) b') R b) : (whE c f ρ).run Q R b := by
  have aux : ∀ (n : Nat) (ρ : Ev) (b : Nat), I n ρ b → (whN c f (n + 1) ρ).run Q R b := by
    intro n
    induction n with
    | zero =>
      intro ρ b h
      refine (c ρ).mono (fun t b' q => ?_) (fun _ _ z => z) (hs 0 ρ b h)
      cases t with
      | true =>
        obtain ⟨m, e, _⟩ := (if_pos rfl).mp q
        omega
      | false => exact q
    | succ n ih =>
      intro ρ b h
      refine (c ρ).mono (fun t b' q => ?_) (fun _ _ z => z) (hs (n + 1) ρ b h)
      cases t with
      | true =>
        obtain ⟨m, e, q⟩ : ∃ m, n + 1 = m + 1 ∧ _ := q
        have e : n = m := by omega
        subst e
        refine (f ρ).mono (fun r b'' q => ?_) (fun _ _ z => z) q
        cases r with
        | nx ρ' => exact ih ρ' b'' q
        | rt d => exact q
        | bk ρ' => exact q
      | false => exact q
  exact ⟨n + 1, aux n ρ b h0⟩
end Ad
namespace Ad
open PySem

/-! ### how long a value's text is -/
mutual
def sz : D → Nat
  | .none => 4
  | .bool _ => 5
  | .int i => i.natAbs.log2 + 2
  | .str x => 10 * x.length + 2
  | .list xs => szAll xs + 4
  | .tuple xs => szAll xs + 4
  | .dict _ => 2
def szAll : List D → Nat
  | [] => 0
  | x :: xs => sz x + 2 + szAll xs
end
mutual
/-- of what the laws' values are made: short ints, texts of plain signs, the empty dict, nothing else -/
def fine : D → Bool
  | .none => true
  | .bool _ => true
  | .int i => decide (i.natAbs.log2 < 1000)
  | .str x => x.cps.toList.all fun c => decide (c < 128)
  | .list xs => fineAll xs
  | .tuple xs => fineAll xs
  | .dict [] => true
  | .dict _ => false
def fineAll : List D → Bool
  | [] => true
  | x :: xs => fine x && fineAll xs
end
mutual
theorem fine_okD : ∀ d : D, fine d = true → okD d = true ∧ d.showable = true
  | .none, _ => ⟨rfl, rfl⟩
  | .bool _, _ => ⟨rfl, rfl⟩
  | .int i, h => ⟨rfl, decide_eq_true (Nat.lt_trans (of_decide_eq_true h) (by decide))⟩
  | .str _, _ => ⟨rfl, rfl⟩
  | .list xs, h => fine_okAll xs h
  | .tuple xs, h => fine_okAll xs h
  | .dict [], _ => ⟨rfl, rfl⟩
  | .dict (_ :: _), h => nomatch h
theorem fine_okAll : ∀ ds : List D, fineAll ds = true → okAll ds = true ∧ PyData.showableAll ds = true
  | [], _ => ⟨rfl, rfl⟩
  | d :: ds, h => by
    obtain ⟨h1, h2⟩ := Bool.and_eq_true_iff.mp (show (fine d && fineAll ds) = true from h)
    obtain ⟨a1, a2⟩ := fine_okD d h1
    obtain ⟨b1, b2⟩ := fine_okAll ds h2
    exact ⟨Bool.and_eq_true_iff.mpr ⟨a1, b1⟩, Bool.and_eq_true_iff.mpr ⟨a2, b2⟩⟩
end
theorem join_len : ∀ ts : List Str, (Str.join ", " ts).length ≤ (ts.map fun t => t.length + 2).sum
  | [] => Nat.le_refl _
  | t :: ts => by
    have h := join_length_add (t :: ts) (by simp)
    have e : ∀ us : List Str, piled us = (us.map fun t => t.length + 2).sum := fun us => by
      induction us with
      | nil => rfl
      | cons u us ih => simp only [piled, List.map_cons, List.sum_cons] at *
    rw [e] at h
    omega
theorem from_len : ∀ (ts : List Str) (k : Nat) (acc : Str), (textFrom k acc ts).length ≤ acc.length + (ts.map fun t => t.length + 2).sum
  | [], k, acc => by
    show acc.length ≤ _
    simp
  | t :: r, k, acc => by
    have ih := from_len r (k + 1) (acc ++ (if k > 0 then ", " else "" : String) ++ t)
    have e : (acc ++ (if k > 0 then ", " else "" : String) ++ t).length ≤ acc.length + 2 + t.length := by
      rw [strLen_append, strLen_append]
      split
      · exact Nat.le_refl _
      · show acc.length + 0 + t.length ≤ _
        omega
    rw [List.map_cons, List.sum_cons]
    have z : textFrom k acc (t :: r) = textFrom (k + 1) (acc ++ (if k > 0 then ", " else "" : String) ++ t) r := rfl
    rw [z]
    omega
mutual
theorem shown_le : ∀ d : D, fine d = true → d.shown.length ≤ sz d
  | .none, _ => by decide
  | .bool true, _ => by decide
  | .bool false, _ => by decide
  | .int i, h => by
    have := int_text_length_le (a := i) (k := i.natAbs.log2 + 1) (by omega) (by omega)
    show (Str.ofString (toString i)).length ≤ i.natAbs.log2 + 2
    rw [ofString_length]
    exact this
  | .str x, h => StrLaws.reprText_len x fun c hc => Nat.lt_trans (of_decide_eq_true (List.all_eq_true.mp h c hc)) (by decide)
  | .list xs, h => by
    have q := shownAll_le xs h
    have z := from_len (PyData.shownAll xs) 0 "["
    show (textFrom 0 "[" (PyData.shownAll xs) ++ ("]" : Str)).length ≤ _
    rw [strLen_append]
    have e1 : (("[" : String) : Str).length = 1 := rfl
    have e2 : (("]" : String) : Str).length = 1 := rfl
    show _ ≤ szAll xs + 4
    omega
  | .tuple xs, h => by
    have q := shownAll_le xs h
    have z := join_len (PyData.shownAll xs)
    show (("(" : Str) ++ Str.join ", " (PyData.shownAll xs) ++ (if (PyData.shownAll xs).length == 1 then ",)" else ")" : String)).length ≤ _
    rw [strLen_append, strLen_append]
    have e1 : (("(" : String) : Str).length = 1 := rfl
    have e2 : (((if (PyData.shownAll xs).length == 1 then ",)" else ")" : String)) : Str).length ≤ 2 := by split <;> decide
    show _ ≤ szAll xs + 4
    omega
  | .dict [], _ => by decide
  | .dict (_ :: _), h => nomatch h
theorem shownAll_le : ∀ ds : List D, fineAll ds = true → ((PyData.shownAll ds).map fun t => t.length + 2).sum ≤ szAll ds
  | [], _ => Nat.le_refl _
  | d :: ds, h => by
    obtain ⟨h1, h2⟩ := Bool.and_eq_true_iff.mp (show (fine d && fineAll ds) = true from h)
    have a := shown_le d h1
    have b := shownAll_le ds h2
    have e : ((PyData.shownAll (d :: ds)).map fun t => t.length + 2).sum = ((PyData.shown d).length + 2) + ((PyData.shownAll ds).map fun t => t.length + 2).sum := by
      rw [show PyData.shownAll (d :: ds) = PyData.shown d :: PyData.shownAll ds from rfl, List.map_cons, List.sum_cons]
    have e2 : szAll (d :: ds) = sz d + 2 + szAll ds := rfl
    omega
end
theorem repr_eq {d : D} (h : fine d = true) (hd : d.depth ≤ 40) (hs : sz d ≤ 16777216) : biD .repr [d] = pure (.str d.shown) := by
  obtain ⟨h1, h2⟩ := fine_okD d h
  exact M.grd_bind ⟨h1, h2, hd, Nat.le_trans (shown_le d h) (by rw [sizeLine_eq]; exact hs)⟩ _
end Ad
namespace Ad
open PySem

/-! ### evaluation -/
theorem lcE_filter {α : Type} {f : D → M (Option D)} {enc : α → D} {keep : α → Bool} {val : α → D} : ∀ {xs : List α}, (∀ x, x ∈ xs → f (enc x) = pure (if keep x then some (val x) else none)) → lcE f (xs.map enc) = pure ((xs.filter keep).map val)
  | [], _ => rfl
  | x :: xs, h => by
    rw [List.map_cons]
    unfold lcE
    rw [h x List.mem_cons_self, lcE_filter fun y hy => h y (List.mem_cons_of_mem _ hy)]
    rw [List.filter_cons]
    cases keep x <;> rfl
/-- a comprehension, over what stands for the xs -/
theorem lc_eq {α : Type} {own : List Nat} {tg : Tg} {it tst elt : E} {ρ : Ev} (xs : List α) (enc : α → D) (keep : α → Bool) (val : α → D) (hit : (dE it ρ >>= walked) = pure (xs.map enc)) (hn : noOwn ρ own = true) (hf : xs.length ≤ 16777216)
    (h : ∀ x, x ∈ xs → ∃ ρ1, bindT (wipeE ρ own) tg (enc x) = pure ρ1 ∧ dE tst ρ1 = pure (.bool (keep x)) ∧ (keep x = true → dE elt ρ1 = pure (val x))) :
    dE (.lc own tg it tst elt) ρ = pure (.list ((xs.filter keep).map val)) := by
  have e : dE (.lc own tg it tst elt) ρ = (dE it ρ >>= walked) >>= fun xs => (do
    M.grd (noOwn ρ own = true ∧ fitsD xs)
    let ys ← M.quiet (lcE (fun d => do
      let ρ1 ← bindT (wipeE ρ own) tg d
      let t ← dE tst ρ1
      let b ← asBool t
      if b then (do let y ← dE elt ρ1; pure (some y)) else pure none) xs)
    pure (.list ys)) := rfl
  rw [e, hit, M.pb, M.grd_bind ⟨hn, by unfold fitsD; rw [List.length_map, sizeLine_eq]; exact hf⟩]
  rw [lcE_filter (keep := keep) (val := val) fun x hx => by
    obtain ⟨ρ1, h1, h2, h3⟩ := h x hx
    rw [h1, M.pb, h2, M.pb]
    cases hk : keep x with
    | true =>
      show (dE elt ρ1 >>= fun y => (pure (some y) : M (Option D))) = pure (some (val x))
      rw [h3 hk]
      rfl
    | false => rfl]
  rfl
theorem eq_int (i j : Int) : eqD (.int i) (.int j) = pure (decide (i = j)) := by
  unfold eqD
  rw [M.grd_bind (.inl ⟨⟨rfl, Nat.zero_le _⟩, ⟨rfl, Nat.zero_le _⟩⟩)]
  congr 1
theorem eq_str (i j : Str) : eqD (.str i) (.str j) = pure (i == j) := by
  unfold eqD
  rw [M.grd_bind (.inl ⟨⟨rfl, Nat.zero_le _⟩, ⟨rfl, Nat.zero_le _⟩⟩)]
  congr 1
/-! webs -/
def iD (n : Nat) : D := .int n
def pairD (p : Nat × Nat) : D := .tuple [.int p.1, .int p.2]
def webD (n : Nat) (a : List (Nat × Nat)) : D := .tuple [.int n, .tuple (a.map pairD)]
theorem rangeD_nat (n : Nat) : rangeD 0 n = (List.range n).map iD := by
  unfold rangeD
  simp only [Int.sub_zero, Int.toNat_natCast]
  exact List.map_congr_left fun i _ => by rw [Int.zero_add]; rfl
end Ad
namespace Ad
open PySem
theorem range_eq {e : E} {ρ : Ev} {n : Nat} (h : dE e ρ = pure (.int n)) (hn : n ≤ 16777216) : (dE (.bi .range1 (.cons e .nil)) ρ >>= walked) = pure ((List.range n).map iD) := by
  have e1 : (dE (.bi .range1 (.cons e .nil)) ρ >>= walked) = (dE e ρ >>= fun x => (do
    let j ← asInt x
    M.grd (j ≤ 2 ^ 24 ∧ -(2 ^ 62) ≤ j)
    pure (.list (rangeD 0 j))) >>= walked) := rfl
  rw [e1, h, M.pb]
  show (M.grd ((n : Int) ≤ 2 ^ 24 ∧ -(2 ^ 62) ≤ (n : Int)) >>= fun _ => pure (.list (rangeD 0 n))) >>= walked = _
  rw [M.grd_bind ⟨by omega, by omega⟩, rangeD_nat]
  rfl
theorem bind_pair {ρ : Ev} {i j : Nat} {x y : D} : bindT ρ (.t [i, j]) (.tuple [x, y]) = pure ((ρ.set i (some (x, false))).set j (some (y, false))) := M.grd_bind (show ([x, y] : List D).length = [i, j].length from rfl) _
theorem filter_all {α : Type} (l : List α) : (l.filter fun _ => true) = l := List.filter_eq_self.mpr fun _ _ => rfl
/-- a def that is one return -/
theorem dFn_ret {np n : Nat} {e : E} {ds : List D} {m : M D} (hl : ds.length = np) (h : dE e (ds.map (fun d => some (d, false)) ++ List.replicate (n - ds.length) none) = m) : dFn np n (.cons (.ret e) .nil) ds = m := by
  rw [← h]
  exact (M.grd_bind hl _).trans (M.ext rfl)
/-! lists of small numbers -/
theorem ints_plain : ∀ ns : List Nat, PyData.plainAll (ns.map iD) = true ∧ PyData.depthAll (ns.map iD) = 0
  | [] => ⟨rfl, rfl⟩
  | n :: ns => by
    obtain ⟨h1, h2⟩ := ints_plain ns
    refine ⟨?_, ?_⟩
    · show (PyData.plain (iD n) && PyData.plainAll (ns.map iD)) = true
      rw [h1]
      rfl
    · show max (PyData.depth (iD n)) (PyData.depthAll (ns.map iD)) = 0
      rw [h2]
      rfl
theorem eqOk_ints (ns : List Nat) : eqOk (.list (ns.map iD)) := ⟨(ints_plain ns).1, by
  show PyData.depthAll (ns.map iD) + 1 ≤ 64
  rw [(ints_plain ns).2]
  omega⟩
theorem eqOk_int (i : Int) : eqOk (.int i) := ⟨rfl, Nat.zero_le _⟩
theorem any_ints (k : Nat) (ns : List Nat) : ((ns.map iD).any fun z => PyData.eqv z (iD k)) = decide (k ∈ ns) := by
  induction ns with
  | nil => rfl
  | cons n ns ih =>
    rw [List.map_cons, List.any_cons, ih]
    have e : PyData.eqv (iD n) (iD k) = decide (k = n) := by
      show ((n : Int) == (k : Int)) = _
      by_cases h : k = n
      · subst h
        simp
      · have : ¬ ((n : Int) = (k : Int)) := by omega
        simp [h, this]
    rw [e]
    simp [List.mem_cons]
theorem in_ints (k : Nat) (ns : List Nat) : inD (iD k) (.list (ns.map iD)) = pure (decide (k ∈ ns)) := by
  show (M.grd _ >>= fun _ => _) = _
  rw [M.grd_bind (.inl ⟨eqOk_int k, eqOk_ints ns⟩), any_ints]
theorem eq_nil (ns : List Nat) : eqD (.list (ns.map iD)) (.list []) = pure ns.isEmpty := by
  show (M.grd _ >>= fun _ => _) = _
  rw [M.grd_bind (.inl ⟨eqOk_ints ns, eqOk_ints []⟩)]
  cases ns <;> rfl
theorem look_some {ρ : Ev} {i : Nat} {d : D} (h : ρ[i]? = some (some (d, false))) : look ρ i = pure d := by
  unfold look
  rw [h]
theorem lookB_some {ρ : Ev} {i : Nat} {d : D} {o : Bool} (h : ρ[i]? = some (some (d, o))) : lookB ρ i = pure d := by
  unfold lookB
  rw [h]
/-- a for that folds: Inv holds of what is folded so far -/
theorem forE_fold {α β : Type} {f : D → Ev → M Rz} {enc : α → D} {st : β → α → β} {Inv : β → Ev → Prop} {Q : Rz → Nat → Prop} {R : XV → Nat → Prop} {b : Nat} : ∀ {xs : List α} {z : β} {ρ : Ev}, Inv z ρ →
    (∀ x, x ∈ xs → ∀ z ρ, Inv z ρ → ∃ ρ', f (enc x) ρ = pure (.nx ρ') ∧ Inv (st z x) ρ') → (∀ ρ, Inv (xs.foldl st z) ρ → Q (.nx ρ) b) → (forE f (xs.map enc) ρ).run Q R b
  | [], z, ρ, h0, _, hq => hq ρ h0
  | x :: xs, z, ρ, h0, hs, hq => by
    obtain ⟨ρ', e, h1⟩ := hs x List.mem_cons_self z ρ h0
    show ((f (enc x) ρ) >>= Rz.go (forE f (xs.map enc))).run Q R b
    rw [e]
    exact forE_fold (z := st z x) h1 (fun y hy => hs y (List.mem_cons_of_mem _ hy)) hq
theorem fre_set {ρ : Ev} {vs : List Nat} (h : ∀ j, j ∈ vs → ∀ d, ρ[j]? ≠ some (some (d, true))) (i : Nat) (x : D) : ∀ j, j ∈ vs → ∀ d, (ρ.set i (some (x, false)))[j]? ≠ some (some (d, true)) := fun j hj d z => by
  rw [List.getElem?_set] at z
  split at z
  · split at z
    · cases z
    · cases z
  · exact h j hj d z
theorem seq_one {s : S} {ρ ρ' : Ev} (h : dS s ρ = pure (.nx ρ')) : dSs (.cons s .nil) ρ = pure (.nx ρ') := by
  show dS s ρ >>= _ = _
  rw [h]
  rfl
theorem noOwn_one {ρ : Ev} {v : Nat} (h : ∀ d, ρ[v]? ≠ some (some (d, true))) : noOwn ρ [v] = true := by
  unfold noOwn
  rw [List.all_cons, List.all_nil, Bool.and_true]
  split
  · rename_i d q
    exact absurd q (h d)
  · rfl
theorem run_cons {s : S} {ss : Ss} {ρ ρ' : Ev} {Q : Rz → Nat → Prop} {R : XV → Nat → Prop} {b : Nat} (h : dS s ρ = pure (.nx ρ')) (hq : (dSs ss ρ').run Q R b) : (dSs (.cons s ss) ρ).run Q R b := by
  show (dS s ρ >>= _).run Q R b
  rw [h]
  exact hq
theorem run_cons' {s : S} {ss : Ss} {ρ : Ev} {Q : Rz → Nat → Prop} {R : XV → Nat → Prop} {b : Nat} (h : (dS s ρ).run (fun r b => (Rz.sq (fun ρ => dSs ss ρ) r).run Q R b) R b) : (dSs (.cons s ss) ρ).run Q R b := h
theorem asg_eq {i : Nat} {e : E} {ρ : Ev} {d : D} (h : dE e ρ = pure d) : dS (.asg i e) ρ = pure (.nx (ρ.set i (some (d, false)))) := by
  show dE e ρ >>= _ = _
  rw [h]
  rfl
/-- m does at least what v is -/
def M.ge {α : Type} (m : M α) (v : α) : Prop := ∀ (Q : α → Nat → Prop) (R : XV → Nat → Prop) (b : Nat), Q v b → m.run Q R b
theorem M.ge_pure {α : Type} {v : α} : M.ge (pure v) v := fun _ _ _ h => h
theorem M.ge_of {α : Type} {m : M α} {v : α} (h : m = pure v) : m.ge v := by subst h; exact M.ge_pure
theorem M.ge_bind {α β : Type} {m : M α} {v : α} {f : α → M β} {w : β} (h : m.ge v) (g : (f v).ge w) : (m >>= f).ge w := fun Q R b q => h _ _ _ (g Q R b q)
/-- a def by its run -/
theorem dFn_ge {np n : Nat} {body : Ss} {ds : List D} {v : D} (hl : ds.length = np) (h : ∀ (Q : Rz → Nat → Prop) (R : XV → Nat → Prop) (b : Nat), Q (.rt v) b → (dSs body (ds.map (fun d => some (d, false)) ++ List.replicate (n - ds.length) none)).run Q R b) : (dFn np n body ds).ge v := fun Q R b q => ⟨hl, h _ R b q⟩
theorem lc_ge {α : Type} {own : List Nat} {tg : Tg} {it tst elt : E} {ρ : Ev} (xs : List α) (enc : α → D) (keep : α → Bool) (val : α → D) (hit : (dE it ρ >>= walked).ge (xs.map enc)) (hn : noOwn ρ own = true) (hf : xs.length ≤ 16777216)
    (h : ∀ x, x ∈ xs → ∃ ρ1, bindT (wipeE ρ own) tg (enc x) = pure ρ1 ∧ dE tst ρ1 = pure (.bool (keep x)) ∧ (keep x = true → dE elt ρ1 = pure (val x))) :
    (dE (.lc own tg it tst elt) ρ).ge (.list ((xs.filter keep).map val)) := by
  have e : dE (.lc own tg it tst elt) ρ = (dE it ρ >>= walked) >>= fun xs => (do
    M.grd (noOwn ρ own = true ∧ fitsD xs)
    let ys ← M.quiet (lcE (fun d => do
      let ρ1 ← bindT (wipeE ρ own) tg d
      let t ← dE tst ρ1
      let b ← asBool t
      if b then (do let y ← dE elt ρ1; pure (some y)) else pure none) xs)
    pure (.list ys)) := rfl
  rw [e]
  refine M.ge_bind hit (M.ge_of ?_)
  rw [M.grd_bind ⟨hn, by unfold fitsD; rw [List.length_map, sizeLine_eq]; exact hf⟩]
  rw [lcE_filter (keep := keep) (val := val) fun x hx => by
    obtain ⟨ρ1, h1, h2, h3⟩ := h x hx
    rw [h1, M.pb, h2, M.pb]
    cases hk : keep x with
    | true =>
      show (dE elt ρ1 >>= fun y => (pure (some y) : M (Option D))) = pure (some (val x))
      rw [h3 hk]
      rfl
    | false => rfl]
  rfl
theorem range_replicate (n : Nat) (x : D) : (List.range n).map (fun _ => x) = List.replicate n x := by
  rw [List.map_const', List.length_range]
/-! ### what an expression comes to -/
theorem ge_v {ρ : Ev} {i : Nat} {d : D} (h : ρ[i]? = some (some (d, false))) : (dE (.v i) ρ).ge d := M.ge_of (look_some h)
theorem ge_nil {ρ : Ev} : (dEs .nil ρ).ge [] := M.ge_pure
theorem ge_cons {ρ : Ev} {e : E} {es : Es} {d : D} {ds : List D} (h : (dE e ρ).ge d) (g : (dEs es ρ).ge ds) : (dEs (.cons e es) ρ).ge (d :: ds) := M.ge_bind h (M.ge_bind g M.ge_pure)
theorem ge_call {ρ : Ev} {nm : Str} {f : List D → M D} {es : Es} {ds : List D} {d : D} (h : (dEs es ρ).ge ds) (g : (f ds).ge d) : (dE (.call nm f es) ρ).ge d := M.ge_bind h g
theorem ge_bi {ρ : Ev} {b : Bi} {es : Es} {ds : List D} {d : D} (h : (dEs es ρ).ge ds) (g : biD b ds = pure d) : (dE (.bi b es) ρ).ge d := M.ge_bind h (M.ge_of g)
theorem ge_lst {ρ : Ev} {es : Es} {ds : List D} (h : (dEs es ρ).ge ds) : (dE (.lst es) ρ).ge (.list ds) := M.ge_bind h M.ge_pure
theorem ge_tup {ρ : Ev} {es : Es} {ds : List D} (h : (dEs es ρ).ge ds) : (dE (.tup es) ρ).ge (.tuple ds) := M.ge_bind h M.ge_pure
theorem ge_bin {ρ : Ev} {op : Operator} {a b : E} {x y z : D} (h : (dE a ρ).ge x) (g : (dE b ρ).ge y) (k : binD op x y = pure z) : (dE (.bin op a b) ρ).ge z := M.ge_bind h (M.ge_bind g (M.ge_of k))
theorem ge_cmp {ρ : Ev} {op : CmpOp} {a b : E} {x y : D} {r : Bool} (h : (dE a ρ).ge x) (g : (dE b ρ).ge y) (k : cmpD op x y = pure r) : (dE (.cmp op a b) ρ).ge (.bool r) := M.ge_bind h (M.ge_bind g (M.ge_bind (M.ge_of k) M.ge_pure))
theorem run_asg {i : Nat} {e : E} {ss : Ss} {ρ : Ev} {d : D} {Q : Rz → Nat → Prop} {R : XV → Nat → Prop} {b : Nat} (h : (dE e ρ).ge d) (hq : (dSs ss (ρ.set i (some (d, false)))).run Q R b) : (dSs (.cons (.asg i e) ss) ρ).run Q R b := h _ R b hq
theorem run_ite {c : E} {x y ss : Ss} {ρ : Ev} {t : Bool} {Q : Rz → Nat → Prop} {R : XV → Nat → Prop} {b : Nat} (h : (dE c ρ).ge (.bool t)) (hq : (dSs (if t then x else y) ρ).run (fun r b => (Rz.sq (fun ρ => dSs ss ρ) r).run Q R b) R b) : (dSs (.cons (.ite c x y) ss) ρ).run Q R b := h _ R b (by
  show ((if t then dSs x ρ else dSs y ρ) >>= _).run Q R b
  cases t with
  | true => exact hq
  | false => exact hq)
theorem run_ret {e : E} {ss : Ss} {ρ : Ev} {d : D} {Q : Rz → Nat → Prop} {R : XV → Nat → Prop} {b : Nat} (h : (dE e ρ).ge d) (hq : Q (.rt d) b) : (dSs (.cons (.ret e) ss) ρ).run Q R b := h _ R b hq

/-! ### texts of values -/
theorem depthAll_le {k : Nat} : ∀ {xs : List D}, (∀ x, x ∈ xs → x.depth ≤ k) → PyData.depthAll xs ≤ k
  | [], _ => Nat.zero_le _
  | x :: xs, h => by
    show max (PyData.depth x) (PyData.depthAll xs) ≤ k
    have := h x List.mem_cons_self
    have := depthAll_le fun y hy => h y (List.mem_cons_of_mem _ hy)
    omega
theorem fineAll_of : ∀ {xs : List D}, (∀ x, x ∈ xs → fine x = true) → fineAll xs = true
  | [], _ => rfl
  | x :: xs, h => by
    show (fine x && fineAll xs) = true
    rw [h x List.mem_cons_self, fineAll_of fun y hy => h y (List.mem_cons_of_mem _ hy)]
    rfl
theorem szAll_le {k : Nat} : ∀ {xs : List D}, (∀ x, x ∈ xs → sz x ≤ k) → szAll xs ≤ xs.length * (k + 2)
  | [], _ => Nat.zero_le _
  | x :: xs, h => by
    show sz x + 2 + szAll xs ≤ (xs.length + 1) * (k + 2)
    have := h x List.mem_cons_self
    have := szAll_le fun y hy => h y (List.mem_cons_of_mem _ hy)
    rw [Nat.succ_mul]
    omega
/-- what can be shown: so deep, so long -/
structure Shw (d : D) (k n : Nat) : Prop where
  fine : fine d = true
  dep : d.depth ≤ k
  len : sz d ≤ n
theorem Shw.repr {d : D} {k n : Nat} (h : Shw d k n) (hk : k ≤ 40) (hn : n ≤ 16777216) : biD .repr [d] = pure (.str d.shown) := repr_eq h.fine (Nat.le_trans h.dep hk) (Nat.le_trans h.len hn)
theorem Shw.list {xs : List D} {k n m : Nat} (h : ∀ x, x ∈ xs → Shw x k n) (hl : xs.length ≤ m) : Shw (.list xs) (k + 1) (m * (n + 2) + 4) := ⟨fineAll_of fun x hx => (h x hx).fine, Nat.succ_le_succ (depthAll_le fun x hx => (h x hx).dep), Nat.add_le_add_right (Nat.le_trans (szAll_le fun x hx => (h x hx).len) (Nat.mul_le_mul_right _ hl)) 4⟩
theorem Shw.tuple {xs : List D} {k n m : Nat} (h : ∀ x, x ∈ xs → Shw x k n) (hl : xs.length ≤ m) : Shw (.tuple xs) (k + 1) (m * (n + 2) + 4) := ⟨fineAll_of fun x hx => (h x hx).fine, Nat.succ_le_succ (depthAll_le fun x hx => (h x hx).dep), Nat.add_le_add_right (Nat.le_trans (szAll_le fun x hx => (h x hx).len) (Nat.mul_le_mul_right _ hl)) 4⟩
theorem Shw.nat {n : Nat} (h : n ≤ 1000) : Shw (.int n) 0 12 := by
  have h1 : n.log2 < 10 := by
    by_cases z : n = 0
    · subst z
      decide
    · exact (Nat.log2_lt z).mpr (by omega)
  refine ⟨decide_eq_true ?_, Nat.le_refl _, ?_⟩
  · show (n : Int).natAbs.log2 < 1000
    rw [Int.natAbs_natCast]
    omega
  · show (n : Int).natAbs.log2 + 2 ≤ 12
    rw [Int.natAbs_natCast]
    omega
theorem Shw.bool (b : Bool) : Shw (.bool b) 0 12 := ⟨rfl, Nat.le_refl _, show 5 ≤ 12 by decide⟩
theorem Shw.mono {d : D} {k n k' n' : Nat} (h : Shw d k n) (hk : k ≤ k') (hn : n ≤ n') : Shw d k' n' := ⟨h.fine, Nat.le_trans h.dep hk, Nat.le_trans h.len hn⟩
theorem ne_str (s : Str) : cmpD .NotEq (.str s) (.str s) = pure false := by
  show (eqD (.str s) (.str s) >>= fun r => (pure (!r) : M Bool)) = _
  rw [eq_str, M.pb]
  simp
theorem is_str (s : Str) : cmpD .Eq (.str s) (.str s) = pure true := by
  show eqD (.str s) (.str s) = _
  rw [eq_str]
  simp
/-! ### what is drawn -/
theorem draw_run {n b : Nat} {Q : D → Nat → Prop} {R : XV → Nat → Prop} (h0 : 0 < n) (h1 : n < 1073741824) (hb : 0 < b) (h : ∀ k, k < n → Q (.int (k : Nat)) (b - 1)) : (drawF [deckD, .int n]).run Q R b := by
  refine ⟨⟨rfl, by omega, by omega⟩, hb, fun k hk => ?_⟩
  rw [Int.toNat_natCast] at hk
  exact h k hk
theorem ix_list {xs : List D} {k : Nat} {x : D} (h : xs[k]? = some x) : ixD (.list xs) (.int (k : Nat)) = pure x := by
  show oget (L2.atI xs k) = _
  rw [L2.atI_nat h]
  rfl
theorem ix_tuple {xs : List D} {k : Nat} {x : D} (h : xs[k]? = some x) : ixD (.tuple xs) (.int (k : Nat)) = pure x := by
  show oget (L2.atI xs k) = _
  rw [L2.atI_nat h]
  rfl

theorem run_asgO {i : Nat} {e : E} {ss : Ss} {ρ : Ev} {xs : List D} {Q : Rz → Nat → Prop} {R : XV → Nat → Prop} {b : Nat} (h : (dE e ρ).ge (.list xs)) (hq : (dSs ss (setO ρ i xs)).run Q R b) : (dSs (.cons (.asgO i e) ss) ρ).run Q R b := h _ R b hq
/-- a for: I i holds ahead of the i-th turn -/
theorem run_for {tg : Tg} {it : E} {body ss : Ss} {ρ : Ev} {xs : List D} {I : Nat → Ev → Nat → Prop} {Q : Rz → Nat → Prop} {R : XV → Nat → Prop} {b : Nat} (h : (dE it ρ >>= walked).ge xs) (h0 : I 0 ρ b)
    (hs : ∀ i x, xs[i]? = some x → ∀ ρ b, I i ρ b → (bindT ρ tg x >>= fun ρ1 => dSs body ρ1).run (fun r b' => match r with | .nx ρ' => I (i + 1) ρ' b' | .rt d => Q (.rt d) b' | .bk ρ' => (dSs ss ρ').run Q R b') R b)
    (hq : ∀ ρ b, I xs.length ρ b → (dSs ss ρ).run Q R b) : (dSs (.cons (.for tg it body) ss) ρ).run Q R b :=
  h _ R b (forE_run (f := fun d ρ => bindT ρ tg d >>= fun ρ1 => dSs body ρ1) (Q := fun r b => (Rz.sq (fun ρ => dSs ss ρ) r).run Q R b) h0 hs hq)
/-- a for over the first numbers -/
theorem run_forN {v n : Nat} {it : E} {body ss : Ss} {ρ : Ev} {I : Nat → Ev → Nat → Prop} {Q : Rz → Nat → Prop} {R : XV → Nat → Prop} {b : Nat} (h : (dE it ρ >>= walked).ge ((List.range n).map iD)) (h0 : I 0 ρ b)
    (hs : ∀ i, i < n → ∀ ρ b, I i ρ b → (dSs body (ρ.set v (some (iD i, false)))).run (fun r b' => match r with | .nx ρ' => I (i + 1) ρ' b' | .rt d => Q (.rt d) b' | .bk ρ' => (dSs ss ρ').run Q R b') R b)
    (hq : ∀ ρ b, I n ρ b → (dSs ss ρ).run Q R b) : (dSs (.cons (.for (.n v) it body) ss) ρ).run Q R b := by
  refine run_for (I := I) h h0 (fun i x hx ρ b hI => ?_) fun ρ b hI => ?_
  · rw [List.getElem?_map] at hx
    obtain ⟨k, hk, rfl⟩ := Option.map_eq_some_iff.mp hx
    obtain ⟨hk1, hk⟩ := List.getElem?_eq_some_iff.mp hk
    rw [List.getElem_range] at hk
    subst hk
    rw [List.length_range] at hk1
    exact hs i hk1 ρ b hI
  · rw [List.length_map, List.length_range] at hI
    exact hq ρ b hI
theorem range_ge {e : E} {ρ : Ev} {n : Nat} (h : (dE e ρ).ge (.int n)) (hn : n ≤ 16777216) : (dE (.bi .range1 (.cons e .nil)) ρ >>= walked).ge ((List.range n).map iD) := by
  have e1 : (dE (.bi .range1 (.cons e .nil)) ρ >>= walked) = (dE e ρ >>= fun x => (do
    let j ← asInt x
    M.grd (j ≤ 2 ^ 24 ∧ -(2 ^ 62) ≤ j)
    pure (.list (rangeD 0 j))) >>= walked) := rfl
  rw [e1]
  refine M.ge_bind h (M.ge_of ?_)
  show (M.grd ((n : Int) ≤ 2 ^ 24 ∧ -(2 ^ 62) ≤ (n : Int)) >>= fun _ => pure (.list (rangeD 0 n))) >>= walked = _
  rw [M.grd_bind ⟨by omega, by omega⟩, rangeD_nat]
  rfl
end Ad
namespace Ad
open PySem

/-! ### what an expression comes to, further -/
theorem ge_k {ρ : Ev} {d : D} : (dE (.k d) ρ).ge d := M.ge_pure
theorem ge_g {ρ : Ev} {nm : Str} {d : D} : (dE (.g nm d) ρ).ge d := M.ge_pure
theorem ge_w {ρ : Ev} {i : Nat} {d : D} {o : Bool} (h : ρ[i]? = some (some (d, o))) : (dE (.w i) ρ).ge d := M.ge_of (lookB_some h)
theorem ge_not {ρ : Ev} {a : E} {x y : Bool} (h : (dE a ρ).ge (.bool x)) (e : (!x) = y) : (dE (.not a) ρ).ge (.bool y) := by
  subst e
  exact M.ge_bind h M.ge_pure
theorem ge_neg {ρ : Ev} {a : E} {i : Int} (h : (dE a ρ).ge (.int i)) : (dE (.neg a) ρ).ge (.int (-i)) := M.ge_bind h M.ge_pure
theorem ge_and {ρ : Ev} {a b : E} {x y : Bool} (h : (dE a ρ).ge (.bool x)) (g : x = true → (dE b ρ).ge (.bool y)) : (dE (.and a b) ρ).ge (.bool (x && y)) := M.ge_bind h (by
  cases x with
  | true =>
    show (dE b ρ >>= fun y => asBool y >>= fun d => (pure (.bool d) : M D)).ge _
    exact M.ge_bind (g rfl) M.ge_pure
  | false => exact M.ge_pure)
theorem ge_or {ρ : Ev} {a b : E} {x y : Bool} (h : (dE a ρ).ge (.bool x)) (g : x = false → (dE b ρ).ge (.bool y)) : (dE (.or a b) ρ).ge (.bool (x || y)) := M.ge_bind h (by
  cases x with
  | true => exact M.ge_pure
  | false =>
    show (dE b ρ >>= fun y => asBool y >>= fun d => (pure (.bool d) : M D)).ge _
    exact M.ge_bind (g rfl) M.ge_pure)
theorem ge_cmp2 {ρ : Ev} {p q : CmpOp} {a b c : E} {x y z : D} {r t : Bool} (h : (dE a ρ).ge x) (g : (dE b ρ).ge y) (k : cmpD p x y = pure r) (h2 : r = true → (dE c ρ).ge z ∧ cmpD q y z = pure t) : (dE (.cmp2 p q a b c) ρ).ge (.bool (r && t)) := M.ge_bind h (M.ge_bind g (M.ge_bind (M.ge_of k) (by
  cases r with
  | true =>
    obtain ⟨l, m⟩ := h2 rfl
    exact M.ge_bind l (M.ge_bind (M.ge_of m) M.ge_pure)
  | false => exact M.ge_pure)))
theorem ge_ife {ρ : Ev} {c a b : E} {t : Bool} {d : D} (h : (dE c ρ).ge (.bool t)) (g : (dE (if t then a else b) ρ).ge d) : (dE (.ife c a b) ρ).ge d := M.ge_bind h (by
  cases t with
  | true => exact g
  | false => exact g)
theorem ge_ix {ρ : Ev} {a i : E} {x y z : D} (h : (dE a ρ).ge x) (g : (dE i ρ).ge y) (k : ixD x y = pure z) : (dE (.ix a i) ρ).ge z := M.ge_bind h (M.ge_bind g (M.ge_of k))
theorem ge_slF {ρ : Ev} {a i : E} {x z : D} {j : Int} (h : (dE a ρ).ge x) (g : (dE i ρ).ge (.int j)) (k : slP x none (some j) = pure z) : (dE (.sl false a i) ρ).ge z := M.ge_bind h (M.ge_bind g (M.ge_of k))
theorem ge_slT {ρ : Ev} {a i : E} {x z : D} {j : Int} (h : (dE a ρ).ge x) (g : (dE i ρ).ge (.int j)) (k : slP x (some j) none = pure z) : (dE (.sl true a i) ρ).ge z := M.ge_bind h (M.ge_bind g (M.ge_of k))
theorem ge_rev {ρ : Ev} {a : E} {x z : D} (h : (dE a ρ).ge x) (k : revD x = pure z) : (dE (.rev a) ρ).ge z := M.ge_bind h (M.ge_of k)
theorem ge_len {ρ : Ev} {e : E} {d : D} {n : Nat} (h : (dE e ρ).ge d) (k : lenD d = pure (n : Int)) : (dE (.bi .len (.cons e .nil)) ρ).ge (.int n) := ge_bi (ge_cons h ge_nil) (by
  show (lenD d >>= fun n => (pure (.int n) : M D)) = _
  rw [k]
  rfl)
theorem ge_isTuple {ρ : Ev} {e : E} {d : D} {t : Bool} (h : (dE e ρ).ge d) (k : okD d = true) (q : d.isTuple = t) : (dE (.bi .isTuple (.cons e .nil)) ρ).ge (.bool t) := by
  subst q
  exact ge_bi (ge_cons h ge_nil) (M.grd_bind k _)
theorem ge_isInt {ρ : Ev} {e : E} {d : D} {t : Bool} (h : (dE e ρ).ge d) (k : okD d = true) (q : d.isInt = t) : (dE (.bi .isInt (.cons e .nil)) ρ).ge (.bool t) := by
  subst q
  exact ge_bi (ge_cons h ge_nil) (M.grd_bind k _)
theorem ge_isBool {ρ : Ev} {e : E} {d : D} {t : Bool} (h : (dE e ρ).ge d) (k : okD d = true) (q : d.isBool = t) : (dE (.bi .isBool (.cons e .nil)) ρ).ge (.bool t) := by
  subst q
  exact ge_bi (ge_cons h ge_nil) (M.grd_bind k _)
theorem run_ifF {c : E} {x ss : Ss} {ρ : Ev} {Q : Rz → Nat → Prop} {R : XV → Nat → Prop} {b : Nat} (h : (dE c ρ).ge (.bool false)) (hq : (dSs ss ρ).run Q R b) : (dSs (.cons (.ite c x .nil) ss) ρ).run Q R b := run_ite h hq
theorem run_ifR {c e : E} {y ss : Ss} {ρ : Ev} {d : D} {Q : Rz → Nat → Prop} {R : XV → Nat → Prop} {b : Nat} (h : (dE c ρ).ge (.bool true)) (g : (dE e ρ).ge d) (hq : Q (.rt d) b) : (dSs (.cons (.ite c (.cons (.ret e) .nil) y) ss) ρ).run Q R b := run_ite h (run_ret g hq)
theorem cmp_int_le (i j : Int) : cmpD .LtE (.int i) (.int j) = pure (decide (i ≤ j)) := rfl
theorem cmp_int_lt (i j : Int) : cmpD .Lt (.int i) (.int j) = pure (decide (i < j)) := rfl
theorem cmp_int_eq (i j : Int) : cmpD .Eq (.int i) (.int j) = pure (decide (i = j)) := eq_int i j
theorem cmp_int_ne (i j : Int) : cmpD .NotEq (.int i) (.int j) = pure (!decide (i = j)) := by
  show (eqD (.int i) (.int j) >>= fun r => (pure (!r) : M Bool)) = _
  rw [eq_int]
  rfl
theorem int_sub (i j : Int) : binD .Sub (.int i) (.int j) = pure (.int (i - j)) := M.grd_bind trivial _
theorem int_add (i j : Int) : binD .Add (.int i) (.int j) = pure (.int (i + j)) := rfl
/-- lists of ints, as they stand in code -/
theorem M.ge_quiet {α : Type} {m : M α} {v : α} (h : m.ge v) : (M.quiet m).ge v := fun Q R b q => h Q _ b q
theorem lcE_ge {α : Type} {f : D → M (Option D)} {enc : α → D} {keep : α → Bool} {val : α → D} : ∀ {xs : List α}, (∀ x, x ∈ xs → (f (enc x)).ge (if keep x then some (val x) else none)) → (lcE f (xs.map enc)).ge ((xs.filter keep).map val)
  | [], _ => M.ge_pure
  | x :: xs, h => by
    rw [List.map_cons, List.filter_cons]
    unfold lcE
    refine M.ge_bind (h x List.mem_cons_self) (M.ge_bind (lcE_ge fun y hy => h y (List.mem_cons_of_mem _ hy)) ?_)
    cases keep x <;> exact M.ge_pure
/-- a comprehension -/
theorem lc_get {α : Type} {own : List Nat} {tg : Tg} {it tst elt : E} {ρ : Ev} (xs : List α) (enc : α → D) (keep : α → Bool) (val : α → D) (hit : (dE it ρ >>= walked).ge (xs.map enc)) (hn : noOwn ρ own = true) (hf : xs.length ≤ 16777216)
    (h : ∀ x, x ∈ xs → ∃ ρ1, bindT (wipeE ρ own) tg (enc x) = pure ρ1 ∧ (dE tst ρ1).ge (.bool (keep x)) ∧ (keep x = true → (dE elt ρ1).ge (val x))) :
    (dE (.lc own tg it tst elt) ρ).ge (.list ((xs.filter keep).map val)) := by
  have e : dE (.lc own tg it tst elt) ρ = (dE it ρ >>= walked) >>= fun xs => (do
    M.grd (noOwn ρ own = true ∧ fitsD xs)
    let ys ← M.quiet (lcE (fun d => do
      let ρ1 ← bindT (wipeE ρ own) tg d
      let t ← dE tst ρ1
      let b ← asBool t
      if b then (do let y ← dE elt ρ1; pure (some y)) else pure none) xs)
    pure (.list ys)) := rfl
  rw [e]
  refine M.ge_bind hit ?_
  rw [M.grd_bind ⟨hn, by unfold fitsD; rw [List.length_map, sizeLine_eq]; exact hf⟩]
  refine M.ge_bind (M.ge_quiet (lcE_ge (keep := keep) (val := val) fun x hx => ?_)) M.ge_pure
  obtain ⟨ρ1, h1, h2, h3⟩ := h x hx
  rw [h1, M.pb]
  refine M.ge_bind h2 ?_
  cases hk : keep x with
  | true =>
    show (dE elt ρ1 >>= fun y => (pure (some y) : M (Option D))).ge _
    exact M.ge_bind (h3 hk) M.ge_pure
  | false => exact M.ge_pure
/-- a comprehension that draws: P holds of all that it makes -/
theorem lcE_run {α β : Type} {f : α → M (Option β)} {P : β → Prop} {R : XV → Nat → Prop} {c : Nat} : ∀ {xs : List α} {b : Nat} {Q : List β → Nat → Prop}, (∀ x, x ∈ xs → ∀ b (Q : Option β → Nat → Prop), c ≤ b → (∀ o b', (∀ y, o = some y → P y) → b ≤ b' + c → Q o b') → (f x).run Q R b) → c * xs.length ≤ b →
    (∀ ys b', (∀ y, y ∈ ys → P y) → ys.length ≤ xs.length → b ≤ b' + c * xs.length → Q ys b') → (lcE f xs).run Q R b
  | [], b, Q, _, _, hq => hq [] b (fun y h => absurd h List.not_mem_nil) (Nat.le_refl _) (Nat.le_add_right _ _)
  | x :: xs, b, Q, h, hb, hq => by
    have e : c * (x :: xs).length = c * xs.length + c := Nat.mul_succ c xs.length
    rw [e] at hb hq
    refine h x List.mem_cons_self b _ (by omega) fun o b1 ho hb1 => ?_
    refine lcE_run (fun y hy => h y (List.mem_cons_of_mem _ hy)) (by omega) fun ys b2 hys hl hb2 => ?_
    refine hq (addO o ys) b2 (fun y hy => ?_) ?_ (by omega)
    · cases o with
      | none => exact hys y hy
      | some z =>
        rcases List.mem_cons.mp hy with rfl | hy
        · exact ho _ rfl
        · exact hys y hy
    · cases o with
      | none => exact Nat.le_succ_of_le hl
      | some z => exact Nat.succ_le_succ hl
theorem lc_run {own : List Nat} {tg : Tg} {it elt : E} {ρ : Ev} {xs : List D} {P : D → Prop} {c b : Nat} {Q : D → Nat → Prop} {R : XV → Nat → Prop} (hit : (dE it ρ >>= walked).ge xs) (hn : noOwn ρ own = true) (hf : xs.length ≤ 16777216)
    (h : ∀ x, x ∈ xs → ∃ ρ1, bindT (wipeE ρ own) tg x = pure ρ1 ∧ ∀ b (Q : D → Nat → Prop), c ≤ b → (∀ y b', P y → b ≤ b' + c → Q y b') → (dE elt ρ1).run Q (fun _ _ => False) b) (hb : c * xs.length ≤ b)
    (hq : ∀ ys b', (∀ y, y ∈ ys → P y) → ys.length ≤ xs.length → b ≤ b' + c * xs.length → Q (.list ys) b') :
    (dE (.lc own tg it (.k (.bool true)) elt) ρ).run Q R b := by
  have e : dE (.lc own tg it (.k (.bool true)) elt) ρ = (dE it ρ >>= walked) >>= fun xs => (do
    M.grd (noOwn ρ own = true ∧ fitsD xs)
    let ys ← M.quiet (lcE (fun d => do
      let ρ1 ← bindT (wipeE ρ own) tg d
      let t ← dE (.k (.bool true)) ρ1
      let b ← asBool t
      if b then (do let y ← dE elt ρ1; pure (some y)) else pure none) xs)
    pure (.list ys)) := rfl
  rw [e]
  refine hit _ R b ⟨⟨hn, by unfold fitsD; rw [sizeLine_eq]; exact hf⟩, ?_⟩
  refine lcE_run (P := P) (R := fun _ _ => False) (c := c) (fun x hx b Q h1 h2 => ?_) hb hq
  obtain ⟨ρ1, e1, e2⟩ := h x hx
  rw [e1]
  exact e2 b _ h1 fun y b' hy hb' => h2 (some y) b' (fun z hz => by cases hz; exact hy) hb'
/-- statements and expressions that draw -/
theorem run_asgr {i : Nat} {e : E} {ss : Ss} {ρ : Ev} {Q : Rz → Nat → Prop} {R : XV → Nat → Prop} {b : Nat} (h : (dE e ρ).run (fun d b => (dSs ss (ρ.set i (some (d, false)))).run Q R b) R b) : (dSs (.cons (.asg i e) ss) ρ).run Q R b := h
theorem run_asgOr {i : Nat} {e : E} {ss : Ss} {ρ : Ev} {Q : Rz → Nat → Prop} {R : XV → Nat → Prop} {b : Nat} (h : (dE e ρ).run (fun d b => ∃ xs, d = .list xs ∧ (dSs ss (setO ρ i xs)).run Q R b) R b) : (dSs (.cons (.asgO i e) ss) ρ).run Q R b := by
  have e1 : dS (.asgO i e) ρ = dE e ρ >>= fun d => asList d >>= fun xs => (pure (.nx (setO ρ i xs)) : M Rz) := rfl
  show (dS (.asgO i e) ρ).run (fun r b => (Rz.sq (fun ρ => dSs ss ρ) r).run Q R b) R b
  rw [e1]
  refine (dE e ρ).mono (fun d b' q => ?_) (fun _ _ z => z) h
  obtain ⟨xs, rfl, q⟩ := q
  exact q
theorem run_binr {op : Operator} {x y : E} {ρ : Ev} {d : D} {Q : D → Nat → Prop} {R : XV → Nat → Prop} {b : Nat} (g : (dE x ρ).ge d) (h : (dE y ρ).run (fun c b => (binD op d c).run Q R b) R b) : (dE (.bin op x y) ρ).run Q R b := g _ R b h
theorem run_callr {nm : Str} {f : List D → M D} {es : Es} {ρ : Ev} {ds : List D} {Q : D → Nat → Prop} {R : XV → Nat → Prop} {b : Nat} (g : (dEs es ρ).ge ds) (h : (f ds).run Q R b) : (dE (.call nm f es) ρ).run Q R b := g _ R b h
/-- two at once -/
theorem run_par2m {i j : Nat} {e1 e2 : E} {ss : Ss} {ρ : Ev} {Q : Rz → Nat → Prop} {R : XV → Nat → Prop} {b : Nat} (hq : (dE e1 ρ).run (fun d b => (dE e2 ρ).run (fun x b => (dSs ss ((ρ.set j (some (x, false))).set i (some (d, false)))).run Q R b) R b) R b) : (dSs (.cons (.par [(i, false), (j, false)] (.cons e1 (.cons e2 .nil))) ss) ρ).run Q R b := by
  have e : dPar [(i, false), (j, false)] (.cons e1 (.cons e2 .nil)) ρ = dE e1 ρ >>= fun d => dE e2 ρ >>= fun x => pure [d, x] := rfl
  show (dPar [(i, false), (j, false)] (.cons e1 (.cons e2 .nil)) ρ >>= fun ds => (pure (.nx (setAll ρ [(i, false), (j, false)] ds)) : M Rz)).run _ R b
  rw [e]
  exact hq
/-- a range from one on -/
theorem range1_ge {e : E} {ρ : Ev} {n : Nat} (h : (dE e ρ).ge (.int n)) (hn : n ≤ 16777216) : (dE (.bi .range2 (.cons (.k (.int 1)) (.cons e .nil))) ρ >>= walked).ge ((List.range (n - 1)).map fun k => iD (1 + k)) := by
  have e1 : (dE (.bi .range2 (.cons (.k (.int 1)) (.cons e .nil))) ρ >>= walked) = (dE e ρ >>= fun x => asInt x >>= fun j => M.grd (L2.RgOk 1 j) >>= fun _ => (pure (.list (rangeD 1 j)) : M D)) >>= walked := rfl
  rw [e1]
  refine M.ge_bind (v := .list (rangeD 1 n)) (M.ge_bind h (M.ge_of ((show _ = (M.grd (L2.RgOk 1 n) >>= fun _ => (pure (.list (rangeD 1 n)) : M D)) from rfl).trans (M.grd_bind (show L2.RgOk 1 n by unfold L2.RgOk; omega) _)))) (M.ge_of ?_)
  show (pure (rangeD 1 n) : M (List D)) = _
  unfold rangeD
  rw [show ((n : Int) - 1).toNat = n - 1 by omega]
  congr 1
end Ad
namespace Ad
open PySem

/-! ### draws that all laws share -/
def InW (n : Nat) (a : List (Nat × Nat)) : Prop := ∀ p, p ∈ a → p.1 < n ∧ p.2 < n
def oneB : Ss := .cons (.ret (.ix (.v 1) (.call "_law_draw" drawF (.cons (.v 0) (.cons (.bi .len (.cons (.v 1) .nil)) .nil))))) .nil
def oneF : List D → M D := dFn 2 2 oneB
/-- one of some things -/
theorem one_run {xs : List D} {b : Nat} {Q : D → Nat → Prop} {R : XV → Nat → Prop} (h0 : 0 < xs.length) (h1 : xs.length ≤ 1000) (hb : 0 < b) (h : ∀ x, x ∈ xs → Q x (b - 1)) : (oneF [deckD, .list xs]).run Q R b := by
  refine ⟨rfl, ?_⟩
  show (drawF [deckD, .int (xs.length : Nat)]).run (fun y b => (ixD (.list xs) y).run (fun d b => Q d b) R b) R b
  refine draw_run h0 (by omega) hb fun k hk => ?_
  rw [ix_list (List.getElem?_eq_getElem hk)]
  exact h _ (List.getElem_mem hk)
def webInnerB : Ss := .cons (.ite (.cmp .Eq (.call "_law_draw" drawF (.cons (.v 0) (.cons (.ife (.cmp .Eq (.v 3) (.v 7)) (.v 6) (.v 5)) .nil))) (.k (.int 0))) (.cons (.app 2 (.tup (.cons (.v 3) (.cons (.v 7) .nil)))) .nil) .nil) .nil
def webRestB : Ss := (.cons (.asgO 2 (.lst .nil)) (.cons (.for (.n 3) (.bi .range1 (.cons (.v 4) .nil)) (.cons (.for (.n 7) (.bi .range1 (.cons (.v 4) .nil)) webInnerB) .nil)) (.cons (.ret (.tup (.cons (.v 4) (.cons (.bi .tuple (.cons (.w 2) .nil)) .nil)))) .nil)))
def webEv (t n r s : Nat) (a : List (Nat × Nat)) (x y : Option (D × Bool)) : Ev := [some (deckD, false), some (.int t, false), some (.list (a.map pairD), true), x, some (.int n, false), some (.int r, false), some (.int s, false), y]
/-- one pair of sayings -/
theorem pair_run {t n r s i j b : Nat} {a : List (Nat × Nat)} {Q : Rz → Nat → Prop} {R : XV → Nat → Prop} (hr : 0 < r ∧ r < 1000) (hs : 0 < s ∧ s < 1000) (hb : 0 < b) (ha : a.length ≤ 1000)
    (hq : ∀ a', a' = a ∨ a' = a ++ [(i, j)] → Q (.nx (webEv t n r s a' (some (iD i, false)) (some (iD j, false)))) (b - 1)) : (dSs webInnerB (webEv t n r s a (some (iD i, false)) (some (iD j, false)))).run Q R b := by
  have fin : ∀ k : Nat, (dSs (.cons (.ite (.cmp .Eq (.k (.int k)) (.k (.int 0))) (.cons (.app 2 (.tup (.cons (.v 3) (.cons (.v 7) .nil)))) .nil) .nil) .nil) (webEv t n r s a (some (iD i, false)) (some (iD j, false)))).run Q R (b - 1) := fun k => by
    show (((eqD (.int k) (.int 0) >>= fun c => (pure (.bool c) : M D)) >>= fun x => asBool x >>= fun r => if r then dSs _ _ else dSs _ _) >>= _).run Q R (b - 1)
    rw [eq_int]
    by_cases h : k = 0
    · subst h
      show ((((M.grd ((a.map pairD).length < sizeLine) >>= fun _ => (pure (Rz.nx (setO (webEv t n r s a (some (iD i, false)) (some (iD j, false))) 2 (a.map pairD ++ [.tuple [iD i, iD j]]))) : M Rz))) >>= _) >>= _).run Q R (b - 1)
      rw [M.grd_bind (by rw [List.length_map, sizeLine_eq]; omega)]
      have e : setO (webEv t n r s a (some (iD i, false)) (some (iD j, false))) 2 (a.map pairD ++ [.tuple [iD i, iD j]]) = webEv t n r s (a ++ [(i, j)]) (some (iD i, false)) (some (iD j, false)) := by
        unfold webEv
        rw [List.map_append]
        rfl
      rw [e]
      exact hq _ (.inr rfl)
    · show ((if decide ((k : Int) = 0) = true then _ else dSs .nil _) >>= _).run Q R (b - 1)
      rw [if_neg (fun z => h (by have := of_decide_eq_true z; omega))]
      exact hq _ (.inl rfl)
  have step : ∀ q : Nat, 0 < q → q < 1000 → (drawF [deckD, .int (q : Nat)]).run (fun y b => ((((eqD y (.int 0) >>= fun c => (pure (.bool c) : M D)) >>= fun x => asBool x >>= fun r' => if r' then dSs (.cons (.app 2 (.tup (.cons (.v 3) (.cons (.v 7) .nil)))) .nil) (webEv t n r s a (some (iD i, false)) (some (iD j, false))) else dSs .nil (webEv t n r s a (some (iD i, false)) (some (iD j, false)))) >>= Rz.sq fun ρ => pure (.nx ρ))).run Q R b) R b := fun q h1 h2 => draw_run h1 (by omega) hb fun k _ => fin k
  show ((((((eqD (iD i) (iD j) >>= fun c => (pure (.bool c) : M D)) >>= fun x => asBool x >>= fun c => if c then (pure (.int s) : M D) else pure (.int r)) >>= fun z => (pure [deckD, z] : M (List D))) >>= fun ds => drawF ds) >>= fun y => (((eqD y (.int 0) >>= fun c => (pure (.bool c) : M D)) >>= fun x => asBool x >>= fun r' => if r' then dSs (.cons (.app 2 (.tup (.cons (.v 3) (.cons (.v 7) .nil)))) .nil) (webEv t n r s a (some (iD i, false)) (some (iD j, false))) else dSs .nil (webEv t n r s a (some (iD i, false)) (some (iD j, false)))) >>= Rz.sq fun ρ => pure (.nx ρ)))).run Q R b
  show (((((eqD (.int i) (.int j) >>= fun c => (pure (.bool c) : M D)) >>= fun x => asBool x >>= fun c => if c then (pure (.int s) : M D) else pure (.int r)) >>= fun z => (pure [deckD, z] : M (List D))) >>= fun ds => drawF ds) >>= _).run Q R b
  rw [eq_int, M.pb, M.pb]
  show (((if decide ((i : Int) = j) = true then (pure (.int s) : M D) else pure (.int r)) >>= fun z => drawF [deckD, z]) >>= _).run Q R b
  split
  · exact step s hs.1 hs.2
  · exact step r hr.1 hr.2
def webB : Ss := .cons (.par [(4, false), (5, false), (6, false)] (.cons (.call "_law_draw" drawF (.cons (.v 0) (.cons (.bin .Add (.v 1) (.k (.int 1))) .nil))) (.cons (.call "_law_one" oneF (.cons (.v 0) (.cons (.lst (.cons (.k (.int 2)) (.cons (.k (.int 3)) (.cons (.k (.int 5)) (.cons (.k (.int 9)) .nil))))) .nil))) (.cons (.call "_law_one" oneF (.cons (.v 0) (.cons (.lst (.cons (.k (.int 2)) (.cons (.k (.int 5)) (.cons (.k (.int 9)) .nil)))) .nil))) .nil)))) webRestB
def webF : List D → M D := dFn 2 8 webB
theorem web_run {t b : Nat} {Q : D → Nat → Prop} {R : XV → Nat → Prop} (ht : t ≤ 10) (hb : 200 ≤ b) (hq : ∀ n a b', n ≤ t → InW n a → a.length ≤ n * n → b ≤ b' + 200 → Q (webD n a) b') : (webF [deckD, .int t]).run Q R b := by
  refine ⟨rfl, ?_⟩
  show (dSs webB [some (deckD, false), some (.int t, false), none, none, none, none, none, none]).run (fun r b => (Rz.out r).run Q R b) R b
  refine run_cons' ?_
  show (drawF [deckD, .int ((t : Int) + 1)]).run (fun x b => (oneF [deckD, .list [.int 2, .int 3, .int 5, .int 9]]).run (fun y b => (oneF [deckD, .list [.int 2, .int 5, .int 9]]).run (fun z b => _) R b) R b) R b
  rw [show (t : Int) + 1 = ((t + 1 : Nat) : Int) by omega]
  refine draw_run (by omega) (by omega) (by omega) fun n hn => ?_
  refine one_run (by decide) (by decide) (by omega) fun x hx => ?_
  refine one_run (by decide) (by decide) (by omega) fun y hy => ?_
  obtain ⟨r, hr, rfl⟩ : ∃ r : Nat, (0 < r ∧ r < 1000) ∧ x = .int r := by
    simp at hx
    rcases hx with rfl | rfl | rfl | rfl
    · exact ⟨2, by decide, rfl⟩
    · exact ⟨3, by decide, rfl⟩
    · exact ⟨5, by decide, rfl⟩
    · exact ⟨9, by decide, rfl⟩
  obtain ⟨s, hs, rfl⟩ : ∃ r : Nat, (0 < r ∧ r < 1000) ∧ y = .int r := by
    simp at hy
    rcases hy with rfl | rfl | rfl
    · exact ⟨2, by decide, rfl⟩
    · exact ⟨5, by decide, rfl⟩
    · exact ⟨9, by decide, rfl⟩
  show (dSs webRestB [some (deckD, false), some (.int t, false), none, none, some (.int n, false), some (.int r, false), some (.int s, false), none]).run (fun r b => (Rz.out r).run Q R b) R (b - 1 - 1 - 1)
  refine run_cons (ρ' := webEv t n r s [] none none) rfl ?_
  have er : ∀ a x y, (dE (.bi .range1 (.cons (.v 4) .nil)) (webEv t n r s a x y) >>= fun s => walked s).ge ((List.range n).map iD) := fun a x y => range_ge (ge_v rfl) (by omega)
  refine run_forN (I := fun i ρ b' => ∃ a x y, ρ = webEv t n r s a x y ∧ (∀ p, p ∈ a → p.1 < n ∧ p.2 < n) ∧ a.length ≤ i * n ∧ b ≤ b' + 3 + i * n) (er _ _ _) ⟨[], none, none, rfl, (fun p h => absurd h List.not_mem_nil), Nat.zero_le _, by omega⟩ ?_ ?_
  · intro i hk1 ρ b1 ⟨a, x', y', e, hp, hl, hb1⟩
    subst e
    have hin : i * n ≤ 90 := Nat.le_trans (Nat.mul_le_mul (show i ≤ 9 by omega) (show n ≤ 10 by omega)) (by decide)
    show (dSs (.cons (.for (.n 7) (.bi .range1 (.cons (.v 4) .nil)) webInnerB) .nil) (webEv t n r s a (some (iD i, false)) y')).run _ R b1
    refine run_forN (I := fun j ρ b' => ∃ a' y, ρ = webEv t n r s a' (some (iD i, false)) y ∧ (∀ p, p ∈ a' → p.1 < n ∧ p.2 < n) ∧ a'.length ≤ i * n + j ∧ b1 ≤ b' + j) (er _ _ _) ⟨a, y', rfl, hp, by omega, by omega⟩ ?_ ?_
    · intro j hk2 ρ b2 ⟨a', y, e, hp', hl', hb2⟩
      subst e
      show (dSs webInnerB (webEv t n r s a' (some (iD i, false)) (some (iD j, false)))).run _ R b2
      refine pair_run hr hs (by omega) (by omega) fun a'' h => ?_
      refine ⟨a'', _, rfl, ?_, ?_, by omega⟩
      · rcases h with rfl | rfl
        · exact hp'
        · intro p hp
          rcases List.mem_append.mp hp with h | h
          · exact hp' p h
          · rw [List.mem_singleton.mp h]
            exact ⟨hk1, hk2⟩
      · rcases h with rfl | rfl
        · omega
        · rw [List.length_append]
          show a'.length + 1 ≤ _
          omega
    · intro ρ b2 ⟨a', y, e, hp', hl', hb2⟩
      subst e
      have e1 : (i + 1) * n = i * n + n := Nat.succ_mul i n
      exact ⟨a', _, y, rfl, hp', by omega, by omega⟩
  · intro ρ b' ⟨a, x, y, e, hp, hl, hb1⟩
    subst e
    have : n * n ≤ 100 := Nat.le_trans (Nat.mul_le_mul (show n ≤ 10 by omega) (show n ≤ 10 by omega)) (by decide)
    show Q (webD n a) b'
    exact hq n a b' (by omega) hp hl (by omega)
theorem erase_map {α β : Type} (f : α → β) : ∀ (l : List α) (k : Nat), (l.map f).eraseIdx k = (l.eraseIdx k).map f
  | [], _ => rfl
  | _ :: _, 0 => rfl
  | x :: l, k + 1 => congrArg (f x :: ·) (erase_map f l k)
theorem erase_perm {α : Type} : ∀ (l : List α) (k : Nat) (h : k < l.length), (l[k] :: l.eraseIdx k).Perm l
  | [], _, h => absurd h (Nat.not_lt_zero _)
  | _ :: _, 0, _ => List.Perm.refl _
  | x :: l, k + 1, h => (List.Perm.swap x _ _).trans ((erase_perm l k (Nat.lt_of_succ_lt_succ h)).cons x)
end Ad
namespace Ad
open PySem

/-! ### lists in order, each once -/
theorem pw_ext {α : Type} {r : α → α → Prop} (asym : ∀ a b, r a b → ¬ r b a) : ∀ {l m : List α}, l.Pairwise r → m.Pairwise r → (∀ x, x ∈ l ↔ x ∈ m) → l = m
  | [], [], _, _, _ => rfl
  | [], y :: m, _, _, h => absurd ((h y).mpr List.mem_cons_self) List.not_mem_nil
  | x :: l, [], _, _, h => absurd ((h x).mp List.mem_cons_self) List.not_mem_nil
  | x :: l, y :: m, hl, hm, h => by
    obtain ⟨l1, l2⟩ := List.pairwise_cons.mp hl
    obtain ⟨m1, m2⟩ := List.pairwise_cons.mp hm
    have e : x = y := by
      rcases List.mem_cons.mp ((h x).mp List.mem_cons_self) with e | hx
      · exact e
      · rcases List.mem_cons.mp ((h y).mpr List.mem_cons_self) with e | hy
        · exact e.symm
        · exact absurd (l1 y hy) (asym _ _ (m1 x hx))
    subst e
    have irr : ¬ r x x := fun z => asym x x z z
    refine congrArg (x :: ·) (pw_ext asym l2 m2 fun z => ⟨fun hz => ?_, fun hz => ?_⟩)
    · rcases List.mem_cons.mp ((h z).mp (List.mem_cons_of_mem _ hz)) with e | g
      · exact absurd (l1 z hz) (e ▸ irr)
      · exact g
    · rcases List.mem_cons.mp ((h z).mpr (List.mem_cons_of_mem _ hz)) with e | g
      · exact absurd (m1 z hz) (e ▸ irr)
      · exact g
/-! pairs, by the first and then by the second -/
def ltP (p q : Nat × Nat) : Prop := p.1 < q.1 ∨ (p.1 = q.1 ∧ p.2 < q.2)
def leP (p q : Nat × Nat) : Bool := decide (p.1 < q.1 ∨ (p.1 = q.1 ∧ p.2 ≤ q.2))
def Srt (a : List (Nat × Nat)) : Prop := a.Pairwise ltP
theorem ltP_asym (p q : Nat × Nat) (h : ltP p q) : ¬ ltP q p := by
  unfold ltP at *
  omega
theorem Srt.ext {a b : List (Nat × Nat)} (ha : Srt a) (hb : Srt b) (h : ∀ p, p ∈ a ↔ p ∈ b) : a = b := pw_ext ltP_asym ha hb h
theorem Srt.nodup {a : List (Nat × Nat)} (h : Srt a) : a.Nodup := h.imp fun {p q} z e => by
  subst e
  exact ltP_asym p p z z
theorem Srt.filter {a : List (Nat × Nat)} (h : Srt a) (f : Nat × Nat → Bool) : Srt (a.filter f) := List.Pairwise.filter f h
def Inc (l : List Nat) : Prop := l.Pairwise (· < ·)
theorem Inc.ext {a b : List Nat} (ha : Inc a) (hb : Inc b) (h : ∀ p, p ∈ a ↔ p ∈ b) : a = b := pw_ext (fun _ _ z => Nat.lt_asymm z) ha hb h
theorem inc_range (n : Nat) : Inc (List.range n) := List.pairwise_lt_range
theorem Inc.filter {a : List Nat} (h : Inc a) (f : Nat → Bool) : Inc (a.filter f) := List.Pairwise.filter f h
/-- these pairs in order, each once -/
def sortP (c : List (Nat × Nat)) : List (Nat × Nat) := (once c).mergeSort leP
theorem leP_trans (a b c : Nat × Nat) (h : leP a b = true) (k : leP b c = true) : leP a c = true := by
  unfold leP at *
  rw [decide_eq_true_eq] at *
  omega
theorem leP_total (a b : Nat × Nat) : (leP a b || leP b a) = true := by
  unfold leP
  rw [Bool.or_eq_true, decide_eq_true_eq, decide_eq_true_eq]
  omega
theorem srt_merge {l : List (Nat × Nat)} (h : l.Nodup) : Srt (l.mergeSort leP) := by
  have p := List.pairwise_mergeSort leP_trans leP_total l
  have n : (l.mergeSort leP).Nodup := (List.mergeSort_perm l leP).nodup_iff.mpr h
  refine (p.and n).imp fun {a b} ⟨h1, h2⟩ => ?_
  unfold leP at h1
  rw [decide_eq_true_eq] at h1
  unfold ltP
  have : a.1 = b.1 → a.2 ≠ b.2 := fun e1 e2 => h2 (Prod.ext e1 e2)
  omega
theorem mem_sortP (c : List (Nat × Nat)) (p : Nat × Nat) : p ∈ sortP c ↔ p ∈ c := by
  unfold sortP
  rw [(List.mergeSort_perm (once c) leP).mem_iff, mem_once]
theorem srt_sortP (c : List (Nat × Nat)) : Srt (sortP c) := srt_merge (nodup_once c)
theorem sortP_eq {a c : List (Nat × Nat)} (h : Srt a) (m : ∀ p, p ∈ a ↔ p ∈ c) : sortP c = a := (srt_sortP c).ext h fun p => (mem_sortP c p).trans (m p).symm
theorem dataLe_pair : W.dataLe false pairD = leP := by
  have e := W.dataLe_ii (fun p : Nat × Nat => (p.1 : Int)) (fun p : Nat × Nat => (p.2 : Int))
  refine Eq.trans (show W.dataLe false pairD = _ from e) ?_
  funext p q
  unfold leP
  exact decide_eq_decide.mpr (by omega)
theorem sort_pairs_map (l : List (Nat × Nat)) : sortD (l.map pairD) = (l.mergeSort leP).map pairD := by
  unfold sortD
  refine (List.map_mergeSort (r := leP) (s := W.dataLe false id) (f := pairD) fun a _ b _ => ?_).symm
  rw [← dataLe_pair]
  rfl
theorem pairD_tup (p : Nat × Nat) : pairD p = tupD [(p.1 : Int), (p.2 : Int)] := rfl
theorem eqv_pair (p q : Nat × Nat) : PyData.eqv (pairD p) (pairD q) = decide (p = q) := by
  rw [pairD_tup, pairD_tup, eqv_tup]
  refine decide_eq_decide.mpr ⟨fun h => ?_, fun h => by rw [h]⟩
  injection h with h1 h2
  injection h2 with h2 _
  exact Prod.ext (by omega) (by omega)
theorem pairs_ok (c : List (Nat × Nat)) : sortable (c.map pairD) := by
  refine ⟨W.AllAlike.of fun _ _ => by simp [W.alike, W.alikeAll, pairD], fun x hx => ?_, .inl fun x hx => ?_⟩
  · obtain ⟨p, _, rfl⟩ := List.mem_map.mp hx
    exact ⟨(by intro h; cases h), show 0 + 1 ≤ 40 by decide, rfl⟩
  · obtain ⟨p, _, rfl⟩ := List.mem_map.mp hx
    exact ⟨_, rfl⟩
theorem back_map {α : Type} {enc : α → D} : ∀ {ds : List D} {c : List α}, (∀ d, d ∈ ds → d ∈ c.map enc) → ∃ a : List α, ds = a.map enc
  | [], _, _ => ⟨[], rfl⟩
  | d :: ds, c, h => by
    obtain ⟨p, _, rfl⟩ := List.mem_map.mp (h d List.mem_cons_self)
    obtain ⟨a, e⟩ := back_map fun x hx => h x (List.mem_cons_of_mem _ hx)
    exact ⟨p :: a, by rw [e]; rfl⟩
theorem pairD_inj {p q : Nat × Nat} (h : pairD p = pairD q) : p = q := by
  unfold pairD at h
  injection h with h
  injection h with h1 h2
  injection h2 with h2 _
  injection h1 with h1
  injection h2 with h2
  exact Prod.ext (by omega) (by omega)
def unP : D → Nat × Nat
  | .tuple [.int i, .int j] => (i.toNat, j.toNat)
  | _ => (0, 0)
theorem unP_pair (p : Nat × Nat) : unP (pairD p) = p := by
  show ((p.1 : Int).toNat, (p.2 : Int).toNat) = p
  rw [Int.toNat_natCast, Int.toNat_natCast]
theorem unP_map (l : List (Nat × Nat)) : (l.map pairD).map unP = l := by
  rw [List.map_map]
  exact (List.map_congr_left fun p _ => unP_pair p).trans (List.map_id l)
theorem perm_back {c : List (Nat × Nat)} {zs : List D} (h : zs.Perm (c.map pairD)) : ∃ l : List (Nat × Nat), zs = l.map pairD ∧ l.Perm c := by
  obtain ⟨l, e⟩ := back_map fun d hd => h.mem_iff.mp hd
  subst e
  have k := h.map unP
  rw [unP_map, unP_map] at k
  exact ⟨l, rfl, k⟩
/-- sorted(set(pairs)) -/
theorem sortedSet_ge {d : D} {c : List (Nat × Nat)} (hd : d = .list (c.map pairD) ∨ d = .tuple (c.map pairD)) (few : (once c).length ≤ 305) : (biD .sortedSet [d]).ge (.list ((sortP c).map pairD)) := by
  have oe : onceD (c.map pairD) = (once c).map pairD := once_enc eqv_pair c
  have g : (biD .sortedSet [.list (c.map pairD)]).ge (.list ((sortP c).map pairD)) := fun Q R b q => by
    refine ⟨⟨pairs_ok c, .inr ⟨fun x hx => ?_, by rw [oe, List.length_map]; exact few⟩⟩, fun ys hys => ?_⟩
    · obtain ⟨p, _, rfl⟩ := List.mem_map.mp hx
      exact ⟨_, pairD_tup p⟩
    · rw [oe] at hys
      obtain ⟨l, rfl, pl⟩ := perm_back hys
      show Q (.list (sortD (l.map pairD))) b
      rw [sort_pairs_map, show l.mergeSort leP = sortP c from (srt_merge (pl.nodup_iff.mpr (nodup_once c))).ext (srt_sortP c) fun p => by
        rw [mem_sortP, (List.mergeSort_perm l leP).mem_iff, pl.mem_iff, mem_once]]
      exact q
  rcases hd with rfl | rfl
  · exact g
  · exact g
/-- how many pairs there may be -/
theorem few_pairs {n : Nat} (hn : n ≤ 17) {c : List (Nat × Nat)} (h : ∀ p, p ∈ c → p.1 < n ∧ p.2 < n) : (once c).length ≤ 305 := by
  have := nodup_le (once c) ((List.range n).flatMap fun i => (List.range n).map fun j => (i, j)) (nodup_once c) fun p hp => by
    have := h p ((mem_once c p).mp hp)
    exact List.mem_flatMap.mpr ⟨p.1, List.mem_range.mpr this.1, List.mem_map.mpr ⟨p.2, List.mem_range.mpr this.2, rfl⟩⟩
  have e : ((List.range n).flatMap fun i => (List.range n).map fun j => (i, j)).length = n * n := by
    rw [List.length_flatMap]
    simp only [List.length_map, List.length_range, List.map_const', List.sum_replicate_nat]
  rw [e] at this
  have : n * n ≤ 289 := Nat.le_trans (Nat.mul_le_mul hn hn) (by decide)
  omega
/-! pairs among pairs -/
theorem pairs_plain : ∀ a : List (Nat × Nat), PyData.plainAll (a.map pairD) = true ∧ PyData.depthAll (a.map pairD) ≤ 1
  | [] => ⟨rfl, Nat.zero_le _⟩
  | p :: a => by
    obtain ⟨h1, h2⟩ := pairs_plain a
    refine ⟨?_, ?_⟩
    · show (PyData.plain (pairD p) && PyData.plainAll (a.map pairD)) = true
      rw [h1]
      rfl
    · show max (PyData.depth (pairD p)) (PyData.depthAll (a.map pairD)) ≤ 1
      exact Nat.max_le.mpr ⟨Nat.le_refl 1, h2⟩
theorem eqOk_pair (p : Nat × Nat) : eqOk (pairD p) := ⟨rfl, show 1 ≤ 64 by decide⟩
theorem eqOk_pairsT (a : List (Nat × Nat)) : eqOk (.tuple (a.map pairD)) := ⟨(pairs_plain a).1, by
  have := (pairs_plain a).2
  show PyData.depthAll (a.map pairD) + 1 ≤ 64
  omega⟩
theorem any_pairs (p : Nat × Nat) : ∀ a : List (Nat × Nat), ((a.map pairD).any fun z => PyData.eqv z (pairD p)) = decide (p ∈ a)
  | [] => rfl
  | q :: a => by
    rw [List.map_cons, List.any_cons, any_pairs p a, eqv_pair]
    by_cases h : q = p
    · subst h
      simp
    · have h' : ¬ p = q := fun e => h e.symm
      simp [h, h']
theorem in_pairs (p : Nat × Nat) (a : List (Nat × Nat)) : cmpD .In (pairD p) (.tuple (a.map pairD)) = pure (decide (p ∈ a)) := by
  show (M.grd _ >>= fun _ => (pure ((a.map pairD).any fun z => PyData.eqv z (pairD p)) : M Bool)) = _
  rw [M.grd_bind ⟨eqOk_pair p, eqOk_pairsT a⟩, any_pairs]
/-! what is shown of webs -/
theorem nat_shw {n : Nat} (h : n ≤ 1000000) : Shw (.int n) 0 22 := by
  have h1 : n.log2 < 20 := by
    by_cases z : n = 0
    · subst z
      decide
    · exact (Nat.log2_lt z).mpr (by omega)
  refine ⟨decide_eq_true ?_, Nat.le_refl _, ?_⟩
  · show (n : Int).natAbs.log2 < 1000
    rw [Int.natAbs_natCast]
    omega
  · show (n : Int).natAbs.log2 + 2 ≤ 22
    rw [Int.natAbs_natCast]
    omega
theorem pairs_shw {p : Nat × Nat} (h : p.1 ≤ 1000 ∧ p.2 ≤ 1000) : Shw (pairD p) 1 60 := (Shw.tuple (xs := [.int p.1, .int p.2]) (k := 0) (n := 22) (m := 2) (fun x hx => by
  rcases List.mem_cons.mp hx with rfl | hx
  · exact nat_shw (by omega)
  · rw [List.mem_singleton.mp hx]
    exact nat_shw (by omega)) (Nat.le_refl 2)).mono (Nat.le_refl _) (by decide)
theorem web_shw {n : Nat} {a : List (Nat × Nat)} (hn : n ≤ 17) (hl : a.length ≤ 400) (h : InW n a) : Shw (webD n a) 3 50000 := (Shw.tuple (xs := [.int n, .tuple (a.map pairD)]) (k := 2) (n := 24900) (m := 2) (fun x hx => by
  rcases List.mem_cons.mp hx with rfl | hx
  · exact (nat_shw (by omega)).mono (by decide) (by decide)
  · rw [List.mem_singleton.mp hx]
    exact (Shw.tuple (xs := a.map pairD) (k := 1) (n := 60) (m := 400) (fun x hx => by
      obtain ⟨p, hp, rfl⟩ := List.mem_map.mp hx
      have := h p hp
      exact pairs_shw (by omega)) (by rw [List.length_map]; exact hl)).mono (by decide) (by decide)) (Nat.le_refl 2)).mono (Nat.le_refl _) (by decide)
theorem ints_shw {l : List Nat} {m : Nat} (h : ∀ x, x ∈ l → x ≤ 1000) (hl : l.length ≤ m) : Shw (.tuple (l.map iD)) 1 (m * 24 + 4) := Shw.tuple (k := 0) (n := 22) (fun x hx => by
  obtain ⟨k, hk, rfl⟩ := List.mem_map.mp hx
  exact nat_shw (Nat.le_trans (h k hk) (by decide))) (by rw [List.length_map]; exact hl)
/-- so many pairs in order -/
theorem srt_len {n : Nat} {a : List (Nat × Nat)} (hn : n ≤ 17) (h : Srt a) (hw : InW n a) : a.length ≤ 305 := by
  have := few_pairs hn (c := a) fun p hp => hw p hp
  have e : once a = a ∨ True := .inr trivial
  have l : a.length ≤ (once a).length := nodup_le a (once a) h.nodup fun x hx => (mem_once a x).mpr hx
  omega
end Ad
namespace Ad
open PySem

theorem web_runS {t b : Nat} {Q : D → Nat → Prop} {R : XV → Nat → Prop} (ht : t ≤ 10) (hb : 200 ≤ b) (hq : ∀ n a b', n ≤ t → InW n a → Srt a → b ≤ b' + 200 → Q (webD n a) b') : (webF [deckD, .int t]).run Q R b := by
  refine ⟨rfl, ?_⟩
  show (dSs webB [some (deckD, false), some (.int t, false), none, none, none, none, none, none]).run (fun r b => (Rz.out r).run Q R b) R b
  refine run_cons' ?_
  show (drawF [deckD, .int ((t : Int) + 1)]).run (fun x b => (oneF [deckD, .list [.int 2, .int 3, .int 5, .int 9]]).run (fun y b => (oneF [deckD, .list [.int 2, .int 5, .int 9]]).run (fun z b => _) R b) R b) R b
  rw [show (t : Int) + 1 = ((t + 1 : Nat) : Int) by omega]
  refine draw_run (by omega) (by omega) (by omega) fun n hn => ?_
  refine one_run (by decide) (by decide) (by omega) fun x hx => ?_
  refine one_run (by decide) (by decide) (by omega) fun y hy => ?_
  obtain ⟨r, hr, rfl⟩ : ∃ r : Nat, (0 < r ∧ r < 1000) ∧ x = .int r := by
    simp at hx
    rcases hx with rfl | rfl | rfl | rfl
    · exact ⟨2, by decide, rfl⟩
    · exact ⟨3, by decide, rfl⟩
    · exact ⟨5, by decide, rfl⟩
    · exact ⟨9, by decide, rfl⟩
  obtain ⟨s, hs, rfl⟩ : ∃ r : Nat, (0 < r ∧ r < 1000) ∧ y = .int r := by
    simp at hy
    rcases hy with rfl | rfl | rfl
    · exact ⟨2, by decide, rfl⟩
    · exact ⟨5, by decide, rfl⟩
    · exact ⟨9, by decide, rfl⟩
  show (dSs webRestB [some (deckD, false), some (.int t, false), none, none, some (.int n, false), some (.int r, false), some (.int s, false), none]).run (fun r b => (Rz.out r).run Q R b) R (b - 1 - 1 - 1)
  refine run_cons (ρ' := webEv t n r s [] none none) rfl ?_
  have er : ∀ a x y, (dE (.bi .range1 (.cons (.v 4) .nil)) (webEv t n r s a x y) >>= fun s => walked s).ge ((List.range n).map iD) := fun a x y => range_ge (ge_v rfl) (by omega)
  refine run_forN (I := fun i ρ b' => ∃ a x y, ρ = webEv t n r s a x y ∧ (∀ p, p ∈ a → p.1 < i ∧ p.1 < n ∧ p.2 < n) ∧ (Srt a ∧ a.length ≤ i * n) ∧ b ≤ b' + 3 + i * n) (er _ _ _) ⟨[], none, none, rfl, (fun p h => absurd h List.not_mem_nil), ⟨List.Pairwise.nil, Nat.zero_le _⟩, by omega⟩ ?_ ?_
  · intro i hk1 ρ b1 ⟨a, x', y', e, hp, ⟨hs0, hl⟩, hb1⟩
    subst e
    have hin : i * n ≤ 90 := Nat.le_trans (Nat.mul_le_mul (show i ≤ 9 by omega) (show n ≤ 10 by omega)) (by decide)
    show (dSs (.cons (.for (.n 7) (.bi .range1 (.cons (.v 4) .nil)) webInnerB) .nil) (webEv t n r s a (some (iD i, false)) y')).run _ R b1
    refine run_forN (I := fun j ρ b' => ∃ a' y, ρ = webEv t n r s a' (some (iD i, false)) y ∧ (∀ p, p ∈ a' → ltP p (i, j) ∧ p.1 < n ∧ p.2 < n) ∧ (Srt a' ∧ a'.length ≤ i * n + j) ∧ b1 ≤ b' + j) (er _ _ _) ⟨a, y', rfl, fun p h => ⟨Or.inl (hp p h).1, (hp p h).2⟩, ⟨hs0, by omega⟩, by omega⟩ ?_ ?_
    · intro j hk2 ρ b2 ⟨a', y, e, hp', ⟨hs', hl'⟩, hb2⟩
      subst e
      show (dSs webInnerB (webEv t n r s a' (some (iD i, false)) (some (iD j, false)))).run _ R b2
      refine pair_run hr hs (by omega) (by omega) fun a'' h => ?_
      have next : ∀ p, ltP p (i, j) → ltP p (i, j + 1) := fun p h => by
        unfold ltP at *
        simp only at *
        omega
      refine ⟨a'', _, rfl, ?_, ⟨?_, ?_⟩, by omega⟩
      · rcases h with rfl | rfl
        · exact fun p h => ⟨next p (hp' p h).1, (hp' p h).2⟩
        · intro p hp
          rcases List.mem_append.mp hp with h | h
          · exact ⟨next p (hp' p h).1, (hp' p h).2⟩
          · rw [List.mem_singleton.mp h]
            exact ⟨Or.inr ⟨rfl, Nat.lt_succ_self j⟩, hk1, hk2⟩
      · rcases h with rfl | rfl
        · exact hs'
        · refine List.pairwise_append.mpr ⟨hs', List.pairwise_singleton _ _, fun p hp q hq => ?_⟩
          rw [List.mem_singleton.mp hq]
          exact (hp' p hp).1
      · rcases h with rfl | rfl
        · omega
        · rw [List.length_append]
          show a'.length + 1 ≤ _
          omega
    · intro ρ b2 ⟨a', y, e, hp', ⟨hs', hl'⟩, hb2⟩
      subst e
      have e1 : (i + 1) * n = i * n + n := Nat.succ_mul i n
      exact ⟨a', _, y, rfl, fun p h => ⟨by have := (hp' p h).1; unfold ltP at this; simp only at this; omega, (hp' p h).2⟩, ⟨hs', by omega⟩, by omega⟩
  · intro ρ b' ⟨a, x, y, e, hp, ⟨hs0, hl⟩, hb1⟩
    subst e
    have : n * n ≤ 100 := Nat.le_trans (Nat.mul_le_mul (show n ≤ 10 by omega) (show n ≤ 10 by omega)) (by decide)
    show Q (webD n a) b'
    exact hq n a b' (by omega) (fun p h => (hp p h).2) hs0 (by omega)
end Ad
set_option maxHeartbeats 0
namespace Ad
open PySem PySem.Calls PySem.W PySem.SeqAt PySem.Spec PyProof.Rows L2
def top (i : Nat) : Stmt := PySem.Challenge.pw_addedattacks_k10_webs_alike.main.body.getD i (.Pass ⟨0, 0, 0, 0⟩)
abbrev f_law_draw : List D → M D := drawF
abbrev s_loose : Stmt := top 1
def N_loose : List Str := ["web", "one", "other"]
def b_loose : Ss := (.cons (.ret (.bi .tuple (.cons (.lc [1, 2] (.t [1, 2]) (.ix (.v 0) (.k (.int 1))) (.cmp .Eq (.v 1) (.v 2)) (.v 1)) .nil))) .nil)
def floose : List D → M D := dFn 1 3 b_loose
theorem sc_loose : FnScope N_loose ["web"] (defScope s_loose) := ⟨rfl, rfl, rfl, by decide +kernel, rfl, by decide +kernel, by decide +kernel⟩
theorem m_loose : mSs ⟨N_loose, (defScope s_loose).names, (defScope s_loose).names.map (·.1)⟩ b_loose (defBody s_loose) = true := by decide +kernel
abbrev s_of_some : Stmt := top 2
def N_of_some : List Str := ["sayings", "some"]
def b_of_some : Ss := (.cons (.ret (.tup (.cons (.v 0) (.cons (.bi .tuple (.cons (.bi .sortedSet (.cons (.v 1) .nil)) .nil)) .nil)))) .nil)
def fof_some : List D → M D := dFn 2 2 b_of_some
theorem sc_of_some : FnScope N_of_some ["sayings", "some"] (defScope s_of_some) := ⟨rfl, rfl, rfl, by decide +kernel, rfl, by decide +kernel, by decide +kernel⟩
theorem m_of_some : mSs ⟨N_of_some, (defScope s_of_some).names, (defScope s_of_some).names.map (·.1)⟩ b_of_some (defBody s_of_some) = true := by decide +kernel
abbrev s_is_dropped : Stmt := top 4
def N_is_dropped : List Str := ["web", "reading", "attack", "own", "one", "other"]
def b_is_dropped : Ss := (.cons (.asgT [4, 5] (.v 2)) (.cons (.asg 3 (.call "loose" floose (.cons (.v 0) .nil))) (.cons (.ite (.cmp .Eq (.v 1) (.k (.str "ruling"))) (.cons (.ret (.cmp .In (.v 4) (.v 3))) .nil) .nil) (.cons (.ite (.cmp .Eq (.v 1) (.k (.str "closed"))) (.cons (.ret (.and (.cmp .In (.v 4) (.v 3)) (.cmp .In (.v 5) (.v 3)))) .nil) .nil) (.cons (.ite (.cmp .Eq (.v 1) (.k (.str "least"))) (.cons (.ret (.and (.cmp .In (.v 5) (.v 3)) (.or (.cmp .In (.v 4) (.v 3)) (.cmp .In (.tup (.cons (.v 5) (.cons (.v 4) .nil))) (.ix (.v 0) (.k (.int 1))))))) .nil) .nil) (.cons (.ret (.and (.cmp .In (.v 4) (.v 3)) (.or (.cmp .In (.v 5) (.v 3)) (.cmp .In (.tup (.cons (.v 5) (.cons (.v 4) .nil))) (.ix (.v 0) (.k (.int 1))))))) .nil))))))
def fis_dropped : List D → M D := dFn 3 6 b_is_dropped
theorem sc_is_dropped : FnScope N_is_dropped ["web", "reading", "attack"] (defScope s_is_dropped) := ⟨rfl, rfl, rfl, by decide +kernel, rfl, by decide +kernel, by decide +kernel⟩
theorem m_is_dropped : mSs ⟨N_is_dropped, (defScope s_is_dropped).names, (defScope s_is_dropped).names.map (·.1)⟩ b_is_dropped (defBody s_is_dropped) = true := by decide +kernel
abbrev s_free_kernel : Stmt := top 5
def N_free_kernel : List Str := ["web", "one", "own", "more", "others", "other"]
def b_free_kernel : Ss := (.cons (.par [(2, false), (3, true)] (.cons (.call "loose" floose (.cons (.v 0) .nil)) (.cons (.lst .nil) .nil))) (.cons (.for (.n 1) (.bi .range1 (.cons (.ix (.v 0) (.k (.int 0))) .nil)) (.cons (.asg 4 (.lc [5] (.n 5) (.bi .range1 (.cons (.ix (.v 0) (.k (.int 0))) .nil)) (.cmp .NotEq (.v 5) (.v 1)) (.v 5))) (.cons (.ext 3 (.lc [5] (.n 5) (.v 4) (.or (.cmp .In (.v 1) (.v 2)) (.or (.cmp .In (.v 5) (.v 2)) (.cmp .In (.tup (.cons (.v 5) (.cons (.v 1) .nil))) (.ix (.v 0) (.k (.int 1)))))) (.tup (.cons (.v 1) (.cons (.v 5) .nil))))) .nil))) (.cons (.ret (.call "of_some" fof_some (.cons (.ix (.v 0) (.k (.int 0))) (.cons (.bin .Add (.bi .list (.cons (.ix (.v 0) (.k (.int 1))) .nil)) (.w 3)) .nil)))) .nil)))
def ffree_kernel : List D → M D := dFn 1 6 b_free_kernel
theorem sc_free_kernel : FnScope N_free_kernel ["web"] (defScope s_free_kernel) := ⟨rfl, rfl, rfl, by decide +kernel, rfl, by decide +kernel, by decide +kernel⟩
theorem m_free_kernel : mSs ⟨N_free_kernel, (defScope s_free_kernel).names, (defScope s_free_kernel).names.map (·.1)⟩ b_free_kernel (defBody s_free_kernel) = true := by decide +kernel
abbrev s_kernel : Stmt := top 6
def N_kernel : List Str := ["web", "reading", "kept", "own"]
def b_kernel : Ss := (.cons (.ite (.cmp .Eq (.v 1) (.k (.str "free"))) (.cons (.ret (.call "free_kernel" ffree_kernel (.cons (.v 0) .nil))) .nil) .nil) (.cons (.asg 2 (.lc [3] (.n 3) (.ix (.v 0) (.k (.int 1))) (.or (.cmp .Eq (.ix (.v 3) (.k (.int 0))) (.ix (.v 3) (.k (.int 1)))) (.not (.call "is_dropped" fis_dropped (.cons (.v 0) (.cons (.v 1) (.cons (.v 3) .nil)))))) (.v 3))) (.cons (.ret (.tup (.cons (.ix (.v 0) (.k (.int 0))) (.cons (.bi .tuple (.cons (.v 2) .nil)) .nil)))) .nil)))
def fkernel : List D → M D := dFn 2 4 b_kernel
theorem sc_kernel : FnScope N_kernel ["web", "reading"] (defScope s_kernel) := ⟨rfl, rfl, rfl, by decide +kernel, rfl, by decide +kernel, by decide +kernel⟩
theorem m_kernel : mSs ⟨N_kernel, (defScope s_kernel).names, (defScope s_kernel).names.map (·.1)⟩ b_kernel (defBody s_kernel) = true := by decide +kernel
abbrev s_alike : Stmt := top 7
def N_alike : List Str := ["one", "other", "reading"]
def b_alike : Ss := (.cons (.ret (.cmp .Eq (.call "kernel" fkernel (.cons (.v 0) (.cons (.v 2) .nil))) (.call "kernel" fkernel (.cons (.v 1) (.cons (.v 2) .nil))))) .nil)
def falike : List D → M D := dFn 3 3 b_alike
theorem sc_alike : FnScope N_alike ["one", "other", "reading"] (defScope s_alike) := ⟨rfl, rfl, rfl, by decide +kernel, rfl, by decide +kernel, by decide +kernel⟩
theorem m_alike : mSs ⟨N_alike, (defScope s_alike).names, (defScope s_alike).names.map (·.1)⟩ b_alike (defBody s_alike) = true := by decide +kernel
abbrev s_law_deck : Stmt := top 9
abbrev s_law_draw : Stmt := top 10
def N_law_draw : List Str := ["_law_deck_here", "_law_below", "_law_cells", "_law_turn", "_law_rests", "_law_at", "_law_digit", "_law_mixed", "_law_again"]
theorem sc_law_draw : FnScope N_law_draw ["_law_deck_here", "_law_below"] (defScope s_law_draw) := ⟨rfl, rfl, rfl, by decide +kernel, rfl, by decide +kernel, by decide +kernel⟩
abbrev s_law_one : Stmt := top 11
def N_law_one : List Str := ["_law_deck_here", "_law_items"]
def b_law_one : Ss := (.cons (.ret (.ix (.v 1) (.call "_law_draw" f_law_draw (.cons (.v 0) (.cons (.bi .len (.cons (.v 1) .nil)) .nil))))) .nil)
def f_law_one : List D → M D := dFn 2 2 b_law_one
theorem sc_law_one : FnScope N_law_one ["_law_deck_here", "_law_items"] (defScope s_law_one) := ⟨rfl, rfl, rfl, by decide +kernel, rfl, by decide +kernel, by decide +kernel⟩
theorem m_law_one : mSs ⟨N_law_one, (defScope s_law_one).names, (defScope s_law_one).names.map (·.1)⟩ b_law_one (defBody s_law_one) = true := by decide +kernel
abbrev s_law_web : Stmt := top 12
def N_law_web : List Str := ["_law_deck_here", "_law_most", "_law_found", "_law_one_here", "_law_size", "_law_rate", "_law_self_rate", "_law_other"]
def b_law_web : Ss := (.cons (.par [(4, false), (5, false), (6, false)] (.cons (.call "_law_draw" f_law_draw (.cons (.v 0) (.cons (.bin .Add (.v 1) (.k (.int 1))) .nil))) (.cons (.call "_law_one" f_law_one (.cons (.v 0) (.cons (.lst (.cons (.k (.int 2)) (.cons (.k (.int 3)) (.cons (.k (.int 5)) (.cons (.k (.int 9)) .nil))))) .nil))) (.cons (.call "_law_one" f_law_one (.cons (.v 0) (.cons (.lst (.cons (.k (.int 2)) (.cons (.k (.int 5)) (.cons (.k (.int 9)) .nil)))) .nil))) .nil)))) (.cons (.asgO 2 (.lst .nil)) (.cons (.for (.n 3) (.bi .range1 (.cons (.v 4) .nil)) (.cons (.for (.n 7) (.bi .range1 (.cons (.v 4) .nil)) (.cons (.ite (.cmp .Eq (.call "_law_draw" f_law_draw (.cons (.v 0) (.cons (.ife (.cmp .Eq (.v 3) (.v 7)) (.v 6) (.v 5)) .nil))) (.k (.int 0))) (.cons (.app 2 (.tup (.cons (.v 3) (.cons (.v 7) .nil)))) .nil) .nil) .nil)) .nil)) (.cons (.ret (.tup (.cons (.v 4) (.cons (.bi .tuple (.cons (.w 2) .nil)) .nil)))) .nil))))
def f_law_web : List D → M D := dFn 2 8 b_law_web
theorem sc_law_web : FnScope N_law_web ["_law_deck_here", "_law_most"] (defScope s_law_web) := ⟨rfl, rfl, rfl, by decide +kernel, rfl, by decide +kernel, by decide +kernel⟩
theorem m_law_web : mSs ⟨N_law_web, (defScope s_law_web).names, (defScope s_law_web).names.map (·.1)⟩ b_law_web (defBody s_law_web) = true := by decide +kernel
abbrev s_law_toggled : Stmt := top 14
def N_law_toggled : List Str := ["_law_web_here", "_law_attack", "_law_own"]
def b_law_toggled : Ss := (.cons (.ite (.cmp .In (.v 1) (.ix (.v 0) (.k (.int 1)))) (.cons (.ret (.tup (.cons (.ix (.v 0) (.k (.int 0))) (.cons (.bi .tuple (.cons (.lc [2] (.n 2) (.ix (.v 0) (.k (.int 1))) (.cmp .NotEq (.v 2) (.v 1)) (.v 2)) .nil)) .nil)))) .nil) .nil) (.cons (.ret (.tup (.cons (.ix (.v 0) (.k (.int 0))) (.cons (.bi .tuple (.cons (.bi .sorted (.cons (.bin .Add (.ix (.v 0) (.k (.int 1))) (.tup (.cons (.v 1) .nil))) .nil)) .nil)) .nil)))) .nil))
def f_law_toggled : List D → M D := dFn 2 3 b_law_toggled
theorem sc_law_toggled : FnScope N_law_toggled ["_law_web_here", "_law_attack"] (defScope s_law_toggled) := ⟨rfl, rfl, rfl, by decide +kernel, rfl, by decide +kernel, by decide +kernel⟩
theorem m_law_toggled : mSs ⟨N_law_toggled, (defScope s_law_toggled).names, (defScope s_law_toggled).names.map (·.1)⟩ b_law_toggled (defBody s_law_toggled) = true := by decide +kernel
abbrev s_law_near : Stmt := top 13
def N_law_near : List Str := ["_law_deck_here", "_law_web_here"]
def b_law_near : Ss := (.cons (.ite (.cmp .Eq (.ix (.v 1) (.k (.int 0))) (.k (.int 0))) (.cons (.ret (.v 1)) .nil) .nil) (.cons (.ret (.call "_law_toggled" f_law_toggled (.cons (.v 1) (.cons (.tup (.cons (.call "_law_draw" f_law_draw (.cons (.v 0) (.cons (.ix (.v 1) (.k (.int 0))) .nil))) (.cons (.call "_law_draw" f_law_draw (.cons (.v 0) (.cons (.ix (.v 1) (.k (.int 0))) .nil))) .nil))) .nil)))) .nil))
def f_law_near : List D → M D := dFn 2 2 b_law_near
theorem sc_law_near : FnScope N_law_near ["_law_deck_here", "_law_web_here"] (defScope s_law_near) := ⟨rfl, rfl, rfl, by decide +kernel, rfl, by decide +kernel, by decide +kernel⟩
theorem m_law_near : mSs ⟨N_law_near, (defScope s_law_near).names, (defScope s_law_near).names.map (·.1)⟩ b_law_near (defBody s_law_near) = true := by decide +kernel
abbrev s_law_readings : Stmt := top 15
def N_law_readings : List Str := []
def b_law_readings : Ss := (.cons (.ret (.lst (.cons (.k (.str "free")) (.cons (.k (.str "answering")) (.cons (.k (.str "closed")) (.cons (.k (.str "full")) (.cons (.k (.str "ruling")) (.cons (.k (.str "least")) .nil)))))))) .nil)
def f_law_readings : List D → M D := dFn 0 0 b_law_readings
theorem sc_law_readings : FnScope N_law_readings [] (defScope s_law_readings) := ⟨rfl, rfl, rfl, by decide +kernel, rfl, by decide +kernel, by decide +kernel⟩
theorem m_law_readings : mSs ⟨N_law_readings, (defScope s_law_readings).names, (defScope s_law_readings).names.map (·.1)⟩ b_law_readings (defBody s_law_readings) = true := by decide +kernel
abbrev s_law_is_out : Stmt := top 16
def N_law_is_out : List Str := ["_law_web_here", "_law_reading", "_law_one_here", "_law_other", "_law_is_first", "_law_is_last", "_law_is_back"]
def b_law_is_out : Ss := (.cons (.par [(4, false), (5, false), (6, false)] (.cons (.cmp .In (.tup (.cons (.v 2) (.cons (.v 2) .nil))) (.ix (.v 0) (.k (.int 1)))) (.cons (.cmp .In (.tup (.cons (.v 3) (.cons (.v 3) .nil))) (.ix (.v 0) (.k (.int 1)))) (.cons (.cmp .In (.tup (.cons (.v 3) (.cons (.v 2) .nil))) (.ix (.v 0) (.k (.int 1)))) .nil)))) (.cons (.ite (.cmp .Eq (.v 1) (.k (.str "ruling"))) (.cons (.ret (.v 4)) .nil) .nil) (.cons (.ite (.cmp .Eq (.v 1) (.k (.str "closed"))) (.cons (.ret (.and (.v 4) (.v 5))) .nil) .nil) (.cons (.ite (.cmp .Eq (.v 1) (.k (.str "least"))) (.cons (.ret (.and (.v 5) (.or (.v 4) (.v 6)))) .nil) .nil) (.cons (.ret (.and (.v 4) (.or (.v 5) (.v 6)))) .nil)))))
def f_law_is_out : List D → M D := dFn 4 7 b_law_is_out
theorem sc_law_is_out : FnScope N_law_is_out ["_law_web_here", "_law_reading", "_law_one_here", "_law_other"] (defScope s_law_is_out) := ⟨rfl, rfl, rfl, by decide +kernel, rfl, by decide +kernel, by decide +kernel⟩
theorem m_law_is_out : mSs ⟨N_law_is_out, (defScope s_law_is_out).names, (defScope s_law_is_out).names.map (·.1)⟩ b_law_is_out (defBody s_law_is_out) = true := by decide +kernel
abbrev s_law_kernel : Stmt := top 17
def N_law_kernel : List Str := ["_law_web_here", "_law_reading", "_law_found", "_law_one_here", "_law_other", "_law_is_there", "_law_is_loose"]
def b_law_kernel : Ss := (.cons (.asgO 2 (.lst .nil)) (.cons (.for (.n 3) (.bi .range1 (.cons (.ix (.v 0) (.k (.int 0))) .nil)) (.cons (.for (.n 4) (.bi .range1 (.cons (.ix (.v 0) (.k (.int 0))) .nil)) (.cons (.asg 5 (.cmp .In (.tup (.cons (.v 3) (.cons (.v 4) .nil))) (.ix (.v 0) (.k (.int 1))))) (.cons (.ite (.and (.cmp .Eq (.v 1) (.k (.str "free"))) (.cmp .NotEq (.v 3) (.v 4))) (.cons (.asg 6 (.or (.cmp .In (.tup (.cons (.v 3) (.cons (.v 3) .nil))) (.ix (.v 0) (.k (.int 1)))) (.cmp .In (.tup (.cons (.v 4) (.cons (.v 4) .nil))) (.ix (.v 0) (.k (.int 1)))))) (.cons (.asg 5 (.or (.v 5) (.or (.v 6) (.cmp .In (.tup (.cons (.v 4) (.cons (.v 3) .nil))) (.ix (.v 0) (.k (.int 1))))))) .nil)) (.cons (.ite (.and (.cmp .NotEq (.v 3) (.v 4)) (.v 5)) (.cons (.asg 5 (.not (.call "_law_is_out" f_law_is_out (.cons (.v 0) (.cons (.v 1) (.cons (.v 3) (.cons (.v 4) .nil))))))) .nil) .nil) .nil)) (.cons (.ite (.v 5) (.cons (.app 2 (.tup (.cons (.v 3) (.cons (.v 4) .nil)))) .nil) .nil) .nil)))) .nil)) (.cons (.ret (.tup (.cons (.ix (.v 0) (.k (.int 0))) (.cons (.bi .tuple (.cons (.w 2) .nil)) .nil)))) .nil)))
def f_law_kernel : List D → M D := dFn 2 7 b_law_kernel
theorem sc_law_kernel : FnScope N_law_kernel ["_law_web_here", "_law_reading"] (defScope s_law_kernel) := ⟨rfl, rfl, rfl, by decide +kernel, rfl, by decide +kernel, by decide +kernel⟩
theorem m_law_kernel : mSs ⟨N_law_kernel, (defScope s_law_kernel).names, (defScope s_law_kernel).names.map (·.1)⟩ b_law_kernel (defBody s_law_kernel) = true := by decide +kernel
abbrev s_law_sized : Stmt := top 18
def N_law_sized : List Str := ["_law_deck_here", "_law_size", "_law_found", "_law_one_here", "_law_rate", "_law_self_rate", "_law_other"]
def b_law_sized : Ss := (.cons (.par [(4, false), (5, false)] (.cons (.call "_law_one" f_law_one (.cons (.v 0) (.cons (.lst (.cons (.k (.int 2)) (.cons (.k (.int 3)) (.cons (.k (.int 5)) (.cons (.k (.int 9)) .nil))))) .nil))) (.cons (.call "_law_one" f_law_one (.cons (.v 0) (.cons (.lst (.cons (.k (.int 2)) (.cons (.k (.int 5)) (.cons (.k (.int 9)) .nil)))) .nil))) .nil))) (.cons (.asgO 2 (.lst .nil)) (.cons (.for (.n 3) (.bi .range1 (.cons (.v 1) .nil)) (.cons (.for (.n 6) (.bi .range1 (.cons (.v 1) .nil)) (.cons (.ite (.cmp .Eq (.call "_law_draw" f_law_draw (.cons (.v 0) (.cons (.ife (.cmp .Eq (.v 3) (.v 6)) (.v 5) (.v 4)) .nil))) (.k (.int 0))) (.cons (.app 2 (.tup (.cons (.v 3) (.cons (.v 6) .nil)))) .nil) .nil) .nil)) .nil)) (.cons (.ret (.tup (.cons (.v 1) (.cons (.bi .tuple (.cons (.w 2) .nil)) .nil)))) .nil))))
def f_law_sized : List D → M D := dFn 2 7 b_law_sized
theorem sc_law_sized : FnScope N_law_sized ["_law_deck_here", "_law_size"] (defScope s_law_sized) := ⟨rfl, rfl, rfl, by decide +kernel, rfl, by decide +kernel, by decide +kernel⟩
theorem m_law_sized : mSs ⟨N_law_sized, (defScope s_law_sized).names, (defScope s_law_sized).names.map (·.1)⟩ b_law_sized (defBody s_law_sized) = true := by decide +kernel
abbrev s_law_mixed_webs : Stmt := top 19
def N_law_mixed_webs : List Str := ["_law_deck_here", "_law_one_here", "_law_other", "_law_own"]
def b_law_mixed_webs : Ss := (.cons (.ret (.tup (.cons (.ix (.v 1) (.k (.int 0))) (.cons (.bi .tuple (.cons (.lc [3] (.n 3) (.bi .sortedSet (.cons (.bin .Add (.ix (.v 1) (.k (.int 1))) (.ix (.v 2) (.k (.int 1)))) .nil)) (.cmp .Eq (.call "_law_draw" f_law_draw (.cons (.v 0) (.cons (.k (.int 2)) .nil))) (.k (.int 0))) (.v 3)) .nil)) .nil)))) .nil)
def f_law_mixed_webs : List D → M D := dFn 3 4 b_law_mixed_webs
theorem sc_law_mixed_webs : FnScope N_law_mixed_webs ["_law_deck_here", "_law_one_here", "_law_other"] (defScope s_law_mixed_webs) := ⟨rfl, rfl, rfl, by decide +kernel, rfl, by decide +kernel, by decide +kernel⟩
theorem m_law_mixed_webs : mSs ⟨N_law_mixed_webs, (defScope s_law_mixed_webs).names, (defScope s_law_mixed_webs).names.map (·.1)⟩ b_law_mixed_webs (defBody s_law_mixed_webs) = true := by decide +kernel
abbrev s_law : Stmt := top 20
def N_law : List Str := ["_law_script", "_law_deck_here", "_law_turn", "_law_web_here", "_law_some", "_law_far", "_law_free", "_law_other", "_law_reading", "_law_due", "_law_one_here", "_law_own"]
def b_law : Ss := (.cons (.for (.n 2) (.bi .range1 (.cons (.k (.int 8)) .nil)) (.cons (.asg 3 (.call "_law_web" f_law_web (.cons (.v 1) (.cons (.k (.int 8)) .nil)))) (.cons (.asgO 4 (.lst (.cons (.v 3) (.cons (.call "_law_near" f_law_near (.cons (.v 1) (.cons (.v 3) .nil))) (.cons (.call "_law_near" f_law_near (.cons (.v 1) (.cons (.call "_law_near" f_law_near (.cons (.v 1) (.cons (.v 3) .nil))) .nil))) .nil))))) (.cons (.asg 5 (.call "_law_sized" f_law_sized (.cons (.v 1) (.cons (.ix (.v 3) (.k (.int 0))) .nil)))) (.cons (.asgO 4 (.bin .Add (.w 4) (.lst (.cons (.v 5) (.cons (.call "_law_mixed_webs" f_law_mixed_webs (.cons (.v 1) (.cons (.v 3) (.cons (.v 5) .nil)))) .nil))))) (.cons (.asg 6 (.lc [10, 7] (.t [10, 7]) (.ix (.v 3) (.k (.int 1))) (.and (.cmp .NotIn (.tup (.cons (.v 10) (.cons (.v 10) .nil))) (.ix (.v 3) (.k (.int 1)))) (.cmp .NotIn (.tup (.cons (.v 7) (.cons (.v 7) .nil))) (.ix (.v 3) (.k (.int 1))))) (.tup (.cons (.v 10) (.cons (.v 7) .nil))))) (.cons (.asgO 4 (.bin .Add (.w 4) (.lc [8] (.n 8) (.call "_law_readings" f_law_readings .nil) (.k (.bool true)) (.call "_law_kernel" f_law_kernel (.cons (.v 3) (.cons (.v 8) .nil)))))) (.cons (.asg 6 (.bin .Add (.v 6) (.lc [11] (.n 11) (.bi .range1 (.cons (.ix (.v 3) (.k (.int 0))) .nil)) (.cmp .In (.tup (.cons (.v 11) (.cons (.v 11) .nil))) (.ix (.v 3) (.k (.int 1)))) (.tup (.cons (.v 11) (.cons (.v 11) .nil)))))) (.cons (.app 4 (.tup (.cons (.ix (.v 3) (.k (.int 0))) (.cons (.bi .tuple (.cons (.bi .sortedSet (.cons (.v 6) .nil)) .nil)) .nil)))) (.cons (.frz 4) (.cons (.for (.n 7) (.v 4) (.cons (.for (.n 8) (.call "_law_readings" f_law_readings .nil) (.cons (.asg 9 (.cmp .Eq (.call "_law_kernel" f_law_kernel (.cons (.v 3) (.cons (.v 8) .nil))) (.call "_law_kernel" f_law_kernel (.cons (.v 7) (.cons (.v 8) .nil))))) (.cons (.ite (.cmp .NotEq (.bi .repr (.cons (.lst (.cons (.call "alike" falike (.cons (.v 3) (.cons (.v 7) (.cons (.v 8) .nil)))) (.cons (.call "alike" falike (.cons (.v 7) (.cons (.v 3) (.cons (.v 8) .nil)))) .nil))) .nil)) (.bi .repr (.cons (.lst (.cons (.v 9) (.cons (.v 9) .nil))) .nil))) (.cons (.ret (.k (.bool false))) .nil) .nil) .nil))) .nil)) .nil))))))))))) (.cons (.ret (.k (.bool true))) .nil))
def flaw : List D → M D := dFn 1 12 b_law
theorem sc_law : FnScope N_law ["_law_script"] (defScope s_law) := ⟨rfl, rfl, rfl, by decide +kernel, rfl, by decide +kernel, by decide +kernel⟩
def first_law : First := (.one 1)
theorem m0_law : mFirst ⟨N_law, (defScope s_law).names, (defScope s_law).names.map (·.1)⟩ first_law ((defBody s_law).headD (.Pass ⟨0, 0, 0, 0⟩)) = true := by decide +kernel
theorem m_law : mSs ⟨N_law, (defScope s_law).names, (defScope s_law).names.map (·.1)⟩ b_law ((defBody s_law).tail) = true := by decide +kernel
def consts : List (Str × D) := []
section
variable {Pr : Program} {w : World} {K : PySem.W.Frag} {mg : Str → Option Value} {base : Heap}
structure Tops (K : PySem.W.Frag) (mg : Str → Option Value) : Prop where
  d_loose : Defd K mg "loose" (defArgs s_loose) (defBody s_loose) (defScope s_loose) ["web"]
  d_of_some : Defd K mg "of_some" (defArgs s_of_some) (defBody s_of_some) (defScope s_of_some) ["sayings", "some"]
  d_is_dropped : Defd K mg "is_dropped" (defArgs s_is_dropped) (defBody s_is_dropped) (defScope s_is_dropped) ["web", "reading", "attack"]
  d_free_kernel : Defd K mg "free_kernel" (defArgs s_free_kernel) (defBody s_free_kernel) (defScope s_free_kernel) ["web"]
  d_kernel : Defd K mg "kernel" (defArgs s_kernel) (defBody s_kernel) (defScope s_kernel) ["web", "reading"]
  d_alike : Defd K mg "alike" (defArgs s_alike) (defBody s_alike) (defScope s_alike) ["one", "other", "reading"]
  d_law_deck : Defd K mg "_law_deck" (defArgs s_law_deck) (defBody s_law_deck) (defScope s_law_deck) ["_law_script"]
  d_law_draw : Defd K mg "_law_draw" (defArgs s_law_draw) (defBody s_law_draw) (defScope s_law_draw) ["_law_deck_here", "_law_below"]
  d_law_one : Defd K mg "_law_one" (defArgs s_law_one) (defBody s_law_one) (defScope s_law_one) ["_law_deck_here", "_law_items"]
  d_law_web : Defd K mg "_law_web" (defArgs s_law_web) (defBody s_law_web) (defScope s_law_web) ["_law_deck_here", "_law_most"]
  d_law_toggled : Defd K mg "_law_toggled" (defArgs s_law_toggled) (defBody s_law_toggled) (defScope s_law_toggled) ["_law_web_here", "_law_attack"]
  d_law_near : Defd K mg "_law_near" (defArgs s_law_near) (defBody s_law_near) (defScope s_law_near) ["_law_deck_here", "_law_web_here"]
  d_law_readings : Defd K mg "_law_readings" (defArgs s_law_readings) (defBody s_law_readings) (defScope s_law_readings) []
  d_law_is_out : Defd K mg "_law_is_out" (defArgs s_law_is_out) (defBody s_law_is_out) (defScope s_law_is_out) ["_law_web_here", "_law_reading", "_law_one_here", "_law_other"]
  d_law_kernel : Defd K mg "_law_kernel" (defArgs s_law_kernel) (defBody s_law_kernel) (defScope s_law_kernel) ["_law_web_here", "_law_reading"]
  d_law_sized : Defd K mg "_law_sized" (defArgs s_law_sized) (defBody s_law_sized) (defScope s_law_sized) ["_law_deck_here", "_law_size"]
  d_law_mixed_webs : Defd K mg "_law_mixed_webs" (defArgs s_law_mixed_webs) (defBody s_law_mixed_webs) (defScope s_law_mixed_webs) ["_law_deck_here", "_law_one_here", "_law_other"]
  consts : ∀ nm d, InG consts nm d → ∃ u v, mg nm = some u ∧ RelV v u ∧ Stat K v d
theorem ok_loose {k : Nat} (o : Tops K mg) (T : Top K mg base)  : CallP Pr w K mg base (k + 3) "loose" floose := by
  exact call_of (l := []) (cs := consts) o.d_loose T sc_loose rfl rfl m_loose o.consts lib_nil ⟨⟨⟨⟨trivial, trivial⟩, ⟨trivial, trivial⟩, trivial⟩, trivial⟩, trivial⟩
theorem ok_of_some {k : Nat} (o : Tops K mg) (T : Top K mg base)  : CallP Pr w K mg base (k + 3) "of_some" fof_some := by
  exact call_of (l := []) (cs := consts) o.d_of_some T sc_of_some rfl rfl m_of_some o.consts lib_nil ⟨⟨trivial, ⟨⟨⟨trivial, trivial⟩, trivial⟩, trivial⟩⟩, trivial⟩
theorem ok_is_dropped {k : Nat} (o : Tops K mg) (T : Top K mg base) (c_loose : CallP Pr w K mg base (k + 2) "loose" floose) : CallP Pr w K mg base (k + 3) "is_dropped" fis_dropped := by
  have ploose : InL (("loose", floose) :: []) "loose" floose := .head _
  exact call_of (l := ("loose", floose) :: []) (cs := consts) o.d_is_dropped T sc_is_dropped rfl rfl m_is_dropped o.consts (lib_cons c_loose (Nat.le_refl _) lib_nil) ⟨trivial, ⟨⟨ploose, ⟨trivial, trivial⟩⟩, ⟨⟨⟨trivial, trivial⟩, ⟨⟨trivial, trivial⟩, trivial⟩, trivial⟩, ⟨⟨⟨trivial, trivial⟩, ⟨⟨⟨trivial, trivial⟩, ⟨trivial, trivial⟩⟩, trivial⟩, trivial⟩, ⟨⟨⟨trivial, trivial⟩, ⟨⟨⟨trivial, trivial⟩, ⟨⟨trivial, trivial⟩, ⟨⟨trivial, ⟨trivial, trivial⟩⟩, ⟨trivial, trivial⟩⟩⟩⟩, trivial⟩, trivial⟩, ⟨⟨⟨trivial, trivial⟩, ⟨⟨trivial, trivial⟩, ⟨⟨trivial, ⟨trivial, trivial⟩⟩, ⟨trivial, trivial⟩⟩⟩⟩, trivial⟩⟩⟩⟩⟩⟩
theorem ok_free_kernel {k : Nat} (o : Tops K mg) (T : Top K mg base) (c_of_some : CallP Pr w K mg base (k + 2) "of_some" fof_some) (c_loose : CallP Pr w K mg base (k + 2) "loose" floose) : CallP Pr w K mg base (k + 3) "free_kernel" ffree_kernel := by
  have pof_some : InL (("of_some", fof_some) :: ("loose", floose) :: []) "of_some" fof_some := .head _
  have ploose : InL (("of_some", fof_some) :: ("loose", floose) :: []) "loose" floose := .tail _ (.head _)
  exact call_of (l := ("of_some", fof_some) :: ("loose", floose) :: []) (cs := consts) o.d_free_kernel T sc_free_kernel rfl rfl m_free_kernel o.consts (lib_cons c_of_some (Nat.le_refl _) (lib_cons c_loose (Nat.le_refl _) lib_nil)) ⟨⟨⟨ploose, ⟨trivial, trivial⟩⟩, ⟨trivial, trivial⟩⟩, ⟨⟨⟨⟨trivial, trivial⟩, trivial⟩, ⟨⟨⟨⟨trivial, trivial⟩, trivial⟩, ⟨trivial, trivial⟩, trivial⟩, ⟨⟨trivial, ⟨⟨trivial, trivial⟩, ⟨⟨trivial, trivial⟩, ⟨⟨trivial, ⟨trivial, trivial⟩⟩, ⟨trivial, trivial⟩⟩⟩⟩, ⟨trivial, ⟨trivial, trivial⟩⟩⟩, trivial⟩⟩⟩, ⟨⟨pof_some, ⟨⟨trivial, trivial⟩, ⟨⟨⟨⟨trivial, trivial⟩, trivial⟩, trivial⟩, trivial⟩⟩⟩, trivial⟩⟩⟩
theorem ok_kernel {k : Nat} (o : Tops K mg) (T : Top K mg base) (c_free_kernel : CallP Pr w K mg base (k + 2) "free_kernel" ffree_kernel) (c_is_dropped : CallP Pr w K mg base (k + 2) "is_dropped" fis_dropped) : CallP Pr w K mg base (k + 3) "kernel" fkernel := by
  have pfree_kernel : InL (("free_kernel", ffree_kernel) :: ("is_dropped", fis_dropped) :: []) "free_kernel" ffree_kernel := .head _
  have pis_dropped : InL (("free_kernel", ffree_kernel) :: ("is_dropped", fis_dropped) :: []) "is_dropped" fis_dropped := .tail _ (.head _)
  exact call_of (l := ("free_kernel", ffree_kernel) :: ("is_dropped", fis_dropped) :: []) (cs := consts) o.d_kernel T sc_kernel rfl rfl m_kernel o.consts (lib_cons c_free_kernel (Nat.le_refl _) (lib_cons c_is_dropped (Nat.le_refl _) lib_nil)) ⟨⟨⟨trivial, trivial⟩, ⟨⟨pfree_kernel, ⟨trivial, trivial⟩⟩, trivial⟩, trivial⟩, ⟨⟨⟨trivial, trivial⟩, ⟨⟨⟨trivial, trivial⟩, ⟨trivial, trivial⟩⟩, ⟨pis_dropped, ⟨trivial, ⟨trivial, ⟨trivial, trivial⟩⟩⟩⟩⟩, trivial⟩, ⟨⟨⟨trivial, trivial⟩, ⟨⟨trivial, trivial⟩, trivial⟩⟩, trivial⟩⟩⟩
theorem ok_alike {k : Nat} (o : Tops K mg) (T : Top K mg base) (c_kernel : CallP Pr w K mg base (k + 2) "kernel" fkernel) : CallP Pr w K mg base (k + 3) "alike" falike := by
  have pkernel : InL (("kernel", fkernel) :: []) "kernel" fkernel := .head _
  exact call_of (l := ("kernel", fkernel) :: []) (cs := consts) o.d_alike T sc_alike rfl rfl m_alike o.consts (lib_cons c_kernel (Nat.le_refl _) lib_nil) ⟨⟨⟨pkernel, ⟨trivial, ⟨trivial, trivial⟩⟩⟩, ⟨pkernel, ⟨trivial, ⟨trivial, trivial⟩⟩⟩⟩, trivial⟩
theorem ok_law_deck {k : Nat} (o : Tops K mg) (T : Top K mg base) : CallD Pr w K mg base (k + 1) := call_deck (l := 31) (by kernel_rfl) (by kernel_rfl) o.d_law_deck T
theorem ok_law_draw {k : Nat} (o : Tops K mg) (T : Top K mg base) : CallP Pr w K mg base (k + 3) "_law_draw" drawF := call_draw (c1 := 2147483269) (c2 := 48611) (c3 := 1301) (c4 := 2147483249) (c5 := 15013) (c6 := 59) (c7 := 2147483237) (c8 := 2147483179) (c9 := 4611686018427387709) o.d_law_draw T sc_law_draw rfl rfl (by decide +kernel) (by unfold Small; omega)
theorem ok_law_one {k : Nat} (o : Tops K mg) (T : Top K mg base) (c_law_draw : CallP Pr w K mg base (k + 2) "_law_draw" f_law_draw) : CallP Pr w K mg base (k + 3) "_law_one" f_law_one := by
  have p_law_draw : InL (("_law_draw", f_law_draw) :: []) "_law_draw" f_law_draw := .head _
  exact call_of (l := ("_law_draw", f_law_draw) :: []) (cs := consts) o.d_law_one T sc_law_one rfl rfl m_law_one o.consts (lib_cons c_law_draw (Nat.le_refl _) lib_nil) ⟨⟨trivial, ⟨p_law_draw, ⟨trivial, ⟨⟨trivial, trivial⟩, trivial⟩⟩⟩⟩, trivial⟩
theorem ok_law_web {k : Nat} (o : Tops K mg) (T : Top K mg base) (c_law_draw : CallP Pr w K mg base (k + 2) "_law_draw" f_law_draw) (c_law_one : CallP Pr w K mg base (k + 2) "_law_one" f_law_one) : CallP Pr w K mg base (k + 3) "_law_web" f_law_web := by
  have p_law_draw : InL (("_law_draw", f_law_draw) :: ("_law_one", f_law_one) :: []) "_law_draw" f_law_draw := .head _
  have p_law_one : InL (("_law_draw", f_law_draw) :: ("_law_one", f_law_one) :: []) "_law_one" f_law_one := .tail _ (.head _)
  exact call_of (l := ("_law_draw", f_law_draw) :: ("_law_one", f_law_one) :: []) (cs := consts) o.d_law_web T sc_law_web rfl rfl m_law_web o.consts (lib_cons c_law_draw (Nat.le_refl _) (lib_cons c_law_one (Nat.le_refl _) lib_nil)) ⟨⟨⟨p_law_draw, ⟨trivial, ⟨⟨trivial, trivial⟩, trivial⟩⟩⟩, ⟨⟨p_law_one, ⟨trivial, ⟨⟨trivial, ⟨trivial, ⟨trivial, ⟨trivial, trivial⟩⟩⟩⟩, trivial⟩⟩⟩, ⟨⟨p_law_one, ⟨trivial, ⟨⟨trivial, ⟨trivial, ⟨trivial, trivial⟩⟩⟩, trivial⟩⟩⟩, trivial⟩⟩⟩, ⟨trivial, ⟨⟨⟨trivial, trivial⟩, ⟨⟨⟨trivial, trivial⟩, ⟨⟨⟨⟨p_law_draw, ⟨trivial, ⟨⟨⟨trivial, trivial⟩, trivial, trivial⟩, trivial⟩⟩⟩, trivial⟩, ⟨⟨trivial, ⟨trivial, trivial⟩⟩, trivial⟩, trivial⟩, trivial⟩⟩, trivial⟩⟩, ⟨⟨trivial, ⟨⟨trivial, trivial⟩, trivial⟩⟩, trivial⟩⟩⟩⟩
theorem ok_law_toggled {k : Nat} (o : Tops K mg) (T : Top K mg base)  : CallP Pr w K mg base (k + 3) "_law_toggled" f_law_toggled := by
  exact call_of (l := []) (cs := consts) o.d_law_toggled T sc_law_toggled rfl rfl m_law_toggled o.consts lib_nil ⟨⟨⟨trivial, ⟨trivial, trivial⟩⟩, ⟨⟨⟨trivial, trivial⟩, ⟨⟨⟨⟨trivial, trivial⟩, ⟨trivial, trivial⟩, trivial⟩, trivial⟩, trivial⟩⟩, trivial⟩, trivial⟩, ⟨⟨⟨trivial, trivial⟩, ⟨⟨⟨⟨⟨trivial, trivial⟩, ⟨trivial, trivial⟩⟩, trivial⟩, trivial⟩, trivial⟩⟩, trivial⟩⟩
theorem ok_law_near {k : Nat} (o : Tops K mg) (T : Top K mg base) (c_law_toggled : CallP Pr w K mg base (k + 2) "_law_toggled" f_law_toggled) (c_law_draw : CallP Pr w K mg base (k + 2) "_law_draw" f_law_draw) : CallP Pr w K mg base (k + 3) "_law_near" f_law_near := by
  have p_law_toggled : InL (("_law_toggled", f_law_toggled) :: ("_law_draw", f_law_draw) :: []) "_law_toggled" f_law_toggled := .head _
  have p_law_draw : InL (("_law_toggled", f_law_toggled) :: ("_law_draw", f_law_draw) :: []) "_law_draw" f_law_draw := .tail _ (.head _)
  exact call_of (l := ("_law_toggled", f_law_toggled) :: ("_law_draw", f_law_draw) :: []) (cs := consts) o.d_law_near T sc_law_near rfl rfl m_law_near o.consts (lib_cons c_law_toggled (Nat.le_refl _) (lib_cons c_law_draw (Nat.le_refl _) lib_nil)) ⟨⟨⟨⟨trivial, trivial⟩, trivial⟩, ⟨trivial, trivial⟩, trivial⟩, ⟨⟨p_law_toggled, ⟨trivial, ⟨⟨⟨p_law_draw, ⟨trivial, ⟨⟨trivial, trivial⟩, trivial⟩⟩⟩, ⟨⟨p_law_draw, ⟨trivial, ⟨⟨trivial, trivial⟩, trivial⟩⟩⟩, trivial⟩⟩, trivial⟩⟩⟩, trivial⟩⟩
theorem ok_law_readings {k : Nat} (o : Tops K mg) (T : Top K mg base)  : CallP Pr w K mg base (k + 3) "_law_readings" f_law_readings := by
  exact call_of (l := []) (cs := consts) o.d_law_readings T sc_law_readings rfl rfl m_law_readings o.consts lib_nil ⟨⟨trivial, ⟨trivial, ⟨trivial, ⟨trivial, ⟨trivial, ⟨trivial, trivial⟩⟩⟩⟩⟩⟩, trivial⟩
theorem ok_law_is_out {k : Nat} (o : Tops K mg) (T : Top K mg base)  : CallP Pr w K mg base (k + 3) "_law_is_out" f_law_is_out := by
  exact call_of (l := []) (cs := consts) o.d_law_is_out T sc_law_is_out rfl rfl m_law_is_out o.consts lib_nil ⟨⟨⟨⟨trivial, ⟨trivial, trivial⟩⟩, ⟨trivial, trivial⟩⟩, ⟨⟨⟨trivial, ⟨trivial, trivial⟩⟩, ⟨trivial, trivial⟩⟩, ⟨⟨⟨trivial, ⟨trivial, trivial⟩⟩, ⟨trivial, trivial⟩⟩, trivial⟩⟩⟩, ⟨⟨⟨trivial, trivial⟩, ⟨trivial, trivial⟩, trivial⟩, ⟨⟨⟨trivial, trivial⟩, ⟨⟨trivial, trivial⟩, trivial⟩, trivial⟩, ⟨⟨⟨trivial, trivial⟩, ⟨⟨trivial, ⟨trivial, trivial⟩⟩, trivial⟩, trivial⟩, ⟨⟨trivial, ⟨trivial, trivial⟩⟩, trivial⟩⟩⟩⟩⟩
theorem ok_law_kernel {k : Nat} (o : Tops K mg) (T : Top K mg base) (c_law_is_out : CallP Pr w K mg base (k + 2) "_law_is_out" f_law_is_out) : CallP Pr w K mg base (k + 3) "_law_kernel" f_law_kernel := by
  have p_law_is_out : InL (("_law_is_out", f_law_is_out) :: []) "_law_is_out" f_law_is_out := .head _
  exact call_of (l := ("_law_is_out", f_law_is_out) :: []) (cs := consts) o.d_law_kernel T sc_law_kernel rfl rfl m_law_kernel o.consts (lib_cons c_law_is_out (Nat.le_refl _) lib_nil) ⟨trivial, ⟨⟨⟨⟨trivial, trivial⟩, trivial⟩, ⟨⟨⟨⟨trivial, trivial⟩, trivial⟩, ⟨⟨⟨trivial, ⟨trivial, trivial⟩⟩, ⟨trivial, trivial⟩⟩, ⟨⟨⟨⟨trivial, trivial⟩, ⟨trivial, trivial⟩⟩, ⟨⟨⟨⟨trivial, ⟨trivial, trivial⟩⟩, ⟨trivial, trivial⟩⟩, ⟨⟨trivial, ⟨trivial, trivial⟩⟩, ⟨trivial, trivial⟩⟩⟩, ⟨⟨trivial, ⟨trivial, ⟨⟨trivial, ⟨trivial, trivial⟩⟩, ⟨trivial, trivial⟩⟩⟩⟩, trivial⟩⟩, ⟨⟨⟨⟨trivial, trivial⟩, trivial⟩, ⟨⟨p_law_is_out, ⟨trivial, ⟨trivial, ⟨trivial, ⟨trivial, trivial⟩⟩⟩⟩⟩, trivial⟩, trivial⟩, trivial⟩⟩, ⟨⟨trivial, ⟨⟨trivial, ⟨trivial, trivial⟩⟩, trivial⟩, trivial⟩, trivial⟩⟩⟩⟩, trivial⟩⟩, ⟨⟨⟨trivial, trivial⟩, ⟨⟨trivial, trivial⟩, trivial⟩⟩, trivial⟩⟩⟩
theorem ok_law_sized {k : Nat} (o : Tops K mg) (T : Top K mg base) (c_law_one : CallP Pr w K mg base (k + 2) "_law_one" f_law_one) (c_law_draw : CallP Pr w K mg base (k + 2) "_law_draw" f_law_draw) : CallP Pr w K mg base (k + 3) "_law_sized" f_law_sized := by
  have p_law_one : InL (("_law_one", f_law_one) :: ("_law_draw", f_law_draw) :: []) "_law_one" f_law_one := .head _
  have p_law_draw : InL (("_law_one", f_law_one) :: ("_law_draw", f_law_draw) :: []) "_law_draw" f_law_draw := .tail _ (.head _)
  exact call_of (l := ("_law_one", f_law_one) :: ("_law_draw", f_law_draw) :: []) (cs := consts) o.d_law_sized T sc_law_sized rfl rfl m_law_sized o.consts (lib_cons c_law_one (Nat.le_refl _) (lib_cons c_law_draw (Nat.le_refl _) lib_nil)) ⟨⟨⟨p_law_one, ⟨trivial, ⟨⟨trivial, ⟨trivial, ⟨trivial, ⟨trivial, trivial⟩⟩⟩⟩, trivial⟩⟩⟩, ⟨⟨p_law_one, ⟨trivial, ⟨⟨trivial, ⟨trivial, ⟨trivial, trivial⟩⟩⟩, trivial⟩⟩⟩, trivial⟩⟩, ⟨trivial, ⟨⟨⟨trivial, trivial⟩, ⟨⟨⟨trivial, trivial⟩, ⟨⟨⟨⟨p_law_draw, ⟨trivial, ⟨⟨⟨trivial, trivial⟩, trivial, trivial⟩, trivial⟩⟩⟩, trivial⟩, ⟨⟨trivial, ⟨trivial, trivial⟩⟩, trivial⟩, trivial⟩, trivial⟩⟩, trivial⟩⟩, ⟨⟨trivial, ⟨⟨trivial, trivial⟩, trivial⟩⟩, trivial⟩⟩⟩⟩
theorem ok_law_mixed_webs {k : Nat} (o : Tops K mg) (T : Top K mg base) (c_law_draw : CallP Pr w K mg base (k + 2) "_law_draw" f_law_draw) : CallP Pr w K mg base (k + 3) "_law_mixed_webs" f_law_mixed_webs := by
  have p_law_draw : InL (("_law_draw", f_law_draw) :: []) "_law_draw" f_law_draw := .head _
  exact call_of (l := ("_law_draw", f_law_draw) :: []) (cs := consts) o.d_law_mixed_webs T sc_law_mixed_webs rfl rfl m_law_mixed_webs o.consts (lib_cons c_law_draw (Nat.le_refl _) lib_nil) ⟨⟨⟨trivial, trivial⟩, ⟨⟨⟨⟨⟨⟨trivial, trivial⟩, ⟨trivial, trivial⟩⟩, trivial⟩, ⟨⟨p_law_draw, ⟨trivial, ⟨trivial, trivial⟩⟩⟩, trivial⟩, trivial⟩, trivial⟩, trivial⟩⟩, trivial⟩
theorem ok_law_ {k : Nat} {f : Addr} {fd : FuncData} (o : Tops K mg) (T : Top K mg base) (c_law_web : CallP Pr w K mg base (k + 2) "_law_web" f_law_web) (c_law_sized : CallP Pr w K mg base (k + 2) "_law_sized" f_law_sized) (c_law_near : CallP Pr w K mg base (k + 2) "_law_near" f_law_near) (c_law_readings : CallP Pr w K mg base (k + 2) "_law_readings" f_law_readings) (c_law_mixed_webs : CallP Pr w K mg base (k + 2) "_law_mixed_webs" f_law_mixed_webs) (c_law_kernel : CallP Pr w K mg base (k + 2) "_law_kernel" f_law_kernel) (c_alike : CallP Pr w K mg base (k + 2) "alike" falike) (F : FunD K "law" "law" (defArgs s_law) (defBody s_law) (defScope s_law) [] [] f fd) (hD : CallD Pr w K mg base (k + 2)) (hrun : (runLaw 12 first_law b_law).run (fun r _ => r = .rt (.bool true)) (fun _ _ => False) 4294967296) : FnG Pr w K mg base (k + 3) f fd ["_law_script"] (spLaw K) := by
  have p_law_web : InL (("_law_web", f_law_web) :: ("_law_sized", f_law_sized) :: ("_law_near", f_law_near) :: ("_law_readings", f_law_readings) :: ("_law_mixed_webs", f_law_mixed_webs) :: ("_law_kernel", f_law_kernel) :: ("alike", falike) :: []) "_law_web" f_law_web := .head _
  have p_law_sized : InL (("_law_web", f_law_web) :: ("_law_sized", f_law_sized) :: ("_law_near", f_law_near) :: ("_law_readings", f_law_readings) :: ("_law_mixed_webs", f_law_mixed_webs) :: ("_law_kernel", f_law_kernel) :: ("alike", falike) :: []) "_law_sized" f_law_sized := .tail _ (.head _)
  have p_law_near : InL (("_law_web", f_law_web) :: ("_law_sized", f_law_sized) :: ("_law_near", f_law_near) :: ("_law_readings", f_law_readings) :: ("_law_mixed_webs", f_law_mixed_webs) :: ("_law_kernel", f_law_kernel) :: ("alike", falike) :: []) "_law_near" f_law_near := .tail _ (.tail _ (.head _))
  have p_law_readings : InL (("_law_web", f_law_web) :: ("_law_sized", f_law_sized) :: ("_law_near", f_law_near) :: ("_law_readings", f_law_readings) :: ("_law_mixed_webs", f_law_mixed_webs) :: ("_law_kernel", f_law_kernel) :: ("alike", falike) :: []) "_law_readings" f_law_readings := .tail _ (.tail _ (.tail _ (.head _)))
  have p_law_mixed_webs : InL (("_law_web", f_law_web) :: ("_law_sized", f_law_sized) :: ("_law_near", f_law_near) :: ("_law_readings", f_law_readings) :: ("_law_mixed_webs", f_law_mixed_webs) :: ("_law_kernel", f_law_kernel) :: ("alike", falike) :: []) "_law_mixed_webs" f_law_mixed_webs := .tail _ (.tail _ (.tail _ (.tail _ (.head _))))
  have p_law_kernel : InL (("_law_web", f_law_web) :: ("_law_sized", f_law_sized) :: ("_law_near", f_law_near) :: ("_law_readings", f_law_readings) :: ("_law_mixed_webs", f_law_mixed_webs) :: ("_law_kernel", f_law_kernel) :: ("alike", falike) :: []) "_law_kernel" f_law_kernel := .tail _ (.tail _ (.tail _ (.tail _ (.tail _ (.head _)))))
  have palike : InL (("_law_web", f_law_web) :: ("_law_sized", f_law_sized) :: ("_law_near", f_law_near) :: ("_law_readings", f_law_readings) :: ("_law_mixed_webs", f_law_mixed_webs) :: ("_law_kernel", f_law_kernel) :: ("alike", falike) :: []) "alike" falike := .tail _ (.tail _ (.tail _ (.tail _ (.tail _ (.tail _ (.head _))))))
  have e : defBody s_law = (defBody s_law).headD (.Pass ⟨0, 0, 0, 0⟩) :: (defBody s_law).tail := by kernel_rfl
  rw [e] at F
  exact law_of (n := 12) (fst := first_law) (b := b_law) (l := ("_law_web", f_law_web) :: ("_law_sized", f_law_sized) :: ("_law_near", f_law_near) :: ("_law_readings", f_law_readings) :: ("_law_mixed_webs", f_law_mixed_webs) :: ("_law_kernel", f_law_kernel) :: ("alike", falike) :: []) (cs := consts) F T sc_law rfl m0_law m_law o.consts (lib_cons c_law_web (Nat.le_refl _) (lib_cons c_law_sized (Nat.le_refl _) (lib_cons c_law_near (Nat.le_refl _) (lib_cons c_law_readings (Nat.le_refl _) (lib_cons c_law_mixed_webs (Nat.le_refl _) (lib_cons c_law_kernel (Nat.le_refl _) (lib_cons c_alike (Nat.le_refl _) lib_nil))))))) hD ⟨⟨⟨trivial, trivial⟩, ⟨⟨p_law_web, ⟨trivial, ⟨trivial, trivial⟩⟩⟩, ⟨⟨trivial, ⟨⟨p_law_near, ⟨trivial, ⟨trivial, trivial⟩⟩⟩, ⟨⟨p_law_near, ⟨trivial, ⟨⟨p_law_near, ⟨trivial, ⟨trivial, trivial⟩⟩⟩, trivial⟩⟩⟩, trivial⟩⟩⟩, ⟨⟨p_law_sized, ⟨trivial, ⟨⟨trivial, trivial⟩, trivial⟩⟩⟩, ⟨⟨trivial, ⟨trivial, ⟨⟨p_law_mixed_webs, ⟨trivial, ⟨trivial, ⟨trivial, trivial⟩⟩⟩⟩, trivial⟩⟩⟩, ⟨⟨⟨trivial, trivial⟩, ⟨⟨⟨trivial, ⟨trivial, trivial⟩⟩, ⟨trivial, trivial⟩⟩, ⟨⟨trivial, ⟨trivial, trivial⟩⟩, ⟨trivial, trivial⟩⟩⟩, ⟨trivial, ⟨trivial, trivial⟩⟩⟩, ⟨⟨trivial, ⟨⟨p_law_readings, trivial⟩, trivial, ⟨p_law_kernel, ⟨trivial, ⟨trivial, trivial⟩⟩⟩⟩⟩, ⟨⟨trivial, ⟨⟨⟨trivial, trivial⟩, trivial⟩, ⟨⟨trivial, ⟨trivial, trivial⟩⟩, ⟨trivial, trivial⟩⟩, ⟨trivial, ⟨trivial, trivial⟩⟩⟩⟩, ⟨⟨⟨trivial, trivial⟩, ⟨⟨⟨trivial, trivial⟩, trivial⟩, trivial⟩⟩, ⟨trivial, ⟨⟨trivial, ⟨⟨⟨p_law_readings, trivial⟩, ⟨⟨⟨p_law_kernel, ⟨trivial, ⟨trivial, trivial⟩⟩⟩, ⟨p_law_kernel, ⟨trivial, ⟨trivial, trivial⟩⟩⟩⟩, ⟨⟨⟨⟨⟨⟨palike, ⟨trivial, ⟨trivial, ⟨trivial, trivial⟩⟩⟩⟩, ⟨⟨palike, ⟨trivial, ⟨trivial, ⟨trivial, trivial⟩⟩⟩⟩, trivial⟩⟩, trivial⟩, ⟨⟨trivial, ⟨trivial, trivial⟩⟩, trivial⟩⟩, ⟨trivial, trivial⟩, trivial⟩, trivial⟩⟩⟩, trivial⟩⟩, trivial⟩⟩⟩⟩⟩⟩⟩⟩⟩⟩⟩, ⟨trivial, trivial⟩⟩ (fun i j a e h => by cases h) hrun
theorem walk {f : Addr} {fd : FuncData} (o : Tops K mg) (T : Top K mg base) (F : FunD K "law" "law" (defArgs s_law) (defBody s_law) (defScope s_law) [] [] f fd) (hrun : (runLaw 12 first_law b_law).run (fun r _ => r = .rt (.bool true)) (fun _ _ => False) 4294967296) : FnG Pr w K mg base 19 f fd ["_law_script"] (spLaw K) := by
  have c_loose : CallP Pr w K mg base 3 "loose" floose := ok_loose o T 
  have c_of_some : CallP Pr w K mg base 4 "of_some" fof_some := ok_of_some o T 
  have c_is_dropped : CallP Pr w K mg base 5 "is_dropped" fis_dropped := ok_is_dropped o T (c_loose.mono (by decide))
  have c_free_kernel : CallP Pr w K mg base 6 "free_kernel" ffree_kernel := ok_free_kernel o T (c_of_some.mono (by decide)) (c_loose.mono (by decide))
  have c_kernel : CallP Pr w K mg base 7 "kernel" fkernel := ok_kernel o T (c_free_kernel.mono (by decide)) (c_is_dropped.mono (by decide))
  have c_alike : CallP Pr w K mg base 8 "alike" falike := ok_alike o T (c_kernel.mono (by decide))
  have c_law_draw : CallP Pr w K mg base 9 "_law_draw" drawF := ok_law_draw o T
  have c_law_one : CallP Pr w K mg base 10 "_law_one" f_law_one := ok_law_one o T (c_law_draw.mono (by decide))
  have c_law_web : CallP Pr w K mg base 11 "_law_web" f_law_web := ok_law_web o T (c_law_draw.mono (by decide)) (c_law_one.mono (by decide))
  have c_law_toggled : CallP Pr w K mg base 12 "_law_toggled" f_law_toggled := ok_law_toggled o T 
  have c_law_near : CallP Pr w K mg base 13 "_law_near" f_law_near := ok_law_near o T (c_law_toggled.mono (by decide)) (c_law_draw.mono (by decide))
  have c_law_readings : CallP Pr w K mg base 14 "_law_readings" f_law_readings := ok_law_readings o T 
  have c_law_is_out : CallP Pr w K mg base 15 "_law_is_out" f_law_is_out := ok_law_is_out o T 
  have c_law_kernel : CallP Pr w K mg base 16 "_law_kernel" f_law_kernel := ok_law_kernel o T (c_law_is_out.mono (by decide))
  have c_law_sized : CallP Pr w K mg base 17 "_law_sized" f_law_sized := ok_law_sized o T (c_law_one.mono (by decide)) (c_law_draw.mono (by decide))
  have c_law_mixed_webs : CallP Pr w K mg base 18 "_law_mixed_webs" f_law_mixed_webs := ok_law_mixed_webs o T (c_law_draw.mono (by decide))
  exact ok_law_ o T (c_law_web.mono (by decide)) (c_law_sized.mono (by decide)) (c_law_near.mono (by decide)) (c_law_readings.mono (by decide)) (c_law_mixed_webs.mono (by decide)) (c_law_kernel.mono (by decide)) (c_alike.mono (by decide)) F (ok_law_deck o T) hrun
end
def D_loose : He.DefD := ⟨("loose", none), "loose", "loose", defArgs s_loose, defBody s_loose, defScope s_loose, [], []⟩
def D_of_some : He.DefD := ⟨("of_some", none), "of_some", "of_some", defArgs s_of_some, defBody s_of_some, defScope s_of_some, [], []⟩
def D_is_dropped : He.DefD := ⟨("is_dropped", none), "is_dropped", "is_dropped", defArgs s_is_dropped, defBody s_is_dropped, defScope s_is_dropped, [], []⟩
def D_free_kernel : He.DefD := ⟨("free_kernel", none), "free_kernel", "free_kernel", defArgs s_free_kernel, defBody s_free_kernel, defScope s_free_kernel, [], []⟩
def D_kernel : He.DefD := ⟨("kernel", none), "kernel", "kernel", defArgs s_kernel, defBody s_kernel, defScope s_kernel, [], []⟩
def D_alike : He.DefD := ⟨("alike", none), "alike", "alike", defArgs s_alike, defBody s_alike, defScope s_alike, [], []⟩
def D_law_deck : He.DefD := ⟨("_law_deck", none), "_law_deck", "_law_deck", defArgs s_law_deck, defBody s_law_deck, defScope s_law_deck, [], []⟩
def D_law_draw : He.DefD := ⟨("_law_draw", none), "_law_draw", "_law_draw", defArgs s_law_draw, defBody s_law_draw, defScope s_law_draw, [], []⟩
def D_law_one : He.DefD := ⟨("_law_one", none), "_law_one", "_law_one", defArgs s_law_one, defBody s_law_one, defScope s_law_one, [], []⟩
def D_law_web : He.DefD := ⟨("_law_web", none), "_law_web", "_law_web", defArgs s_law_web, defBody s_law_web, defScope s_law_web, [], []⟩
def D_law_toggled : He.DefD := ⟨("_law_toggled", none), "_law_toggled", "_law_toggled", defArgs s_law_toggled, defBody s_law_toggled, defScope s_law_toggled, [], []⟩
def D_law_near : He.DefD := ⟨("_law_near", none), "_law_near", "_law_near", defArgs s_law_near, defBody s_law_near, defScope s_law_near, [], []⟩
def D_law_readings : He.DefD := ⟨("_law_readings", none), "_law_readings", "_law_readings", defArgs s_law_readings, defBody s_law_readings, defScope s_law_readings, [], []⟩
def D_law_is_out : He.DefD := ⟨("_law_is_out", none), "_law_is_out", "_law_is_out", defArgs s_law_is_out, defBody s_law_is_out, defScope s_law_is_out, [], []⟩
def D_law_kernel : He.DefD := ⟨("_law_kernel", none), "_law_kernel", "_law_kernel", defArgs s_law_kernel, defBody s_law_kernel, defScope s_law_kernel, [], []⟩
def D_law_sized : He.DefD := ⟨("_law_sized", none), "_law_sized", "_law_sized", defArgs s_law_sized, defBody s_law_sized, defScope s_law_sized, [], []⟩
def D_law_mixed_webs : He.DefD := ⟨("_law_mixed_webs", none), "_law_mixed_webs", "_law_mixed_webs", defArgs s_law_mixed_webs, defBody s_law_mixed_webs, defScope s_law_mixed_webs, [], []⟩
def D_law : He.DefD := ⟨("law", none), "law", "law", defArgs s_law, defBody s_law, defScope s_law, [], []⟩
def fn : List He.DefD := [D_loose, D_of_some, D_is_dropped, D_free_kernel, D_kernel, D_alike, D_law_deck, D_law_draw, D_law_one, D_law_web, D_law_toggled, D_law_near, D_law_readings, D_law_is_out, D_law_kernel, D_law_sized, D_law_mixed_webs, D_law]
def xcls : List (Str × Str) := []
def xmet : List (Str × Str × Bool) := []
def fa : List He.Fa := [.glo "loose", .glo "of_some", .glo "is_dropped", .glo "free_kernel", .glo "kernel", .glo "alike", .glo "_law_deck", .glo "_law_draw", .glo "_law_one", .glo "_law_web", .glo "_law_toggled", .glo "_law_near", .glo "_law_readings", .glo "_law_is_out", .glo "_law_kernel", .glo "_law_sized", .glo "_law_mixed_webs", .glo "law"] ++ bltNames.map .free
abbrev R : PySem.W.OpenRow := PySem.W.OpenLaw.row PySem.Challenge.rw_addedattacks_k10_webs_alike
abbrev hk : PySem.W.Hook := hookF 4 fa fn consts (ckX xcls xmet)
def ob (s : PySem.W.SharedT) : AlE := obsF 4 fa fn consts (ckX xcls xmet) (HandSHeadRun.getT s)
theorem ob_eq (s : PySem.W.SharedT) : ob s = hk.obs s.abs := obsF_eq (HandSHeadRun.getT_eq s)
theorem run (w : World) : HandSHeadRun.RunEq R (PySem.W.view R.prog [20]) hk ob 4000 ["loose", "of_some", "is_dropped", "free_kernel", "kernel", "alike", "_law_deck", "_law_draw", "_law_one", "_law_web", "_law_near", "_law_toggled", "_law_readings", "_law_is_out", "_law_kernel", "_law_sized", "_law_mixed_webs"] w := by
  intro os
  kernel_rfl
theorem fact_of {K : PySem.W.Frag} (c : He.SaysD fa fn K) {f : He.Fa} (h : f ∈ fa) : f.ok K = true := by
  obtain ⟨i, hi⟩ := List.getElem?_of_mem h
  exact c.fact i hi
theorem tops_of {K : PySem.W.Frag} {h : Heap} {mg : Str → Option Value} (X : K.In h) (G : h.Ns mainGlobals mg) (c : He.SaysD fa fn K) (cc : ∀ c, c ∈ consts → constB K c = true) (ck : ckX xcls xmet K = true) : Tops K mg where
  d_loose := by
    obtain ⟨fd, F⟩ := c.def_ 0 (d := D_loose) rfl
    exact ⟨_, fd, F, He.glo_ok X G (c.fact 0 (f := .glo "loose") rfl), F.bindsN fun _ _ _ _ _ _ us hl => match us, hl with | [_], _ => rfl⟩
  d_of_some := by
    obtain ⟨fd, F⟩ := c.def_ 1 (d := D_of_some) rfl
    exact ⟨_, fd, F, He.glo_ok X G (c.fact 1 (f := .glo "of_some") rfl), F.bindsN fun _ _ _ _ _ _ us hl => match us, hl with | [_, _], _ => rfl⟩
  d_is_dropped := by
    obtain ⟨fd, F⟩ := c.def_ 2 (d := D_is_dropped) rfl
    exact ⟨_, fd, F, He.glo_ok X G (c.fact 2 (f := .glo "is_dropped") rfl), F.bindsN fun _ _ _ _ _ _ us hl => match us, hl with | [_, _, _], _ => rfl⟩
  d_free_kernel := by
    obtain ⟨fd, F⟩ := c.def_ 3 (d := D_free_kernel) rfl
    exact ⟨_, fd, F, He.glo_ok X G (c.fact 3 (f := .glo "free_kernel") rfl), F.bindsN fun _ _ _ _ _ _ us hl => match us, hl with | [_], _ => rfl⟩
  d_kernel := by
    obtain ⟨fd, F⟩ := c.def_ 4 (d := D_kernel) rfl
    exact ⟨_, fd, F, He.glo_ok X G (c.fact 4 (f := .glo "kernel") rfl), F.bindsN fun _ _ _ _ _ _ us hl => match us, hl with | [_, _], _ => rfl⟩
  d_alike := by
    obtain ⟨fd, F⟩ := c.def_ 5 (d := D_alike) rfl
    exact ⟨_, fd, F, He.glo_ok X G (c.fact 5 (f := .glo "alike") rfl), F.bindsN fun _ _ _ _ _ _ us hl => match us, hl with | [_, _, _], _ => rfl⟩
  d_law_deck := by
    obtain ⟨fd, F⟩ := c.def_ 6 (d := D_law_deck) rfl
    exact ⟨_, fd, F, He.glo_ok X G (c.fact 6 (f := .glo "_law_deck") rfl), F.bindsN fun _ _ _ _ _ _ us hl => match us, hl with | [_], _ => rfl⟩
  d_law_draw := by
    obtain ⟨fd, F⟩ := c.def_ 7 (d := D_law_draw) rfl
    exact ⟨_, fd, F, He.glo_ok X G (c.fact 7 (f := .glo "_law_draw") rfl), F.bindsN fun _ _ _ _ _ _ us hl => match us, hl with | [_, _], _ => rfl⟩
  d_law_one := by
    obtain ⟨fd, F⟩ := c.def_ 8 (d := D_law_one) rfl
    exact ⟨_, fd, F, He.glo_ok X G (c.fact 8 (f := .glo "_law_one") rfl), F.bindsN fun _ _ _ _ _ _ us hl => match us, hl with | [_, _], _ => rfl⟩
  d_law_web := by
    obtain ⟨fd, F⟩ := c.def_ 9 (d := D_law_web) rfl
    exact ⟨_, fd, F, He.glo_ok X G (c.fact 9 (f := .glo "_law_web") rfl), F.bindsN fun _ _ _ _ _ _ us hl => match us, hl with | [_, _], _ => rfl⟩
  d_law_toggled := by
    obtain ⟨fd, F⟩ := c.def_ 10 (d := D_law_toggled) rfl
    exact ⟨_, fd, F, He.glo_ok X G (c.fact 10 (f := .glo "_law_toggled") rfl), F.bindsN fun _ _ _ _ _ _ us hl => match us, hl with | [_, _], _ => rfl⟩
  d_law_near := by
    obtain ⟨fd, F⟩ := c.def_ 11 (d := D_law_near) rfl
    exact ⟨_, fd, F, He.glo_ok X G (c.fact 11 (f := .glo "_law_near") rfl), F.bindsN fun _ _ _ _ _ _ us hl => match us, hl with | [_, _], _ => rfl⟩
  d_law_readings := by
    obtain ⟨fd, F⟩ := c.def_ 12 (d := D_law_readings) rfl
    exact ⟨_, fd, F, He.glo_ok X G (c.fact 12 (f := .glo "_law_readings") rfl), F.bindsN fun _ _ _ _ _ _ us hl => match us, hl with | [], _ => rfl⟩
  d_law_is_out := by
    obtain ⟨fd, F⟩ := c.def_ 13 (d := D_law_is_out) rfl
    exact ⟨_, fd, F, He.glo_ok X G (c.fact 13 (f := .glo "_law_is_out") rfl), F.bindsN fun _ _ _ _ _ _ us hl => match us, hl with | [_, _, _, _], _ => rfl⟩
  d_law_kernel := by
    obtain ⟨fd, F⟩ := c.def_ 14 (d := D_law_kernel) rfl
    exact ⟨_, fd, F, He.glo_ok X G (c.fact 14 (f := .glo "_law_kernel") rfl), F.bindsN fun _ _ _ _ _ _ us hl => match us, hl with | [_, _], _ => rfl⟩
  d_law_sized := by
    obtain ⟨fd, F⟩ := c.def_ 15 (d := D_law_sized) rfl
    exact ⟨_, fd, F, He.glo_ok X G (c.fact 15 (f := .glo "_law_sized") rfl), F.bindsN fun _ _ _ _ _ _ us hl => match us, hl with | [_, _], _ => rfl⟩
  d_law_mixed_webs := by
    obtain ⟨fd, F⟩ := c.def_ 16 (d := D_law_mixed_webs) rfl
    exact ⟨_, fd, F, He.glo_ok X G (c.fact 16 (f := .glo "_law_mixed_webs") rfl), F.bindsN fun _ _ _ _ _ _ us hl => match us, hl with | [_, _, _], _ => rfl⟩
  consts := fun nm d h => constB_ok X G (cc _ h)
theorem free_of {K : PySem.W.Frag} {h : Heap} {mg : Str → Option Value} (X : K.In h) (G : h.Ns mainGlobals mg) (c : He.SaysD fa fn K) : ∀ b, b ∈ bltNames → mg b = none := fun b hb => He.free_ok X G (fact_of c (List.mem_append_right _ (List.mem_map_of_mem hb)))
theorem facts {P : Program} {w : World} {h : Heap} {mg : Str → Option Value} {f : Addr} (hrun : (runLaw 12 first_law b_law).run (fun r _ => r = .rt (.bool true)) (fun _ _ => False) 4294967296) (Y : hk.says w h) (G : h.Ns mainGlobals mg) (hfa : mg ("law" : Str) = some (.ref f)) :
    ∃ (K : PySem.W.Frag) (fd : FuncData), K.In h ∧ (∃ o es n, h.get? sysModules = some o ∧ o.data = .dict es n) ∧ (∀ (s : Shared) (v : Value), BindsTo s fd ⟨[v], []⟩ [("_law_script", v)]) ∧ ∀ base : Heap, K.In base → base.Ns mainGlobals mg → (∃ o, base.get? sysModules = some o) → FnG P w K mg base 19 f fd ["_law_script"] (spLaw K) := by
  obtain ⟨⟨K, X, c, cc, ck⟩, hs⟩ := Y
  obtain ⟨fd, F⟩ := c.def_ 17 (d := D_law) rfl
  have e := hfa.symm.trans (He.glo_ok X G (c.fact 17 (f := .glo "law") rfl))
  cases e
  have b := FunD.bindsA (ps := ["_law_script"]) F fun _ _ _ _ _ _ us hl => match us, hl with | [_], _ => rfl
  exact ⟨K, fd, X, hs, fun s v => b s [v] rfl, fun base _ _ hb => walk (tops_of X G c cc ck) ⟨free_of X G c, hb⟩ F hrun⟩
end Ad
namespace Ad
open PySem

/-! ### further rules -/
theorem cmp_str_eq (a b : Str) : cmpD .Eq (.str a) (.str b) = pure (a == b) := eq_str a b
theorem in_nats (k : Nat) (l : List Nat) : cmpD .In (iD k) (.tuple (l.map iD)) = pure (decide (k ∈ l)) := by
  show (M.grd _ >>= fun _ => (pure ((l.map iD).any fun z => PyData.eqv z (iD k)) : M Bool)) = _
  rw [M.grd_bind ⟨eqOk_int k, eqOk_ints l⟩, any_ints]
theorem in_natsL (k : Nat) (l : List Nat) : cmpD .In (iD k) (.list (l.map iD)) = pure (decide (k ∈ l)) := in_ints k l
theorem run_parO {i j : Nat} {e1 e2 : E} {ss : Ss} {ρ : Ev} {d : D} {xs : List D} {Q : Rz → Nat → Prop} {R : XV → Nat → Prop} {b : Nat} (h : (dE e1 ρ).ge d) (g : (dE e2 ρ).ge (.list xs)) (hq : (dSs ss ((ρ.set j (some (.list xs, true))).set i (some (d, false)))).run Q R b) : (dSs (.cons (.par [(i, false), (j, true)] (.cons e1 (.cons e2 .nil))) ss) ρ).run Q R b := by
  have e : dPar [(i, false), (j, true)] (.cons e1 (.cons e2 .nil)) ρ = dE e1 ρ >>= fun d => dE e2 ρ >>= fun x => ownD true x >>= fun xs => pure [d, xs] := rfl
  show (dPar [(i, false), (j, true)] (.cons e1 (.cons e2 .nil)) ρ >>= fun ds => (pure (.nx (setAll ρ [(i, false), (j, true)] ds)) : M Rz)).run _ R b
  rw [e]
  exact h _ R b (g _ R b hq)
theorem run_par3 {i j k : Nat} {e1 e2 e3 : E} {ss : Ss} {ρ : Ev} {d1 d2 d3 : D} {Q : Rz → Nat → Prop} {R : XV → Nat → Prop} {b : Nat} (h1 : (dE e1 ρ).ge d1) (h2 : (dE e2 ρ).ge d2) (h3 : (dE e3 ρ).ge d3) (hq : (dSs ss (((ρ.set k (some (d3, false))).set j (some (d2, false))).set i (some (d1, false)))).run Q R b) : (dSs (.cons (.par [(i, false), (j, false), (k, false)] (.cons e1 (.cons e2 (.cons e3 .nil)))) ss) ρ).run Q R b := by
  have e : dPar [(i, false), (j, false), (k, false)] (.cons e1 (.cons e2 (.cons e3 .nil))) ρ = dE e1 ρ >>= fun d => dE e2 ρ >>= fun x => dE e3 ρ >>= fun y => pure [d, x, y] := rfl
  show (dPar [(i, false), (j, false), (k, false)] (.cons e1 (.cons e2 (.cons e3 .nil))) ρ >>= fun ds => (pure (.nx (setAll ρ [(i, false), (j, false), (k, false)] ds)) : M Rz)).run _ R b
  rw [e]
  exact h1 _ R b (h2 _ R b (h3 _ R b hq))
theorem run_par2g {i j : Nat} {e1 e2 : E} {ss : Ss} {ρ : Ev} {d1 d2 : D} {Q : Rz → Nat → Prop} {R : XV → Nat → Prop} {b : Nat} (h1 : (dE e1 ρ).ge d1) (h2 : (dE e2 ρ).ge d2) (hq : (dSs ss ((ρ.set j (some (d2, false))).set i (some (d1, false)))).run Q R b) : (dSs (.cons (.par [(i, false), (j, false)] (.cons e1 (.cons e2 .nil))) ss) ρ).run Q R b := run_par2m (h1 _ R b (h2 _ R b hq))
theorem run_app {w : Nat} {e : E} {ss : Ss} {ρ : Ev} {xs : List D} {d : D} {Q : Rz → Nat → Prop} {R : XV → Nat → Prop} {b : Nat} (hw : ρ[w]? = some (some (.list xs, true))) (h : (dE e ρ).ge d) (hl : xs.length < 16777216) (hq : (dSs ss (setO ρ w (xs ++ [d]))).run Q R b) : (dSs (.cons (.app w e) ss) ρ).run Q R b := by
  have e1 : dS (.app w e) ρ = lookO ρ w >>= fun xs => dE e ρ >>= fun d => M.grd (xs.length < sizeLine) >>= fun _ => (pure (.nx (setO ρ w (xs ++ [d]))) : M Rz) := rfl
  have e2 : lookO ρ w = pure xs := by
    unfold lookO
    rw [hw]
  show (dS (.app w e) ρ).run _ R b
  rw [e1, e2]
  exact h _ R b ⟨by rw [sizeLine_eq]; exact hl, hq⟩
theorem run_ext {w : Nat} {e : E} {ss : Ss} {ρ : Ev} {xs ys : List D} {Q : Rz → Nat → Prop} {R : XV → Nat → Prop} {b : Nat} (hw : ρ[w]? = some (some (.list xs, true))) (h : (dE e ρ).ge (.list ys)) (hl : xs.length + ys.length ≤ 16777216) (hq : (dSs ss (setO ρ w (xs ++ ys))).run Q R b) : (dSs (.cons (.ext w e) ss) ρ).run Q R b := by
  have e1 : dS (.ext w e) ρ = lookO ρ w >>= fun xs => dE e ρ >>= fun d => asList d >>= fun ys => M.grd (xs.length + ys.length ≤ sizeLine) >>= fun _ => (pure (.nx (setO ρ w (xs ++ ys))) : M Rz) := rfl
  have e2 : lookO ρ w = pure xs := by
    unfold lookO
    rw [hw]
  show (dS (.ext w e) ρ).run _ R b
  rw [e1, e2]
  exact h _ R b ⟨by rw [sizeLine_eq]; exact hl, hq⟩
theorem asgT2 {i j : Nat} {e : E} {ss : Ss} {ρ : Ev} {x y : D} {Q : Rz → Nat → Prop} {R : XV → Nat → Prop} {b : Nat} (h : (dE e ρ).ge (.tuple [x, y])) (hq : (dSs ss ((ρ.set i (some (x, false))).set j (some (y, false)))).run Q R b) : (dSs (.cons (.asgT [i, j] e) ss) ρ).run Q R b := by
  have e1 : dS (.asgT [i, j] e) ρ = dE e ρ >>= fun d => bindT ρ (.t [i, j]) d >>= fun ρ' => (pure (.nx ρ') : M Rz) := rfl
  show (dS (.asgT [i, j] e) ρ).run _ R b
  rw [e1]
  refine h _ R b ?_
  show (bindT ρ (.t [i, j]) (.tuple [x, y]) >>= fun ρ' => (pure (.nx ρ') : M Rz)).run _ R b
  rw [bind_pair]
  exact hq
theorem ge_addL {ρ : Ev} {a b : E} {xs ys : List D} (h : (dE a ρ).ge (.list xs)) (g : (dE b ρ).ge (.list ys)) (hl : xs.length + ys.length ≤ 16777216) : (dE (.bin .Add a b) ρ).ge (.list (xs ++ ys)) := ge_bin h g (M.grd_bind (by rw [sizeLine_eq]; exact hl) _)
theorem ge_addT {ρ : Ev} {a b : E} {xs ys : List D} (h : (dE a ρ).ge (.tuple xs)) (g : (dE b ρ).ge (.tuple ys)) (hl : xs.length + ys.length ≤ 16777216) : (dE (.bin .Add a b) ρ).ge (.tuple (xs ++ ys)) := ge_bin h g (M.grd_bind (by rw [sizeLine_eq]; exact hl) _)
/-- all pairs below n -/
def upTo (n i : Nat) : List (Nat × Nat) := (List.range i).flatMap fun k => (List.range n).map fun j => (k, j)
def allP (n : Nat) : List (Nat × Nat) := upTo n n
theorem mem_upTo (n i : Nat) (p : Nat × Nat) : p ∈ upTo n i ↔ p.1 < i ∧ p.2 < n := by
  unfold upTo
  rw [List.mem_flatMap]
  constructor
  · rintro ⟨k, hk, hp⟩
    obtain ⟨j, hj, rfl⟩ := List.mem_map.mp hp
    exact ⟨List.mem_range.mp hk, List.mem_range.mp hj⟩
  · intro ⟨h1, h2⟩
    exact ⟨p.1, List.mem_range.mpr h1, List.mem_map.mpr ⟨p.2, List.mem_range.mpr h2, rfl⟩⟩
theorem upTo_succ (n i : Nat) : upTo n (i + 1) = upTo n i ++ (List.range n).map fun j => (i, j) := by
  unfold upTo
  rw [List.range_succ, List.flatMap_append]
  simp
theorem srt_upTo (n : Nat) : ∀ i, Srt (upTo n i)
  | 0 => List.Pairwise.nil
  | i + 1 => by
    rw [upTo_succ]
    refine List.pairwise_append.mpr ⟨srt_upTo n i, ?_, fun p hp q hq => ?_⟩
    · rw [List.pairwise_map]
      exact List.pairwise_lt_range.imp fun h => Or.inr ⟨rfl, h⟩
    · obtain ⟨j, _, rfl⟩ := List.mem_map.mp hq
      exact Or.inl ((mem_upTo n i p).mp hp).1
theorem mem_allP (n : Nat) (p : Nat × Nat) : p ∈ allP n ↔ p.1 < n ∧ p.2 < n := mem_upTo n n p
theorem len_upTo (n i : Nat) : (upTo n i).length = i * n := by
  unfold upTo
  rw [List.length_flatMap]
  simp only [List.length_map, List.length_range, List.map_const', List.sum_replicate_nat]
end Ad
namespace Ad
open PySem

def mx (n m : Nat) : Nat := if n < m then m else n
theorem max_eq (n m : Nat) : biD .max2 [.int n, .int m] = pure (.int (mx n m)) := by
  show (pure (.int (if (m : Int) > n then (m : Int) else n)) : M D) = _
  unfold mx
  by_cases h : n < m
  · rw [if_pos h, if_pos (by omega)]
  · rw [if_neg h, if_neg (by omega)]
/-! ### tests that draw -/
theorem run_andr {x y : E} {ρ : Ev} {Q : D → Nat → Prop} {R : XV → Nat → Prop} {b : Nat} (h : (dE x ρ).run (fun d b => ∃ t, d = .bool t ∧ (t = false → Q (.bool false) b) ∧ (t = true → (dE y ρ).run (fun e b => ∃ u, e = .bool u ∧ Q (.bool u) b) R b)) R b) : (dE (.and x y) ρ).run Q R b := by
  have e : dE (.and x y) ρ = dE x ρ >>= fun d => asBool d >>= fun c => if c then (dE y ρ >>= fun e => asBool e >>= fun u => (pure (.bool u) : M D)) else pure (.bool false) := rfl
  rw [e]
  refine (dE x ρ).mono (fun d b' q => ?_) (fun _ _ z => z) h
  obtain ⟨t, rfl, q1, q2⟩ := q
  cases t with
  | false => exact q1 rfl
  | true =>
    refine (dE y ρ).mono (fun e b2 q => ?_) (fun _ _ z => z) (q2 rfl)
    obtain ⟨u, rfl, q⟩ := q
    exact q
theorem run_orr {x y : E} {ρ : Ev} {Q : D → Nat → Prop} {R : XV → Nat → Prop} {b : Nat} (h : (dE x ρ).run (fun d b => ∃ t, d = .bool t ∧ (t = true → Q (.bool true) b) ∧ (t = false → (dE y ρ).run (fun e b => ∃ u, e = .bool u ∧ Q (.bool u) b) R b)) R b) : (dE (.or x y) ρ).run Q R b := by
  have e : dE (.or x y) ρ = dE x ρ >>= fun d => asBool d >>= fun c => if c then (pure (.bool true) : M D) else (dE y ρ >>= fun e => asBool e >>= fun u => pure (.bool u)) := rfl
  rw [e]
  refine (dE x ρ).mono (fun d b' q => ?_) (fun _ _ z => z) h
  obtain ⟨t, rfl, q1, q2⟩ := q
  cases t with
  | true => exact q1 rfl
  | false =>
    refine (dE y ρ).mono (fun e b2 q => ?_) (fun _ _ z => z) (q2 rfl)
    obtain ⟨u, rfl, q⟩ := q
    exact q
theorem run_ifer {c x y : E} {ρ : Ev} {t : Bool} {Q : D → Nat → Prop} {R : XV → Nat → Prop} {b : Nat} (h : (dE c ρ).ge (.bool t)) (hq : (dE (if t then x else y) ρ).run Q R b) : (dE (.ife c x y) ρ).run Q R b := h _ R b (by
  show (if t then dE x ρ else dE y ρ).run Q R b
  cases t with
  | true => exact hq
  | false => exact hq)
theorem run_iter {c : E} {x y ss : Ss} {ρ : Ev} {Q : Rz → Nat → Prop} {R : XV → Nat → Prop} {b : Nat} (h : (dE c ρ).run (fun d b => ∃ t, d = .bool t ∧ (dSs (if t then x else y) ρ).run (fun r b => (Rz.sq (fun ρ => dSs ss ρ) r).run Q R b) R b) R b) : (dSs (.cons (.ite c x y) ss) ρ).run Q R b := by
  have e : dS (.ite c x y) ρ = dE c ρ >>= fun d => asBool d >>= fun t => if t then dSs x ρ else dSs y ρ := rfl
  show (dS (.ite c x y) ρ).run (fun r b => (Rz.sq (fun ρ => dSs ss ρ) r).run Q R b) R b
  rw [e]
  refine (dE c ρ).mono (fun d b' q => ?_) (fun _ _ z => z) h
  obtain ⟨t, rfl, q⟩ := q
  cases t with
  | true => exact q
  | false => exact q
/-- a number drawn is 0 -/
theorem run_draw0 {nm : Str} {e : E} {ρ : Ev} {m b : Nat} {Q : D → Nat → Prop} {R : XV → Nat → Prop} (h0 : ρ[0]? = some (some (deckD, false))) (h : (dE e ρ).ge (.int m)) (hm : 0 < m ∧ m ≤ 1000) (hb : 0 < b) (hq : ∀ t, Q (.bool t) (b - 1)) : (dE (.cmp .Eq (.call nm drawF (.cons (.v 0) (.cons e .nil))) (.k (.int 0))) ρ).run Q R b := by
  have e1 : dE (.cmp .Eq (.call nm drawF (.cons (.v 0) (.cons e .nil))) (.k (.int 0))) ρ = (dEs (.cons (.v 0) (.cons e .nil)) ρ >>= fun ds => drawF ds) >>= fun x => eqD x (.int 0) >>= fun r => (pure (.bool r) : M D) := rfl
  rw [e1]
  refine ge_cons (ge_v h0) (ge_cons h ge_nil) _ R b ?_
  refine draw_run hm.1 (by omega) hb fun k _ => ?_
  show (eqD (.int k) (.int 0) >>= fun r => (pure (.bool r) : M D)).run Q R (b - 1)
  rw [eq_int]
  exact hq _
theorem run_draw0' {nm : Str} {i : Nat} {e : E} {ρ : Ev} {m b : Nat} {Q : D → Nat → Prop} {R : XV → Nat → Prop} (h0 : ρ[i]? = some (some (deckD, false))) (h : (dE e ρ).ge (.int m)) (hm : 0 < m ∧ m ≤ 1000) (hb : 0 < b) (hq : ∀ t, Q (.bool t) (b - 1)) : (dE (.cmp .Eq (.call nm drawF (.cons (.v i) (.cons e .nil))) (.k (.int 0))) ρ).run Q R b := by
  have e1 : dE (.cmp .Eq (.call nm drawF (.cons (.v i) (.cons e .nil))) (.k (.int 0))) ρ = (dEs (.cons (.v i) (.cons e .nil)) ρ >>= fun ds => drawF ds) >>= fun x => eqD x (.int 0) >>= fun r => (pure (.bool r) : M D) := rfl
  rw [e1]
  refine ge_cons (ge_v h0) (ge_cons h ge_nil) _ R b ?_
  refine draw_run hm.1 (by omega) hb fun k _ => ?_
  show (eqD (.int k) (.int 0) >>= fun r => (pure (.bool r) : M D)).run Q R (b - 1)
  rw [eq_int]
  exact hq _
theorem bind_trip {ρ : Ev} {i j k : Nat} {x y z : D} : bindT ρ (.t [i, j, k]) (.list [x, y, z]) = pure (((ρ.set i (some (x, false))).set j (some (y, false))).set k (some (z, false))) := M.grd_bind (show ([x, y, z] : List D).length = [i, j, k].length from rfl) _
def o2 (o : Option D) : Option (D × Bool) := o.map fun d => (d, false)
/-- a web in order -/
structure Web (n : Nat) (a : List (Nat × Nat)) : Prop where
  i : InW n a
  s : Srt a
theorem Web.len {n : Nat} {a : List (Nat × Nat)} (h : Web n a) (hn : n ≤ 17) : a.length ≤ 305 := srt_len hn h.s h.i
theorem Web.of {n : Nat} {c : List (Nat × Nat)} (h : ∀ p, p ∈ c → p.1 < n ∧ p.2 < n) : Web n (sortP c) := ⟨fun p hp => h p ((mem_sortP c p).mp hp), srt_sortP c⟩
theorem Web.shw {n : Nat} {a : List (Nat × Nat)} (h : Web n a) (hn : n ≤ 17) : Shw (webD n a) 3 50000 := web_shw hn (Nat.le_trans (h.len hn) (by decide)) h.i
theorem eqv_pairs : ∀ a b : List (Nat × Nat), PyData.eqvAll (a.map pairD) (b.map pairD) = decide (a = b)
  | [], [] => rfl
  | [], _ :: _ => rfl
  | _ :: _, [] => rfl
  | p :: a, q :: b => by
    show (PyData.eqv (pairD p) (pairD q) && PyData.eqvAll (a.map pairD) (b.map pairD)) = _
    rw [eqv_pairs a b, eqv_pair]
    by_cases h : p = q
    · subst h
      simp
    · simp [h]
theorem eqOk_web (n : Nat) (a : List (Nat × Nat)) : eqOk (webD n a) := by
  have h := pairs_plain a
  refine ⟨?_, ?_⟩
  · show (true && (PyData.plainAll (a.map pairD) && true)) = true
    rw [h.1]
    rfl
  · show max 0 (max (PyData.depthAll (a.map pairD) + 1) 0) + 1 ≤ 64
    have := h.2
    omega
theorem web_eqD (n : Nat) (a b : List (Nat × Nat)) : eqD (webD n a) (webD n b) = pure (decide (a = b)) := by
  show (M.grd _ >>= fun _ => (pure (PyData.eqv (webD n a) (webD n b)) : M Bool)) = _
  rw [M.grd_bind (.inl ⟨eqOk_web n a, eqOk_web n b⟩)]
  have e : PyData.eqv (webD n a) (webD n b) = (PyData.eqv (.int n) (.int n) && (PyData.eqvAll (a.map pairD) (b.map pairD) && true)) := rfl
  rw [e, eqv_pairs, eqv_int]
  simp
theorem web_eq (n : Nat) (a b : List (Nat × Nat)) : cmpD .Eq (webD n a) (webD n b) = pure (decide (a = b)) := web_eqD n a b
theorem web_ne (n : Nat) (a b : List (Nat × Nat)) : cmpD .NotEq (webD n a) (webD n b) = pure (!decide (a = b)) := by
  show (eqD (webD n a) (webD n b) >>= fun r => (pure (!r) : M Bool)) = _
  rw [web_eqD]
  rfl
theorem pair_ne (p q : Nat × Nat) : cmpD .NotEq (pairD q) (pairD p) = pure (!decide (q = p)) := by
  show ((M.grd _ >>= fun _ => (pure (PyData.eqv (pairD q) (pairD p)) : M Bool)) >>= fun r => (pure (!r) : M Bool)) = _
  rw [M.grd_bind (.inl ⟨eqOk_pair q, eqOk_pair p⟩), eqv_pair]
  rfl
theorem notin_pairs (p : Nat × Nat) (a : List (Nat × Nat)) : cmpD .NotIn (pairD p) (.tuple (a.map pairD)) = pure (!decide (p ∈ a)) := by
  show (inD (pairD p) (.tuple (a.map pairD)) >>= fun r => (pure (!r) : M Bool)) = _
  rw [show inD (pairD p) (.tuple (a.map pairD)) = pure (decide (p ∈ a)) from in_pairs p a]
  rfl
theorem sorted_geL {ρ : Ev} {e : E} {c : List (Nat × Nat)} {d : D} (hd : d = .list (c.map pairD) ∨ d = .tuple (c.map pairD)) (h : (dE e ρ).ge d) : (dE (.bi .sorted (.cons e .nil)) ρ).ge (.list ((c.mergeSort leP).map pairD)) := ge_bi (ge_cons h ge_nil) (by
  have g : biD .sorted [.list (c.map pairD)] = pure (.list ((c.mergeSort leP).map pairD)) := by
    show (M.grd (sortable (c.map pairD)) >>= fun _ => (pure (.list (sortD (c.map pairD))) : M D)) = _
    rw [M.grd_bind (pairs_ok c), sort_pairs_map]
  rcases hd with rfl | rfl
  · exact g
  · exact g)
end Ad

namespace Ad
open PySem

/-! ### webs of a given size -/
def szInnerB : Ss := .cons (.ite (.cmp .Eq (.call "_law_draw" drawF (.cons (.v 0) (.cons (.ife (.cmp .Eq (.v 3) (.v 6)) (.v 5) (.v 4)) .nil))) (.k (.int 0))) (.cons (.app 2 (.tup (.cons (.v 3) (.cons (.v 6) .nil)))) .nil) .nil) .nil
def szEv (n r s : Nat) (a : List (Nat × Nat)) (x y : Option (D × Bool)) : Ev := [some (deckD, false), some (.int n, false), some (.list (a.map pairD), true), x, some (.int r, false), some (.int s, false), y]
def szRestB : Ss := (.cons (.asgO 2 (.lst .nil)) (.cons (.for (.n 3) (.bi .range1 (.cons (.v 1) .nil)) (.cons (.for (.n 6) (.bi .range1 (.cons (.v 1) .nil)) szInnerB) .nil)) (.cons (.ret (.tup (.cons (.v 1) (.cons (.bi .tuple (.cons (.w 2) .nil)) .nil)))) .nil)))
theorem sz_pair {n r s i j b : Nat} {a : List (Nat × Nat)} {Q : Rz → Nat → Prop} {R : XV → Nat → Prop} (hr : 0 < r ∧ r < 1000) (hs : 0 < s ∧ s < 1000) (hb : 0 < b) (ha : a.length ≤ 1000)
    (hq : ∀ a', a' = a ∨ a' = a ++ [(i, j)] → Q (.nx (szEv n r s a' (some (iD i, false)) (some (iD j, false)))) (b - 1)) : (dSs szInnerB (szEv n r s a (some (iD i, false)) (some (iD j, false)))).run Q R b := by
  have fin : ∀ k : Nat, (dSs (.cons (.ite (.cmp .Eq (.k (.int k)) (.k (.int 0))) (.cons (.app 2 (.tup (.cons (.v 3) (.cons (.v 6) .nil)))) .nil) .nil) .nil) (szEv n r s a (some (iD i, false)) (some (iD j, false)))).run Q R (b - 1) := fun k => by
    show (((eqD (.int k) (.int 0) >>= fun c => (pure (.bool c) : M D)) >>= fun x => asBool x >>= fun r => if r then dSs _ _ else dSs _ _) >>= _).run Q R (b - 1)
    rw [eq_int]
    by_cases h : k = 0
    · subst h
      show ((((M.grd ((a.map pairD).length < sizeLine) >>= fun _ => (pure (Rz.nx (setO (szEv n r s a (some (iD i, false)) (some (iD j, false))) 2 (a.map pairD ++ [.tuple [iD i, iD j]]))) : M Rz))) >>= _) >>= _).run Q R (b - 1)
      rw [M.grd_bind (by rw [List.length_map, sizeLine_eq]; omega)]
      have e : setO (szEv n r s a (some (iD i, false)) (some (iD j, false))) 2 (a.map pairD ++ [.tuple [iD i, iD j]]) = szEv n r s (a ++ [(i, j)]) (some (iD i, false)) (some (iD j, false)) := by
        unfold szEv
        rw [List.map_append]
        rfl
      rw [e]
      exact hq _ (.inr rfl)
    · show ((if decide ((k : Int) = 0) = true then _ else dSs .nil _) >>= _).run Q R (b - 1)
      rw [if_neg (fun z => h (by have := of_decide_eq_true z; omega))]
      exact hq _ (.inl rfl)
  have step : ∀ q : Nat, 0 < q → q < 1000 → (drawF [deckD, .int (q : Nat)]).run (fun y b => ((((eqD y (.int 0) >>= fun c => (pure (.bool c) : M D)) >>= fun x => asBool x >>= fun r' => if r' then dSs (.cons (.app 2 (.tup (.cons (.v 3) (.cons (.v 6) .nil)))) .nil) (szEv n r s a (some (iD i, false)) (some (iD j, false))) else dSs .nil (szEv n r s a (some (iD i, false)) (some (iD j, false)))) >>= Rz.sq fun ρ => pure (.nx ρ))).run Q R b) R b := fun q h1 h2 => draw_run h1 (by omega) hb fun k _ => fin k
  show ((((((eqD (iD i) (iD j) >>= fun c => (pure (.bool c) : M D)) >>= fun x => asBool x >>= fun c => if c then (pure (.int s) : M D) else pure (.int r)) >>= fun z => (pure [deckD, z] : M (List D))) >>= fun ds => drawF ds) >>= fun y => (((eqD y (.int 0) >>= fun c => (pure (.bool c) : M D)) >>= fun x => asBool x >>= fun r' => if r' then dSs (.cons (.app 2 (.tup (.cons (.v 3) (.cons (.v 6) .nil)))) .nil) (szEv n r s a (some (iD i, false)) (some (iD j, false))) else dSs .nil (szEv n r s a (some (iD i, false)) (some (iD j, false)))) >>= Rz.sq fun ρ => pure (.nx ρ)))).run Q R b
  show (((((eqD (.int i) (.int j) >>= fun c => (pure (.bool c) : M D)) >>= fun x => asBool x >>= fun c => if c then (pure (.int s) : M D) else pure (.int r)) >>= fun z => (pure [deckD, z] : M (List D))) >>= fun ds => drawF ds) >>= _).run Q R b
  rw [eq_int, M.pb, M.pb]
  show (((if decide ((i : Int) = j) = true then (pure (.int s) : M D) else pure (.int r)) >>= fun z => drawF [deckD, z]) >>= _).run Q R b
  split
  · exact step s hs.1 hs.2
  · exact step r hr.1 hr.2
theorem sized_run {n b : Nat} {Q : D → Nat → Prop} {R : XV → Nat → Prop} (hn : n ≤ 10) (hb : 200 ≤ b) (hq : ∀ a b', InW n a → Srt a → b ≤ b' + 200 → Q (webD n a) b') : (f_law_sized [deckD, .int n]).run Q R b := by
  refine ⟨rfl, ?_⟩
  show (dSs b_law_sized [some (deckD, false), some (.int n, false), none, none, none, none, none]).run (fun r b => (Rz.out r).run Q R b) R b
  refine run_par2m ?_
  refine run_callr (ds := [deckD, .list [.int 2, .int 3, .int 5, .int 9]]) (ge_cons (ge_v rfl) (ge_cons (ge_lst (ge_cons ge_k (ge_cons ge_k (ge_cons ge_k (ge_cons ge_k ge_nil))))) ge_nil)) ?_
  refine one_run (xs := [.int 2, .int 3, .int 5, .int 9]) (by decide) (by decide) (by omega) fun x hx => ?_
  refine run_callr (ds := [deckD, .list [.int 2, .int 5, .int 9]]) (ge_cons (ge_v rfl) (ge_cons (ge_lst (ge_cons ge_k (ge_cons ge_k (ge_cons ge_k ge_nil)))) ge_nil)) ?_
  refine one_run (xs := [.int 2, .int 5, .int 9]) (by decide) (by decide) (by omega) fun y hy => ?_
  obtain ⟨r, hr, rfl⟩ : ∃ r : Nat, (0 < r ∧ r < 1000) ∧ x = .int r := by
    simp at hx
    rcases hx with rfl | rfl | rfl | rfl
    · exact ⟨2, by decide, rfl⟩
    · exact ⟨3, by decide, rfl⟩
    · exact ⟨5, by decide, rfl⟩
    · exact ⟨9, by decide, rfl⟩
  obtain ⟨s, hs, rfl⟩ : ∃ r : Nat, (0 < r ∧ r < 1000) ∧ y = .int r := by
    simp at hy
    rcases hy with rfl | rfl | rfl
    · exact ⟨2, by decide, rfl⟩
    · exact ⟨5, by decide, rfl⟩
    · exact ⟨9, by decide, rfl⟩
  show (dSs szRestB [some (deckD, false), some (.int n, false), none, none, some (.int r, false), some (.int s, false), none]).run (fun r b => (Rz.out r).run Q R b) R (b - 1 - 1)
  refine run_cons (ρ' := szEv n r s [] none none) rfl ?_
  have er : ∀ a x y, (dE (.bi .range1 (.cons (.v 1) .nil)) (szEv n r s a x y) >>= fun s => walked s).ge ((List.range n).map iD) := fun a x y => range_ge (ge_v rfl) (by omega)
  refine run_forN (I := fun i ρ b' => ∃ a x y, ρ = szEv n r s a x y ∧ (∀ p, p ∈ a → p.1 < i ∧ p.1 < n ∧ p.2 < n) ∧ (Srt a ∧ a.length ≤ i * n) ∧ b ≤ b' + 3 + i * n) (er _ _ _) ⟨[], none, none, rfl, (fun p h => absurd h List.not_mem_nil), ⟨List.Pairwise.nil, Nat.zero_le _⟩, by omega⟩ ?_ ?_
  · intro i hk1 ρ b1 ⟨a, x', y', e, hp, ⟨hs0, hl⟩, hb1⟩
    subst e
    have hin : i * n ≤ 90 := Nat.le_trans (Nat.mul_le_mul (show i ≤ 9 by omega) (show n ≤ 10 by omega)) (by decide)
    show (dSs (.cons (.for (.n 6) (.bi .range1 (.cons (.v 1) .nil)) szInnerB) .nil) (szEv n r s a (some (iD i, false)) y')).run _ R b1
    refine run_forN (I := fun j ρ b' => ∃ a' y, ρ = szEv n r s a' (some (iD i, false)) y ∧ (∀ p, p ∈ a' → ltP p (i, j) ∧ p.1 < n ∧ p.2 < n) ∧ (Srt a' ∧ a'.length ≤ i * n + j) ∧ b1 ≤ b' + j) (er _ _ _) ⟨a, y', rfl, fun p h => ⟨Or.inl (hp p h).1, (hp p h).2⟩, ⟨hs0, by omega⟩, by omega⟩ ?_ ?_
    · intro j hk2 ρ b2 ⟨a', y, e, hp', ⟨hs', hl'⟩, hb2⟩
      subst e
      show (dSs szInnerB (szEv n r s a' (some (iD i, false)) (some (iD j, false)))).run _ R b2
      refine sz_pair hr hs (by omega) (by omega) fun a'' h => ?_
      have next : ∀ p, ltP p (i, j) → ltP p (i, j + 1) := fun p h => by
        unfold ltP at *
        simp only at *
        omega
      refine ⟨a'', _, rfl, ?_, ⟨?_, ?_⟩, by omega⟩
      · rcases h with rfl | rfl
        · exact fun p h => ⟨next p (hp' p h).1, (hp' p h).2⟩
        · intro p hp
          rcases List.mem_append.mp hp with h | h
          · exact ⟨next p (hp' p h).1, (hp' p h).2⟩
          · rw [List.mem_singleton.mp h]
            exact ⟨Or.inr ⟨rfl, Nat.lt_succ_self j⟩, hk1, hk2⟩
      · rcases h with rfl | rfl
        · exact hs'
        · refine List.pairwise_append.mpr ⟨hs', List.pairwise_singleton _ _, fun p hp q hq => ?_⟩
          rw [List.mem_singleton.mp hq]
          exact (hp' p hp).1
      · rcases h with rfl | rfl
        · omega
        · rw [List.length_append]
          show a'.length + 1 ≤ _
          omega
    · intro ρ b2 ⟨a', y, e, hp', ⟨hs', hl'⟩, hb2⟩
      subst e
      have e1 : (i + 1) * n = i * n + n := Nat.succ_mul i n
      exact ⟨a', _, y, rfl, fun p h => ⟨by have := (hp' p h).1; unfold ltP at this; simp only at this; omega, (hp' p h).2⟩, ⟨hs', by omega⟩, by omega⟩
  · intro ρ b' ⟨a, x, y, e, hp, ⟨hs0, hl⟩, hb1⟩
    subst e
    have : n * n ≤ 100 := Nat.le_trans (Nat.mul_le_mul (show n ≤ 10 by omega) (show n ≤ 10 by omega)) (by decide)
    show Q (webD n a) b'
    exact hq a b' (fun p h => (hp p h).2) hs0 (by omega)
end Ad
namespace Ad
open PySem

theorem addT_eq {xs ys : List D} (h : xs.length + ys.length ≤ 16777216) : binD .Add (.tuple xs) (.tuple ys) = pure (.tuple (xs ++ ys)) := M.grd_bind (by rw [sizeLine_eq]; exact h) _
theorem of_some_ge {n : Nat} {c : List (Nat × Nat)} {d : D} (hd : d = .list (c.map pairD) ∨ d = .tuple (c.map pairD)) (hc : ∀ p, p ∈ c → p.1 < 17 ∧ p.2 < 17) : (fof_some [.int n, d]).ge (webD n (sortP c)) := by
  refine dFn_ge rfl fun Q R b q => run_ret (d := webD n (sortP c)) ?_ q
  exact ge_tup (ge_cons (ge_v rfl) (ge_cons (ge_bi (ge_cons (M.ge_bind (ge_cons (ge_v rfl) ge_nil) (sortedSet_ge hd (few_pairs (by decide) hc))) ge_nil) rfl) ge_nil))
end Ad
namespace Ad
open PySem

def looseL (a : List (Nat × Nat)) : List Nat := (a.filter fun p => decide (p.1 = p.2)).map (·.1)
theorem mem_loose (a : List (Nat × Nat)) (k : Nat) : k ∈ looseL a ↔ (k, k) ∈ a := by
  unfold looseL
  rw [List.mem_map]
  constructor
  · rintro ⟨⟨i, j⟩, hp, rfl⟩
    obtain ⟨h1, h2⟩ := List.mem_filter.mp hp
    have h2 : i = j := of_decide_eq_true h2
    subst h2
    exact h1
  · intro h
    exact ⟨(k, k), List.mem_filter.mpr ⟨h, decide_eq_true rfl⟩, rfl⟩
theorem inc_loose {a : List (Nat × Nat)} (h : Srt a) : Inc (looseL a) := by
  unfold looseL Inc
  rw [List.pairwise_map]
  refine (h.filter _).imp_of_mem fun {p q} hp hq z => ?_
  have e1 : p.1 = p.2 := of_decide_eq_true (List.mem_filter.mp hp).2
  have e2 : q.1 = q.2 := of_decide_eq_true (List.mem_filter.mp hq).2
  unfold ltP at z
  omega
theorem loose_ge {n : Nat} {a : List (Nat × Nat)} (ha : a.length ≤ 1000) : (floose [webD n a]).ge (.tuple ((looseL a).map iD)) := by
  refine dFn_ge rfl fun Q R b q => run_ret (d := .tuple ((looseL a).map iD)) ?_ q
  refine ge_bi (ge_cons (d := .list ((looseL a).map iD)) ?_ ge_nil) rfl
  have e : (looseL a).map iD = (a.filter fun p => decide (p.1 = p.2)).map fun p => iD p.1 := by
    unfold looseL
    rw [List.map_map]
    rfl
  rw [e]
  refine lc_get a pairD (fun p => decide (p.1 = p.2)) (fun p => iD p.1) (M.ge_of rfl) rfl (by omega) fun p _ => ⟨_, bind_pair, ?_, fun _ => ge_v rfl⟩
  have e2 : decide ((p.1 : Int) = p.2) = decide (p.1 = p.2) := decide_eq_decide.mpr (by omega)
  rw [← e2]
  exact ge_cmp (ge_v rfl) (ge_v rfl) (cmp_int_eq _ _)
end Ad
namespace Ad
open PySem

/-! ### kernels, plainly -/
def lp (a : List (Nat × Nat)) (i : Nat) : Bool := decide ((i, i) ∈ a)
def outP (r : Str) (a : List (Nat × Nat)) (i j : Nat) : Bool :=
  if r == ("ruling" : Str) then lp a i else if r == ("closed" : Str) then lp a i && lp a j else if r == ("least" : Str) then lp a j && (lp a i || decide ((j, i) ∈ a)) else lp a i && (lp a j || decide ((j, i) ∈ a))
def thereP (r : Str) (a : List (Nat × Nat)) (p : Nat × Nat) : Bool :=
  if r == ("free" : Str) && !decide (p.1 = p.2) then decide (p ∈ a) || (lp a p.1 || lp a p.2) || decide ((p.2, p.1) ∈ a)
  else if !decide (p.1 = p.2) && decide (p ∈ a) then !outP r a p.1 p.2 else decide (p ∈ a)
def ker (r : Str) (n : Nat) (a : List (Nat × Nat)) : List (Nat × Nat) := (allP n).filter (thereP r a)
theorem srt_ker (r : Str) (n : Nat) (a : List (Nat × Nat)) : Srt (ker r n a) := (srt_upTo n n).filter _
theorem ker_in (r : Str) (n : Nat) (a : List (Nat × Nat)) : InW n (ker r n a) := fun p hp => (mem_allP n p).mp (List.mem_filter.mp hp).1
theorem mem_ker (r : Str) (n : Nat) (a : List (Nat × Nat)) (p : Nat × Nat) : p ∈ ker r n a ↔ (p.1 < n ∧ p.2 < n) ∧ thereP r a p = true := by
  unfold ker
  rw [List.mem_filter, mem_allP]
theorem ker_loop {n : Nat} {a : List (Nat × Nat)} (ha : InW n a) (r : Str) (i : Nat) : (i, i) ∈ ker r n a ↔ (i, i) ∈ a := by
  rw [mem_ker]
  unfold thereP
  simp only [decide_true, Bool.not_true, Bool.and_false, Bool.false_and, Bool.false_eq_true, if_false, decide_eq_true_iff]
  exact ⟨fun h => h.2, fun h => ⟨ha _ h, h⟩⟩
theorem ker_lp {n : Nat} {a : List (Nat × Nat)} (ha : InW n a) (r : Str) (i : Nat) : lp (ker r n a) i = lp a i := decide_eq_decide.mpr (ker_loop ha r i)
theorem outP_mono {r : Str} {a b : List (Nat × Nat)} {i j : Nat} (h1 : ∀ k, lp b k = lp a k) (h2 : (j, i) ∈ b → (j, i) ∈ a) (h : outP r b i j = true) : outP r a i j = true := by
  unfold outP at *
  rw [h1, h1] at h
  have g : decide ((j, i) ∈ b) = true → decide ((j, i) ∈ a) = true := fun z => decide_eq_true (h2 (of_decide_eq_true z))
  revert h g
  generalize decide ((j, i) ∈ b) = x
  generalize decide ((j, i) ∈ a) = y
  generalize lp a i = u
  generalize lp a j = v
  generalize (r == ("ruling" : Str)) = c1
  generalize (r == ("closed" : Str)) = c2
  generalize (r == ("least" : Str)) = c3
  intro h g
  cases c1 <;> cases c2 <;> cases c3 <;> cases u <;> cases v <;> cases x <;> cases y <;> simp_all
/-- the kernel of a kernel -/
theorem ker_ker {n : Nat} {a : List (Nat × Nat)} (ha : InW n a) (r : Str) : ker r n (ker r n a) = ker r n a := by
  refine (srt_ker _ _ _).ext (srt_ker _ _ _) fun p => ?_
  rw [mem_ker, mem_ker]
  refine and_congr_right fun hp => ?_
  obtain ⟨i, j⟩ := p
  by_cases e : i = j
  · subst e
    unfold thereP
    simp only [decide_true, Bool.not_true, Bool.and_false, Bool.false_and, Bool.false_eq_true, if_false, decide_eq_true_iff]
    exact ker_loop ha r i
  · have sw : (j, i) ∈ ker r n a ↔ thereP r a (j, i) = true := by
      rw [mem_ker]
      exact ⟨fun h => h.2, fun h => ⟨⟨hp.2, hp.1⟩, h⟩⟩
    have st : (i, j) ∈ ker r n a ↔ thereP r a (i, j) = true := by
      rw [mem_ker]
      exact ⟨fun h => h.2, fun h => ⟨hp, h⟩⟩
    have e' : ¬ j = i := fun z => e z.symm
    cases hr : r == ("free" : Str) with
    | true =>
      have f : ∀ b : List (Nat × Nat), ∀ x y : Nat, ¬ x = y → thereP r b (x, y) = (decide ((x, y) ∈ b) || (lp b x || lp b y) || decide ((y, x) ∈ b)) := fun b x y h => by
        unfold thereP
        simp [hr, h]
      rw [f _ _ _ e, f _ _ _ e, ker_lp ha, ker_lp ha]
      rw [f _ _ _ e] at st
      rw [f _ _ _ e'] at sw
      simp only [Bool.or_eq_true, decide_eq_true_iff] at *
      rw [st, sw]
      constructor
      · rintro ((h | h) | h)
        · exact h
        · exact .inl (.inr h)
        · rcases h with (h | h) | h
          · exact .inr h
          · exact .inl (.inr h.symm)
          · exact .inl (.inl h)
      · exact fun h => .inl (.inl h)
    | false =>
      have f : ∀ b : List (Nat × Nat), thereP r b (i, j) = (decide ((i, j) ∈ b) && !outP r b i j) := fun b => by
        unfold thereP
        rw [hr]
        simp only [Bool.false_and, Bool.false_eq_true, if_false, e, decide_false, Bool.not_false, Bool.true_and, decide_eq_true_iff]
        by_cases z : (i, j) ∈ b
        · simp [z]
        · simp [z]
      rw [f, f] at *
      simp only [Bool.and_eq_true, decide_eq_true_iff, Bool.not_eq_true'] at *
      rw [st]
      refine ⟨fun h => h.1, fun h => ⟨h, ?_⟩⟩
      cases z : outP r (ker r n a) i j with
      | false => rfl
      | true =>
        have back : (j, i) ∈ ker r n a → (j, i) ∈ a := fun g => by
          have g := sw.mp g
          unfold thereP at g
          rw [hr] at g
          simp only [Bool.false_and, Bool.false_eq_true, if_false, e', decide_false, Bool.not_false, Bool.true_and, decide_eq_true_iff] at g
          by_cases y : (j, i) ∈ a
          · exact y
          · simp [y] at g
        have := outP_mono (fun k => ker_lp ha r k) back z
        rw [h.2] at this
        cases this
end Ad
namespace Ad
open PySem

/-! ### kernels, the program's -/
theorem dec_lp (a : List (Nat × Nat)) (i : Nat) : decide (i ∈ looseL a) = lp a i := decide_eq_decide.mpr (mem_loose a i)
theorem ge_own {ρ : Ev} {e f : E} {i : Nat} {a : List (Nat × Nat)} (h : (dE e ρ).ge (.int (i : Nat))) (g : (dE f ρ).ge (.tuple ((looseL a).map iD))) : (dE (.cmp .In e f) ρ).ge (.bool (lp a i)) := by
  rw [← dec_lp]
  exact ge_cmp h g (in_nats i (looseL a))
theorem ge_att {ρ : Ev} {e f g : E} {i j : Nat} {a : List (Nat × Nat)} (h1 : (dE e ρ).ge (.int (i : Nat))) (h2 : (dE f ρ).ge (.int (j : Nat))) (h3 : (dE g ρ).ge (.tuple (a.map pairD))) : (dE (.cmp .In (.tup (.cons e (.cons f .nil))) g) ρ).ge (.bool (decide ((i, j) ∈ a))) :=
  ge_cmp (ge_tup (ge_cons h1 (ge_cons h2 ge_nil))) h3 (in_pairs (i, j) a)
theorem dropped_ge {n : Nat} {a : List (Nat × Nat)} {r : Str} {p : Nat × Nat} (la : a.length ≤ 1000) : (fis_dropped [webD n a, .str r, pairD p]).ge (.bool (outP r a p.1 p.2)) := by
  refine dFn_ge rfl fun Q R b q => ?_
  refine asgT2 (x := .int p.1) (y := .int p.2) (ge_v rfl) ?_
  refine run_asg (ge_call (ge_cons (ge_v rfl) ge_nil) (loose_ge (n := n) la)) ?_
  show (dSs _ [some (webD n a, false), some (.str r, false), some (pairD p, false), some (.tuple ((looseL a).map iD), false), some (.int p.1, false), some (.int p.2, false)]).run _ R b
  have w1 : (dE (.ix (.v 0) (.k (.int 1))) [some (webD n a, false), some (.str r, false), some (pairD p, false), some (.tuple ((looseL a).map iD), false), some (.int p.1, false), some (.int p.2, false)]).ge (.tuple (a.map pairD)) := ge_ix (ge_v rfl) ge_k rfl
  have c1 : (dE (.cmp .Eq (.v 1) (.k (.str "ruling"))) [some (webD n a, false), some (.str r, false), some (pairD p, false), some (.tuple ((looseL a).map iD), false), some (.int p.1, false), some (.int p.2, false)]).ge (.bool (r == ("ruling" : Str))) := ge_cmp (ge_v rfl) ge_k (cmp_str_eq _ _)
  have c2 : (dE (.cmp .Eq (.v 1) (.k (.str "closed"))) [some (webD n a, false), some (.str r, false), some (pairD p, false), some (.tuple ((looseL a).map iD), false), some (.int p.1, false), some (.int p.2, false)]).ge (.bool (r == ("closed" : Str))) := ge_cmp (ge_v rfl) ge_k (cmp_str_eq _ _)
  have c3 : (dE (.cmp .Eq (.v 1) (.k (.str "least"))) [some (webD n a, false), some (.str r, false), some (pairD p, false), some (.tuple ((looseL a).map iD), false), some (.int p.1, false), some (.int p.2, false)]).ge (.bool (r == ("least" : Str))) := ge_cmp (ge_v rfl) ge_k (cmp_str_eq _ _)
  unfold outP at q
  cases e1 : r == ("ruling" : Str) with
  | true =>
    rw [e1] at c1 q
    exact run_ifR c1 (ge_own (ge_v rfl) (ge_v rfl)) q
  | false =>
    rw [e1] at c1 q
    refine run_ifF c1 ?_
    cases e2 : r == ("closed" : Str) with
    | true =>
      rw [e2] at c2 q
      exact run_ifR c2 (ge_and (ge_own (ge_v rfl) (ge_v rfl)) fun _ => ge_own (ge_v rfl) (ge_v rfl)) q
    | false =>
      rw [e2] at c2 q
      refine run_ifF c2 ?_
      cases e3 : r == ("least" : Str) with
      | true =>
        rw [e3] at c3 q
        exact run_ifR c3 (ge_and (ge_own (ge_v rfl) (ge_v rfl)) fun _ => ge_or (ge_own (ge_v rfl) (ge_v rfl)) fun _ => ge_att (ge_v rfl) (ge_v rfl) w1) q
      | false =>
        rw [e3] at c3 q
        refine run_ifF c3 ?_
        exact run_ret (ge_and (ge_own (ge_v rfl) (ge_v rfl)) fun _ => ge_or (ge_own (ge_v rfl) (ge_v rfl)) fun _ => ge_att (ge_v rfl) (ge_v rfl) w1) q
/-! with all that is in conflict -/
def moreP (a : List (Nat × Nat)) (p : Nat × Nat) : Bool := !decide (p.1 = p.2) && (lp a p.1 || (lp a p.2 || decide ((p.2, p.1) ∈ a)))
def fkEv (n : Nat) (a : List (Nat × Nat)) (l : List (Nat × Nat)) (x1 x4 : Option (D × Bool)) : Ev := [some (webD n a, false), x1, some (.tuple ((looseL a).map iD), false), some (.list (l.map pairD), true), x4, none]
theorem ne_int (i j : Nat) : cmpD .NotEq (iD j) (iD i) = pure (!decide (i = j)) := by
  have := cmp_int_ne (j : Int) (i : Int)
  rw [show decide ((j : Int) = (i : Int)) = decide (i = j) from decide_eq_decide.mpr (by omega)] at this
  exact this
theorem more_row (n : Nat) (a : List (Nat × Nat)) (i : Nat) : ((List.range n).filter fun j => !decide (i = j)).filter (fun j => lp a i || (lp a j || decide ((j, i) ∈ a))) = (List.range n).filter fun j => moreP a (i, j) := by
  rw [List.filter_filter]
  refine List.filter_congr fun j _ => ?_
  unfold moreP
  exact Bool.and_comm _ _
theorem free_ge {n : Nat} {a : List (Nat × Nat)} (hn : n ≤ 17) (ha : InW n a) (la : a.length ≤ 1000) : (ffree_kernel [webD n a]).ge (webD n (sortP (a ++ (allP n).filter (moreP a)))) := by
  refine dFn_ge rfl fun Q R b q => ?_
  refine run_parO (xs := []) (ge_call (ge_cons (ge_v rfl) ge_nil) (loose_ge (n := n) la)) (ge_lst ge_nil) ?_
  show (dSs _ (fkEv n a [] none none)).run _ R b
  refine run_forN (n := n) (I := fun i ρ b' => b' = b ∧ ∃ x1 x4, ρ = fkEv n a ((upTo n i).filter (moreP a)) x1 x4) (range_ge (ge_ix (ge_v rfl) ge_k rfl) (by omega)) ⟨rfl, none, none, rfl⟩ ?_ ?_
  · intro i hi ρ b' ⟨e1, x1, x4, e2⟩
    subst e1 e2
    show (dSs _ (fkEv n a ((upTo n i).filter (moreP a)) (some (iD i, false)) x4)).run _ R b'
    refine run_asg (d := .list (((List.range n).filter fun j => !decide (i = j)).map iD)) (lc_get (List.range n) iD (fun j => !decide (i = j)) iD (range_ge (ge_ix (ge_v rfl) ge_k rfl) (by omega)) rfl (by rw [List.length_range]; omega) fun j _ => ⟨_, rfl, ge_cmp (ge_v rfl) (ge_v rfl) (ne_int i j), fun _ => ge_v rfl⟩) ?_
    show (dSs _ (fkEv n a ((upTo n i).filter (moreP a)) (some (iD i, false)) (some (.list (((List.range n).filter fun j => !decide (i = j)).map iD), false)))).run _ R b'
    have len1 : ((upTo n i).filter (moreP a)).length ≤ 300 := by
      refine Nat.le_trans (List.length_filter_le _ _) ?_
      rw [len_upTo]
      exact Nat.le_trans (Nat.mul_le_mul (show i ≤ 17 by omega) hn) (by decide)
    refine run_ext (xs := ((upTo n i).filter (moreP a)).map pairD) (ys := ((((List.range n).filter fun j => !decide (i = j)).filter fun j => lp a i || (lp a j || decide ((j, i) ∈ a)))).map fun j => pairD (i, j)) rfl (lc_get ((List.range n).filter fun j => !decide (i = j)) iD _ (fun j => pairD (i, j)) (M.ge_of rfl) rfl (Nat.le_trans (List.length_filter_le _ _) (by rw [List.length_range]; omega)) fun j _ => ⟨_, rfl, ge_or (ge_own (ge_v rfl) (ge_v rfl)) fun _ => ge_or (ge_own (ge_v rfl) (ge_v rfl)) fun _ => ge_att (ge_v rfl) (ge_v rfl) (ge_ix (ge_v rfl) ge_k rfl), fun _ => ge_tup (ge_cons (ge_v rfl) (ge_cons (ge_v rfl) ge_nil))⟩) ?_ ?_
    · rw [List.length_map, List.length_map]
      have : ((((List.range n).filter fun j => !decide (i = j)).filter fun j => lp a i || (lp a j || decide ((j, i) ∈ a)))).length ≤ n := Nat.le_trans (List.length_filter_le _ _) (Nat.le_trans (List.length_filter_le _ _) (by rw [List.length_range]; exact Nat.le_refl n))
      omega
    · refine ⟨rfl, some (iD i, false), some (.list (((List.range n).filter fun j => !decide (i = j)).map iD), false), ?_⟩
      rw [more_row]
      have e : ((upTo n i).filter (moreP a)).map pairD ++ ((List.range n).filter fun j => moreP a (i, j)).map (fun j => pairD (i, j)) = ((upTo n (i + 1)).filter (moreP a)).map pairD := by
        rw [upTo_succ, List.filter_append, List.map_append, List.filter_map, List.map_map]
        rfl
      rw [e]
      rfl
  · intro ρ b' ⟨e1, x1, x4, e2⟩
    subst e1 e2
    have lm : ((upTo n n).filter (moreP a)).length ≤ 300 := by
      refine Nat.le_trans (List.length_filter_le _ _) ?_
      rw [len_upTo]
      exact Nat.le_trans (Nat.mul_le_mul hn hn) (by decide)
    refine run_ret (d := webD n (sortP (a ++ (allP n).filter (moreP a)))) (ge_call (ge_cons (ge_ix (ge_v rfl) ge_k rfl) (ge_cons (d := .list ((a ++ (allP n).filter (moreP a)).map pairD)) ?_ ge_nil)) (of_some_ge (.inl rfl) fun p hp => ?_)) q
    · rw [List.map_append]
      exact ge_addL (ge_bi (ge_cons (ge_ix (ge_v rfl) ge_k rfl) ge_nil) rfl) (ge_w rfl) (by rw [List.length_map, List.length_map]; show a.length + ((upTo n n).filter (moreP a)).length ≤ _; omega)
    · rcases List.mem_append.mp hp with h | h
      · have := ha p h
        omega
      · have := (mem_allP n p).mp (List.mem_filter.mp h).1
        omega
theorem ker_free {n : Nat} {a : List (Nat × Nat)} (ha : InW n a) {r : Str} (hr : (r == ("free" : Str)) = true) : sortP (a ++ (allP n).filter (moreP a)) = ker r n a := by
  refine sortP_eq (srt_ker r n a) fun p => ?_
  rw [mem_ker, List.mem_append, List.mem_filter, mem_allP]
  have e : thereP r a p = (decide (p ∈ a) || moreP a p) := by
    unfold thereP moreP
    rw [hr]
    by_cases z : p.1 = p.2
    · simp [z]
    · simp only [z, decide_false, Bool.not_false, Bool.and_true, Bool.true_and, if_true]
      rw [Bool.or_assoc, Bool.or_assoc]
  rw [e, Bool.or_eq_true, decide_eq_true_iff]
  constructor
  · rintro ⟨h1, h2⟩
    exact h2.imp id fun z => ⟨h1, z⟩
  · rintro (h | h)
    · exact ⟨ha p h, .inl h⟩
    · exact ⟨h.1, .inr h.2⟩
theorem kernel_ge {n : Nat} {a : List (Nat × Nat)} {r : Str} (hn : n ≤ 17) (ha : InW n a) (sa : Srt a) (la : a.length ≤ 1000) : (fkernel [webD n a, .str r]).ge (webD n (ker r n a)) := by
  refine dFn_ge rfl fun Q R b q => ?_
  have c1 : (dE (.cmp .Eq (.v 1) (.k (.str "free"))) [some (webD n a, false), some (.str r, false), none, none]).ge (.bool (r == ("free" : Str))) := ge_cmp (ge_v rfl) ge_k (cmp_str_eq _ _)
  cases hr : r == ("free" : Str) with
  | true =>
    rw [hr] at c1
    rw [← ker_free ha hr] at q
    exact run_ifR c1 (ge_call (ge_cons (ge_v rfl) ge_nil) (free_ge hn ha la)) q
  | false =>
    rw [hr] at c1
    refine run_ifF c1 ?_
    have e : ker r n a = a.filter fun p => decide (p.1 = p.2) || !outP r a p.1 p.2 := by
      refine (srt_ker r n a).ext (sa.filter _) fun p => ?_
      rw [mem_ker, List.mem_filter]
      unfold thereP
      rw [hr]
      simp only [Bool.false_and, Bool.false_eq_true, if_false]
      by_cases z : p.1 = p.2
      · simp only [z, decide_true, Bool.not_true, Bool.false_and, Bool.false_eq_true, if_false, Bool.true_or, and_true, decide_eq_true_iff]
        exact ⟨fun h => h.2, fun h => ⟨by have := ha p h; omega, h⟩⟩
      · by_cases y : p ∈ a
        · simp only [z, y, decide_false, decide_true, Bool.not_false, Bool.and_self, if_true, Bool.false_or, true_and]
          exact ⟨fun h => h.2, fun h => ⟨ha p y, h⟩⟩
        · simp [z, y]
    rw [e] at q
    refine run_asg (d := .list ((a.filter fun p => decide (p.1 = p.2) || !outP r a p.1 p.2).map pairD)) (lc_get a pairD _ pairD (M.ge_bind (ge_ix (ge_v rfl) ge_k rfl) M.ge_pure) rfl (by omega) fun p hp => ⟨_, rfl, ?_, fun _ => ge_v rfl⟩) ?_
    · have e2 : decide ((p.1 : Int) = p.2) = decide (p.1 = p.2) := decide_eq_decide.mpr (by omega)
      rw [← e2]
      exact ge_or (ge_cmp (ge_ix (ge_v rfl) ge_k rfl) (ge_ix (ge_v rfl) ge_k rfl) (cmp_int_eq _ _)) fun _ => ge_not (ge_call (ge_cons (ge_v rfl) (ge_cons (ge_v rfl) (ge_cons (ge_v rfl) ge_nil))) (dropped_ge la)) rfl
    · exact run_ret (ge_tup (ge_cons (ge_ix (ge_v rfl) ge_k rfl) (ge_cons (ge_bi (ge_cons (ge_v rfl) ge_nil) rfl) ge_nil))) q
/-! ### kernels, the law's -/
theorem law_out_ge {n : Nat} {a : List (Nat × Nat)} {r : Str} {i j : Nat} : (f_law_is_out [webD n a, .str r, .int i, .int j]).ge (.bool (outP r a i j)) := by
  refine dFn_ge rfl fun Q R b q => ?_
  refine run_par3 (ge_att (i := i) (j := i) (a := a) (ge_v rfl) (ge_v rfl) (ge_ix (ge_v rfl) ge_k rfl)) (ge_att (i := j) (j := j) (a := a) (ge_v rfl) (ge_v rfl) (ge_ix (ge_v rfl) ge_k rfl)) (ge_att (i := j) (j := i) (a := a) (ge_v rfl) (ge_v rfl) (ge_ix (ge_v rfl) ge_k rfl)) ?_
  show (dSs _ [some (webD n a, false), some (.str r, false), some (.int i, false), some (.int j, false), some (.bool (lp a i), false), some (.bool (lp a j), false), some (.bool (decide ((j, i) ∈ a)), false)]).run _ R b
  have c : ∀ z : Str, (dE (.cmp .Eq (.v 1) (.k (.str z))) [some (webD n a, false), some (.str r, false), some (.int i, false), some (.int j, false), some (.bool (lp a i), false), some (.bool (lp a j), false), some (.bool (decide ((j, i) ∈ a)), false)]).ge (.bool (r == z)) := fun z => ge_cmp (ge_v rfl) ge_k (cmp_str_eq _ _)
  have c1 := c "ruling"
  have c2 := c "closed"
  have c3 := c "least"
  unfold outP at q
  cases e1 : r == ("ruling" : Str) with
  | true =>
    rw [e1] at c1 q
    exact run_ifR c1 (ge_v rfl) q
  | false =>
    rw [e1] at c1 q
    refine run_ifF c1 ?_
    cases e2 : r == ("closed" : Str) with
    | true =>
      rw [e2] at c2 q
      exact run_ifR c2 (ge_and (ge_v rfl) fun _ => ge_v rfl) q
    | false =>
      rw [e2] at c2 q
      refine run_ifF c2 ?_
      cases e3 : r == ("least" : Str) with
      | true =>
        rw [e3] at c3 q
        exact run_ifR c3 (ge_and (ge_v rfl) fun _ => ge_or (ge_v rfl) fun _ => ge_v rfl) q
      | false =>
        rw [e3] at c3 q
        refine run_ifF c3 ?_
        exact run_ret (ge_and (ge_v rfl) fun _ => ge_or (ge_v rfl) fun _ => ge_v rfl) q
end Ad
namespace Ad
open PySem

def lkEv (n : Nat) (a : List (Nat × Nat)) (r : Str) (l : List (Nat × Nat)) (x3 x4 x5 x6 : Option (D × Bool)) : Ev := [some (webD n a, false), some (.str r, false), some (.list (l.map pairD), true), x3, x4, x5, x6]
def lkIf : S := (.ite (.and (.cmp .Eq (.v 1) (.k (.str "free"))) (.cmp .NotEq (.v 3) (.v 4))) (.cons (.asg 6 (.or (.cmp .In (.tup (.cons (.v 3) (.cons (.v 3) .nil))) (.ix (.v 0) (.k (.int 1)))) (.cmp .In (.tup (.cons (.v 4) (.cons (.v 4) .nil))) (.ix (.v 0) (.k (.int 1)))))) (.cons (.asg 5 (.or (.v 5) (.or (.v 6) (.cmp .In (.tup (.cons (.v 4) (.cons (.v 3) .nil))) (.ix (.v 0) (.k (.int 1))))))) .nil)) (.cons (.ite (.and (.cmp .NotEq (.v 3) (.v 4)) (.v 5)) (.cons (.asg 5 (.not (.call "_law_is_out" f_law_is_out (.cons (.v 0) (.cons (.v 1) (.cons (.v 3) (.cons (.v 4) .nil))))))) .nil) .nil) .nil))
def lkApp : Ss := (.cons (.ite (.v 5) (.cons (.app 2 (.tup (.cons (.v 3) (.cons (.v 4) .nil)))) .nil) .nil) .nil)
def lkInner : Ss := (.cons (.asg 5 (.cmp .In (.tup (.cons (.v 3) (.cons (.v 4) .nil))) (.ix (.v 0) (.k (.int 1))))) (.cons lkIf lkApp))
theorem ne_nat {ρ : Ev} {i j : Nat} (h3 : ρ[3]? = some (some (iD i, false))) (h4 : ρ[4]? = some (some (iD j, false))) : (dE (.cmp .NotEq (.v 3) (.v 4)) ρ).ge (.bool (!decide (i = j))) := by
  have e : decide ((i : Int) = (j : Int)) = decide (i = j) := decide_eq_decide.mpr (by omega)
  rw [← e]
  exact ge_cmp (ge_v h3) (ge_v h4) (cmp_int_ne _ _)
theorem app_run {n i j b : Nat} {a l : List (Nat × Nat)} {r : Str} {t : Bool} {x6 : Option (D × Bool)} {Q : Rz → Nat → Prop} {R : XV → Nat → Prop} (hl : l.length ≤ 1000)
    (hq : Q (.nx (lkEv n a r (l ++ [(i, j)].filter fun _ => t) (some (iD i, false)) (some (iD j, false)) (some (.bool t, false)) x6)) b) : (dSs lkApp (lkEv n a r l (some (iD i, false)) (some (iD j, false)) (some (.bool t, false)) x6)).run Q R b := by
  refine run_ite (t := t) (ge_v rfl) ?_
  cases t with
  | true =>
    refine run_app (xs := l.map pairD) (d := pairD (i, j)) rfl (ge_tup (ge_cons (ge_v rfl) (ge_cons (ge_v rfl) ge_nil))) (by rw [List.length_map]; omega) ?_
    have e : l.map pairD ++ [pairD (i, j)] = (l ++ [(i, j)].filter fun _ => true).map pairD := by
      rw [List.map_append]
      rfl
    rw [e]
    exact hq
  | false =>
    have e : l ++ [(i, j)].filter (fun _ => false) = l := List.append_nil l
    rw [e] at hq
    exact hq
theorem inner_run {n i j b : Nat} {a l : List (Nat × Nat)} {r : Str} {x5 x6 : Option (D × Bool)} {Q : Rz → Nat → Prop} {R : XV → Nat → Prop} (hl : l.length ≤ 1000)
    (hq : ∀ x5 x6, Q (.nx (lkEv n a r (l ++ [(i, j)].filter (thereP r a)) (some (iD i, false)) (some (iD j, false)) x5 x6)) b) : (dSs lkInner (lkEv n a r l (some (iD i, false)) (some (iD j, false)) x5 x6)).run Q R b := by
  have w1 : ∀ x5 x6, (dE (.ix (.v 0) (.k (.int 1))) (lkEv n a r l (some (iD i, false)) (some (iD j, false)) x5 x6)).ge (.tuple (a.map pairD)) := fun _ _ => ge_ix (ge_v rfl) ge_k rfl
  have att : ∀ x5 x6, (dE (.cmp .In (.tup (.cons (.v 3) (.cons (.v 4) .nil))) (.ix (.v 0) (.k (.int 1)))) (lkEv n a r l (some (iD i, false)) (some (iD j, false)) x5 x6)).ge (.bool (decide ((i, j) ∈ a))) := fun _ _ => ge_att (ge_v rfl) (ge_v rfl) (w1 _ _)
  have fin : ∀ t x6, t = thereP r a (i, j) → (dSs lkApp (lkEv n a r l (some (iD i, false)) (some (iD j, false)) (some (.bool t, false)) x6)).run Q R b := fun t x6 ht => app_run hl (by
    subst ht
    exact hq _ _)
  refine run_asg (att x5 x6) ?_
  show (dSs (.cons lkIf lkApp) (lkEv n a r l (some (iD i, false)) (some (iD j, false)) (some (.bool (decide ((i, j) ∈ a)), false)) x6)).run Q R b
  have c0 : (dE (.and (.cmp .Eq (.v 1) (.k (.str "free"))) (.cmp .NotEq (.v 3) (.v 4))) (lkEv n a r l (some (iD i, false)) (some (iD j, false)) (some (.bool (decide ((i, j) ∈ a)), false)) x6)).ge (.bool (r == ("free" : Str) && !decide (i = j))) := ge_and (ge_cmp (ge_v rfl) ge_k (cmp_str_eq _ _)) fun _ => ne_nat rfl rfl
  cases hf : (r == ("free" : Str) && !decide (i = j)) with
  | true =>
    rw [hf] at c0
    refine run_ite (t := true) c0 ?_
    refine run_asg (d := .bool (lp a i || lp a j)) (ge_or (ge_att (ge_v rfl) (ge_v rfl) (w1 _ _)) fun _ => ge_att (ge_v rfl) (ge_v rfl) (w1 _ _)) ?_
    show (dSs _ (lkEv n a r l (some (iD i, false)) (some (iD j, false)) (some (.bool (decide ((i, j) ∈ a)), false)) (some (.bool (lp a i || lp a j), false)))).run _ R b
    refine run_asg (d := .bool (decide ((i, j) ∈ a) || ((lp a i || lp a j) || decide ((j, i) ∈ a)))) (ge_or (ge_v rfl) fun _ => ge_or (ge_v rfl) fun _ => ge_att (ge_v rfl) (ge_v rfl) (w1 _ _)) ?_
    refine fin _ _ ?_
    unfold thereP
    rw [hf, if_pos rfl]
    exact (Bool.or_assoc _ _ _).symm
  | false =>
    rw [hf] at c0
    refine run_ite (t := false) c0 ?_
    have c1 : (dE (.and (.cmp .NotEq (.v 3) (.v 4)) (.v 5)) (lkEv n a r l (some (iD i, false)) (some (iD j, false)) (some (.bool (decide ((i, j) ∈ a)), false)) x6)).ge (.bool (!decide (i = j) && decide ((i, j) ∈ a))) := ge_and (ne_nat rfl rfl) fun _ => ge_v rfl
    cases hg : (!decide (i = j) && decide ((i, j) ∈ a)) with
    | true =>
      rw [hg] at c1
      refine run_ite (t := true) c1 ?_
      refine run_asg (d := .bool (!outP r a i j)) (ge_not (ge_call (ge_cons (ge_v rfl) (ge_cons (ge_v rfl) (ge_cons (ge_v rfl) (ge_cons (ge_v rfl) ge_nil)))) (law_out_ge (n := n) (i := i) (j := j))) rfl) ?_
      refine fin _ _ ?_
      unfold thereP
      rw [hf, if_neg (by decide), hg, if_pos rfl]
    | false =>
      rw [hg] at c1
      refine run_ite (t := false) c1 ?_
      refine fin _ _ ?_
      unfold thereP
      rw [hf, if_neg (by decide), hg, if_neg (by decide)]
theorem law_kernel_ge {n : Nat} {a : List (Nat × Nat)} {r : Str} (hn : n ≤ 17) : (f_law_kernel [webD n a, .str r]).ge (webD n (ker r n a)) := by
  refine dFn_ge rfl fun Q R b q => ?_
  refine run_asgO (xs := []) (ge_lst ge_nil) ?_
  show (dSs _ (lkEv n a r [] none none none none)).run _ R b
  have rg : ∀ l x3 x4 x5 x6, (dE (.bi .range1 (.cons (.ix (.v 0) (.k (.int 0))) .nil)) (lkEv n a r l x3 x4 x5 x6) >>= walked).ge ((List.range n).map iD) := fun _ _ _ _ _ => range_ge (ge_ix (ge_v rfl) ge_k rfl) (by omega)
  refine run_forN (n := n) (I := fun i ρ b' => b' = b ∧ ∃ x3 x4 x5 x6, ρ = lkEv n a r ((upTo n i).filter (thereP r a)) x3 x4 x5 x6) (rg _ _ _ _ _) ⟨rfl, none, none, none, none, rfl⟩ ?_ ?_
  · intro i hi ρ b' ⟨e1, x3, x4, x5, x6, e2⟩
    subst e1 e2
    have len1 : ((upTo n i).filter (thereP r a)).length ≤ 300 := by
      refine Nat.le_trans (List.length_filter_le _ _) ?_
      rw [len_upTo]
      exact Nat.le_trans (Nat.mul_le_mul (show i ≤ 17 by omega) hn) (by decide)
    show (dSs (.cons (.for (.n 4) (.bi .range1 (.cons (.ix (.v 0) (.k (.int 0))) .nil)) lkInner) .nil) (lkEv n a r ((upTo n i).filter (thereP r a)) (some (iD i, false)) x4 x5 x6)).run _ R b'
    refine run_forN (n := n) (I := fun j ρ b2 => b2 = b' ∧ ∃ x4 x5 x6, ρ = lkEv n a r ((upTo n i).filter (thereP r a) ++ ((List.range j).map fun j => (i, j)).filter (thereP r a)) (some (iD i, false)) x4 x5 x6) (rg _ _ _ _ _) ⟨rfl, x4, x5, x6, by rw [show ((List.range 0).map fun j => (i, j)).filter (thereP r a) = [] from rfl, List.append_nil]⟩ ?_ ?_
    · intro j hj ρ b2 ⟨e1, x4, x5, x6, e2⟩
      subst e1 e2
      show (dSs lkInner (lkEv n a r ((upTo n i).filter (thereP r a) ++ ((List.range j).map fun j => (i, j)).filter (thereP r a)) (some (iD i, false)) (some (iD j, false)) x5 x6)).run _ R b2
      refine inner_run ?_ fun y5 y6 => ⟨rfl, some (iD j, false), y5, y6, ?_⟩
      · rw [List.length_append]
        have := List.length_filter_le (thereP r a) ((List.range j).map fun j => (i, j))
        rw [List.length_map, List.length_range] at this
        omega
      · rw [List.range_succ, List.map_append, List.filter_append, List.append_assoc]
        rfl
    · intro ρ b2 ⟨e1, x4, x5, x6, e2⟩
      subst e1 e2
      refine ⟨rfl, some (iD i, false), x4, x5, x6, ?_⟩
      rw [upTo_succ, List.filter_append]
  · intro ρ b' ⟨e1, x3, x4, x5, x6, e2⟩
    subst e1 e2
    exact run_ret (d := webD n (ker r n a)) (ge_tup (ge_cons (ge_ix (ge_v rfl) ge_k rfl) (ge_cons (ge_bi (ge_cons (ge_w rfl) ge_nil) rfl) ge_nil))) q
end Ad
set_option maxHeartbeats 0
namespace Ad
open PySem

theorem ker_web (r : Str) (n : Nat) (a : List (Nat × Nat)) : Web n (ker r n a) := ⟨ker_in r n a, srt_ker r n a⟩
theorem alike_ge {n : Nat} {a b : List (Nat × Nat)} {r : Str} (hn : n ≤ 17) (ha : Web n a) (hb : Web n b) : (falike [webD n a, webD n b, .str r]).ge (.bool (decide (ker r n a = ker r n b))) := by
  have la := ha.len hn
  have lb := hb.len hn
  refine dFn_ge rfl fun Q R k q => run_ret (d := .bool (decide (ker r n a = ker r n b))) ?_ q
  exact ge_cmp (ge_call (ge_cons (ge_v rfl) (ge_cons (ge_v rfl) ge_nil)) (kernel_ge hn ha.i ha.s (by omega))) (ge_call (ge_cons (ge_v rfl) (ge_cons (ge_v rfl) ge_nil)) (kernel_ge hn hb.i hb.s (by omega))) (web_eq _ _ _)
/-! ### near webs -/
def tog (a : List (Nat × Nat)) (p : Nat × Nat) : List (Nat × Nat) := if p ∈ a then a.filter fun q => !decide (q = p) else (a ++ [p]).mergeSort leP
theorem tog_web {n : Nat} {a : List (Nat × Nat)} {p : Nat × Nat} (h : Web n a) (hp : p.1 < n ∧ p.2 < n) : Web n (tog a p) := by
  unfold tog
  split
  · exact ⟨fun q hq => h.i q (List.mem_filter.mp hq).1, h.s.filter _⟩
  · rename_i g
    refine ⟨fun q hq => ?_, srt_merge ?_⟩
    · rcases List.mem_append.mp ((List.mergeSort_perm _ _).mem_iff.mp hq) with z | z
      · exact h.i q z
      · rw [List.mem_singleton.mp z]
        exact hp
    · refine List.nodup_append.mpr ⟨h.s.nodup, List.nodup_cons.mpr ⟨List.not_mem_nil, List.nodup_nil⟩, fun x hx y hy e => ?_⟩
      rw [List.mem_singleton.mp hy] at e
      exact g (e ▸ hx)
theorem sorted_ge {ρ : Ev} {e : E} {c : List (Nat × Nat)} (h : (dE e ρ).ge (.tuple (c.map pairD))) : (dE (.bi .sorted (.cons e .nil)) ρ).ge (.list ((c.mergeSort leP).map pairD)) := ge_bi (ge_cons h ge_nil) (by
  show (M.grd (sortable (c.map pairD)) >>= fun _ => (pure (.list (sortD (c.map pairD))) : M D)) = _
  rw [M.grd_bind (pairs_ok c), sort_pairs_map])
theorem toggled_ge {n : Nat} {a : List (Nat × Nat)} {p : Nat × Nat} (la : a.length ≤ 1000) : (f_law_toggled [webD n a, pairD p]).ge (webD n (tog a p)) := by
  refine dFn_ge rfl fun Q R b q => ?_
  have c : (dE (.cmp .In (.v 1) (.ix (.v 0) (.k (.int 1)))) [some (webD n a, false), some (pairD p, false), none]).ge (.bool (decide (p ∈ a))) := ge_cmp (ge_v rfl) (ge_ix (ge_v rfl) ge_k rfl) (in_pairs p a)
  unfold tog at q
  by_cases h : p ∈ a
  · rw [decide_eq_true h] at c
    rw [if_pos h] at q
    refine run_ifR c (ge_tup (ge_cons (ge_ix (ge_v rfl) ge_k rfl) (ge_cons (ge_bi (ge_cons (d := .list ((a.filter fun q => !decide (q = p)).map pairD)) ?_ ge_nil) rfl) ge_nil))) q
    exact lc_get a pairD _ pairD (M.ge_bind (ge_ix (ge_v rfl) ge_k rfl) M.ge_pure) rfl (by omega) fun q _ => ⟨_, rfl, ge_cmp (ge_v rfl) (ge_v rfl) (pair_ne p q), fun _ => ge_v rfl⟩
  · rw [decide_eq_false h] at c
    rw [if_neg h] at q
    refine run_ifF c (run_ret (ge_tup (ge_cons (ge_ix (ge_v rfl) ge_k rfl) (ge_cons (ge_bi (ge_cons (d := .list (((a ++ [p]).mergeSort leP).map pairD)) ?_ ge_nil) rfl) ge_nil))) q)
    refine sorted_ge ?_
    rw [List.map_append]
    exact ge_addT (ge_ix (ge_v rfl) ge_k rfl) (ge_tup (ge_cons (ge_v rfl) ge_nil)) (by rw [List.length_map]; show a.length + 1 ≤ _; omega)
theorem near_run {n b : Nat} {a : List (Nat × Nat)} {Q : D → Nat → Prop} {R : XV → Nat → Prop} (hn : n ≤ 17) (ha : Web n a) (hb : 2 ≤ b) (hq : ∀ a' b', Web n a' → b ≤ b' + 2 → Q (webD n a') b') : (f_law_near [deckD, webD n a]).run Q R b := by
  refine ⟨rfl, ?_⟩
  show (dSs b_law_near [some (deckD, false), some (webD n a, false)]).run (fun r b => (Rz.out r).run Q R b) R b
  have la := ha.len hn
  have c : (dE (.cmp .Eq (.ix (.v 1) (.k (.int 0))) (.k (.int 0))) [some (deckD, false), some (webD n a, false)]).ge (.bool (decide ((n : Int) = 0))) := ge_cmp (ge_ix (ge_v rfl) ge_k rfl) ge_k (cmp_int_eq _ _)
  by_cases h : (n : Int) = 0
  · rw [decide_eq_true h] at c
    exact run_ifR c (ge_v rfl) (hq a b ha (by omega))
  · rw [decide_eq_false h] at c
    refine run_ifF c ?_
    show (drawF [deckD, .int n]).run (fun x b => (drawF [deckD, .int n]).run (fun y b => (f_law_toggled [webD n a, .tuple [x, y]]).run Q R b) R b) R b
    refine draw_run (by omega) (by omega) (by omega) fun i hi => ?_
    refine draw_run (by omega) (by omega) (by omega) fun j hj => ?_
    exact toggled_ge (p := (i, j)) (by omega) _ R _ (hq _ _ (tog_web ha ⟨hi, hj⟩) (by omega))
/-! ### of two webs' attacks some -/
theorem lcE_sub {α : Type} {f : D → M (Option D)} {enc : α → D} {R : XV → Nat → Prop} {c : Nat} : ∀ {xs : List α} {b : Nat} {Q : List D → Nat → Prop}, (∀ x, x ∈ xs → ∀ b (Q : Option D → Nat → Prop), c ≤ b → (∀ (t : Bool) b', b ≤ b' + c → Q (if t then some (enc x) else none) b') → (f (enc x)).run Q R b) → c * xs.length ≤ b →
    (∀ ys b', List.Sublist ys xs → b ≤ b' + c * xs.length → Q (ys.map enc) b') → (lcE f (xs.map enc)).run Q R b
  | [], b, Q, _, _, hq => hq [] b (List.Sublist.refl _) (Nat.le_add_right _ _)
  | x :: xs, b, Q, h, hb, hq => by
    have e : c * (x :: xs).length = c * xs.length + c := Nat.mul_succ c xs.length
    rw [e] at hb hq
    refine h x List.mem_cons_self b _ (by omega) fun t b1 hb1 => ?_
    refine lcE_sub (xs := xs) (fun y hy => h y (List.mem_cons_of_mem _ hy)) (by omega) fun ys b2 hys hb2 => ?_
    cases t with
    | true => exact hq (x :: ys) b2 (hys.cons_cons x) (by omega)
    | false => exact hq ys b2 (hys.cons x) (by omega)
theorem lc_sub {α : Type} {own : List Nat} {tg : Tg} {it tst elt : E} {ρ : Ev} {xs : List α} {enc : α → D} {c b : Nat} {Q : D → Nat → Prop} {R : XV → Nat → Prop} (hit : (dE it ρ >>= walked).ge (xs.map enc)) (hn : noOwn ρ own = true) (hf : xs.length ≤ 16777216)
    (h : ∀ x, x ∈ xs → ∃ ρ1, bindT (wipeE ρ own) tg (enc x) = pure ρ1 ∧ (∀ b (Q : D → Nat → Prop), c ≤ b → (∀ (t : Bool) b', b ≤ b' + c → Q (.bool t) b') → (dE tst ρ1).run Q (fun _ _ => False) b) ∧ (dE elt ρ1).ge (enc x)) (hb : c * xs.length ≤ b)
    (hq : ∀ ys b', List.Sublist ys xs → b ≤ b' + c * xs.length → Q (.list (ys.map enc)) b') :
    (dE (.lc own tg it tst elt) ρ).run Q R b := by
  have e : dE (.lc own tg it tst elt) ρ = (dE it ρ >>= walked) >>= fun xs => (do
    M.grd (noOwn ρ own = true ∧ fitsD xs)
    let ys ← M.quiet (lcE (fun d => do
      let ρ1 ← bindT (wipeE ρ own) tg d
      let t ← dE tst ρ1
      let b ← asBool t
      if b then (do let y ← dE elt ρ1; pure (some y)) else pure none) xs)
    pure (.list ys)) := rfl
  rw [e]
  refine hit _ R b ⟨⟨hn, by unfold fitsD; rw [List.length_map, sizeLine_eq]; exact hf⟩, ?_⟩
  refine lcE_sub (R := fun _ _ => False) (c := c) (fun x hx b Q h1 h2 => ?_) hb hq
  obtain ⟨ρ1, e1, e2, e3⟩ := h x hx
  rw [e1]
  refine e2 b _ h1 fun t b' hb' => ?_
  cases t with
  | true => exact e3 _ _ b' (h2 true b' hb')
  | false => exact h2 false b' hb'
theorem mixed_run {n b : Nat} {a a' : List (Nat × Nat)} {Q : D → Nat → Prop} {R : XV → Nat → Prop} (hn : n ≤ 17) (ha : Web n a) (ha' : Web n a') (hb : 305 ≤ b) (hq : ∀ a2 b', Web n a2 → b ≤ b' + 305 → Q (webD n a2) b') : (f_law_mixed_webs [deckD, webD n a, webD n a']).run Q R b := by
  refine ⟨rfl, ?_⟩
  have la := ha.len hn
  have la' := ha'.len hn
  have hall : ∀ p, p ∈ a ++ a' → p.1 < n ∧ p.2 < n := fun p hp => by
    rcases List.mem_append.mp hp with h | h
    · exact ha.i p h
    · exact ha'.i p h
  have iw : InW n (sortP (a ++ a')) := fun p hp => hall p ((mem_sortP _ p).mp hp)
  have sl := srt_len hn (srt_sortP (a ++ a')) iw
  show ((dE (.ix (.v 1) (.k (.int 0))) [some (deckD, false), some (webD n a, false), some (webD n a', false), none]).run (fun x b => (dE (.lc [3] (.n 3) (.bi .sortedSet (.cons (.bin .Add (.ix (.v 1) (.k (.int 1))) (.ix (.v 2) (.k (.int 1)))) .nil)) (.cmp .Eq (.call "_law_draw" f_law_draw (.cons (.v 0) (.cons (.k (.int 2)) .nil))) (.k (.int 0))) (.v 3)) [some (deckD, false), some (webD n a, false), some (webD n a', false), none]).run (fun y b => (biD .tuple [y]).run (fun z b => Q (.tuple [x, z]) b) R b) R b) R b)
  refine (ge_ix (ge_v rfl) ge_k rfl : (dE (.ix (.v 1) (.k (.int 0))) [some (deckD, false), some (webD n a, false), some (webD n a', false), none]).ge (.int n)) _ R b ?_
  refine lc_sub (xs := sortP (a ++ a')) (enc := pairD) (c := 1) ?_ rfl (by omega) (fun p _ => ⟨_, rfl, fun b Q h1 h2 => ?_, ge_v rfl⟩) (by omega) fun ys b' hys hb' => ?_
  · refine M.ge_bind (M.ge_bind (ge_cons (ge_addT (ge_ix (ge_v rfl) ge_k rfl) (ge_ix (ge_v rfl) ge_k rfl) (by rw [List.length_map, List.length_map]; omega)) ge_nil) (sortedSet_ge (c := a ++ a') (.inr (by rw [List.map_append])) (few_pairs hn hall))) M.ge_pure
  · show (drawF [deckD, .int (2 : Nat)]).run (fun y b => (eqD y (.int 0) >>= fun r => (pure (.bool r) : M D)).run Q _ b) _ b
    refine draw_run (by decide) (by decide) h1 fun k _ => ?_
    rw [eq_int]
    exact h2 _ _ (by omega)
  · exact hq ys b' ⟨fun p hp => iw p (hys.subset hp), (srt_sortP _).sublist hys⟩ (by omega)
end Ad
set_option maxHeartbeats 0
namespace Ad
open PySem

def readings : List Str := ["free", "answering", "closed", "full", "ruling", "least"]
theorem readings_ge : (f_law_readings []).ge (.list (readings.map PyData.str)) := dFn_ge rfl fun Q R b q => run_ret (ge_lst (ge_cons M.ge_pure (ge_cons M.ge_pure (ge_cons M.ge_pure (ge_cons M.ge_pure (ge_cons M.ge_pure (ge_cons M.ge_pure ge_nil))))))) q
abbrev tEv (x2 : Option (D × Bool)) (n : Nat) (a : List (Nat × Nat)) (x4 x5 x6 : Option (D × Bool)) (x7 x8 : Option D) (x9 : Option (D × Bool)) : Ev := [none, some (deckD, false), x2, some (webD n a, false), x4, x5, x6, o2 x7, o2 x8, x9, none, none]
abbrev websD (n : Nat) (L : List (List (Nat × Nat))) : List D := L.map (webD n)
def innerB : Ss := (.cons (.asg 9 (.cmp .Eq (.call "_law_kernel" f_law_kernel (.cons (.v 3) (.cons (.v 8) .nil))) (.call "_law_kernel" f_law_kernel (.cons (.v 7) (.cons (.v 8) .nil))))) (.cons (.ite (.cmp .NotEq (.bi .repr (.cons (.lst (.cons (.call "alike" falike (.cons (.v 3) (.cons (.v 7) (.cons (.v 8) .nil)))) (.cons (.call "alike" falike (.cons (.v 7) (.cons (.v 3) (.cons (.v 8) .nil)))) .nil))) .nil)) (.bi .repr (.cons (.lst (.cons (.v 9) (.cons (.v 9) .nil))) .nil))) (.cons (.ret (.k (.bool false))) .nil) .nil) .nil))
def loopB : Ss := (.cons (.for (.n 7) (.v 4) (.cons (.for (.n 8) (.call "_law_readings" f_law_readings .nil) innerB) .nil)) .nil)
def r8 : Ss := (.cons (.frz 4) loopB)
def r7 : Ss := (.cons (.app 4 (.tup (.cons (.ix (.v 3) (.k (.int 0))) (.cons (.bi .tuple (.cons (.bi .sortedSet (.cons (.v 6) .nil)) .nil)) .nil)))) r8)
def r6 : Ss := (.cons (.asg 6 (.bin .Add (.v 6) (.lc [11] (.n 11) (.bi .range1 (.cons (.ix (.v 3) (.k (.int 0))) .nil)) (.cmp .In (.tup (.cons (.v 11) (.cons (.v 11) .nil))) (.ix (.v 3) (.k (.int 1)))) (.tup (.cons (.v 11) (.cons (.v 11) .nil)))))) r7)
def r5 : Ss := (.cons (.asgO 4 (.bin .Add (.w 4) (.lc [8] (.n 8) (.call "_law_readings" f_law_readings .nil) (.k (.bool true)) (.call "_law_kernel" f_law_kernel (.cons (.v 3) (.cons (.v 8) .nil)))))) r6)
def r4 : Ss := (.cons (.asg 6 (.lc [10, 7] (.t [10, 7]) (.ix (.v 3) (.k (.int 1))) (.and (.cmp .NotIn (.tup (.cons (.v 10) (.cons (.v 10) .nil))) (.ix (.v 3) (.k (.int 1)))) (.cmp .NotIn (.tup (.cons (.v 7) (.cons (.v 7) .nil))) (.ix (.v 3) (.k (.int 1))))) (.tup (.cons (.v 10) (.cons (.v 7) .nil))))) r5)
def r3 : Ss := (.cons (.asgO 4 (.bin .Add (.w 4) (.lst (.cons (.v 5) (.cons (.call "_law_mixed_webs" f_law_mixed_webs (.cons (.v 1) (.cons (.v 3) (.cons (.v 5) .nil)))) .nil))))) r4)
def r2 : Ss := (.cons (.asg 5 (.call "_law_sized" f_law_sized (.cons (.v 1) (.cons (.ix (.v 3) (.k (.int 0))) .nil)))) r3)
def r1 : Ss := (.cons (.asgO 4 (.lst (.cons (.v 3) (.cons (.call "_law_near" f_law_near (.cons (.v 1) (.cons (.v 3) .nil))) (.cons (.call "_law_near" f_law_near (.cons (.v 1) (.cons (.call "_law_near" f_law_near (.cons (.v 1) (.cons (.v 3) .nil))) .nil))) .nil))))) r2)
def turnB : Ss := (.cons (.asg 3 (.call "_law_web" f_law_web (.cons (.v 1) (.cons (.k (.int 8)) .nil)))) r1)
/-- two webs looked at by one reading -/
theorem inner_run' {n b : Nat} {a c : List (Nat × Nat)} {r : Str} {x2 x4 x5 x6 x9 : Option (D × Bool)} {Q : Rz → Nat → Prop} {R : XV → Nat → Prop} (hn : n ≤ 17) (ha : Web n a) (hc : Web n c)
    (hq : ∀ x9, Q (.nx (tEv x2 n a x4 x5 x6 (some (webD n c)) (some (.str r)) x9)) b) : (dSs innerB (tEv x2 n a x4 x5 x6 (some (webD n c)) (some (.str r)) x9)).run Q R b := by
  refine run_asg (d := .bool (decide (ker r n a = ker r n c))) (ge_cmp (ge_call (ge_cons (ge_v rfl) (ge_cons (ge_v rfl) ge_nil)) (law_kernel_ge hn)) (ge_call (ge_cons (ge_v rfl) (ge_cons (ge_v rfl) ge_nil)) (law_kernel_ge hn)) (web_eq _ _ _)) ?_
  have k1 := alike_ge (r := r) hn ha hc
  have k2 := alike_ge (r := r) hn hc ha
  have e : decide (ker r n c = ker r n a) = decide (ker r n a = ker r n c) := decide_eq_decide.mpr eq_comm
  rw [e] at k2
  have s2 : Shw (.list [.bool (decide (ker r n a = ker r n c)), .bool (decide (ker r n a = ker r n c))]) 10 10000 := ⟨rfl, show max 0 (max 0 0) + 1 ≤ 10 by decide, show 5 + 2 + (5 + 2 + 0) + 4 ≤ 10000 by decide⟩
  have rr := s2.repr (by decide) (by decide)
  refine run_ifF (ge_cmp (ge_bi (ge_cons (ge_lst (ge_cons (ge_call (ge_cons (ge_v rfl) (ge_cons (ge_v rfl) (ge_cons (ge_v rfl) ge_nil))) k1) (ge_cons (ge_call (ge_cons (ge_v rfl) (ge_cons (ge_v rfl) (ge_cons (ge_v rfl) ge_nil))) k2) ge_nil))) ge_nil) rr) (ge_bi (ge_cons (ge_lst (ge_cons (ge_v rfl) (ge_cons (ge_v rfl) ge_nil))) ge_nil) rr) (ne_str _)) ?_
  exact hq _
theorem loop_run {n b : Nat} {a : List (Nat × Nat)} {L : List (List (Nat × Nat))} {x2 x5 x6 x9 : Option (D × Bool)} {x7 x8 : Option D} {Q : Rz → Nat → Prop} {R : XV → Nat → Prop} (hn : n ≤ 17) (ha : Web n a) (hL : ∀ c, c ∈ L → Web n c)
    (hq : ∀ x7 x8 x9, Q (.nx (tEv x2 n a (some (.list (websD n L), false)) x5 x6 x7 x8 x9)) b) : (dSs loopB (tEv x2 n a (some (.list (websD n L), false)) x5 x6 x7 x8 x9)).run Q R b := by
  refine run_for (xs := websD n L) (I := fun i ρ b' => b' = b ∧ ∃ x7 x8 x9, ρ = tEv x2 n a (some (.list (websD n L), false)) x5 x6 x7 x8 x9) (M.ge_of rfl) ⟨rfl, x7, x8, x9, rfl⟩ ?_ ?_
  · intro i x hx ρ b' ⟨e1, y7, y8, y9, e2⟩
    subst e1 e2
    obtain ⟨c, hc, rfl⟩ := List.mem_map.mp (List.mem_of_getElem? hx)
    have e4 : bindT (tEv x2 n a (some (.list (websD n L), false)) x5 x6 y7 y8 y9) (Tg.n 7) (webD n c) = pure (tEv x2 n a (some (.list (websD n L), false)) x5 x6 (some (webD n c)) y8 y9) := rfl
    rw [e4, M.pb]
    refine run_for (xs := readings.map PyData.str) (I := fun i ρ b2 => b2 = b' ∧ ∃ x8 x9, ρ = tEv x2 n a (some (.list (websD n L), false)) x5 x6 (some (webD n c)) x8 x9) (M.ge_bind (ge_call ge_nil readings_ge) M.ge_pure) ⟨rfl, y8, y9, rfl⟩ ?_ ?_
    · intro i' x hx ρ b2 ⟨e1, z8, z9, e2⟩
      subst e1 e2
      obtain ⟨r, _, rfl⟩ := List.mem_map.mp (List.mem_of_getElem? hx)
      have e5 : bindT (tEv x2 n a (some (.list (websD n L), false)) x5 x6 (some (webD n c)) z8 z9) (Tg.n 8) (.str r) = pure (tEv x2 n a (some (.list (websD n L), false)) x5 x6 (some (webD n c)) (some (.str r)) z9) := rfl
      rw [e5, M.pb]
      exact inner_run' hn ha (hL c hc) fun w9 => ⟨rfl, _, w9, rfl⟩
    · intro ρ b2 ⟨e1, z8, z9, e2⟩
      subst e1 e2
      exact ⟨rfl, _, z8, z9, rfl⟩
  · intro ρ b' ⟨e1, y7, y8, y9, e2⟩
    subst e1 e2
    exact hq y7 y8 y9
def freeL (a : List (Nat × Nat)) : List (Nat × Nat) := a.filter fun p => !decide ((p.1, p.1) ∈ a) && !decide ((p.2, p.2) ∈ a)
def loopL (n : Nat) (a : List (Nat × Nat)) : List (Nat × Nat) := ((List.range n).filter fun k => decide ((k, k) ∈ a)).map fun k => (k, k)
theorem rest_run {n b : Nat} {a : List (Nat × Nat)} {L : List (List (Nat × Nat))} {x2 x5 x6 x9 : Option (D × Bool)} {x7 x8 : Option D} {Q : Rz → Nat → Prop} {R : XV → Nat → Prop} (hn : n ≤ 17) (ha : Web n a) (hL : ∀ c, c ∈ L → Web n c) (lL : L.length ≤ 100)
    (hq : ∀ x4 x6 x7 x8 x9, Q (.nx (tEv x2 n a (some (.list x4, false)) x5 x6 x7 x8 x9)) b) : (dSs r4 (tEv x2 n a (some (.list (websD n L), true)) x5 x6 x7 x8 x9)).run Q R b := by
  have la := ha.len hn
  have w1 : ∀ x4 x5 x6 x7 x8 x9, (dE (.ix (.v 3) (.k (.int 1))) (tEv x2 n a x4 x5 x6 x7 x8 x9)).ge (.tuple (a.map pairD)) := fun _ _ _ _ _ _ => ge_ix (ge_v rfl) ge_k rfl
  refine run_asg (d := .list ((freeL a).map pairD)) ?_ ?_
  · refine lc_get a pairD (fun p => !decide ((p.1, p.1) ∈ a) && !decide ((p.2, p.2) ∈ a)) pairD (M.ge_bind (w1 _ _ _ _ _ _) M.ge_pure) (by cases x7 <;> rfl) (by omega) fun p _ => ⟨_, bind_pair, ?_, fun _ => ge_tup (ge_cons (ge_v rfl) (ge_cons (ge_v rfl) ge_nil))⟩
    exact ge_and (ge_cmp (ge_tup (ge_cons (ge_v rfl) (ge_cons (ge_v rfl) ge_nil))) (ge_ix (ge_v rfl) ge_k rfl) (notin_pairs (p.1, p.1) a)) fun _ => ge_cmp (ge_tup (ge_cons (ge_v rfl) (ge_cons (ge_v rfl) ge_nil))) (ge_ix (ge_v rfl) ge_k rfl) (notin_pairs (p.2, p.2) a)
  show (dSs r5 (tEv x2 n a (some (.list (websD n L), true)) x5 (some (.list ((freeL a).map pairD), false)) x7 x8 x9)).run Q R b
  have lk : (dE (.lc [8] (.n 8) (.call "_law_readings" f_law_readings .nil) (.k (.bool true)) (.call "_law_kernel" f_law_kernel (.cons (.v 3) (.cons (.v 8) .nil)))) (tEv x2 n a (some (.list (websD n L), true)) x5 (some (.list ((freeL a).map pairD), false)) x7 x8 x9)).ge (.list ((readings.filter fun _ => true).map fun r => webD n (ker r n a))) :=
    lc_get readings PyData.str (fun _ => true) (fun r => webD n (ker r n a)) (M.ge_bind (ge_call ge_nil readings_ge) M.ge_pure) (by cases x8 <;> rfl) (by decide) fun r _ => ⟨_, rfl, ge_k, fun _ => ge_call (ge_cons (ge_v rfl) (ge_cons (ge_v rfl) ge_nil)) (law_kernel_ge hn)⟩
  rw [filter_all] at lk
  have eK : (readings.map fun r => webD n (ker r n a)) = websD n (readings.map fun r => ker r n a) := by
    unfold websD
    rw [List.map_map]
    rfl
  rw [eK] at lk
  refine run_asgO (ge_addL (ge_w rfl) lk (by unfold websD; rw [List.length_map, List.length_map, List.length_map]; show L.length + 6 ≤ _; omega)) ?_
  have eL : websD n L ++ websD n (readings.map fun r => ker r n a) = websD n (L ++ readings.map fun r => ker r n a) := List.map_append.symm
  rw [eL]
  show (dSs r6 (tEv x2 n a (some (.list (websD n (L ++ readings.map fun r => ker r n a)), true)) x5 (some (.list ((freeL a).map pairD), false)) x7 x8 x9)).run Q R b
  have lo : (dE (.lc [11] (.n 11) (.bi .range1 (.cons (.ix (.v 3) (.k (.int 0))) .nil)) (.cmp .In (.tup (.cons (.v 11) (.cons (.v 11) .nil))) (.ix (.v 3) (.k (.int 1)))) (.tup (.cons (.v 11) (.cons (.v 11) .nil)))) (tEv x2 n a (some (.list (websD n (L ++ readings.map fun r => ker r n a)), true)) x5 (some (.list ((freeL a).map pairD), false)) x7 x8 x9)).ge (.list ((loopL n a).map pairD)) := by
    have e : (loopL n a).map pairD = ((List.range n).filter fun k => decide ((k, k) ∈ a)).map fun k => pairD (k, k) := by
      unfold loopL
      rw [List.map_map]
      rfl
    rw [e]
    exact lc_get (List.range n) iD _ (fun k => pairD (k, k)) (range_ge (ge_ix (ge_v rfl) ge_k rfl) (by omega)) rfl (by rw [List.length_range]; omega) fun k _ => ⟨_, rfl, ge_cmp (ge_tup (ge_cons (ge_v rfl) (ge_cons (ge_v rfl) ge_nil))) (ge_ix (ge_v rfl) ge_k rfl) (in_pairs (k, k) a), fun _ => ge_tup (ge_cons (ge_v rfl) (ge_cons (ge_v rfl) ge_nil))⟩
  have lf : (freeL a).length ≤ 305 := Nat.le_trans (List.length_filter_le _ _) la
  have ll : (loopL n a).length ≤ 17 := by
    unfold loopL
    rw [List.length_map]
    exact Nat.le_trans (List.length_filter_le _ _) (by rw [List.length_range]; exact hn)
  refine run_asg (ge_addL (ge_v rfl) lo (by rw [List.length_map, List.length_map]; omega)) ?_
  rw [show (freeL a).map pairD ++ (loopL n a).map pairD = (freeL a ++ loopL n a).map pairD from List.map_append.symm]
  show (dSs r7 (tEv x2 n a (some (.list (websD n (L ++ readings.map fun r => ker r n a)), true)) x5 (some (.list ((freeL a ++ loopL n a).map pairD), false)) x7 x8 x9)).run Q R b
  have hall : ∀ p, p ∈ freeL a ++ loopL n a → p.1 < n ∧ p.2 < n := fun p hp => by
    rcases List.mem_append.mp hp with h | h
    · exact ha.i p (List.mem_filter.mp h).1
    · obtain ⟨k, hk, rfl⟩ := List.mem_map.mp h
      have := List.mem_range.mp (List.mem_filter.mp hk).1
      exact ⟨this, this⟩
  refine run_app (xs := websD n (L ++ readings.map fun r => ker r n a)) (d := webD n (sortP (freeL a ++ loopL n a))) rfl (ge_tup (ge_cons (ge_ix (ge_v rfl) ge_k rfl) (ge_cons (ge_bi (ge_cons (M.ge_bind (ge_cons (ge_v rfl) ge_nil) (sortedSet_ge (.inl rfl) (few_pairs hn hall))) ge_nil) rfl) ge_nil))) (by
    unfold websD
    rw [List.length_map, List.length_append, List.length_map]
    show L.length + 6 < _
    omega) ?_
  have eL2 : websD n (L ++ readings.map fun r => ker r n a) ++ [webD n (sortP (freeL a ++ loopL n a))] = websD n ((L ++ readings.map fun r => ker r n a) ++ [sortP (freeL a ++ loopL n a)]) := by
    exact (List.map_append (f := webD n) (l₁ := L ++ readings.map fun r => ker r n a) (l₂ := [sortP (freeL a ++ loopL n a)])).symm
  rw [eL2]
  show (dSs r8 (tEv x2 n a (some (.list (websD n ((L ++ readings.map fun r => ker r n a) ++ [sortP (freeL a ++ loopL n a)])), true)) x5 (some (.list ((freeL a ++ loopL n a).map pairD), false)) x7 x8 x9)).run Q R b
  refine run_cons (ρ' := tEv x2 n a (some (.list (websD n ((L ++ readings.map fun r => ker r n a) ++ [sortP (freeL a ++ loopL n a)])), false)) x5 (some (.list ((freeL a ++ loopL n a).map pairD), false)) x7 x8 x9) rfl ?_
  refine loop_run hn ha (fun c hc => ?_) fun y7 y8 y9 => hq _ _ y7 y8 y9
  rcases List.mem_append.mp hc with h | h
  · rcases List.mem_append.mp h with h | h
    · exact hL c h
    · obtain ⟨r, _, rfl⟩ := List.mem_map.mp h
      exact ker_web r n a
  · rw [List.mem_singleton.mp h]
    exact ⟨fun p hp => hall p ((mem_sortP _ p).mp hp), srt_sortP _⟩
theorem web_run' {t b : Nat} {Q : D → Nat → Prop} {R : XV → Nat → Prop} (ht : t ≤ 10) (hb : 200 ≤ b) (hq : ∀ n a b', n ≤ t → InW n a → Srt a → b ≤ b' + 200 → Q (webD n a) b') : (f_law_web [deckD, .int t]).run Q R b := web_runS ht hb hq
theorem turn_run {i b : Nat} {x3 x4 x5 x6 x9 : Option (D × Bool)} {x7 x8 : Option D} {Q : Rz → Nat → Prop} {R : XV → Nat → Prop} (hb : 1000 ≤ b)
    (hq : ∀ x3 x4 x5 x6 x7 x8 x9 b', b ≤ b' + 1000 → Q (.nx [none, some (deckD, false), some (iD i, false), x3, x4, x5, x6, o2 x7, o2 x8, x9, none, none]) b') : (dSs turnB [none, some (deckD, false), some (iD i, false), x3, x4, x5, x6, o2 x7, o2 x8, x9, none, none]).run Q R b := by
  refine run_asgr (run_callr (ds := [deckD, .int (8 : Nat)]) (ge_cons (ge_v rfl) (ge_cons ge_k ge_nil)) ?_)
  refine web_run' (t := 8) (by decide) (by omega) fun n a b1 hn hi hs hb1 => ?_
  have ha : Web n a := ⟨hi, hs⟩
  have e3 : List.set ([none, some (deckD, false), some (iD i, false), x3, x4, x5, x6, o2 x7, o2 x8, x9, none, none] : Ev) 3 (some (webD n a, false)) = tEv (some (iD i, false)) n a x4 x5 x6 x7 x8 x9 := rfl
  rw [e3]
  refine run_asgOr ?_
  show (f_law_near [deckD, webD n a]).run (fun y b => (f_law_near [deckD, webD n a]).run (fun z b => (f_law_near [deckD, z]).run (fun u b => ∃ xs, PyData.list [webD n a, y, u] = .list xs ∧ (dSs r2 (setO (tEv (some (iD i, false)) n a x4 x5 x6 x7 x8 x9) 4 xs)).run Q R b) R b) R b) R b1
  refine near_run (by omega) ha (by omega) fun a1 b2 h1 hb2 => ?_
  refine near_run (by omega) ha (by omega) fun a2 b3 h2 hb3 => ?_
  refine near_run (by omega) h2 (by omega) fun a3 b4 h3 hb4 => ?_
  refine ⟨_, rfl, ?_⟩
  have e4 : setO (tEv (some (iD i, false)) n a x4 x5 x6 x7 x8 x9) 4 [webD n a, webD n a1, webD n a3] = tEv (some (iD i, false)) n a (some (.list (websD n [a, a1, a3]), true)) x5 x6 x7 x8 x9 := rfl
  rw [e4]
  refine run_asgr (run_callr (ds := [deckD, .int n]) (ge_cons (ge_v rfl) (ge_cons (ge_ix (ge_v rfl) ge_k rfl) ge_nil)) ?_)
  refine sized_run (by omega) (by omega) fun a4 b5 i4 s4 hb5 => ?_
  have h4 : Web n a4 := ⟨i4, s4⟩
  have e5 : List.set (tEv (some (iD i, false)) n a (some (.list (websD n [a, a1, a3]), true)) x5 x6 x7 x8 x9) 5 (some (webD n a4, false)) = tEv (some (iD i, false)) n a (some (.list (websD n [a, a1, a3]), true)) (some (webD n a4, false)) x6 x7 x8 x9 := rfl
  rw [e5]
  refine run_asgOr (run_binr (d := .list (websD n [a, a1, a3])) (ge_w rfl) ?_)
  show (f_law_mixed_webs [deckD, webD n a, webD n a4]).run (fun y b => (binD .Add (.list (websD n [a, a1, a3])) (.list [webD n a4, y])).run _ R b) R b5
  refine mixed_run (by omega) ha h4 (by omega) fun a5 b6 h5 hb6 => ?_
  refine ⟨show 3 + 2 ≤ sizeLine by rw [sizeLine_eq]; decide, _, rfl, ?_⟩
  have e6 : setO (tEv (some (iD i, false)) n a (some (.list (websD n [a, a1, a3]), true)) (some (webD n a4, false)) x6 x7 x8 x9) 4 (websD n [a, a1, a3] ++ [webD n a4, webD n a5]) = tEv (some (iD i, false)) n a (some (.list (websD n [a, a1, a3, a4, a5]), true)) (some (webD n a4, false)) x6 x7 x8 x9 := rfl
  rw [e6]
  refine rest_run (by omega) ha (fun c hc => ?_) (show 5 ≤ 100 by decide) fun y4 y6 y7 y8 y9 => hq _ _ _ _ y7 y8 y9 b6 (by omega)
  simp only [List.mem_cons, List.not_mem_nil, or_false] at hc
  rcases hc with rfl | rfl | rfl | rfl | rfl
  · exact ha
  · exact h1
  · exact h3
  · exact h4
  · exact h5
theorem run_law : (runLaw 12 first_law b_law).run (fun r _ => r = .rt (.bool true)) (fun _ _ => False) 4294967296 := by
  show (dSs (.cons (.for (.n 2) (.bi .range1 (.cons (.k (.int 8)) .nil)) turnB) (.cons (.ret (.k (.bool true))) .nil)) [none, some (deckD, false), none, none, none, none, none, o2 none, o2 none, none, none, none]).run (fun r _ => r = .rt (.bool true)) (fun _ _ => False) 4294967296
  refine run_forN (n := 8) (I := fun i ρ b' => ∃ x2 x3 x4 x5 x6 x7 x8 x9, ρ = [none, some (deckD, false), x2, x3, x4, x5, x6, o2 x7, o2 x8, x9, none, none] ∧ 4294967296 ≤ b' + i * 1000) (range_ge M.ge_pure (by decide)) ⟨none, none, none, none, none, none, none, none, rfl, by decide⟩ ?_ ?_
  · intro i hi ρ b1 ⟨x2, x3, x4, x5, x6, x7, x8, x9, e, hb1⟩
    subst e
    exact turn_run (i := i) (x3 := x3) (x4 := x4) (x5 := x5) (x6 := x6) (x7 := x7) (x8 := x8) (x9 := x9) (by omega) fun y3 y4 y5 y6 y7 y8 y9 k hk => ⟨_, _, _, _, _, y7, y8, _, rfl, by omega⟩
  · intro ρ b1 ⟨x2, x3, x4, x5, x6, x7, x8, x9, e, hb1⟩
    subst e
    exact run_ret ge_k rfl
end Ad
open PySem PySem.W PySem.Calls PyProof.Rows
set_option maxHeartbeats 0
theorem PySem.Challenge.cw_addedattacks_k10_webs_alike_holds : PySem.Challenge.rw_addedattacks_k10_webs_alike.Holds := by
  w_on; o_law
  refine HandSHeadRun.head_any (r := PySem.W.OpenLaw.row PySem.Challenge.rw_addedattacks_k10_webs_alike) (q := PySem.W.view Ad.R.prog [20]) (H := Ad.hk) (ob := Ad.ob) (M := 4000) (loose := ["loose", "of_some", "is_dropped", "free_kernel", "kernel", "alike", "_law_deck", "_law_draw", "_law_one", "_law_web", "_law_near", "_law_toggled", "_law_readings", "_law_is_out", "_law_kernel", "_law_sized", "_law_mixed_webs"]) (d := HandSHeadRun.topDef Ad.R.prog 20) (kwd := []) Ad.ob_eq
    (by kernel_rfl) (fun s => by kernel_rfl) Ad.run (by kernel_rfl) (by kernel_rfl) (by kernel_rfl) (by rfl) (by first | assumption | decide +kernel) (by decide +kernel) ⟨rfl, rfl, rfl, rfl, rfl, by decide +kernel⟩ ?hw ?hc
  case hw => w_witness2
  case hc =>
    refine Ad.walk_ofG (l := PySem.Challenge.rw_addedattacks_k10_webs_alike) (n := 63) (k := 19) (x := "_law_script") rfl (by decide) (by kernel_rfl) ⟨by decide, by decide, by decide⟩ ?F
    intro w mg fa h Y G hmg0
    have hmg : mg ("law" : PySem.Str) = some (.ref fa) := by
      have e : (HandSHeadRun.topDef Ad.R.prog 20).name = ("law" : PySem.Str) := by kernel_rfl
      rw [← e]
      exact hmg0
    exact Ad.facts Ad.run_law Y G hmg
