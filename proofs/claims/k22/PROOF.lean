import PyProof.Rows.All
import Wide.All
import OpenK.AllK
import Wide.FinOn
import HandS.Base
import HandS.SetKeys
import KE.KeyNested
import KE.KDictDisplayH
import PyProof.DictRoadsH
import HandS.Head2
import HandS.HeadWalk
import PySem.Challenge.RW_benchstretch_k22_whole_seated_stays_so
import HandS.HeadHook4
import PyProof.EqAt
import PyProof.EqKinds
import PyProof.TupleCall
import HandS.Call
import HandS.List
import HandS.Exc
import HandS.ExcOwn
import HandS.CallSlots
import HandS.Defaults
import HandS.HeadHook1
import HandS.HeadHook2
import HandS.Lambda
import HandS.TupAny
import HandS.Text
import HandS.IsInst
import HandS.Style
import HandS.Comp
import HandS.Iter
import HandS.Slots
import KE.KUnpackStar
import HandS.Ends
import HandS.HeadEnd
import KE.GoesMore
import KE.GoesEnum
import PyProof.EnumMake
import PyProof.Rows.SortShellAny
import PyProof.ReprRoads
import PyProof.Rows.TupMore
import HandS.Codes
import HandS.Words
import HandS.Dict
import HandS.DictComp
import HandS.RaiseMore
import PyProof.FString2
import HandS.More
import HandS.Strs
import HandS.ExcInit
import HandS.TryOnly
import HandS.ClsMeth
import KE.KExcInit
import KE.KTryMore
import PyProof.ExcBaseAll.RuntimeError
import KE.SortKeyHeap
import PyProof.TupleOfSeq
import HandS.OwnEq
import HandS.HotCalls
import HandS.ExcField
import KE.KExcIs
import HandS.SetFor
import HandS.FStr
import KE.KCallOwn
import HandS.ReplaceLit
import HandS.TupMul
import KE.DataEq
import HandS.Set
import HandS.Small
import HandS.Conv
import HandS.Flow
import KE.DataMinMax
import KE.DataFind
import PyProof.DictUpdate
import HandS.NamedTupGet
import PyProof.FactsAll.set_3
import KE.GoesEnumKw
import PyProof.Rows.CallKwBuiltin
import PyProof.InstEq
import KE.KIntText
import HandS.DictEq
import PyProof.Rows.Range3
import HandS.WideBits
import HandS.NoneIn
import HandS.EndTab
import KE.SortUse
import HandS.ExcValue
import HandS.SortKw
import KE.KDictPairs
import KE.KDictKeyed
set_option Elab.async false
set_option linter.all false
set_option maxRecDepth 100000
set_option maxHeartbeats 4000000
namespace Bx
open PySem L2 PySem.Spec PyProof.Rows
def frB (n : Nat) (g : Addr → Option Obj) : PySem.W.Frag := He.frT g (cStatics :: sysModules :: He.asD g n)
abbrev AlB : Type := He.AlD × Bool
def obsB (n : Nat) (fa : List He.Fa) (fn : List He.DefD) (ex : PySem.W.Frag → Bool) (g : Addr → Option Obj) : AlB := (He.obsD fa fn (frB n g), ex (frB n g))
def hookB (n : Nat) (fa : List He.Fa) (fn : List He.DefD) (ex : PySem.W.Frag → Bool) : PySem.W.Hook where
  α := AlB
  obs := fun s => obsB n fa fn ex s.heap.get?
  val := fun _ => (He.valD fn, true)
  says := fun _ h => ∃ K : PySem.W.Frag, K.In h ∧ He.SaysD fa fn K ∧ ex K = true
  of := fun _ _ e => ⟨_, He.frT_in, congrArg (fun z : AlB => z.1) e, congrArg (fun z : AlB => z.2) e⟩
  keeps := fun _ _ _ ⟨K, hK, c⟩ k => ⟨K, PySem.W.Frag.In.keeps hK k, c⟩
end Bx
namespace Bx
open PySem PySem.W L2 HandSHeadRun
/-- the run, and one look at its end -/
def RunOb (r : PySem.W.OpenRow) (M n : Nat) (fa : List He.Fa) (fn : List He.DefD) (ex : PySem.W.Frag → Bool) (w : World) : Prop :=
  ∀ os : OsState, (endF (stepQ (denQ HandSHeadRun.tabQ) r.prog w) M r.prog w os).map (fun s => obsB n fa fn ex (getT s)) = some (He.valD fn, true)
theorem obsB_join {n : Nat} {fa : List He.Fa} {fn : List He.DefD} {es : List (PySem.W.Frag → Bool)} {ex : PySem.W.Frag → Bool} {g : Addr → Option Obj} (h1 : obsB n fa [] (fun _ => true) g = (He.valD [], true)) (h2 : obsB n [] fn (fun _ => true) g = (He.valD fn, true))
    (h3 : ∀ e ∈ es, obsB n [] [] e g = (He.valD [], true)) (he : ∀ K, (∀ e ∈ es, e K = true) → ex K = true) : obsB n fa fn ex g = (He.valD fn, true) := by
  have a1 := congrArg (fun z : AlB => z.1.1) h1
  have a2 := congrArg (fun z : AlB => z.1.1) h2
  have a3 := congrArg (fun z : AlB => z.1.2) h2
  have a4 : ∀ e ∈ es, e (frB n g) = true := fun e m => congrArg (fun z : AlB => z.2) (h3 e m)
  simp only [obsB, He.obsD, He.valD, List.all_nil, Bool.and_true, Bool.true_and] at a1 a2 a3
  show ((((fa.all fun f => f.ok (frB n g)) && fn.all fun d => d.ok (frB n g)), fn.map fun d => He.fnW (frB n g) d.at_), ex (frB n g)) = ((true, fn.map He.DefD.val), true)
  rw [a1, a2, a3, he _ a4]
  rfl
theorem run_of {r : PySem.W.OpenRow} {q : Program} {M n : Nat} {loose : List PySem.Str} {w : World} {fa : List He.Fa} {fn : List He.DefD} {es : List (PySem.W.Frag → Bool)} {ex : PySem.W.Frag → Bool}
    (h1 : RunEq r q (hookB n fa [] fun _ => true) (fun s => obsB n fa [] (fun _ => true) (getT s)) M loose w) (h2 : RunOb r M n [] fn (fun _ => true) w) (h3 : ∀ e ∈ es, RunOb r M n [] [] e w)
    (he : ∀ K, (∀ e ∈ es, e K = true) → ex K = true) : RunEq r q (hookB n fa fn ex) (fun s => obsB n fa fn ex (getT s)) M loose w := fun os => by
  obtain ⟨s, hs, hv⟩ := Option.map_eq_some_iff.mp (h1 os)
  have hv : (looksF r.prog (boot_heap w.params) s.abs, seenQ q loose (importedModules r.prog.main.body) (fun s => xlAt q [] s && recOk r.toRowW.records s) s.abs, obsB n fa [] (fun _ => true) (getT s)) = (true, openGood q loose, (He.valD [], true)) := hv
  obtain ⟨l1, l2, l3⟩ : _ ∧ _ ∧ _ := by simpa only [Prod.mk.injEq] using hv
  have b2 := h2 os
  rw [hs] at b2
  have b2 : obsB n [] fn (fun _ => true) (getT s) = (He.valD fn, true) := Option.some.inj b2
  have b3 : ∀ e ∈ es, obsB n [] [] e (getT s) = (He.valD [], true) := fun e m => by
    have z := h3 e m os
    rw [hs] at z
    exact Option.some.inj z
  rw [hs]
  show some (looksF r.prog (boot_heap w.params) s.abs, seenQ q loose (importedModules r.prog.main.body) (fun s => xlAt q [] s && recOk r.toRowW.records s) s.abs, obsB n fa fn ex (getT s)) = some (true, openGood q loose, (He.valD fn, true))
  rw [l1, l2, obsB_join l3 b2 b3 he]
end Bx
namespace Bx
open PySem PySem.W L2 HandSHeadRun
end Bx
namespace K22
open PySem PySem.Spec PyProof.Rows L2 Bx
def fa : List He.Fa := [.free "len", .free "min", .free "max", .free "range", .free "abs", .glo "_law_cell", .glo "_law_hand", .free "divmod", .glo "_law_draw", .glo "_law_calls", .free "int", .free "tuple", .glo "_law_cast", .glo "_law_shuted", .glo "_law_scene", .cls "Bench", .noat "Bench" "seats", .glo "Bench", .free "isinstance", .glo "checked_bench", .noat "Bench" "people", .glo "reach_of", .free "enumerate", .free "str", .free "sorted", .glo "is_seating", .free "any", .glo "begun_at", .free "bool", .glo "is_whole", .int "MOST_SEATS" 12, .free "set", .free "all", .glo "is_name", .glo "is_seat", .glo "is_stretch", .glo "is_person", .glo "first_odd", .mkr "Bench", .meth "Bench" "mirrored", .glo "seated", .meth "Bench" "eased", .glo "checked", .glo "about", .meth "Bench" "names", .meth "Bench" "turn_of", .meth "Bench" "without", .meth "Bench" "__len__", .glo "_law_fresh", .meth "Bench" "plus", .glo "windows_of", .glo "holding", .glo "full", .free "dict", .glo "held", .glo "_law_joined", .glo "_law_seated_right", .meth "Bench" "stretch", .meth "Bench" "led", .glo "_law_crowded_right", .glo "_law_right", .glo "_law_any_folk", .glo "law"]
def nm0 : List PySem.Str := ["MOST_SEATS", "__name__", "BenchError", "NoSeats", "NoPeople", "NoBench", "NoName", "NoMore", "NoSeating", "NoWindow", "is_whole", "is_name", "is_seat", "is_stretch", "is_person", "first_odd", "reach_of", "Bench", "checked_bench", "holding", "held", "windows_of", "full", "begun_at", "seated", "is_seating", "checked", "about", "_law_cell", "_law_hand"]
def nm1 : List PySem.Str := ["_law_draw", "_law_calls", "_law_cast", "_law_shuted", "_law_scene", "_law_any_folk", "_law_fresh", "_law_joined", "_law_seated_right", "_law_crowded_right", "_law_right"]
def names : List PySem.Str := nm0 ++ nm1
abbrev RowR : PySem.W.OpenRow := PySem.W.OpenLaw.row PySem.Challenge.rw_benchstretch_k22_whole_seated_stays_so
theorem runA (w : World) : HandSHeadRun.RunEq RowR (PySem.W.view RowR.prog [45]) (hookB 4 fa [] fun _ => true) (fun s => obsB 4 fa [] (fun _ => true) (HandSHeadRun.getT s)) 8000 names w := by
  intro os
  kernel_rfl
end K22
namespace Bx
open PySem L2 PySem.Spec PyProof.Rows
mutual
/-- the value is the key -/
def NkV (K : PySem.W.Frag) (H : Hp) : NestedKey → V → Prop
  | .none, v => v = .non
  | .num i, v => v = .int i
  | .text x, v => v = .str x
  | .tup ks, v => ∃ a vs, v = .ref a ∧ SqT K H a vs ∧ NkL K H ks vs
def NkL (K : PySem.W.Frag) (H : Hp) : List NestedKey → List V → Prop
  | [], vs => vs = []
  | k :: ks, vs => ∃ v r, vs = v :: r ∧ NkV K H k v ∧ NkL K H ks r
end
mutual
theorem NkV.mono {K : PySem.W.Frag} {H H' : Hp} (e : ∀ a xs, SqT K H a xs → SqT K H' a xs) : ∀ (k : NestedKey) (v : V), NkV K H k v → NkV K H' k v
  | .none, _, h => h
  | .num _, _, h => h
  | .text _, _, h => h
  | .tup ks, _, ⟨a, vs, q, s, r⟩ => ⟨a, vs, q, e a vs s, NkL.mono e ks vs r⟩
theorem NkL.mono {K : PySem.W.Frag} {H H' : Hp} (e : ∀ a xs, SqT K H a xs → SqT K H' a xs) : ∀ (k : List NestedKey) (v : List V), NkL K H k v → NkL K H' k v
  | [], _, h => h
  | k :: ks, _, ⟨v, r, q, h1, h2⟩ => ⟨v, r, q, NkV.mono e k v h1, NkL.mono e ks r h2⟩
end
section
variable {X : Cx} {pins : List (Addr × Obj)} {σ : L2.St} {H : Hp} {s : Shared}
mutual
theorem nk_is (I : Inv X pins σ H s) : ∀ (k : NestedKey) (v : V) (u : Value), NkV X.K H k v → RelV v u → NestedIs s.heap k u
  | .none, _, u, h, r => by
    cases h
    cases (show u = Value.none from r)
    exact .none
  | .num i, _, u, h, r => by
    cases h
    obtain ⟨t, rfl⟩ := (show ∃ t, u = Value.int i t from r)
    exact .int i t
  | .text x, _, u, h, r => by
    cases h
    obtain ⟨t, rfl⟩ := (show ∃ t, u = Value.str x t from r)
    exact .text x t
  | .tup ks, _, u, ⟨a, vs, q, sq, h⟩, r => by
    subst q
    cases (show u = Value.ref a from r)
    obtain ⟨its, r1, ⟨o, h1, h2, n, h3⟩, _⟩ := I.tuple sq
    exact .tup h1 h2 h3 (by simpa using nk_all I ks vs its h r1)
theorem nk_all (I : Inv X pins σ H s) : ∀ (ks : List NestedKey) (vs : List V) (us : List Value), NkL X.K H ks vs → Vals vs us → NestedAll s.heap ks us
  | [], _, us, h, r => by
    cases h
    cases r
    exact .nil
  | k :: ks, _, us, ⟨v, r, q, h1, h2⟩, rr => by
    subst q
    cases rr with
    | cons a b => exact .cons (nk_is I k v _ h1 a) (nk_all I ks r _ h2 b)
end
end
abbrev NRow := NestedKey × Addr × V
def NT : List NRow → List (NestedKey × Addr × Value) → Prop := Paired fun p q => p.1 = q.1 ∧ p.2.1 = q.2.1 ∧ RelV p.2.2 q.2.2
/-- the dict at a: its rows, each a key, the key's place, a value -/
def DictP (P : Program) (w : World) (a : Addr) (rows : List NRow) (h : Heap) : Prop := rows.length ≤ sizeLine ∧ (a == sysModules) = false ∧ ∃ xs, NT rows xs ∧ ∃ o es ep, h.get? a = some o ∧ o.ExactDict ∧ o.data = .dict es ep ∧ es.toList = xs.map (entryOfKey (nestedKind P w)) ∧ (xs.map (·.1)).Nodup
def DictN (P : Program) (w : World) (a : Addr) (rows : List NRow) : HO := .ext (DictP P w a rows)
theorem dictN_new {P : Program} {w : World} {H : Hp} {h : Heap} {a : Addr} {rows : List NRow} (R : DictP P w a rows h) : ObjOk P w H h a (DictN P w a rows) := by
  have ⟨_, _, _, _, o, _, _, ho, _⟩ := R
  refine ⟨R, ⟨o, ho⟩, fun h1 h2 p k => ?_⟩
  obtain ⟨z, y, xs, r, o', es, ep, ho', c⟩ := p
  exact ⟨z, y, xs, r, o', es, ep, k _ ho', c⟩
end Bx
namespace Bx
open PySem L2
/-- what stands by itself: the written part, the program, the world -/
structure KK where
  K : PySem.W.Frag
  P : Program
  w : World
abbrev kk (X : Cx) : KK := ⟨X.K, X.prog, X.w⟩
/-- a caught exception: where it stands, its class, where its dict stands -/
structure EX where
  a : Addr
  cn : Str
  dd : Option Addr
  deriving DecidableEq
inductive D where
  | non | bl (b : Bool) | int (i : Int) | str (x : Str)
  | tup (xs : List D) | lst (xs : List D) | dct (kvs : List (Key × D))
  | obj (c : Str) (fs : List (Str × D))
  | ref (i : Nat) | loc (j : Nat) | glo (x : Str) | ty (n : String) | scr (ns : List Int) | twk (xs : List D) | exv (e : EX) (fs : List (Str × D)) | dcn (kvs : List (NestedKey × D))
/-- what a changing object holds -/
inductive MO where
  | lst (xs : List D) | dct (kvs : List (Key × D)) | ins (c : Str) (fs : List (Str × D)) | set (ks : List Key) | slf (c : Str) (x dx : Addr) (fs : List (Str × D)) | dcn (kvs : List (NestedKey × D)) | tab (p : He.Defn)
inductive Sl where
  | no | val (d : D) | own (m : MO)
structure S where
  ρ : List Sl
  μ : List MO
/-- an exception: its class, its field -/
structure Xc where
  cls : Str
  fld : Option (Str × D)
inductive R (α : Type) where
  | ok (a : α) (s : S) | exc (x : Xc) (s : S) | bad
abbrev M (α : Type) := S → R α
def R.bind {α β : Type} (r : R α) (f : α → M β) : R β := match r with
  | .ok a s => f a s
  | .exc x s => .exc x s
  | .bad => .bad
def bnd {α β : Type} (m : M α) (f : α → M β) : M β := fun s => (m s).bind f
def pur {α : Type} (a : α) : M α := fun s => .ok a s
/-- a statement's end -/
inductive RS where
  | nx (s : S) | rt (d : D) (s : S) | bk (s : S) | ct (s : S) | exc (x : Xc) (s : S) | bad
abbrev MS := S → RS
def lockable : HO → Prop
  | .dK _ => True
  | .dT _ => True
  | .ext _ => True
  | _ => False
def Rx (F : Hp) (a : Addr) (u : HO) : Prop := F a = some u ∨ (lockable u ∧ ∃ o, F a = some (.frz o u))
def Ex (F F' : Hp) : Prop := ∀ a u, Rx F a u → Rx F' a u
theorem Ex.refl (F : Hp) : Ex F F := fun _ _ h => h
theorem Ex.trans {F G H : Hp} (a : Ex F G) (b : Ex G H) : Ex F H := fun x u h => b x u (a x u h)
theorem Ex.new {F : Hp} {p : Addr} {o : HO} (h : F p = none) : Ex F (upd F p o) := fun a u e => by
  have ne : a ≠ p := by
    rintro rfl
    rcases e with e | ⟨_, _, e⟩ <;> (rw [h] at e; cases e)
  rcases e with e | ⟨l, o', e⟩
  · exact .inl (by rw [upd_ne ne]; exact e)
  · exact .inr ⟨l, o', by rw [upd_ne ne]; exact e⟩
theorem Rx.some {F : Hp} {a : Addr} {u : HO} (h : Rx F a u) : F a ≠ none := by
  rcases h with e | ⟨_, _, e⟩ <;> (rw [e]; simp)
theorem Rx.rd {F : Hp} {a : Addr} {u : HO} (h : Rx F a u) : Rd F a u := by
  rcases h with e | ⟨_, o, e⟩
  · exact .inl e
  · exact .inr ⟨o, e⟩
theorem ex_l {K : PySem.W.Frag} {F F' : Hp} {a : Addr} {xs : List V} (e : Ex F F') (h : SqL K F a xs) : SqL K F' a xs := by
  rcases h with (h | ⟨o, h⟩) | h
  · exact .inl (e a _ (.inl h)).rd
  · rcases e a (.frz o (.lst xs)) (.inl h) with z | ⟨z, _⟩
    · exact .inl (.inr ⟨o, z⟩)
    · exact z.elim
  · exact .inr h
theorem ex_t {K : PySem.W.Frag} {F F' : Hp} {a : Addr} {xs : List V} (e : Ex F F') (h : SqT K F a xs) : SqT K F' a xs := by
  rcases h with (h | ⟨o, h⟩) | h
  · exact .inl (e a _ (.inl h)).rd
  · rcases e a (.frz o (.tup xs)) (.inl h) with z | ⟨z, _⟩
    · exact .inl (.inr ⟨o, z⟩)
    · exact z.elim
  · exact .inr h
/-- a tuple whose object has no dict -/
def SqX (K : PySem.W.Frag) (F : Hp) (a : Addr) (xs : List V) : Prop := (∃ o, F a = some (.frz o (.tup xs)) ∧ o.dict = none) ∨
  ∃ (o : Obj) (its : Array Value) (n : Nat), K.lookup a = some o ∧ o.cls = .type "tuple" ∧ o.data = .seq its n ∧ its.size ≤ sizeLine ∧ Vals xs its.toList ∧ o.dict = none
theorem SqX.t {K : PySem.W.Frag} {F : Hp} {a : Addr} {xs : List V} (h : SqX K F a xs) : SqT K F a xs := by
  rcases h with ⟨o, h, _⟩ | ⟨o, its, n, h1, h2, h3, h4, h5, _⟩
  · exact .inl (.inr ⟨o, h⟩)
  · exact .inr ⟨o, its, n, h1, h2, h3, h4, h5⟩
theorem SqX.of {K : PySem.W.Frag} {F : Hp} {a : Addr} {xs : List V} {o : Obj} (h : F a = some (.frz o (.tup xs))) (hd : o.dict = none) : SqX K F a xs := .inl ⟨o, h, hd⟩
theorem ex_x {K : PySem.W.Frag} {F F' : Hp} {a : Addr} {xs : List V} (e : Ex F F') (h : SqX K F a xs) : SqX K F' a xs := by
  rcases h with ⟨o, h, hd⟩ | h
  · rcases e a (.frz o (.tup xs)) (.inl h) with z | ⟨z, _⟩
    · exact .inl ⟨o, z, hd⟩
    · exact z.elim
  · exact .inr h
theorem ex_i {F F' : Hp} {a : Addr} {u : HO} (e : Ex F F') (hu : ¬ lockable u) (h : F a = some u) : F' a = some u := by
  rcases e a u (.inl h) with z | ⟨z, _⟩
  · exact z
  · exact (hu z).elim
mutual
/-- the value is the key, its tuples without dicts -/
def NkX (K : PySem.W.Frag) (H : Hp) : NestedKey → V → Prop
  | .none, v => v = .non
  | .num i, v => v = .int i
  | .text x, v => v = .str x
  | .tup ks, v => ∃ a vs, v = .ref a ∧ SqX K H a vs ∧ NkXL K H ks vs
def NkXL (K : PySem.W.Frag) (H : Hp) : List NestedKey → List V → Prop
  | [], vs => vs = []
  | k :: ks, vs => ∃ v r, vs = v :: r ∧ NkX K H k v ∧ NkXL K H ks r
end
section
variable {K : PySem.W.Frag} {H H' : Hp}
mutual
theorem NkX.mono (e : Ex H H') : ∀ (k : NestedKey) (v : V), NkX K H k v → NkX K H' k v
  | .none, _, h => h
  | .num _, _, h => h
  | .text _, _, h => h
  | .tup ks, _, ⟨a, vs, q, s, r⟩ => ⟨a, vs, q, ex_x e s, NkXL.mono e ks vs r⟩
theorem NkXL.mono (e : Ex H H') : ∀ (k : List NestedKey) (v : List V), NkXL K H k v → NkXL K H' k v
  | [], _, h => h
  | k :: ks, _, ⟨v, r, q, h1, h2⟩ => ⟨v, r, q, NkX.mono e k v h1, NkXL.mono e ks r h2⟩
theorem NkX.weak : ∀ (k : NestedKey) (v : V), NkX K H k v → NkV K H k v
  | .none, _, h => h
  | .num _, _, h => h
  | .text _, _, h => h
  | .tup ks, _, ⟨a, vs, q, s, r⟩ => ⟨a, vs, q, s.t, NkXL.weak ks vs r⟩
theorem NkXL.weak : ∀ (k : List NestedKey) (v : List V), NkXL K H k v → NkL K H k v
  | [], _, h => h
  | k :: ks, _, ⟨v, r, q, h1, h2⟩ => ⟨v, r, q, NkX.weak k v h1, NkXL.weak ks r h2⟩
end
end
/-- the dict of an exception -/
def xdAt (F : Hp) : Option Addr → List (Str × V) → Prop
  | none, fs => fs = []
  | some x, fs => F x = some (.xd fs)
theorem ex_xd {F F' : Hp} {d : Option Addr} {fs : List (Str × V)} (e : Ex F F') (h : xdAt F d fs) : xdAt F' d fs := by
  cases d with
  | none => exact h
  | some x => exact ex_i e (fun z => z) h
mutual
def Rp (K : KK) (F : Hp) (adr : List Addr) : D → V → Prop
  | .non, v => v = .non
  | .bl b, v => v = .bl b
  | .int i, v => v = .int i
  | .str x, v => v = .str x
  | .tup ds, v => ∃ a vs, v = .ref a ∧ SqX K.K F a vs ∧ RpL K F adr ds vs
  | .twk ds, v => ∃ a vs, v = .ref a ∧ SqT K.K F a vs ∧ RpL K F adr ds vs
  | .lst ds, v => ∃ a vs, v = .ref a ∧ F a = some (.lst vs) ∧ RpL K F adr ds vs
  | .dct kds, v => ∃ a kvs, v = .ref a ∧ Rx F a (.dK kvs) ∧ RpK K F adr kds kvs
  | .obj c fds, v => ∃ a dx fs, v = .ref a ∧ F a = some (.ins (He.ga K.K c) dx fs) ∧ RpF K F adr fds fs
  | .ref i, v => ∃ a, adr[i]? = some a ∧ v = .ref a
  | .loc _, _ => False
  | .glo x, v => v = .ref (He.ga K.K x)
  | .ty n, v => v = .ty n
  | .scr ns, v => ∃ a, v = .ref a ∧ SqL K.K F a (ns.map V.int)
  | .exv e fds, v => v = .ref e.a ∧ ∃ fs, xdAt F e.dd fs ∧ RpF K F adr fds fs
  | .dcn kds, v => ∃ a rows, v = .ref a ∧ Rx F a (DictN K.P K.w a rows) ∧ RpN K F adr kds rows
def RpL (K : KK) (F : Hp) (adr : List Addr) : List D → List V → Prop
  | [], vs => vs = []
  | d :: ds, vs => ∃ v r, vs = v :: r ∧ Rp K F adr d v ∧ RpL K F adr ds r
def RpK (K : KK) (F : Hp) (adr : List Addr) : List (Key × D) → List (Key × V) → Prop
  | [], kvs => kvs = []
  | (k, d) :: ds, kvs => ∃ v r, kvs = (k, v) :: r ∧ Rp K F adr d v ∧ RpK K F adr ds r
def RpF (K : KK) (F : Hp) (adr : List Addr) : List (Str × D) → List (Str × V) → Prop
  | [], kvs => kvs = []
  | (k, d) :: ds, kvs => ∃ v r, kvs = (k, v) :: r ∧ Rp K F adr d v ∧ RpF K F adr ds r
def RpN (K : KK) (F : Hp) (adr : List Addr) : List (NestedKey × D) → List NRow → Prop
  | [], rows => rows = []
  | (k, d) :: kvs, rows => ∃ b v r, rows = (k, b, v) :: r ∧ NkX K.K F k (.ref b) ∧ k.depth ≤ 8 ∧ Rp K F adr d v ∧ RpN K F adr kvs r
end
section
variable {K : KK} {F F' H H' : Hp} {adr adr' : List Addr}
theorem pre_get {i : Nat} {a : Addr} (p : adr <+: adr') (h : adr[i]? = some a) : adr'[i]? = some a := by
  obtain ⟨t, rfl⟩ := p
  rw [List.getElem?_append_left (List.getElem?_eq_some_iff.mp h).1]
  exact h
mutual
theorem Rp.mono (e : Ex F F') (p : adr <+: adr') : ∀ (d : D) (v : V), Rp K F adr d v → Rp K F' adr' d v
  | .non, _, h => h
  | .bl _, _, h => h
  | .int _, _, h => h
  | .str _, _, h => h
  | .tup ds, _, ⟨a, vs, q, s, r⟩ => ⟨a, vs, q, ex_x e s, RpL.mono e p ds vs r⟩
  | .twk ds, _, ⟨a, vs, q, s, r⟩ => ⟨a, vs, q, ex_t e s, RpL.mono e p ds vs r⟩
  | .lst ds, _, ⟨a, vs, q, s, r⟩ => ⟨a, vs, q, ex_i e (fun z => z) s, RpL.mono e p ds vs r⟩
  | .dct ds, _, ⟨a, vs, q, s, r⟩ => ⟨a, vs, q, e _ _ s, RpK.mono e p ds vs r⟩
  | .obj _ ds, _, ⟨a, dx, vs, q, s, r⟩ => ⟨a, dx, vs, q, ex_i e (fun z => z) s, RpF.mono e p ds vs r⟩
  | .ref i, _, ⟨a, q, s⟩ => ⟨a, pre_get p q, s⟩
  | .loc _, _, h => h.elim
  | .glo _, _, h => h
  | .ty _, _, h => h
  | .scr _, _, ⟨a, q, s⟩ => ⟨a, q, ex_l e s⟩
  | .exv _ ds, _, ⟨q, fs, s, r⟩ => ⟨q, fs, ex_xd e s, RpF.mono e p ds fs r⟩
  | .dcn ds, _, ⟨a, rows, q, s, r⟩ => ⟨a, rows, q, e _ _ s, RpN.mono e p ds rows r⟩
theorem RpL.mono (e : Ex F F') (p : adr <+: adr') : ∀ (d : List D) (v : List V), RpL K F adr d v → RpL K F' adr' d v
  | [], _, h => h
  | d :: ds, _, ⟨v, r, q, h1, h2⟩ => ⟨v, r, q, Rp.mono e p d v h1, RpL.mono e p ds r h2⟩
theorem RpK.mono (e : Ex F F') (p : adr <+: adr') : ∀ (d : List (Key × D)) (v : List (Key × V)), RpK K F adr d v → RpK K F' adr' d v
  | [], _, h => h
  | (_, d) :: ds, _, ⟨v, r, q, h1, h2⟩ => ⟨v, r, q, Rp.mono e p d v h1, RpK.mono e p ds r h2⟩
theorem RpF.mono (e : Ex F F') (p : adr <+: adr') : ∀ (d : List (Str × D)) (v : List (Str × V)), RpF K F adr d v → RpF K F' adr' d v
  | [], _, h => h
  | (_, d) :: ds, _, ⟨v, r, q, h1, h2⟩ => ⟨v, r, q, Rp.mono e p d v h1, RpF.mono e p ds r h2⟩
theorem RpN.mono (e : Ex F F') (p : adr <+: adr') : ∀ (d : List (NestedKey × D)) (rows : List NRow), RpN K F adr d rows → RpN K F' adr' d rows
  | [], _, h => h
  | (k, d) :: kvs, _, ⟨b, v, r, q, h1, h2, h3, h4⟩ => ⟨b, v, r, q, NkX.mono e k _ h1, h2, Rp.mono e p d v h3, RpN.mono e p kvs r h4⟩
end
/-- the items of a tuple -/
def unT : D → Option (List D)
  | .tup ds => some ds
  | .twk ds => some ds
  | _ => none
theorem unT_ok {d : D} {v : V} {ds : List D} (h : unT d = some ds) (r : Rp K F adr d v) : ∃ a vs, v = .ref a ∧ SqT K.K F a vs ∧ RpL K F adr ds vs := by
  cases d <;> first | (cases h; done) | skip
  case tup es => cases h; obtain ⟨a, vs, e, s, q⟩ := r; exact ⟨a, vs, e, s.t, q⟩
  case twk es => cases h; exact r
theorem RpL.length : ∀ {ds : List D} {vs : List V}, RpL K F adr ds vs → vs.length = ds.length
  | [], _, h => by cases h; rfl
  | d :: ds, _, ⟨v, r, q, h1, h2⟩ => by subst q; simp [RpL.length h2]
theorem RpL.get : ∀ {ds : List D} {vs : List V} {i : Nat} {d : D}, RpL K F adr ds vs → ds[i]? = some d → ∃ v, vs[i]? = some v ∧ Rp K F adr d v
  | [], _, _, _, _, e => by simp at e
  | d :: ds, _, 0, _, ⟨v, r, q, h1, h2⟩, e => by subst q; simp at e; subst e; exact ⟨v, rfl, h1⟩
  | d :: ds, _, i + 1, _, ⟨v, r, q, h1, h2⟩, e => by
    subst q
    obtain ⟨u, e1, e2⟩ := RpL.get (i := i) h2 (by simpa using e)
    exact ⟨u, by simpa using e1, e2⟩
theorem RpL.append : ∀ {ds es : List D} {vs ws : List V}, RpL K F adr ds vs → RpL K F adr es ws → RpL K F adr (ds ++ es) (vs ++ ws)
  | [], _, _, _, h, g => by cases h; exact g
  | d :: ds, _, _, _, ⟨v, r, q, h1, h2⟩, g => by subst q; exact ⟨v, _, rfl, h1, RpL.append h2 g⟩
theorem RpL.nil : RpL K F adr [] [] := rfl
theorem RpL.cons {d : D} {ds : List D} {v : V} {vs : List V} (h : Rp K F adr d v) (t : RpL K F adr ds vs) : RpL K F adr (d :: ds) (v :: vs) := ⟨v, vs, rfl, h, t⟩
theorem RpL.one {d : D} {v : V} (h : Rp K F adr d v) : RpL K F adr [d] [v] := .cons h .nil
theorem RpL.take : ∀ {ds : List D} {vs : List V} (n : Nat), RpL K F adr ds vs → RpL K F adr (ds.take n) (vs.take n)
  | _, _, 0, _ => by simp; exact .nil
  | [], _, _ + 1, h => by cases h; simp; exact .nil
  | d :: ds, _, n + 1, ⟨v, r, q, h1, h2⟩ => by subst q; simp; exact .cons h1 (RpL.take n h2)
theorem RpL.drop : ∀ {ds : List D} {vs : List V} (n : Nat), RpL K F adr ds vs → RpL K F adr (ds.drop n) (vs.drop n)
  | _, _, 0, h => by simpa using h
  | [], _, _ + 1, h => by cases h; simp; exact .nil
  | d :: ds, _, n + 1, ⟨v, r, q, h1, h2⟩ => by subst q; simp; exact RpL.drop n h2
theorem RpL.set : ∀ {ds : List D} {vs : List V} (i : Nat) {d : D} {v : V}, Rp K F adr d v → RpL K F adr ds vs → RpL K F adr (ds.set i d) (vs.set i v)
  | [], _, _, _, _, _, h => by cases h; exact .nil
  | d :: ds, _, 0, _, _, g, ⟨v, r, q, h1, h2⟩ => by subst q; exact .cons g h2
  | d :: ds, _, n + 1, _, _, g, ⟨v, r, q, h1, h2⟩ => by subst q; exact .cons h1 (RpL.set n g h2)
theorem RpL.reverse : ∀ {ds : List D} {vs : List V}, RpL K F adr ds vs → RpL K F adr ds.reverse vs.reverse
  | [], _, h => by cases h; exact .nil
  | d :: ds, _, ⟨v, r, q, h1, h2⟩ => by
    subst q
    rw [List.reverse_cons, List.reverse_cons]
    exact (RpL.reverse h2).append (.one h1)
end
def hasK (ks : List Key) (k : Key) : Bool := ks.any fun j => decide (j = k)
/-- the name that the code objects of a def's table bear -/
def tabQ (p : He.Defn) : Str := (p.1 ++ ".<locals>.") ++ "<lambda>"
def RpO (K : KK) (F : Hp) (adr : List Addr) (a : Addr) : MO → HO → Prop
  | .lst ds, o => ∃ vs, o = .lst vs ∧ RpL K F adr ds vs
  | .dct ds, o => ∃ kvs, o = .dK kvs ∧ RpK K F adr ds kvs
  | .ins c ds, o => ∃ dx fs, o = .ins (He.ga K.K c) dx fs ∧ RpF K F adr ds fs
  | .set ks, o => o = SetK K.P K.w a (hasK ks) ks.length
  | .slf c x dx ds, o => a = x ∧ ∃ fs, o = .ins (He.ga K.K c) dx fs ∧ RpF K F adr ds fs
  | .dcn kvs, o => ∃ rows, o = DictN K.P K.w a rows ∧ RpN K F adr kvs rows
  | .tab p, o => a = (He.cT K.K p).2 ∧ ∃ ps : Array Value, o = .tbl ps ∧ TriplesOk ps.toList ∧ ∀ (pos : Pos) (cv : Value), codeAmong pos ps.toList = some cv → ∃ c, cv = .ref c ∧ Rx F c (LamX.CodeO c (tabQ p))
theorem RpO.mono {K : KK} {F F' : Hp} {adr adr' : List Addr} {a : Addr} (e : Ex F F') (p : adr <+: adr') : ∀ {m : MO} {o : HO}, RpO K F adr a m o → RpO K F' adr' a m o
  | .lst _, _, ⟨vs, q, r⟩ => ⟨vs, q, r.mono e p⟩
  | .dct _, _, ⟨vs, q, r⟩ => ⟨vs, q, r.mono e p⟩
  | .ins _ _, _, ⟨dx, vs, q, r⟩ => ⟨dx, vs, q, r.mono e p⟩
  | .set _, _, h => h
  | .slf _ _ _ _, _, ⟨h, vs, q, r⟩ => ⟨h, vs, q, r.mono e p⟩
  | .dcn _, _, ⟨rows, q, r⟩ => ⟨rows, q, r.mono e p _ _⟩
  | .tab _, _, ⟨h, ps, q, r, f⟩ => ⟨h, ps, q, r, fun pos cv z => by
    obtain ⟨c, e1, e2⟩ := f pos cv z
    exact ⟨c, e1, e _ _ e2⟩⟩
def owns (s : S) (σ : L2.St) (a : Addr) : Prop := ∃ (j : Nat) (m : MO), s.ρ[j]? = some (Sl.own m) ∧ σ[j]? = some (some (V.ref a))
def Fp (adr : List Addr) (s : S) (σ : L2.St) (a : Addr) : Prop := a ∈ adr ∨ owns s σ a
/-- the heap's part: what is frozen stands, the store's objects stand at adr -/
structure AbsH (K : KK) (F : Hp) (adr : List Addr) (μ : List MO) (H : Hp) : Prop where
  sub : Ex F H
  len : adr.length = μ.length
  nd : adr.Nodup
  sto : ∀ (i : Nat) (a : Addr) (m : MO), adr[i]? = some a → μ[i]? = some m → F a = none ∧ ∃ o, H a = some o ∧ RpO K F adr a m o
structure Abs (K : KK) (F : Hp) (adr : List Addr) (s : S) (σ : L2.St) (H : Hp) : Prop extends AbsH K F adr s.μ H where
  lenr : σ.length = s.ρ.length
  slv : ∀ (j : Nat) (d : D), s.ρ[j]? = some (.val d) → ∃ v, σ[j]? = some (some v) ∧ Rp K F adr d v
  slo : ∀ (j : Nat) (m : MO), s.ρ[j]? = some (.own m) → ∃ l o, σ[j]? = some (some (.ref l)) ∧ F l = none ∧ l ∉ adr ∧ H l = some o ∧ RpO K F adr l m o
  dis : ∀ (j j' : Nat) (m m' : MO) (l : Addr), s.ρ[j]? = some (.own m) → s.ρ[j']? = some (.own m') → σ[j]? = some (some (.ref l)) → σ[j']? = some (some (.ref l)) → j = j'
structure Step (F : Hp) (adr : List Addr) (P : Addr → Prop) (H : Hp) (F' : Hp) (adr' : List Addr) (P' : Addr → Prop) (H' : Hp) : Prop where
  ex : Ex F F'
  pre : adr <+: adr'
  keep : ∀ a o, H a = some o → ¬ P a → F a = none → H' a = some o
  foot : ∀ a, P' a → P a ∨ H a = none
  frz : ∀ a, F' a ≠ none → F a ≠ none ∨ H a = none ∨ P a
  there : ∀ a, H a ≠ none → H' a ≠ none
theorem Step.refl {F : Hp} {adr : List Addr} {P : Addr → Prop} {H : Hp} : Step F adr P H F adr P H := ⟨.refl _, List.prefix_refl _, fun _ _ h _ _ => h, fun _ h => .inl h, fun _ h => .inl h, fun _ h => h⟩
theorem Step.trans {F F1 F2 : Hp} {adr adr1 adr2 : List Addr} {P P1 P2 : Addr → Prop} {H H1 H2 : Hp} (a : Step F adr P H F1 adr1 P1 H1) (b : Step F1 adr1 P1 H1 F2 adr2 P2 H2) : Step F adr P H F2 adr2 P2 H2 where
  ex := a.ex.trans b.ex
  pre := a.pre.trans b.pre
  keep := fun x o h n f => b.keep x o (a.keep x o h n f) (fun q => by
    rcases a.foot x q with z | z
    · exact n z
    · rw [z] at h; cases h) (by
    cases e : F1 x with
    | none => rfl
    | some u =>
      rcases a.frz x (by rw [e]; simp) with z | z | z
      · exact (z f).elim
      · rw [z] at h; cases h
      · exact (n z).elim)
  foot := fun x q => by
    rcases b.foot x q with z | z
    · exact a.foot x z
    · refine .inr ?_
      cases e : H x with
      | none => rfl
      | some o => exact absurd z (a.there x (by rw [e]; simp))
  frz := fun x q => by
    rcases b.frz x q with z | z | z
    · exact a.frz x z
    · refine .inr (.inl ?_)
      cases e : H x with
      | none => rfl
      | some o => exact absurd z (a.there x (by rw [e]; simp))
    · rcases a.foot x z with y | y
      · exact .inr (.inr y)
      · exact .inr (.inl y)
  there := fun x h => b.there x (a.there x h)
/-- a value may be a local changing thing -/
def RpV (K : KK) (F : Hp) (adr : List Addr) (σ : L2.St) : D → V → Prop
  | .loc j, v => σ[j]? = some (some v)
  | d, v => Rp K F adr d v
theorem RpV.of {K : KK} {F : Hp} {adr : List Addr} {σ : L2.St} {d : D} {v : V} (h : Rp K F adr d v) : RpV K F adr σ d v := by
  cases d <;> first | exact h | exact h.elim
theorem RpV.mono {K : KK} {F F' : Hp} {adr adr' : List Addr} {σ : L2.St} (e : Ex F F') (p : adr <+: adr') {d : D} {v : V} (h : RpV K F adr σ d v) : RpV K F' adr' σ d v := by
  cases d with
  | loc j => exact h
  | _ => exact RpV.of (Rp.mono e p _ _ (show Rp K F adr _ v from h))
/-- an exception's class, its dict -/
def RpX (K : KK) (F : Hp) (adr : List Addr) (x : Xc) (cls : Value) (dd : Option Addr) (H : Hp) : Prop :=
  cls = .ref (He.ga K.K x.cls) ∧ match x.fld with
    | none => dd = none
    | some (f, d) => ∃ e v, dd = some e ∧ F e = some (.xd [(f, v)]) ∧ Rp K F adr d v
section
variable (K : KK) (W : WX)
def PostG {α β : Type} (rel : Hp → List Addr → α → β → Prop) (F : Hp) (adr : List Addr) (s : S) (σ : L2.St) (H : Hp) (r : R α) (Q : β → Hp → Prop) : Prop := match r with
  | .ok d s' => ∀ v F' adr' H', Step F adr (Fp adr s σ) H F' adr' (Fp adr' s' σ) H' → Abs K F' adr' s' σ H' → rel F' adr' d v → Q v H'
  | .exc x s' => ∀ cls dd F' adr' H', Step F adr (Fp adr s σ) H F' adr' (Fp adr' s' σ) H' → Abs K F' adr' s' σ H' → RpX K F' adr' x cls dd H' → W cls dd σ H'
  | .bad => False
/-- a list of values -/
def RpVs (F : Hp) (adr : List Addr) (σ : L2.St) : List D → List V → Prop
  | [], vs => vs = []
  | d :: ds, vs => ∃ v r, vs = v :: r ∧ RpV K F adr σ d v ∧ RpVs F adr σ ds r
abbrev Post (F : Hp) (adr : List Addr) (s : S) (σ : L2.St) (H : Hp) (r : R D) (Q : VK) : Prop := PostG K W (fun F adr d v => RpV K F adr σ d v) F adr s σ H r Q
abbrev PostA (F : Hp) (adr : List Addr) (s : S) (σ : L2.St) (H : Hp) (r : R (List D)) (Q : List V → Hp → Prop) : Prop := PostG K W (fun F adr d v => RpVs K F adr σ d v) F adr s σ H r Q
abbrev PostT (F : Hp) (adr : List Addr) (s : S) (σ : L2.St) (H : Hp) (r : R Bool) (Q : Bool → Hp → Prop) : Prop := PostG K W (fun _ _ b c => c = b) F adr s σ H r Q
def tI (m : M D) : TE := fun σ H Q => ∃ F adr s, Abs K F adr s σ H ∧ Post K W F adr s σ H (m s) Q
def tA (m : M (List D)) : TA := fun σ H Q => ∃ F adr s, Abs K F adr s σ H ∧ PostA K W F adr s σ H (m s) Q
def tT (m : M Bool) : TT := fun σ H Q => ∃ F adr s, Abs K F adr s σ H ∧ PostT K W F adr s σ H (m s) Q
def PostS (F : Hp) (adr : List Addr) (s : S) (σ : L2.St) (H : Hp) (r : RS) (E : Ends) : Prop := match r with
  | .nx s' => ∀ σ' F' adr' H', Step F adr (Fp adr s σ) H F' adr' (Fp adr' s' σ') H' → Abs K F' adr' s' σ' H' → E.nx σ' H'
  | .bk s' => ∀ σ' F' adr' H', Step F adr (Fp adr s σ) H F' adr' (Fp adr' s' σ') H' → Abs K F' adr' s' σ' H' → E.bk σ' H'
  | .ct s' => ∀ σ' F' adr' H', Step F adr (Fp adr s σ) H F' adr' (Fp adr' s' σ') H' → Abs K F' adr' s' σ' H' → E.ct σ' H'
  | .rt d s' => ∀ σ' v F' adr' H', Step F adr (Fp adr s σ) H F' adr' (Fp adr' s' σ') H' → Abs K F' adr' s' σ' H' → Rp K F' adr' d v → E.rt v H'
  | .exc x s' => ∀ cls dd σ' F' adr' H', Step F adr (Fp adr s σ) H F' adr' (Fp adr' s' σ') H' → Abs K F' adr' s' σ' H' → RpX K F' adr' x cls dd H' → W cls dd σ' H'
  | .bad => False
def tS (m : MS) : TS := fun E σ H => ∃ F adr s, Abs K F adr s σ H ∧ PostS K W F adr s σ H (m s) E
end
/-- the judgements -/
def SE (X : Cx) (W : WX) (e : Expr) (m : M D) : Prop := PE X e (tI (kk X) W m)
def ST (X : Cx) (W : WX) (e : Expr) (m : M Bool) : Prop := PT X e (tT (kk X) W m)
def SA (X : Cx) (W : WX) (es : List Expr) (m : M (List D)) : Prop := PA X es (tA (kk X) W m)
def SS (X : Cx) (W : WX) (st : Stmt) (m : MS) : Prop := PS X st (tS (kk X) W m)
def SB (X : Cx) (W : WX) (st : List Stmt) (m : MS) : Prop := PSs X st (tS (kk X) W m)
section
variable {X : Cx} {W : WX} {K : KK}
theorem PE.imp {e : Expr} {t t' : TE} (h : PE X e t) (q : ∀ σ H Q, t' σ H Q → t σ H Q) : PE X e t' := ⟨fun pins s σ H Q I w => h.run pins s σ H Q I (q σ H Q w)⟩
theorem PT.imp {e : Expr} {t t' : TT} (h : PT X e t) (q : ∀ σ H Q, t' σ H Q → t σ H Q) : PT X e t' := ⟨fun pins s σ H Q I w => h.run pins s σ H Q I (q σ H Q w)⟩
theorem PA.imp {e : List Expr} {t t' : TA} (h : PA X e t) (q : ∀ σ H Q, t' σ H Q → t σ H Q) : PA X e t' := ⟨fun pos pins s σ H Q I w => h.run pos pins s σ H Q I (q σ H Q w)⟩
theorem PS.imp {e : Stmt} {t t' : TS} (h : PS X e t) (q : ∀ D σ H, t' D σ H → t D σ H) : PS X e t' := ⟨fun pins s σ H D I w => h.run pins s σ H D I (q D σ H w)⟩
theorem PSs.imp {e : List Stmt} {t t' : TS} (h : PSs X e t) (q : ∀ D σ H, t' D σ H → t D σ H) : PSs X e t' := ⟨fun pins s σ H D I w => h.run pins s σ H D I (q D σ H w)⟩
variable {F : Hp} {adr : List Addr} {s : S} {σ : L2.St} {H : Hp}
variable {α β γ δ : Type} {rel : Hp → List Addr → α → β → Prop} {rel' : Hp → List Addr → γ → δ → Prop}
theorem PostG.imp {r : R α} {Q Q' : β → Hp → Prop} (h : PostG K W rel F adr s σ H r Q) (q : ∀ v H', Q v H' → Q' v H') : PostG K W rel F adr s σ H r Q' := by
  cases r with
  | ok d s' => exact fun v F' adr' H' a b c => q _ _ (h v F' adr' H' a b c)
  | exc x s' => exact h
  | bad => exact h
/-- from a later state -/
theorem PostG.from {r : R α} {Q : β → Hp → Prop} {F1 : Hp} {adr1 : List Addr} {s1 : S} {H1 : Hp} (st : Step F adr (Fp adr s σ) H F1 adr1 (Fp adr1 s1 σ) H1) (h : PostG K W rel F adr s σ H r Q) : PostG K W rel F1 adr1 s1 σ H1 r Q := by
  cases r with
  | ok d2 s2 => exact fun v2 F2 adr2 H2 st2 ab2 rp2 => h v2 F2 adr2 H2 (st.trans st2) ab2 rp2
  | exc x s2 => exact fun c dd F2 adr2 H2 st2 ab2 rp2 => h c dd F2 adr2 H2 (st.trans st2) ab2 rp2
  | bad => exact h
/-- one expression, then what comes of its value -/
theorem PostG.bind {m : R α} {f : α → M γ} {Q : δ → Hp → Prop} (h : PostG K W rel' F adr s σ H (m.bind f) Q) :
    PostG K W rel F adr s σ H m fun v H1 => ∃ F1 adr1 d s1, Step F adr (Fp adr s σ) H F1 adr1 (Fp adr1 s1 σ) H1 ∧ Abs K F1 adr1 s1 σ H1 ∧ rel F1 adr1 d v ∧ PostG K W rel' F1 adr1 s1 σ H1 (f d s1) Q := by
  cases m with
  | ok d s1 =>
    intro v F1 adr1 H1 st ab rp
    exact ⟨F1, adr1, d, s1, st, ab, rp, PostG.from st h⟩
  | exc x s1 => exact h
  | bad => exact h
end
end Bx
namespace Bx
open PySem L2 PySem.Spec PyProof.Rows
section
variable {X : Cx} {es : List Expr} {t : TA} {pos : Pos}
def rCatX (K : PySem.W.Frag) : R2 := fun x y H Q => ∃ a b xs ys, x = .ref a ∧ y = .ref b ∧ SqT K H a xs ∧ SqT K H b ys ∧ xs.length + ys.length ≤ sizeLine ∧
  (xs = [] → Q (.ref b) H) ∧ (xs ≠ [] → ys = [] → Q (.ref a) H) ∧ (xs ≠ [] → ys ≠ [] → ∀ p o, o.dict = none → H p = none → Q (.ref p) (upd H p (.frz o (.tup (xs ++ ys)))))
theorem op_catX : OpR X (binaryOp .Add) (rCatX X.K) := by
  intro pins s σ H x y v u Q I rx ry h
  obtain ⟨a, b, xs, ys, rfl, rfl, ha, hb, hz, q0, q1, q2⟩ := h
  cases rx
  cases ry
  obtain ⟨its, r1, p1, _⟩ := I.tuple ha
  obtain ⟨its2, r2, p2, _⟩ := I.tuple hb
  by_cases hx : xs = []
  · subst hx
    cases r1
    exact cat_tup0 p1 p2 ⟨.ref b, H, I, rfl, q0 rfl⟩
  · refine HT.cat_tup p1 p2 (fun z => hx (r1.nil_iff.mp z)) (fun z => ⟨.ref a, H, I, rfl, q1 hx (r2.nil_iff.mp z)⟩) (fun z => ?_) (by rw [← r1.length, ← r2.length]; exact hz)
    refine ⟨.ref s.heap.objs.size, _, I.laid (t' := s.toks) (o := .frz _ (.tup (xs ++ ys))) (fun b ob q => Heap.get?_push_of_some _ q) (Nat.le_refl _) ⟨Heap.get?_push_size _ rfl, ?_⟩, rfl, q2 hx (fun w => z (r2.nil_iff.mpr w)) _ _ rfl (I.hok.fresh (Nat.le_refl _))⟩
    exact ⟨by rw [List.length_append]; exact hz, _, r1.append r2, IsTup.new _ _⟩
def rSlX (K : PySem.W.Frag) : V → Option Int → Option Int → Hp → VK → Prop := fun x lo hi H Q => ∃ a xs, x = .ref a ∧ SqT K H a xs ∧
  (HT.sIx xs.length 0 lo = 0 ∧ HT.sIx xs.length xs.length hi = xs.length → Q (.ref a) H) ∧ (¬ (HT.sIx xs.length 0 lo = 0 ∧ HT.sIx xs.length xs.length hi = xs.length) → ∀ p o, o.dict = none → H p = none → Q (.ref p) (upd H p (.frz o (.tup (cutV xs lo hi)))))
theorem sl_tupX : SlR X (rSlX X.K) := by
  intro pins s σ H x v vl vu lo hi sl Q I rx hs pl pu h
  obtain ⟨a, xs, rfl, hx, q1, q2⟩ := h
  cases rx
  obtain ⟨its, r, ht, hz⟩ := I.tuple hx
  have hlen : its.toArray.size = xs.length := by rw [List.size_toArray]; exact r.length.symm
  refine ⟨"tuple", _, PyProof.Rows.slot_tuple_getitem.lookup, ht.typeIs, ?_⟩
  by_cases hw : HT.sIx xs.length 0 lo = 0 ∧ HT.sIx xs.length xs.length hi = xs.length
  · exact getItem_tuple_whole ht hs pl pu (by rw [hlen]; exact hw) ⟨.ref a, H, I, rfl, q1 hw⟩
  · refine HT.getItem_tuple_cut ht hs pl pu (by rw [hlen]; exact hw) ?_ (by rw [hlen]; exact hz)
    rw [hlen]
    refine ⟨.ref s.heap.objs.size, _, I.laid (t' := s.toks) (o := .frz _ (.tup (cutV xs lo hi))) (fun b ob q => Heap.get?_push_of_some _ q) (Nat.le_refl _) ⟨Heap.get?_push_size _ rfl, ?_⟩, rfl, q2 hw _ _ rfl (I.hok.fresh (Nat.le_refl _))⟩
    exact ⟨Nat.le_trans (cutV_length xs lo hi) hz, _, (r.drop (HT.sIx xs.length 0 lo)).take (HT.sIx xs.length xs.length hi - HT.sIx xs.length 0 lo), IsTup.new _ _⟩
theorem call_tuple_X : CallR X (.type "tuple") (fun xs H Q => ∃ p ys, xs = [.ref p] ∧ ((SqL X.K H p ys ∧ ∀ l o, o.dict = none → H l = none → Q (.ref l) (upd H l (.frz o (.tup ys)))) ∨ (SqT X.K H p ys ∧ Q (.ref p) H))) := by
  intro pins s σ H xs us Q I r h
  obtain ⟨p, ys, rfl, h⟩ := h
  obtain ⟨u, rfl, rx⟩ := vals1 r
  cases rx
  rcases h with ⟨hq, q⟩ | ⟨hq, q⟩
  · obtain ⟨its, r', pl, hz⟩ := I.list hq
    have hlen := r'.length
    refine call_tuple_list pl.isList (fun h' kp => ?_) (by simp only [List.size_toArray] <;> omega)
    have I1 : Inv X pins σ H { s with heap := h' } := I.kept (t' := s.toks) kp
    have I2 : Inv X pins σ (upd H h'.objs.size (.frz { cls := .type "tuple", data := .seq its.toArray } (.tup ys))) { s with heap := h'.push { cls := .type "tuple", data := .seq its.toArray } } :=
      I1.laid (t' := s.toks) (fun b o e => Heap.get?_push_of_some _ e) (Nat.le_refl _) ⟨Heap.get?_push_size _ rfl, show ObjOk X.prog X.w _ _ _ (.tup ys) from ⟨hz, its, r', IsTup.new _ _⟩⟩
    exact ⟨.ref h'.objs.size, _, I2, rfl, q _ _ rfl (I1.hok.fresh (Nat.le_refl _))⟩
  · obtain ⟨its, r', pl, hz⟩ := I.tuple hq
    exact call_tuple_same pl ⟨.ref p, H, I, rfl, q⟩
def tTupX (t : TA) : TE := fun σ H Q => t σ H fun xs H1 => xs.length ≤ sizeLine ∧ ∀ p o, o.dict = none → H1 p = none → Q (.ref p) (upd H1 p (.frz o (.tup xs)))
theorem pe_tupX {x1} (h : PA X es t) : PE X (.Tuple es x1 pos) (tTupX t) := by
  refine ⟨fun pins s σ H Q I hq => ?_⟩
  refine wpAny_Tuple_spliced (thn (h.run pos pins s σ H _ I hq) fun us s1 ⟨xs, H1, I1, r, z, q⟩ => ⟨by rw [← r.length]; exact z, ?_⟩)
  have hf : H1 s1.heap.objs.size = none := I1.hok.fresh (Nat.le_refl _)
  refine ⟨.ref s1.heap.objs.size, _, I1.laid (t' := s1.toks) (o := .frz _ (.tup xs)) (fun b u e => Heap.get?_push_of_some _ e) (Nat.le_refl _) ⟨Heap.get?_push_size _ rfl, ?_⟩, rfl, q _ _ rfl hf⟩
  exact ⟨z, us, r, ⟨_, Heap.get?_push_size _ rfl, rfl, _, rfl⟩⟩
end
end Bx
namespace Bx
open PySem L2
section
variable {K : KK} {W : WX} {F F' H H' : Hp} {adr adr' : List Addr} {s s' : S} {σ σ' : L2.St} {p l : Addr} {o : HO} {d : D} {v : V}
theorem AbsH.fnone {μ : List MO} (ab : AbsH K F adr μ H) (h : H p = none) : F p = none := by
  cases e : F p with
  | none => rfl
  | some u => exact absurd h (ab.sub p u (.inl e)).some
theorem Abs.adrH (ab : Abs K F adr s σ H) {a : Addr} (h : a ∈ adr) : H a ≠ none ∧ F a = none := by
  obtain ⟨i, hi⟩ := List.getElem?_of_mem h
  have hl : i < s.μ.length := by rw [← ab.len]; exact (List.getElem?_eq_some_iff.mp hi).1
  obtain ⟨m, hm⟩ : ∃ m, s.μ[i]? = some m := ⟨_, List.getElem?_eq_getElem hl⟩
  obtain ⟨h1, o, h2, _⟩ := ab.sto i a m hi hm
  exact ⟨by rw [h2]; simp, h1⟩
theorem Abs.fpH (ab : Abs K F adr s σ H) {a : Addr} (h : Fp adr s σ a) : H a ≠ none ∧ F a = none := by
  rcases h with h | ⟨j, m, h1, h2⟩
  · exact ab.adrH h
  · obtain ⟨l, o, e1, e2, _, e3, _⟩ := ab.slo j m h1
    rw [h2] at e1
    cases e1
    exact ⟨by rw [e3]; simp, e2⟩
theorem Ex.upd2 (e : Ex F H) (h : H p = none) : Ex (upd F p o) (upd H p o) := fun a u r => by
  by_cases ha : a = p
  · subst ha
    rcases r with r | ⟨l, o', r⟩
    · exact .inl (by rw [upd_same] at r ⊢; exact r)
    · exact .inr ⟨l, o', by rw [upd_same] at r ⊢; exact r⟩
  · have r' : Rx F a u := by
      rcases r with r | ⟨l, o', r⟩
      · exact .inl (by rw [upd_ne ha] at r; exact r)
      · exact .inr ⟨l, o', by rw [upd_ne ha] at r; exact r⟩
    rcases e a u r' with r | ⟨l, o', r⟩
    · exact .inl (by rw [upd_ne ha]; exact r)
    · exact .inr ⟨l, o', by rw [upd_ne ha]; exact r⟩
/-- something new, not to be changed any more -/
theorem Abs.alloc (ab : Abs K F adr s σ H) (h : H p = none) : Step F adr (Fp adr s σ) H (upd F p o) adr (Fp adr s σ) (upd H p o) ∧ Abs K (upd F p o) adr s σ (upd H p o) := by
  have hF := ab.fnone h
  have e := Ex.new (o := o) hF
  refine ⟨⟨e, List.prefix_refl _, fun a u q _ _ => ?_, fun a q => .inl q, fun a q => ?_, fun a q => ?_⟩, ⟨⟨ab.sub.upd2 h, ab.len, ab.nd, fun i a m h1 h2 => ?_⟩, ab.lenr, fun j d q => ?_, fun j m q => ?_, ab.dis⟩⟩
  · rw [upd_ne (ne_of_none q h)]; exact q
  · by_cases ha : a = p
    · exact .inr (.inl (ha ▸ h))
    · rw [upd_ne ha] at q; exact .inl q
  · by_cases ha : a = p
    · subst ha; rw [upd_same]; simp
    · rw [upd_ne ha]; exact q
  · obtain ⟨f, u, q, r⟩ := ab.sto i a m h1 h2
    have ne : a ≠ p := ne_of_none q h
    exact ⟨by rw [upd_ne ne]; exact f, u, by rw [upd_ne ne]; exact q, r.mono e (List.prefix_refl _)⟩
  · obtain ⟨v, q1, q2⟩ := ab.slv j d q
    exact ⟨v, q1, q2.mono e (List.prefix_refl _)⟩
  · obtain ⟨l, u, q1, q2, q3, q4, q5⟩ := ab.slo j m q
    have ne : l ≠ p := ne_of_none q4 h
    exact ⟨l, u, q1, by rw [upd_ne ne]; exact q2, q3, by rw [upd_ne ne]; exact q4, q5.mono e (List.prefix_refl _)⟩
theorem Post.here {Q : VK} (ab : Abs K F adr s σ H) (h : Post K W F adr s σ H (.ok d s) Q) (r : RpV K F adr σ d v) : Q v H := h v F adr H .refl ab r
theorem Post.at {Q : VK} (ab : Abs K F adr s σ H) (h : Post K W F adr s σ H (.ok d s) Q) (r : Rp K F adr d v) : Q v H := h v F adr H .refl ab (.of r)
theorem Post.new {Q : VK} (ab : Abs K F adr s σ H) (h : Post K W F adr s σ H (.ok d s) Q) (hp : H p = none) (r : Rp K (upd F p o) adr d (.ref p)) : Q (.ref p) (upd H p o) :=
  h _ _ adr _ (ab.alloc hp).1 (ab.alloc hp).2 (.of r)
def rsl (s : S) : D → D
  | .loc j => match s.ρ[j]? with
    | some (.own (.lst xs)) => .lst xs
    | some (.own (.dct k)) => .dct k
    | some (.own (.dcn k)) => .dcn k
    | some (.val d) => d
    | _ => .loc j
  | .ref i => match s.μ[i]? with
    | some (.lst xs) => .lst xs
    | some (.dct k) => .dct k
    | some (.dcn k) => .dcn k
    | _ => .ref i
  | d => d
def RpT (K : KK) (F : Hp) (adr : List Addr) (H : Hp) : D → V → Prop
  | .lst ds, v => ∃ a vs, v = .ref a ∧ H a = some (.lst vs) ∧ RpL K F adr ds vs
  | .dct ds, v => ∃ a vs, v = .ref a ∧ Rx H a (.dK vs) ∧ RpK K F adr ds vs
  | .dcn ds, v => ∃ a rows, v = .ref a ∧ Rx H a (DictN K.P K.w a rows) ∧ RpN K F adr ds rows
  | .loc _, _ => True
  | d, v => Rp K F adr d v
theorem Rp.t (e : Ex F H) (h : Rp K F adr d v) : RpT K F adr H d v := by
  cases d with
  | lst ds => obtain ⟨a, vs, q, r, t⟩ := h; exact ⟨a, vs, q, ex_i e (fun z => z) r, t⟩
  | dct ds => obtain ⟨a, vs, q, r, t⟩ := h; exact ⟨a, vs, q, e _ _ r, t⟩
  | dcn ds => obtain ⟨a, vs, q, r, t⟩ := h; exact ⟨a, vs, q, e _ _ r, t⟩
  | loc j => trivial
  | _ => exact h
theorem Abs.t (ab : Abs K F adr s σ H) (h : RpV K F adr σ d v) : RpT K F adr H (rsl s d) v := by
  cases d with
  | loc j =>
    have h' : σ[j]? = some (some v) := h
    cases e : s.ρ[j]? with
    | none => simp only [rsl, e]; trivial
    | some sl =>
      cases sl with
      | no => simp only [rsl, e]; trivial
      | val d =>
        obtain ⟨v', q1, q2⟩ := ab.slv j d e
        rw [h'] at q1
        cases q1
        simp only [rsl, e]
        exact q2.t ab.sub
      | own m =>
        obtain ⟨l, u, q1, q2, q3, q4, q5⟩ := ab.slo j m e
        rw [h'] at q1
        cases q1
        cases m with
        | lst xs => obtain ⟨vs, rfl, r⟩ := q5; simp only [rsl, e]; exact ⟨l, vs, rfl, q4, r⟩
        | dct xs => obtain ⟨vs, rfl, r⟩ := q5; simp only [rsl, e]; exact ⟨l, vs, rfl, .inl q4, r⟩
        | ins c fs => simp only [rsl, e]; trivial
        | set ks => simp only [rsl, e]; trivial
        | slf c x dx fs => simp only [rsl, e]; trivial
        | dcn ks => obtain ⟨rows, rfl, r⟩ := q5; simp only [rsl, e]; exact ⟨l, rows, rfl, .inl q4, r⟩
        | tab p => simp only [rsl, e]; trivial
  | ref i =>
    have h' : Rp K F adr (.ref i) v := h
    obtain ⟨a, q, rfl⟩ := id h'
    cases e : s.μ[i]? with
    | none => simp only [rsl, e]; exact h'
    | some m =>
      obtain ⟨h1, o, h2, h3⟩ := ab.sto i a m q e
      cases m with
      | lst xs => obtain ⟨vs, rfl, r⟩ := h3; simp only [rsl, e]; exact ⟨a, vs, rfl, h2, r⟩
      | dct xs => obtain ⟨vs, rfl, r⟩ := h3; simp only [rsl, e]; exact ⟨a, vs, rfl, .inl h2, r⟩
      | ins c fs => simp only [rsl, e]; exact h'
      | set ks => simp only [rsl, e]; exact h'
      | slf c x dx fs => simp only [rsl, e]; exact h'
      | dcn ks => obtain ⟨rows, rfl, r⟩ := h3; simp only [rsl, e]; exact ⟨a, rows, rfl, .inl h2, r⟩
      | tab p => simp only [rsl, e]; exact h'
  | _ => exact Rp.t ab.sub h
end
section
variable {X : Cx} {W : WX}
theorem OpR.imp {f : Value → Value → Sem Value} {r r' : R2} (h : OpR X f r) (q : ∀ x y H Q, r' x y H Q → r x y H Q) : OpR X f r' := fun pins s σ H x y v u Q I a b c => h pins s σ H x y v u Q I a b (q _ _ _ _ c)
theorem IxR.imp {r r' : R2} (h : IxR X r) (q : ∀ x y H Q, r' x y H Q → r x y H Q) : IxR X r' :=
  fun vl sl pins s σ H x y v u Q I a b c hs => h vl sl pins s σ H x y v u Q I a b (q _ _ _ _ c) hs
theorem CallR.imp {f : Value} {r r' : List V → Hp → VK → Prop} (h : CallR X f r) (q : ∀ x H Q, r' x H Q → r x H Q) : CallR X f r' := fun pins s σ H xs us Q I a c => h pins s σ H xs us Q I a (q _ _ _ c)
theorem UnR.imp {f : Value → Sem Value} {r r' : V → Hp → VK → Prop} (h : UnR X f r) (q : ∀ x H Q, r' x H Q → r x H Q) : UnR X f r' := fun pins s σ H xs us Q I a c => h pins s σ H xs us Q I a (q _ _ _ c)
theorem SlR.imp {r r' : V → Option Int → Option Int → Hp → VK → Prop} (h : SlR X r) (q : ∀ x a b H Q, r' x a b H Q → r x a b H Q) : SlR X r' := by
  intro pins s σ H
  intros
  apply h <;> first | assumption | skip
  apply q; assumption
/-- two values -/
def r2I (K : KK) (W : WX) (f : D → D → M D) : R2 := fun x y H Q => ∃ F adr s σ d1 d2, Abs K F adr s σ H ∧ RpV K F adr σ d1 x ∧ RpV K F adr σ d2 y ∧ Post K W F adr s σ H (f d1 d2 s) Q
def r1I (K : KK) (W : WX) (f : D → M D) : V → Hp → VK → Prop := fun x H Q => ∃ F adr s σ d, Abs K F adr s σ H ∧ RpV K F adr σ d x ∧ Post K W F adr s σ H (f d s) Q
def rCI (K : KK) (W : WX) (f : List D → M D) : List V → Hp → VK → Prop := fun xs H Q => ∃ F adr s σ ds, Abs K F adr s σ H ∧ RpVs K F adr σ ds xs ∧ Post K W F adr s σ H (f ds s) Q
def bin (f : D → D → M D) (a b : M D) : M D := bnd a fun x => bnd b fun y => f x y
theorem t_bin {K : KK} {f : D → D → M D} {a b : M D} {σ : L2.St} {H : Hp} {Q : VK} (h : tI K W (bin f a b) σ H Q) : tOp (r2I K W f) (tI K W a) (tI K W b) σ H Q := by
  obtain ⟨F, adr, s, ab, po⟩ := h
  refine ⟨F, adr, s, ab, (PostG.bind po).imp ?_⟩
  rintro x H1 ⟨F1, adr1, d1, s1, st1, ab1, rp1, po1⟩
  refine ⟨F1, adr1, s1, ab1, (PostG.bind po1).imp ?_⟩
  rintro y H2 ⟨F2, adr2, d2, s2, st2, ab2, rp2, po2⟩
  exact ⟨F2, adr2, s2, σ, d1, d2, ab2, rp1.mono st2.ex st2.pre, rp2, po2⟩
variable {a b e : Expr} {ma mb : M D} {pos : Pos}
theorem se_bin {op : Operator} {f : D → D → M D} (ho : OpR X (binaryOp op) (r2I (kk X) W f)) (ha : SE X W a ma) (hb : SE X W b mb) : SE X W (.BinOp a op b pos) (bin f ma mb) := PE.imp (pe_op ho ha hb) fun _ _ _ => t_bin
theorem se_cmp {op : CmpOp} {f : D → D → M D} (ho : OpR X (compareOp op) (r2I (kk X) W f)) (ha : SE X W a ma) (hb : SE X W b mb) (hm : behindInMarks op b = false) : SE X W (.Compare a [op] [b] pos) (bin f ma mb) := PE.imp (pe_cmpR ho ha hb hm) fun _ _ _ => t_bin
theorem se_ix {f : D → D → M D} (ho : IxR X (r2I (kk X) W f)) (ha : SE X W a ma) (hb : SE X W b mb) (hs : PlainIx b) : SE X W (.Subscript a b pos) (bin f ma mb) := PE.imp (pe_ix ho ha hb hs) fun _ _ _ => t_bin
def var (j : Nat) : M D := fun s => match s.ρ[j]? with
  | some (.val d) => .ok d s
  | some (.own _) => .ok (.loc j) s
  | _ => .bad
theorem se_var {j : Nat} {x : Str} (hN : X.N[j]? = some x) (hv : Vis X.env.scope x) (hd : (x == ("__debug__" : Str)) = false := by decide) (hcd : (x == ("__classdict__" : Str)) = false := by decide) : SE X W (.Name x pos) (var j) :=
  PE.imp (pe_var hN hv hd hcd) fun σ H Q h => by
    obtain ⟨F, adr, s, ab, po⟩ := h
    unfold var at po
    cases e : s.ρ[j]? with
    | none => rw [e] at po; exact po.elim
    | some sl =>
      rw [e] at po
      cases sl with
      | no => exact po.elim
      | val d =>
        obtain ⟨v, q1, q2⟩ := ab.slv j d e
        exact ⟨v, q1, Post.at ab po q2⟩
      | own m =>
        obtain ⟨l, u, q1, q2, q3, q4, q5⟩ := ab.slo j m e
        exact ⟨_, q1, Post.here ab po q1⟩
def con (d : D) : M D := fun s => .ok d s
theorem t_con {K : KK} {d : D} {v : V} (h : ∀ F adr, Rp K F adr d v) {σ : L2.St} {H : Hp} {Q : VK} (t : tI K W (con d) σ H Q) : tC v σ H Q := by
  obtain ⟨F, adr, s, ab, po⟩ := t
  exact Post.at ab po (h F adr)
theorem se_int {i : Int} {j : Nat} : SE X W (.Constant (.int i) j pos) (con (.int i)) := PE.imp pe_int fun _ _ _ => t_con (d := .int i) (v := .int i) fun _ _ => rfl
theorem se_bl {i : Bool} {j : Nat} : SE X W (.Constant (.bool i) j pos) (con (.bl i)) := PE.imp pe_bl fun _ _ _ => t_con (d := .bl i) (v := .bl i) fun _ _ => rfl
theorem se_str {i : Str} {j : Nat} : SE X W (.Constant (.str i) j pos) (con (.str i)) := PE.imp pe_str fun _ _ _ => t_con (d := .str i) (v := .str i) fun _ _ => rfl
theorem se_non {j : Nat} : SE X W (.Constant .none j pos) (con .non) := PE.imp pe_non fun _ _ _ => t_con (d := .non) (v := .non) fun _ _ => rfl
/-- a module's number -/
theorem se_gint {x : Str} {i : Int} (hg : Gl X x) (hm : ∃ t, X.mg x = some (.int i t)) (hd : (x == ("__debug__" : Str)) = false := by decide) : SE X W (.Name x pos) (con (.int i)) := by
  obtain ⟨t, hm⟩ := hm
  exact PE.imp (pe_glob (v := .int i) hg hm ⟨t, rfl⟩ hd) fun _ _ _ => t_con (d := .int i) (v := .int i) fun _ _ => rfl
theorem se_glo {x : Str} (hg : Gl X x) (hm : X.mg x = some (.ref (He.ga X.K x))) (hd : (x == ("__debug__" : Str)) = false := by decide) : SE X W (.Name x pos) (con (.glo x)) :=
  PE.imp (pe_glob (v := .ref (He.ga X.K x)) hg hm rfl hd) fun _ _ _ => t_con (d := .glo x) fun _ _ => rfl
theorem se_ty {x : Str} {n : String} (hg : Gl X x) (hm : X.mg x = none) (hv : bootBuiltins x = some (.type n)) (hn : x ≠ "__name__" := by decide) (hd : (x == ("__debug__" : Str)) = false := by decide) : SE X W (.Name x pos) (con (.ty n)) :=
  PE.imp (pe_bltn (v := .ty n) hg hm hv rfl hn hd) fun _ _ _ => t_con (d := .ty n) (v := .ty n) fun _ _ => rfl
def settle (d : D) : M D := fun s => match d with
  | .loc j => match s.ρ[j]? with
    | some (.own (.lst xs)) => .ok (.lst xs) { s with ρ := s.ρ.set j (.val (.lst xs)) }
    | some (.own (.dct xs)) => .ok (.dct xs) { s with ρ := s.ρ.set j (.val (.dct xs)) }
    | some (.own (.dcn xs)) => .ok (.dcn xs) { s with ρ := s.ρ.set j (.val (.dcn xs)) }
    | some (.own (.ins c xs)) => .ok (.obj c xs) { s with ρ := s.ρ.set j (.val (.obj c xs)) }
    | some (.val (.loc _)) => .bad
    | some (.val d) => .ok d s
    | _ => .bad
  | d => .ok d s
theorem Abs.freeze {K : KK} {F H : Hp} {adr : List Addr} {s : S} {σ : L2.St} {j : Nat} {m : MO} {d : D} (ab : Abs K F adr s σ H) (hm : s.ρ[j]? = some (.own m))
    (hd : ∀ (F' : Hp) l o, F' l = some o → RpO K F' adr l m o → Rp K F' adr d (.ref l)) :
    ∃ F' l, σ[j]? = some (some (.ref l)) ∧ Step F adr (Fp adr s σ) H F' adr (Fp adr { s with ρ := s.ρ.set j (.val d) } σ) H ∧ Abs K F' adr { s with ρ := s.ρ.set j (.val d) } σ H ∧ Rp K F' adr d (.ref l) := by
  obtain ⟨l, u, q1, q2, q3, q4, q5⟩ := ab.slo j m hm
  have e := Ex.new (o := u) q2
  have hj : j < s.ρ.length := (List.getElem?_eq_some_iff.mp hm).1
  have back : ∀ (i : Nat) (x : Sl), (s.ρ.set j (.val d))[i]? = some x → (i = j ∧ x = .val d) ∨ (i ≠ j ∧ s.ρ[i]? = some x) := fun i x h => by
    by_cases hi : i = j
    · subst hi
      rw [List.getElem?_set_self hj] at h
      exact .inl ⟨rfl, (Option.some.inj h).symm⟩
    · rw [List.getElem?_set_ne (Ne.symm hi)] at h
      exact .inr ⟨hi, h⟩
  have rd : Rp K (upd F l u) adr d (.ref l) := hd _ l u upd_same (q5.mono e (List.prefix_refl _))
  refine ⟨upd F l u, l, q1, ⟨e, List.prefix_refl _, fun a o h _ _ => h, fun a h => ?_, fun a h => ?_, fun a h => h⟩, ⟨⟨fun a x h => ?_, ab.len, ab.nd, fun i a m' h1 h2 => ?_⟩, by simp [ab.lenr], fun i d' h => ?_, fun i m' h => ?_, fun i i' m1 m2 l' h1 h2 h3 h4 => ?_⟩, rd⟩
  · rcases h with h | ⟨i, m', h1, h2⟩
    · exact .inl (.inl h)
    · rcases back i _ h1 with ⟨_, z⟩ | ⟨_, z⟩
      · cases z
      · exact .inl (.inr ⟨i, m', z, h2⟩)
  · by_cases ha : a = l
    · exact .inr (.inr (.inr ⟨j, m, hm, by rw [ha]; exact q1⟩))
    · rw [upd_ne ha] at h; exact .inl h
  · by_cases ha : a = l
    · subst ha
      rcases h with h | ⟨lk, o, h⟩
      · rw [upd_same] at h
        exact .inl (by rw [← h]; exact q4)
      · rw [upd_same] at h
        exact .inr ⟨lk, o, by rw [← h]; exact q4⟩
    · refine ab.sub a x ?_
      rcases h with h | ⟨lk, o, h⟩
      · exact .inl (by rw [upd_ne ha] at h; exact h)
      · exact .inr ⟨lk, o, by rw [upd_ne ha] at h; exact h⟩
  · obtain ⟨f, o, h3, h4⟩ := ab.sto i a m' h1 h2
    have ne : a ≠ l := by
      rintro rfl
      exact q3 (List.mem_of_getElem? h1)
    exact ⟨by rw [upd_ne ne]; exact f, o, h3, h4.mono e (List.prefix_refl _)⟩
  · rcases back i _ h with ⟨z1, z2⟩ | ⟨_, z⟩
    · cases z2
      subst z1
      exact ⟨_, q1, rd⟩
    · obtain ⟨v, r1, r2⟩ := ab.slv i d' z
      exact ⟨v, r1, r2.mono e (List.prefix_refl _)⟩
  · rcases back i _ h with ⟨_, z2⟩ | ⟨ne, z⟩
    · cases z2
    · obtain ⟨l', o, r1, r2, r3, r4, r5⟩ := ab.slo i m' z
      have nl : l' ≠ l := by
        rintro rfl
        exact ne (ab.dis i j m' m l' z hm r1 q1)
      exact ⟨l', o, r1, by rw [upd_ne nl]; exact r2, r3, r4, r5.mono e (List.prefix_refl _)⟩
  · rcases back i _ h1 with ⟨_, z2⟩ | ⟨_, z⟩
    · cases z2
    · rcases back i' _ h2 with ⟨_, z2⟩ | ⟨_, z'⟩
      · cases z2
      · exact ab.dis i i' m1 m2 l' z z' h3 h4
theorem settle_ok {K : KK} {F H : Hp} {adr : List Addr} {s s' : S} {σ : L2.St} {d d' : D} {v : V} (ab : Abs K F adr s σ H) (r : RpV K F adr σ d v) (h : settle d s = .ok d' s') :
    ∃ F', Step F adr (Fp adr s σ) H F' adr (Fp adr s' σ) H ∧ Abs K F' adr s' σ H ∧ Rp K F' adr d' v := by
  cases d with
  | loc j =>
    have r' : σ[j]? = some (some v) := r
    have fin : ∀ (m : MO) (d0 : D), s.ρ[j]? = some (.own m) → (∀ (F' : Hp) l o, F' l = some o → RpO K F' adr l m o → Rp K F' adr d0 (.ref l)) → s' = { s with ρ := s.ρ.set j (.val d0) } → d' = d0 →
        ∃ F', Step F adr (Fp adr s σ) H F' adr (Fp adr s' σ) H ∧ Abs K F' adr s' σ H ∧ Rp K F' adr d' v := fun m d0 e hd e1 e2 => by
      obtain ⟨F', l, q1, q2, q3, q4⟩ := ab.freeze e hd
      rw [r'] at q1
      cases q1
      subst e1 e2
      exact ⟨F', q2, q3, q4⟩
    cases e : s.ρ[j]? with
    | none => simp only [settle, e] at h; cases h
    | some sl =>
      simp only [settle, e] at h
      cases sl with
      | no => cases h
      | val d1 =>
        obtain ⟨v', q1, q2⟩ := ab.slv j d1 e
        rw [r'] at q1
        cases q1
        cases d1 with
        | loc i => cases h
        | _ => cases h; exact ⟨F, .refl, ab, q2⟩
      | own m =>
        cases m with
        | lst xs => cases h; exact fin _ (.lst xs) e (fun F' l o q ⟨vs, e1, r1⟩ => ⟨l, vs, rfl, by rw [q, e1], r1⟩) rfl rfl
        | dct xs => cases h; exact fin _ (.dct xs) e (fun F' l o q ⟨vs, e1, r1⟩ => ⟨l, vs, rfl, .inl (by rw [q, e1]), r1⟩) rfl rfl
        | ins c xs => cases h; exact fin _ (.obj c xs) e (fun F' l o q ⟨dx, vs, e1, r1⟩ => ⟨l, dx, vs, rfl, by rw [q, e1], r1⟩) rfl rfl
        | set ks => cases h
        | slf c x dx xs => cases h
        | tab p => cases h
        | dcn ks => cases h; exact fin _ (.dcn ks) e (fun F' l o q ⟨rows, e1, r1⟩ => ⟨l, rows, rfl, .inl (by rw [q, e1]), r1⟩) rfl rfl
  | _ => cases h; exact ⟨F, .refl, ab, r⟩
theorem Post.settle {K : KK} {F H : Hp} {adr : List Addr} {s : S} {σ : L2.St} {d : D} {v : V} {f : D → M D} {Q : VK} (ab : Abs K F adr s σ H) (r : RpV K F adr σ d v) (h : Post K W F adr s σ H ((settle d s).bind f) Q) :
    ∃ F' d' s', Step F adr (Fp adr s σ) H F' adr (Fp adr s' σ) H ∧ Abs K F' adr s' σ H ∧ Rp K F' adr d' v ∧ Post K W F' adr s' σ H (f d' s') Q := by
  cases e : Bx.settle d s with
  | ok d' s' =>
    obtain ⟨F', q1, q2, q3⟩ := settle_ok ab r e
    rw [e] at h
    exact ⟨F', d', s', q1, q2, q3, PostG.from q1 h⟩
  | exc x s' => cases d <;> simp [Bx.settle] at e <;> (split at e <;> cases e)
  | bad => rw [e] at h; exact h.elim
def stl (m : M D) : M D := bnd m settle
theorem se_stl (h : SE X W e ma) : SE X W e (stl ma) := PE.imp h fun σ H Q t => by
  obtain ⟨F, adr, s, ab, po⟩ := t
  refine ⟨F, adr, s, ab, (PostG.bind po).imp ?_⟩
  rintro v H1 ⟨F1, adr1, d, s1, st, ab1, rp, po1⟩
  have po2 : Post (kk X) W F1 adr1 s1 σ H1 ((settle d s1).bind fun x => pur x) Q := by
    have e : (settle d s1).bind (fun x => pur x) = settle d s1 := by cases settle d s1 <;> rfl
    rw [e]; exact po1
  obtain ⟨F', d', s', q1, q2, q3, q4⟩ := Post.settle ab1 rp po2
  exact Post.at q2 q4 q3
end
end Bx
namespace Bx
open PySem L2
section
variable {X : Cx} {W : WX} {K : KK} {F H : Hp} {adr : List Addr} {s : S} {σ : L2.St} {d : D} {v : V}
theorem RpT.int {i : Int} (h : RpT K F adr H (.int i) v) : v = .int i := h
theorem RpT.str {i : Str} (h : RpT K F adr H (.str i) v) : v = .str i := h
theorem RpT.bl {i : Bool} (h : RpT K F adr H (.bl i) v) : v = .bl i := h
theorem RpT.non (h : RpT K F adr H .non v) : v = .non := h
theorem line5 : (100000 : Nat) ≤ sizeLine := by rw [sizeLine_eq]; decide
theorem sz {n : Nat} (h : n ≤ 100000) : n ≤ sizeLine := Nat.le_trans h line5
def ii (g : Int → Int → D) : D → D → M D := fun a b s => match rsl s a, rsl s b with
  | .int i, .int j => .ok (g i j) s
  | _, _ => .bad
def iic (C : Int → Int → Bool) (g : Int → Int → D) : D → D → M D := fun a b s => match rsl s a, rsl s b with
  | .int i, .int j => if C i j then .ok (g i j) s else .bad
  | _, _ => .bad
theorem ii_of {g : Int → Int → D} {x y : V} {Q : VK} (h : r2I K W (ii g) x y H Q) (gv : Int → Int → V) (hg : ∀ F adr i j, Rp K F adr (g i j) (gv i j)) : ∃ i j, x = .int i ∧ y = .int j ∧ Q (gv i j) H := by
  obtain ⟨F, adr, s, σ, d1, d2, ab, r1, r2, po⟩ := h
  have t1 := ab.t r1
  have t2 := ab.t r2
  unfold ii at po
  generalize rsl s d1 = e1 at *
  generalize rsl s d2 = e2 at *
  cases e1 <;> cases e2 <;> first | exact po.elim | exact ⟨_, _, t1, t2, Post.at ab po (hg _ _ _ _)⟩
theorem iic_of {C : Int → Int → Bool} {g : Int → Int → D} {x y : V} {Q : VK} (h : r2I K W (iic C g) x y H Q) (gv : Int → Int → V) (hg : ∀ F adr i j, Rp K F adr (g i j) (gv i j)) : ∃ i j, x = .int i ∧ y = .int j ∧ C i j = true ∧ Q (gv i j) H := by
  obtain ⟨F, adr, s, σ, d1, d2, ab, r1, r2, po⟩ := h
  have t1 := ab.t r1
  have t2 := ab.t r2
  unfold iic at po
  generalize rsl s d1 = e1 at *
  generalize rsl s d2 = e2 at *
  cases e1 <;> cases e2 <;> first | exact po.elim | skip
  rename_i i j
  by_cases hc : C i j = true
  · simp only [hc, if_true] at po
    exact ⟨i, j, t1, t2, hc, Post.at ab po (hg _ _ _ _)⟩
  · simp only [hc, if_false] at po
    exact po.elim
def addD : D → D → M D := fun a b s => match rsl s a, rsl s b with
  | .int i, .int j => .ok (.int (i + j)) s
  | .str x, .str y => if x.length + y.length ≤ 100000 then .ok (.str (x ++ y)) s else .bad
  | .lst x, .lst y => if x.length + y.length ≤ 100000 then .ok (.lst (x ++ y)) s else .bad
  | .tup x, .tup y => if x.length + y.length ≤ 100000 then .ok (.tup (x ++ y)) s else .bad
  | _, _ => .bad
theorem op_addD : OpR X (binaryOp .Add) (r2I (kk X) W addD) := by
  refine OpR.imp (op_add.or (op_add_str.or (op_cat.or op_catX))) fun x y H Q h => ?_
  obtain ⟨F, adr, s, σ, d1, d2, ab, r1, r2, po⟩ := h
  have t1 := ab.t r1
  have t2 := ab.t r2
  unfold addD at po
  generalize rsl s d1 = e1 at *
  generalize rsl s d2 = e2 at *
  cases e1 <;> cases e2 <;> try (exact po.elim)
  case int.int i j => exact .inl ⟨i, j, t1, t2, Post.at ab po rfl⟩
  case str.str i j =>
    by_cases hc : i.length + j.length ≤ 100000
    · simp only [hc, if_true] at po
      exact .inr (.inl ⟨i, j, t1, t2, sz hc, Post.at ab po rfl⟩)
    · simp only [hc, if_false] at po
      exact po.elim
  case lst.lst i j =>
    by_cases hc : i.length + j.length ≤ 100000
    · simp only [hc, if_true] at po
      obtain ⟨a, vs, rfl, h1, h2⟩ := t1
      obtain ⟨b, ws, rfl, h3, h4⟩ := t2
      refine .inr (.inr (.inl ⟨a, b, vs, ws, rfl, rfl, h1, h3, by rw [h2.length, h4.length]; exact sz hc, fun p hp => Post.new ab po hp ?_⟩))
      exact ⟨p, _, rfl, upd_same, (h2.append h4).mono (Ex.new (ab.fnone hp)) (List.prefix_refl _)⟩
    · simp only [hc, if_false] at po
      exact po.elim
  case tup.tup i j =>
    by_cases hc : i.length + j.length ≤ 100000
    · simp only [hc, if_true] at po
      obtain ⟨a, vs, rfl, h1, h2⟩ := t1
      obtain ⟨b, ws, rfl, h3, h4⟩ := t2
      refine .inr (.inr (.inr ⟨a, b, vs, ws, rfl, rfl, ex_t ab.sub h1.t, ex_t ab.sub h3.t, by rw [h2.length, h4.length]; exact sz hc, fun e => ?_, fun e e' => ?_, fun e e' p ob hd hp => Post.new ab po hp ?_⟩))
      · refine Post.at ab po ⟨b, _, rfl, h3, ?_⟩
        have z := h2.append h4
        rw [e] at z
        exact z
      · refine Post.at ab po ⟨a, _, rfl, h1, ?_⟩
        have z := h2.append h4
        rw [e', List.append_nil] at z
        exact z
      · exact ⟨p, _, rfl, .of upd_same hd, (h2.append h4).mono (Ex.new (ab.fnone hp)) (List.prefix_refl _)⟩
    · simp only [hc, if_false] at po
      exact po.elim
def subD : D → D → M D := ii fun i j => .int (i - j)
theorem op_subD : OpR X (binaryOp .Sub) (r2I (kk X) W subD) := OpR.imp op_sub fun x y H Q h => by
  obtain ⟨i, j, e1, e2, q⟩ := ii_of h (fun i j => .int (i - j)) (fun _ _ _ _ => rfl)
  exact ⟨i, j, e1, e2, q⟩
/-- a product: one factor below 2 ^ 64; a list of one thing, so many times -/
def mulOk (i j : Int) : Bool := (decide (-(2 ^ 64) < i) && decide (i < 2 ^ 64)) || (decide (-(2 ^ 64) < j) && decide (j < 2 ^ 64))
theorem mulOk_ok {i j : Int} (h : mulOk i j = true) : CMul i j := by
  unfold mulOk at h
  simp only [Bool.or_eq_true, Bool.and_eq_true, decide_eq_true_eq] at h
  exact h
def mulD : D → D → M D := fun a b s => match rsl s a, rsl s b with
  | .int i, .int j => if mulOk i j then .ok (.int (i * j)) s else .bad
  | .lst x, .int j => if 0 ≤ j ∧ j ≤ 1000 ∧ x.length ≤ 100 then .ok (.lst (List.replicate j.toNat x).flatten) s else .bad
  | _, _ => .bad
theorem RpL.rep {ds : List D} {vs : List V} (h : RpL K F adr ds vs) : ∀ n : Nat, RpL K F adr (List.replicate n ds).flatten (List.replicate n vs).flatten
  | 0 => .nil
  | n + 1 => by
    rw [List.replicate_succ, List.replicate_succ, List.flatten_cons, List.flatten_cons]
    exact h.append (RpL.rep h n)
theorem op_mulD : OpR X (binaryOp .Mult) (r2I (kk X) W mulD) := by
  refine OpR.imp (op_mul.or op_rep) fun x y H Q h => ?_
  obtain ⟨F, adr, s, σ, d1, d2, ab, r1, r2, po⟩ := h
  have t1 := ab.t r1
  have t2 := ab.t r2
  unfold mulD at po
  generalize rsl s d1 = e1 at *
  generalize rsl s d2 = e2 at *
  cases e1 <;> cases e2 <;> try (exact po.elim)
  case int.int i j =>
    by_cases hc : mulOk i j = true
    · simp only [hc, if_true] at po
      exact .inl ⟨i, j, t1, t2, mulOk_ok hc, Post.at ab po rfl⟩
    · simp only [hc, if_false] at po
      exact po.elim
  case lst.int i j =>
    by_cases hc : 0 ≤ j ∧ j ≤ 1000 ∧ i.length ≤ 100
    · simp only [hc, and_self, if_true] at po
      obtain ⟨a, vs, rfl, h1, h2⟩ := t1
      have h3 : y = .int j := t2
      subst h3
      have hl := h2.length
      refine .inr ⟨a, j, vs, rfl, rfl, h1, by omega, by omega, ?_, fun p hp => Post.new ab po hp ⟨p, _, rfl, upd_same, (RpL.rep h2 _).mono (Ex.new (ab.fnone hp)) (List.prefix_refl _)⟩⟩
      refine sz (Nat.le_trans (Nat.mul_le_mul (show vs.length ≤ 100 by omega) (show j.toNat ≤ 1000 by omega)) (by decide))
    · simp only [hc, if_false] at po
      exact po.elim
def modD : D → D → M D := iic (fun _ j => decide (0 < j)) fun i j => .int (i % j)
theorem op_modD : OpR X (binaryOp .Mod) (r2I (kk X) W modD) := OpR.imp op_mod fun x y H Q h => by
  obtain ⟨i, j, e1, e2, c, q⟩ := iic_of h (fun i j => .int (i % j)) (fun _ _ _ _ => rfl)
  exact ⟨i, j, e1, e2, of_decide_eq_true c, q⟩
def fdivD : D → D → M D := iic (fun _ j => decide (0 < j) && decide (j < 1073741824)) fun i j => .int (i / j)
theorem op_fdivD : OpR X (binaryOp .FloorDiv) (r2I (kk X) W fdivD) := OpR.imp op_fdiv fun x y H Q h => by
  obtain ⟨i, j, e1, e2, c, q⟩ := iic_of h (fun i j => .int (i / j)) (fun _ _ _ _ => rfl)
  simp only [Bool.and_eq_true, decide_eq_true_eq] at c
  exact ⟨i, j, e1, e2, c, q⟩
def powD : D → D → M D := iic (fun i j => decide (0 ≤ j) && decide (j ≤ 1000) && decide (i.natAbs < 2 ^ 64)) fun i j => .int (i ^ j.toNat)
theorem op_powD : OpR X (binaryOp .Pow) (r2I (kk X) W powD) := OpR.imp op_pow fun x y H Q h => by
  obtain ⟨i, j, e1, e2, c, q⟩ := iic_of h (fun i j => .int (i ^ j.toNat)) (fun _ _ _ _ => rfl)
  simp only [Bool.and_eq_true, decide_eq_true_eq] at c
  exact ⟨i, j, e1, e2, ⟨c.1.1, by omega, c.2⟩, q⟩
def negD : D → M D := fun a s => match rsl s a with
  | .int i => .ok (.int (-i)) s
  | _ => .bad
def ltD : D → D → M D := ii fun i j => .bl (decide (i < j))
def leD : D → D → M D := ii fun i j => .bl (decide (i ≤ j))
def gtD : D → D → M D := ii fun i j => .bl (decide (j < i))
def geD : D → D → M D := ii fun i j => .bl (decide (j ≤ i))
theorem op_ltD : OpR X (compareOp .Lt) (r2I (kk X) W ltD) := OpR.imp op_lt fun x y H Q h => ii_of h (fun i j => .bl (decide (i < j))) (fun _ _ _ _ => rfl)
theorem op_leD : OpR X (compareOp .LtE) (r2I (kk X) W leD) := OpR.imp op_le fun x y H Q h => ii_of h (fun i j => .bl (decide (i ≤ j))) (fun _ _ _ _ => rfl)
theorem op_gtD : OpR X (compareOp .Gt) (r2I (kk X) W gtD) := OpR.imp op_gt fun x y H Q h => ii_of h (fun i j => .bl (decide (j < i))) (fun _ _ _ _ => rfl)
theorem op_geD : OpR X (compareOp .GtE) (r2I (kk X) W geD) := OpR.imp op_ge fun x y H Q h => ii_of h (fun i j => .bl (decide (j ≤ i))) (fun _ _ _ _ => rfl)
def isND : D → D → M D := fun a b s => match b with
  | .non => match a with
    | .non => .ok (.bl true) s
    | .loc _ => .bad
    | _ => .ok (.bl false) s
  | _ => .bad
def notND : D → D → M D := fun a b s => match b with
  | .non => match a with
    | .non => .ok (.bl false) s
    | .loc _ => .bad
    | _ => .ok (.bl true) s
  | _ => .bad
def isNon : D → Bool
  | .non => true
  | _ => false
theorem Rp.notN (h : Rp K F adr d v) : isNon d = decide (v = .non) := by
  cases d with
  | non => rw [show v = .non from h]; rfl
  | bl b => rw [show v = .bl b from h]; rfl
  | int b => rw [show v = .int b from h]; rfl
  | str b => rw [show v = .str b from h]; rfl
  | tup b => obtain ⟨a, _, e, _⟩ := h; rw [e]; rfl
  | twk b => obtain ⟨a, _, e, _⟩ := h; rw [e]; rfl
  | lst b => obtain ⟨a, _, e, _⟩ := h; rw [e]; rfl
  | dcn b => obtain ⟨a, _, e, _⟩ := h; rw [e]; rfl
  | dct b => obtain ⟨a, _, e, _⟩ := h; rw [e]; rfl
  | obj c b => obtain ⟨a, _, _, e, _⟩ := h; rw [e]; rfl
  | ref i => obtain ⟨a, _, e⟩ := h; rw [e]; rfl
  | loc j => exact h.elim
  | glo b => rw [show v = .ref _ from h]; rfl
  | ty b => rw [show v = .ty b from h]; rfl
  | scr b => obtain ⟨a, e, _⟩ := h; rw [e]; rfl
  | exv b c => rw [show v = .ref _ from h.1]; rfl
theorem op_notND : OpR X (compareOp .IsNot) (r2I (kk X) W notND) := OpR.imp op_notN fun x y H Q h => by
  obtain ⟨F, adr, s, σ, d1, d2, ab, r1, r2, po⟩ := h
  cases d2 <;> try (exact po.elim)
  refine ⟨r2, ?_⟩
  cases d1 with
  | loc j => exact po.elim
  | _ => rw [← Rp.notN r1]; exact Post.at ab po rfl
mutual
def pd : D → Option PyData
  | .non => some .none
  | .bl b => some (.bool b)
  | .int i => some (.int i)
  | .str x => some (.str x)
  | .tup ds => (pdL ds).map .tuple
  | .lst ds => (pdL ds).map .list
  | _ => none
def pdL : List D → Option (List PyData)
  | [] => some []
  | d :: ds => match pd d, pdL ds with
    | some a, some b => some (a :: b)
    | _, _ => none
end
mutual
theorem dp_of (e : Ex F H) : ∀ (d : D) (v : V) (p : PyData), pd d = some p → Rp K F adr d v → Dp K.K H v p
  | .non, _, _, h, r => by cases h; cases r; exact .non
  | .bl b, _, _, h, r => by cases h; cases r; exact .bl b
  | .int b, _, _, h, r => by cases h; cases r; exact .int b
  | .str b, _, _, h, r => by cases h; cases r; exact .str b
  | .tup ds, _, _, h, ⟨a, vs, q, s, r⟩ => by
    obtain ⟨ps, h1, rfl⟩ := Option.map_eq_some_iff.mp (show (pdL ds).map PyData.tuple = some _ from h)
    subst q
    exact .tup (ex_t e s.t) (dpL_of e ds vs ps h1 r)
  | .lst ds, _, _, h, ⟨a, vs, q, s, r⟩ => by
    obtain ⟨ps, h1, rfl⟩ := Option.map_eq_some_iff.mp (show (pdL ds).map PyData.list = some _ from h)
    subst q
    exact .lst (SqL.of (ex_i e (fun z => z) s)) (dpL_of e ds vs ps h1 r)
  | .dct _, _, _, h, _ => nomatch h
  | .obj _ _, _, _, h, _ => nomatch h
  | .ref _, _, _, h, _ => nomatch h
  | .loc _, _, _, h, _ => nomatch h
  | .glo _, _, _, h, _ => nomatch h
  | .ty _, _, _, h, _ => nomatch h
  | .scr _, _, _, h, _ => nomatch h
  | .twk _, _, _, h, _ => nomatch h
  | .exv _ _, _, _, h, _ => nomatch h
theorem dpL_of (e : Ex F H) : ∀ (d : List D) (v : List V) (p : List PyData), pdL d = some p → RpL K F adr d v → DpAll K.K H v p
  | [], _, _, h, r => by cases h; cases r; exact .nil
  | d :: ds, _, _, h, ⟨v, r, q, h1, h2⟩ => by
    have h' : (match pd d, pdL ds with | some a, some b => some (a :: b) | _, _ => none) = some _ := h
    cases e1 : pd d with
    | none => rw [e1] at h'; cases h'
    | some a =>
      cases e2 : pdL ds with
      | none => rw [e1, e2] at h'; cases h'
      | some b =>
        rw [e1, e2] at h'
        cases h'
        subst q
        exact .cons (dp_of e d v a e1 h1) (dpL_of e ds r b e2 h2)
end
theorem dp_t (ab : Abs K F adr s σ H) {d : D} {v : V} {p : PyData} (h : pd d = some p) (r : RpT K F adr H d v) : Dp K.K H v p := by
  cases d with
  | lst ds =>
    obtain ⟨a, vs, q, z, r⟩ := r
    obtain ⟨ps, h1, rfl⟩ := Option.map_eq_some_iff.mp (show (pdL ds).map PyData.list = some _ from h)
    subst q
    exact .lst (SqL.of z) (dpL_of ab.sub ds vs ps h1 r)
  | dct _ => nomatch h
  | dcn _ => nomatch h
  | loc _ => nomatch h
  | _ => exact dp_of (K := K) (F := F) (adr := adr) ab.sub _ _ _ h r
/-- plain data that the library compares: not too deep -/
def okD (p : PyData) : Bool := SeqAt.shaped p
/-- two texts -/
def twoS : D → D → Option Bool
  | .str x, .str y => some (decide (x = y))
  | _, _ => none
theorem twoS_ok {d1 d2 : D} {b : Bool} (h : twoS d1 d2 = some b) : ∃ x y, d1 = .str x ∧ d2 = .str y ∧ b = decide (V.str x = V.str y) := by
  cases d1 <;> cases d2 <;> first | (cases h; done) | skip
  rename_i x y
  refine ⟨x, y, rfl, rfl, ?_⟩
  have h' : some (decide (x = y)) = some b := h
  rw [← Option.some.inj h']
  simp
def eqD : D → D → M D := fun a b s => match twoS (rsl s a) (rsl s b) with
  | some r => .ok (.bl r) s
  | none => match pd (rsl s a), pd (rsl s b) with
    | some p, some q => if okD p && okD q then .ok (.bl (PyData.eqv p q)) s else .bad
    | _, _ => .bad
def neD : D → D → M D := fun a b s => match twoS (rsl s a) (rsl s b) with
  | some r => .ok (.bl !r) s
  | none => match pd (rsl s a), pd (rsl s b) with
    | some p, some q => if okD p && okD q then .ok (.bl (!PyData.eqv p q)) s else .bad
    | _, _ => .bad
theorem op_eqD' (hu : X.A.units + 64 < cLine) : OpR X (compareOp .Eq) (r2I (kk X) W eqD) := OpR.imp (op_eq.or (op_eqD hu)) fun x y H Q h => by
  obtain ⟨F, adr, s, σ, d1, d2, ab, r1, r2, po⟩ := h
  have t1 := ab.t r1
  have t2 := ab.t r2
  unfold eqD at po
  cases h0 : twoS (rsl s d1) (rsl s d2) with
  | some r =>
    simp only [h0] at po
    obtain ⟨a, b, e1, e2, e3⟩ := twoS_ok h0
    rw [e1] at t1
    rw [e2] at t2
    rw [RpT.str t1, RpT.str t2]
    subst e3
    exact .inl ⟨rfl, Post.at ab po rfl⟩
  | none =>
    simp only [h0] at po
    cases h1 : pd (rsl s d1) with
    | none => rw [h1] at po; exact po.elim
    | some p =>
      cases h2 : pd (rsl s d2) with
      | none => rw [h1, h2] at po; exact po.elim
      | some q =>
        rw [h1, h2] at po
        by_cases hc : (okD p && okD q) = true
        · simp only [hc, if_true] at po
          obtain ⟨c1, c2⟩ := Bool.and_eq_true_iff.mp hc
          exact .inr ⟨p, q, dp_t ab h1 t1, dp_t ab h2 t2, c1, c2, Post.at ab po rfl⟩
        · simp only [hc, if_false] at po
          exact po.elim
theorem op_neD' (hu : X.A.units + 64 < cLine) : OpR X (compareOp .NotEq) (r2I (kk X) W neD) := OpR.imp (op_ne.or (op_neD hu)) fun x y H Q h => by
  obtain ⟨F, adr, s, σ, d1, d2, ab, r1, r2, po⟩ := h
  have t1 := ab.t r1
  have t2 := ab.t r2
  unfold neD at po
  cases h0 : twoS (rsl s d1) (rsl s d2) with
  | some r =>
    simp only [h0] at po
    obtain ⟨a, b, e1, e2, e3⟩ := twoS_ok h0
    rw [e1] at t1
    rw [e2] at t2
    rw [RpT.str t1, RpT.str t2]
    subst e3
    exact .inl ⟨rfl, Post.at ab po rfl⟩
  | none =>
    simp only [h0] at po
    cases h1 : pd (rsl s d1) with
    | none => rw [h1] at po; exact po.elim
    | some p =>
      cases h2 : pd (rsl s d2) with
      | none => rw [h1, h2] at po; exact po.elim
      | some q =>
        rw [h1, h2] at po
        by_cases hc : (okD p && okD q) = true
        · simp only [hc, if_true] at po
          obtain ⟨c1, c2⟩ := Bool.and_eq_true_iff.mp hc
          exact .inr ⟨p, q, dp_t ab h1 t1, dp_t ab h2 t2, c1, c2, Post.at ab po rfl⟩
        · simp only [hc, if_false] at po
          exact po.elim
end
end Bx
namespace Bx
open PySem L2
section
variable {X : Cx} {W : WX} {K : KK} {F H : Hp} {adr : List Addr} {s : S} {σ : L2.St} {d : D} {v : V}
theorem RpL.atI {ds : List D} {vs : List V} {i : Int} {d : D} (h : RpL K F adr ds vs) (e : atI ds i = some d) : ∃ v, atI vs i = some v ∧ Rp K F adr d v := by
  unfold L2.atI at *
  rw [h.length]
  cases hn : ixN ds.length i with
  | none => rw [hn] at e; cases e
  | some j =>
    rw [hn] at e
    exact h.get (i := j) e
def ixD : D → D → M D := fun a b s => match rsl s a, rsl s b with
  | .lst x, .int i => match atI x i with
    | some d => .ok d s
    | none => .bad
  | .tup x, .int i => match atI x i with
    | some d => .ok d s
    | none => .bad
  | .scr x, .int i => match atI x i with
    | some d => .ok (.int d) s
    | none => .bad
  | .str x, .int i => if x.length ≤ 100000 then (match atI x.cps.toList i with
    | some c => .ok (.str ⟨#[c]⟩) s
    | none => .bad) else .bad
  | _, _ => .bad
theorem ix_D : IxR X (r2I (kk X) W ixD) := IxR.imp ix_seq fun x y H Q h => by
  obtain ⟨F, adr, s, σ, d1, d2, ab, r1, r2, po⟩ := h
  have t1 := ab.t r1
  have t2 := ab.t r2
  unfold ixD at po
  generalize rsl s d1 = e1 at *
  generalize rsl s d2 = e2 at *
  cases e1 <;> cases e2 <;> try (exact po.elim)
  case lst.int xs i =>
    cases e : atI xs i with
    | none => simp only [e] at po; exact po.elim
    | some d =>
      simp only [e] at po
      obtain ⟨a, vs, rfl, h1, h2⟩ := t1
      obtain ⟨w, q1, q2⟩ := h2.atI e
      exact .inl ⟨a, vs, i, w, rfl, t2, SqL.of h1, q1, Post.at ab po q2⟩
  case tup.int xs i =>
    cases e : atI xs i with
    | none => simp only [e] at po; exact po.elim
    | some d =>
      simp only [e] at po
      obtain ⟨a, vs, rfl, h1, h2⟩ := t1
      obtain ⟨w, q1, q2⟩ := h2.atI e
      exact .inr (.inl ⟨a, vs, i, w, rfl, t2, ex_t ab.sub h1.t, q1, Post.at ab po q2⟩)
  case scr.int xs i =>
    cases e : atI xs i with
    | none => simp only [e] at po; exact po.elim
    | some d =>
      simp only [e] at po
      obtain ⟨a, rfl, h1⟩ := t1
      refine .inl ⟨a, _, i, .int d, rfl, t2, ex_l ab.sub h1, ?_, Post.at ab po rfl⟩
      unfold L2.atI at *
      rw [List.length_map]
      cases hn : ixN xs.length i with
      | none => rw [hn] at e; cases e
      | some j =>
        rw [hn] at e
        show (xs.map V.int)[j]? = _
        rw [List.getElem?_map, show xs[j]? = some d from e]
        rfl
  case str.int xs i =>
    by_cases hc : xs.length ≤ 100000
    · simp only [hc, if_true] at po
      cases e : atI xs.cps.toList i with
      | none => simp only [e] at po; exact po.elim
      | some d =>
        simp only [e] at po
        exact .inr (.inr ⟨xs, i, d, t1, t2, sz hc, e, Post.at ab po rfl⟩)
    · simp only [hc, if_false] at po
      exact po.elim
def cutD (xs : List D) (lo hi : Option Int) : List D := (xs.drop (HT.sIx xs.length 0 lo)).take (HT.sIx xs.length xs.length hi - HT.sIx xs.length 0 lo)
def cutI (xs : List Int) (lo hi : Option Int) : List Int := (xs.drop (HT.sIx xs.length 0 lo)).take (HT.sIx xs.length xs.length hi - HT.sIx xs.length 0 lo)
theorem RpL.cut {ds : List D} {vs : List V} (h : RpL K F adr ds vs) (lo hi : Option Int) : RpL K F adr (cutD ds lo hi) (cutV vs lo hi) := by
  unfold cutD cutV
  rw [h.length]
  exact (h.drop _).take _
theorem rpl_ints (ns : List Int) : RpL K F adr (ns.map D.int) (ns.map V.int) := by
  induction ns with
  | nil => exact .nil
  | cons n ns ih => exact .cons rfl ih
theorem cutV_ints (ns : List Int) (lo hi : Option Int) : cutV (ns.map V.int) lo hi = (cutI ns lo hi).map V.int := by
  unfold cutV cutI
  rw [List.length_map, List.map_take, List.map_drop]
def slD : D → Option Int → Option Int → M D := fun a lo hi s => match rsl s a with
  | .lst x => .ok (.lst (cutD x lo hi)) s
  | .scr x => .ok (.lst ((cutI x lo hi).map .int)) s
  | .tup x => .ok (.tup (cutD x lo hi)) s
  | .str x => if x.length ≤ 100000 then .ok (.str (cutS x lo hi)) s else .bad
  | _ => .bad
def sl_all (K : PySem.W.Frag) : V → Option Int → Option Int → Hp → VK → Prop := fun x lo hi H Q => rSlL K x lo hi H Q ∨ rSlX K x lo hi H Q ∨ rSlS x lo hi H Q
theorem sl_allR : SlR X (sl_all X.K) := sl_list.or (sl_tupX.or sl_str)
/-- an optional part -/
inductive MP where
  | no | yes (m : M D)
def tO (K : KK) (W : WX) : MP → TO
  | .no => tNoPart
  | .yes m => tPart (tI K W m)
def SO (X : Cx) (W : WX) (e : Option Expr) (m : MP) : Prop := PO X e (tO (kk X) W m)
theorem so_no : SO X W none .no := po_none
theorem so_yes {e : Expr} {m : M D} (h : SE X W e m) : SO X W (some e) (.yes m) := po_some h
def mpart : MP → (Option Int → M D) → M D
  | .no, f => f none
  | .yes m, f => bnd m fun d => match d with
    | .int i => f (some i)
    | _ => fun _ => .bad
def slc (a : M D) (l h : MP) : M D := bnd a fun x => mpart l fun lo => mpart h fun hi => slD x lo hi
theorem sl_fin {x : D} {lo hi : Option Int} {v : V} {Q : VK} (ab : Abs K F adr s σ H) (r : RpV K F adr σ x v) (po : Post K W F adr s σ H (slD x lo hi s) Q) : sl_all K.K v lo hi H Q := by
  have t := ab.t r
  unfold slD at po
  generalize rsl s x = e at *
  cases e <;> try (exact po.elim)
  case lst ds =>
    obtain ⟨a, vs, rfl, h1, h2⟩ := t
    exact .inl ⟨a, vs, rfl, SqL.of h1, fun p hp => Post.new ab po hp ⟨p, _, rfl, upd_same, (h2.cut lo hi).mono (Ex.new (ab.fnone hp)) (List.prefix_refl _)⟩⟩
  case scr ns =>
    obtain ⟨a, rfl, h1⟩ := t
    exact .inl ⟨a, _, rfl, ex_l ab.sub h1, fun p hp => Post.new ab po hp ⟨p, _, rfl, by rw [upd_same, cutV_ints], rpl_ints _⟩⟩
  case tup ds =>
    obtain ⟨a, vs, rfl, h1, h2⟩ := t
    refine .inr (.inl ⟨a, vs, rfl, ex_t ab.sub h1.t, fun e => Post.at ab po ⟨a, vs, rfl, h1, ?_⟩, fun e p ob hd hp => Post.new ab po hp ⟨p, _, rfl, .of upd_same hd, (h2.cut lo hi).mono (Ex.new (ab.fnone hp)) (List.prefix_refl _)⟩⟩)
    have e3 : cutV vs lo hi = vs := by
      unfold cutV
      rw [e.1, e.2]
      simp
    have z := h2.cut lo hi
    rw [e3] at z
    exact z
  case str x =>
    by_cases hc : x.length ≤ 100000
    · simp only [hc, if_true] at po
      exact .inr (.inr ⟨x, t, sz hc, Post.at ab po rfl⟩)
    · simp only [hc, if_false] at po
      exact po.elim
/-- a part, then what comes -/
theorem t_part {m : MP} {f : Option Int → M D} {Q : VK} {R : Option Int → Hp → Prop} (ab : Abs K F adr s σ H) (po : Post K W F adr s σ H (mpart m f s) Q)
    (k : ∀ i F1 adr1 s1 H1, Step F adr (Fp adr s σ) H F1 adr1 (Fp adr1 s1 σ) H1 → Abs K F1 adr1 s1 σ H1 → Post K W F1 adr1 s1 σ H1 (f i s1) Q → R i H1) : tO K W m σ H R := by
  cases m with
  | no => exact k none F adr s H .refl ab po
  | yes m =>
    refine ⟨F, adr, s, ab, (PostG.bind po).imp ?_⟩
    rintro y H1 ⟨F1, adr1, d1, s1, st1, ab1, rp1, po1⟩
    cases d1 <;> try (exact po1.elim)
    case int i => exact ⟨i, rp1, k (some i) F1 adr1 s1 H1 st1 ab1 po1⟩
theorem se_slc {a : Expr} {l h : Option Expr} {ma : M D} {ml mh : MP} {p2 pos : Pos} (ha : SE X W a ma) (hl : SO X W l ml) (hh : SO X W h mh) : SE X W (.Subscript a (.Slice l h none p2) pos) (slc ma ml mh) := by
  refine PE.imp (pe_slice sl_allR ha hl hh) fun σ H Q t => ?_
  obtain ⟨F, adr, s, ab, po⟩ := t
  refine ⟨F, adr, s, ab, (PostG.bind po).imp ?_⟩
  rintro x H1 ⟨F1, adr1, d1, s1, st1, ab1, rp1, po1⟩
  refine t_part ab1 po1 fun lo F2 adr2 s2 H2 st2 ab2 po2 => t_part ab2 po2 fun hi F3 adr3 s3 H3 st3 ab3 po3 => ?_
  exact sl_fin ab3 (rp1.mono (st2.trans st3).ex (st2.trans st3).pre) po3
def flatD : D → Bool
  | .non => true
  | .bl _ => true
  | .int _ => true
  | .str _ => true
  | _ => false
def toV : D → V
  | .bl b => .bl b
  | .int b => .int b
  | .str b => .str b
  | _ => .non
theorem Rp.flat (h : Rp K F adr d v) (f : flatD d = true) : v = toV d ∧ flatV v = true := by
  cases d <;> first | (cases f) | skip
  case non => have e : v = .non := h; subst e; exact ⟨rfl, rfl⟩
  case bl b => have e : v = .bl b := h; subst e; exact ⟨rfl, rfl⟩
  case int b => have e : v = .int b := h; subst e; exact ⟨rfl, rfl⟩
  case str b => have e : v = .str b := h; subst e; exact ⟨rfl, rfl⟩
theorem RpL.flat : ∀ {ds : List D} {vs : List V}, RpL K F adr ds vs → ds.all flatD = true → vs = ds.map toV ∧ vs.all flatV = true
  | [], _, h, _ => by cases h; exact ⟨rfl, rfl⟩
  | d :: ds, _, ⟨v, r, q, h1, h2⟩, f => by
    rw [List.all_cons, Bool.and_eq_true] at f
    obtain ⟨e1, f1⟩ := h1.flat f.1
    obtain ⟨e2, f2⟩ := RpL.flat h2 f.2
    subst q
    exact ⟨by rw [List.map_cons, e1, e2], by rw [List.all_cons, f1, f2]; rfl⟩
/-- x in xs, by Python's == of plain things -/
def memD (x : D) (xs : List D) : Bool := inV (toV x) (xs.map toV)
def inD (neg : Bool) : D → D → M D := fun a b s => match rsl s b with
  | .lst xs => if flatD a && xs.all flatD then .ok (.bl (if neg then !memD a xs else memD a xs)) s else .bad
  | .tup xs => if flatD a && xs.all flatD then .ok (.bl (if neg then !memD a xs else memD a xs)) s else .bad
  | .str x => match a with
    | .str y => match y.cps.toList with
      | [c] => .ok (.bl (if neg then !decide (c ∈ x.cps.toList) else decide (c ∈ x.cps.toList))) s
      | _ => .bad
    | _ => .bad
  | _ => .bad
theorem str_one {y : Str} {c : Nat} (h : y.cps.toList = [c]) : y = ⟨#[c]⟩ := by
  obtain ⟨a⟩ := y
  have e : a = #[c] := by
    apply Array.ext'
    exact h
  rw [e]
theorem in_fin (neg : Bool) {x y : V} {Q : VK} (h : r2I K W (inD neg) x y H Q) : rIn K.K neg x y H Q ∨ ∃ (c : Nat) (z : Str), x = .str ⟨#[c]⟩ ∧ y = .str z ∧ Q (.bl (if neg then !decide (c ∈ z.cps.toList) else decide (c ∈ z.cps.toList))) H := by
  obtain ⟨F, adr, s, σ, d1, d2, ab, r1, r2, po⟩ := h
  have t2 := ab.t r2
  unfold inD at po
  generalize rsl s d2 = e2 at *
  cases e2 <;> try (exact po.elim)
  case lst xs =>
    by_cases hc : (flatD d1 && xs.all flatD) = true
    · simp only [hc, if_true] at po
      obtain ⟨c1, c2⟩ := Bool.and_eq_true_iff.mp hc
      obtain ⟨a, vs, rfl, h1, h2⟩ := t2
      have r1' : Rp K F adr d1 x := by
        cases d1 <;> first | exact r1 | cases c1
      obtain ⟨e1, f1⟩ := r1'.flat c1
      obtain ⟨e3, f3⟩ := h2.flat c2
      exact .inl ⟨a, vs, rfl, .inl (SqL.of h1), f1, f3, Post.at ab po (by rw [e1, e3]; rfl)⟩
    · simp only [hc, if_false] at po
      exact po.elim
  case tup xs =>
    by_cases hc : (flatD d1 && xs.all flatD) = true
    · simp only [hc, if_true] at po
      obtain ⟨c1, c2⟩ := Bool.and_eq_true_iff.mp hc
      obtain ⟨a, vs, rfl, h1, h2⟩ := t2
      have r1' : Rp K F adr d1 x := by
        cases d1 <;> first | exact r1 | cases c1
      obtain ⟨e1, f1⟩ := r1'.flat c1
      obtain ⟨e3, f3⟩ := h2.flat c2
      exact .inl ⟨a, vs, rfl, .inr (ex_t ab.sub h1.t), f1, f3, Post.at ab po (by rw [e1, e3]; rfl)⟩
    · simp only [hc, if_false] at po
      exact po.elim
  case str z =>
    cases d1 <;> try (exact po.elim)
    case str w =>
      simp only at po
      cases e : w.cps.toList with
      | nil => simp only [e] at po; exact po.elim
      | cons c r =>
        cases r with
        | nil =>
          simp only [e] at po
          have r1' : x = .str w := r1
          exact .inr ⟨c, z, by rw [r1', str_one e], t2, Post.at ab po rfl⟩
        | cons c2 r2 => simp only [e] at po; exact po.elim
theorem op_inD : OpR X (compareOp .In) (r2I (kk X) W (inD false)) := OpR.imp (op_in_seq.or op_in_sign) fun x y H Q h => by
  rcases in_fin false h with z | ⟨c, w, z1, z2, z3⟩
  · exact .inl z
  · exact .inr ⟨c, w, z1, z2, z3⟩
theorem op_ninD : OpR X (compareOp .NotIn) (r2I (kk X) W (inD true)) := OpR.imp (op_notIn_seq.or op_notIn_sign) fun x y H Q h => by
  rcases in_fin true h with z | ⟨c, w, z1, z2, z3⟩
  · exact .inl z
  · exact .inr ⟨c, w, z1, z2, z3⟩
end
end Bx
namespace Bx
open PySem L2 PySem.Spec PyProof.Rows
structure FnG (P : Program) (w : World) (K : PySem.W.Frag) (mg : Str → Option Value) (base : Heap) (k : Nat) (f : Addr) (fd : FuncData) (ps : List Str) (sp : Sp) : Prop where
  len : ∀ vs H Q E, sp vs H Q E → vs.length = ps.length
  run : ∀ (A : Around) (outer : List Env) (s : Shared) (H : Hp) (args : Args) (us : List Value) (vs : List V) (Q : VK) (E : XK), Room k A → A.guards = some [] → Env0 P w K mg base A outer s H →
    BindsTo s fd args (ps.zip us) → Vals vs us → sp vs H Q E → codeAny (model P w) A (.call (.ref f) args) (CR (L2.CX P w) outer P w H s Q E) s
theorem FnG.mono {P : Program} {w : World} {K : PySem.W.Frag} {mg : Str → Option Value} {base : Heap} {j k : Nat} {f : Addr} {fd : FuncData} {ps : List Str} {sp : Sp} (G : FnG P w K mg base j f fd ps sp) (h : j ≤ k) : FnG P w K mg base k f fd ps sp :=
  ⟨G.len, fun A outer s H args us vs Q E hr => G.run A outer s H args us vs Q E (hr.mono h)⟩
/-- a def by its body -/
theorem fnG_of {P : Program} {w : World} {K : PySem.W.Frag} {mg : Str → Option Value} {base : Heap} {k : Nat} {f : Addr} {x qual : Str} {params : Arguments} {body : List Stmt} {scope : Scope} {dvs : List V} {kws : List (Str × V)} {fd : FuncData}
    {N ps : List Str} {sp : Sp} (D : FunD K x qual params body scope dvs kws f fd) (S : FnScope N ps scope) (len : ∀ vs H Q E, sp vs H Q E → vs.length = ps.length)
    (hbody : ∀ (cdv : Value) (A : Around) (outer : List Env) (s : Shared) (H : Hp) (vs : List V) (Q : VK) (E : XK), Room k (A.deeper (envOfC qual scope s.heap.objs.size f cdv)) → A.guards = some [] → sp vs H Q E →
      ∃ t, PSs (cxOf (L2.CX P w) P w K mg base N qual scope f cdv A outer s H E) body t ∧ t { nx := fun _ H' => Q .non H', rt := Q } (start N vs) H) :
    FnG P w K mg base (k + 1) f fd ps sp := by
  obtain ⟨oc, od, dV, kV, doc, pm, an, cdv, ct, osl, rfl, lk, hcd, _, _⟩ := D.ex
  refine ⟨len, fun A outer s H args us vs Q E hr hgd e0 hb rv hsp => ?_⟩
  have kin : K.In s.heap := e0.mod.kin.keeps fun b o e => (e0.bs b o e).1
  have kinds : ∀ y ∈ ps.zip us, scope.names.lookup y.1 = some .local ∨ (scope.names.lookup y.1 = some .cell ∧ ((cellsFrom (s.heap.objs.size + 1) scope.names []).lookup y.1).isSome = true) := by
    rintro ⟨n, v⟩ hy
    rcases S.par n (List.of_mem_zip hy).1 with q | q
    · exact .inl q
    · exact .inr ⟨q, PySem.W.cellsFrom_some _ _ _ (.inl q)⟩
  refine codeAny_call_function hr.depth (kin _ _ lk) rfl S.co S.gen rfl (PySem.W.codeRec_of kin hcd) (hb _ _ _ _ ?_)
  refine wpAny_newFunctionEnv_cells S.kind kinds fun env he s1 ic => ?_
  subst he
  refine ⟨(e0.mod.nolimit.keeps fun b o e => (e0.bs b o e).1).keeps ic.toInCall.keep, codeAny_func ?_⟩
  obtain ⟨t, ht, hq⟩ := hbody cdv A outer s H vs Q E (hr.deeper _) hgd hsp
  have inv := inv_start (CX := L2.CX P w) (w := w) (N := N) (E := E) S hr.hd e0 (len _ _ _ _ hsp) rv ic
  refine wpAny_mono (ht.run [] s1 (start N vs) H _ inv hq) (fun fl s' hs => ?_) fun e s' hs => hs
  cases fl with
  | ret u => obtain ⟨v, σ', H', J, r1, q⟩ := hs; exact ⟨v, H', J.os, J.bare, J.base, J.hok, r1, q⟩
  | next => obtain ⟨σ', H', J, q⟩ := hs; exact ⟨V.non, H', J.os, J.bare, J.base, J.hok, rfl, q⟩
  | brk => obtain ⟨_, _, _, q⟩ := hs; exact q.elim
  | cont => obtain ⟨_, _, _, q⟩ := hs; exact q.elim
inductive RF where
  | ok (d : D) (μ : List MO) | exc (x : Xc) (μ : List MO) | bad
abbrev Den := List D → List MO → RF
def PostF (K : KK) (F : Hp) (adr : List Addr) (H : Hp) (r : RF) (Q : VK) (E : XK) : Prop := match r with
  | .ok d μ' => ∀ v F' adr' H', Step F adr (· ∈ adr) H F' adr' (· ∈ adr') H' → AbsH K F' adr' μ' H' → Rp K F' adr' d v → Q v H'
  | .exc x μ' => ∀ cls dd F' adr' H', Step F adr (· ∈ adr) H F' adr' (· ∈ adr') H' → AbsH K F' adr' μ' H' → RpX K F' adr' x cls dd H' → E cls dd H'
  | .bad => False
/-- the promise: n arguments -/
def spD (K : KK) (n : Nat) (den : Den) : Sp := fun vs H Q E => ∃ F adr μ ds, AbsH K F adr μ H ∧ RpL K F adr ds vs ∧ vs.length = n ∧ PostF K F adr H (den ds μ) Q E
section
variable {X : Cx} {W : WX} {K : KK} {F F' H H' : Hp} {adr adr' : List Addr} {s : S} {σ : L2.St} {d : D} {v : V}
theorem Abs.after {μ' : List MO} (ab : Abs K F adr s σ H) (st : Step F adr (· ∈ adr) H F' adr' (· ∈ adr') H') (ah : AbsH K F' adr' μ' H') :
    Step F adr (Fp adr s σ) H F' adr' (Fp adr' { s with μ := μ' } σ) H' ∧ Abs K F' adr' { s with μ := μ' } σ H' := by
  have own : ∀ a, owns s σ a → H a ≠ none ∧ F a = none ∧ a ∉ adr := fun a ⟨j, m, h1, h2⟩ => by
    obtain ⟨l, o, e1, e2, e3, e4, _⟩ := ab.slo j m h1
    rw [h2] at e1
    cases e1
    exact ⟨by rw [e4]; simp, e2, e3⟩
  refine ⟨⟨st.ex, st.pre, fun a o h n f => st.keep a o h (fun z => n (.inl z)) f, fun a h => ?_, fun a h => ?_, st.there⟩, ⟨ah, ab.lenr, fun j d h => ?_, fun j m h => ?_, ab.dis⟩⟩
  · rcases h with h | h
    · rcases st.foot a h with z | z
      · exact .inl (.inl z)
      · exact .inr z
    · exact .inl (.inr h)
  · rcases st.frz a h with z | z | z
    · exact .inl z
    · exact .inr (.inl z)
    · exact .inr (.inr (.inl z))
  · obtain ⟨v, q1, q2⟩ := ab.slv j d h
    exact ⟨v, q1, q2.mono st.ex st.pre⟩
  · obtain ⟨l, o, q1, q2, q3, q4, q5⟩ := ab.slo j m h
    have hl : H l ≠ none := by rw [q4]; simp
    refine ⟨l, o, q1, ?_, ?_, st.keep l o q4 q3 q2, q5.mono st.ex st.pre⟩
    · cases e : F' l with
      | none => rfl
      | some u =>
        rcases st.frz l (by rw [e]; simp) with z | z | z
        · exact absurd q2 z
        · exact absurd z hl
        · exact absurd z q3
    · intro z
      rcases st.foot l z with y | y
      · exact q3 y
      · exact hl y
def callD (den : Den) (ds : List D) : M D := fun s => match den ds s.μ with
  | .ok d μ' => .ok d { s with μ := μ' }
  | .exc x μ' => .exc x { s with μ := μ' }
  | .bad => .bad
theorem call_post {den : Den} {ds : List D} {Q : VK} (ab : Abs K F adr s σ H) (po : Post K W F adr s σ H (callD den ds s) Q) : PostF K F adr H (den ds s.μ) Q (fun cls dd H' => W cls dd σ H') := by
  unfold callD at po
  cases e : den ds s.μ with
  | ok d μ' =>
    rw [e] at po
    intro v F' adr' H' st ah rp
    exact po v F' adr' H' (ab.after st ah).1 (ab.after st ah).2 (.of rp)
  | exc x μ' =>
    rw [e] at po
    intro cls dd F' adr' H' st ah rp
    exact po cls dd F' adr' H' (ab.after st ah).1 (ab.after st ah).2 rp
  | bad => rw [e] at po; exact po
def margs : List (M D) → M (List D)
  | [] => pur []
  | m :: ms => bnd m fun d => bnd (margs ms) fun ds => pur (d :: ds)
theorem sa_nil : SA X W [] (margs []) := PA.imp pa_nil fun σ H Q t => by
  obtain ⟨F, adr, s, ab, po⟩ := t
  exact po [] F adr H .refl ab rfl
theorem sa_cons {e : Expr} {es : List Expr} {m : M D} {ms : List (M D)} (ha : SE X W e m) (hr : SA X W es (margs ms)) (hs : starEach (e :: es) X.env = (false, eval e X.env) :: starEach es X.env := by rfl) : SA X W (e :: es) (margs (m :: ms)) :=
  PA.imp (pa_cons ha hr hs) fun σ H Q t => by
    obtain ⟨F, adr, s, ab, po⟩ := t
    refine ⟨F, adr, s, ab, (PostG.bind po).imp ?_⟩
    rintro x H1 ⟨F1, adr1, d1, s1, st1, ab1, rp1, po1⟩
    refine ⟨F1, adr1, s1, ab1, (PostG.bind po1).imp ?_⟩
    rintro xs H2 ⟨F2, adr2, ds, s2, st2, ab2, rp2, po2⟩
    exact po2 (x :: xs) F2 adr2 H2 .refl ab2 ⟨x, xs, rfl, rp1.mono st2.ex st2.pre, rp2⟩
/-- arguments that stand still -/
def tAL (K : KK) (W : WX) (m : M (List D)) : TA := fun σ H Q => ∃ F adr s, Abs K F adr s σ H ∧ PostG K W (fun F adr ds vs => RpL K F adr ds vs) F adr s σ H (m s) Q
def SAL (X : Cx) (W : WX) (es : List Expr) (m : M (List D)) : Prop := PA X es (tAL (kk X) W m)
def mal : List (M D) → M (List D)
  | [] => pur []
  | m :: ms => bnd m fun d => bnd (settle d) fun d => bnd (mal ms) fun ds => pur (d :: ds)
theorem sal_nil : SAL X W [] (mal []) := PA.imp pa_nil fun σ H Q t => by
  obtain ⟨F, adr, s, ab, po⟩ := t
  exact po [] F adr H .refl ab rfl
/-- settled, with any relation behind -/
theorem settle_bind {γ δ : Type} {rel' : Hp → List Addr → γ → δ → Prop} {f : D → M γ} {Q : δ → Hp → Prop} (ab : Abs K F adr s σ H) (r : RpV K F adr σ d v) (h : PostG K W rel' F adr s σ H ((settle d s).bind f) Q) :
    ∃ F' d' s', Step F adr (Fp adr s σ) H F' adr (Fp adr s' σ) H ∧ Abs K F' adr s' σ H ∧ Rp K F' adr d' v ∧ PostG K W rel' F' adr s' σ H (f d' s') Q := by
  cases e : settle d s with
  | ok d' s' =>
    obtain ⟨F', q1, q2, q3⟩ := settle_ok ab r e
    rw [e] at h
    exact ⟨F', d', s', q1, q2, q3, PostG.from q1 h⟩
  | exc x s' => cases d <;> simp [settle] at e <;> (split at e <;> cases e)
  | bad => rw [e] at h; exact h.elim
theorem sal_cons {e : Expr} {es : List Expr} {m : M D} {ms : List (M D)} (ha : SE X W e m) (hr : SAL X W es (mal ms)) (hs : starEach (e :: es) X.env = (false, eval e X.env) :: starEach es X.env := by rfl) : SAL X W (e :: es) (mal (m :: ms)) :=
  PA.imp (pa_cons ha hr hs) fun σ H Q t => by
    obtain ⟨F, adr, s, ab, po⟩ := t
    refine ⟨F, adr, s, ab, (PostG.bind po).imp ?_⟩
    rintro x H1 ⟨F1, adr1, d1, s1, st1, ab1, rp1, po1⟩
    obtain ⟨F1', d1', s1', q1, q2, q3, q4⟩ := settle_bind ab1 rp1 po1
    refine ⟨F1', adr1, s1', q2, (PostG.bind q4).imp ?_⟩
    rintro xs H2 ⟨F2, adr2, ds, s2, st2, ab2, rp2, po2⟩
    exact po2 (x :: xs) F2 adr2 H2 .refl ab2 ⟨x, xs, rfl, q3.mono st2.ex st2.pre, rp2⟩
theorem PK.imp {e : List Keyword} {t t' : TA} (h : PK X e t) (q : ∀ σ H Q, t' σ H Q → t σ H Q) : PK X e t' := ⟨fun pos pins s σ H Q I w => h.run pos pins s σ H Q I (q σ H Q w)⟩
def pick {α : Type} (z : α) (ix : List Nat) (all : List α) : List α := ix.map fun i => all.getD i z
structure CallB (K : KK) (fd : FuncData) (ps : List Str) (n : Nat) (ks : List Str) (ix : List Nat) (dds : List D) : Prop where
  ex : ∃ (dfl : List Value) (dvs : List V), Vals dvs dfl ∧ (∀ F adr, RpL K F adr dds dvs) ∧
    ∀ (s : Shared) (us ws : List Value), K.K.In s.heap → us.length = n → ws.length = ks.length → BindsTo s fd ⟨us, ks.zip ws⟩ (ps.zip (pick .none ix (us ++ ws ++ dfl)))
theorem vals_pick : ∀ (ix : List Nat) {vs : List V} {us : List Value}, Vals vs us → Vals (pick V.non ix vs) (pick Value.none ix us)
  | [], _, _, _ => .nil
  | i :: ix, vs, us, r => by
    refine .cons ?_ (vals_pick ix r)
    show RelV (vs.getD i .non) (us.getD i .none)
    rw [List.getD_eq_getElem?_getD, List.getD_eq_getElem?_getD]
    cases e : vs[i]? with
    | none => rw [r.none_of e]; rfl
    | some x =>
      obtain ⟨u, h1, h2⟩ := r.get e
      rw [h1]
      exact h2
theorem rpl_pick : ∀ (ix : List Nat) {ds : List D} {vs : List V}, RpL K F adr ds vs → RpL K F adr (pick D.non ix ds) (pick V.non ix vs)
  | [], _, _, _ => .nil
  | i :: ix, ds, vs, r => by
    refine .cons ?_ (rpl_pick ix r)
    show Rp K F adr (ds.getD i .non) (vs.getD i .non)
    rw [List.getD_eq_getElem?_getD, List.getD_eq_getElem?_getD]
    cases e : ds[i]? with
    | none =>
      have : vs[i]? = none := List.getElem?_eq_none_iff.mpr (by rw [r.length]; exact List.getElem?_eq_none_iff.mp e)
      rw [this]
      rfl
    | some x =>
      obtain ⟨u, h1, h2⟩ := r.get e
      rw [h1]
      exact h2
/-- what the call of an own def asks -/
def callK (den : Den) (ix : List Nat) (dds : List D) (a k : M (List D)) : M D := bnd a fun ds => bnd k fun es => callD den (pick .non ix (ds ++ es ++ dds))
/-- the callee runs -/
theorem run_G {k n : Nat} {f : Addr} {fd : FuncData} {ps ks : List Str} {ix : List Nat} {dds : List D} {den : Den} {pins : List (Addr × Obj)} {sh : Shared} {Q : VK} {us ws : List Value} {vs zs : List V} {ds es : List D} {σ0 : L2.St}
    (G : FnG X.prog X.w X.K X.mg X.base k f fd ps (spD (kk X) ps.length den)) (hr : Room k X.A) (hgd : X.A.guards = some []) (hb : CallB (kk X) fd ps n ks ix dds) (hix : ix.length = ps.length) (tk : Takes X W)
    (I : Inv X pins σ H sh) (rv : Vals vs us) (rz : Vals zs ws) (l1 : ds.length = n) (l2 : es.length = ks.length)
    (ab : Abs (kk X) F adr s σ H) (r1 : RpL (kk X) F adr ds vs) (r2 : RpL (kk X) F adr es zs) (po : Post (kk X) W F adr s σ H (callD den (pick .non ix (ds ++ es ++ dds)) s) Q) :
    wpAny (model X.prog X.w) X.A (call (.ref f) us (ks.zip ws)) (EP X pins σ Q) X.xe sh := by
  obtain ⟨dfl, dvs, hv, hd, hbt⟩ := hb.ex
  have rAll : Vals (vs ++ zs ++ dvs) (us ++ ws ++ dfl) := (rv.append rz).append hv
  have dAll : RpL (kk X) F adr (ds ++ es ++ dds) (vs ++ zs ++ dvs) := (r1.append r2).append (hd F adr)
  have hlen : (pick V.non ix (vs ++ zs ++ dvs)).length = ps.length := by unfold pick; rw [List.length_map, hix]
  refine wpAny_call (codeAny_mono (G.run X.A X.stack sh H ⟨us, ks.zip ws⟩ (pick .none ix (us ++ ws ++ dfl)) (pick .non ix (vs ++ zs ++ dvs)) Q (fun c dd H' => W c dd σ H') hr hgd I.env0
    (hbt sh us ws I.kIn (by rw [← rv.length, r1.length, l1]) (by rw [← rz.length, r2.length, l2])) (vals_pick ix rAll) ⟨F, adr, s.μ, _, ab.toAbsH, rpl_pick ix dAll, hlen, call_post ab po⟩) fun r s' hq => ?_)
  cases r with
  | error e => exact tk e s' (XE.of_call I (fun _ _ _ h => h) hq)
  | ok fl =>
    cases fl with
    | ret u => exact I.after hq
    | next => exact hq.elim
    | brk => exact hq.elim
    | cont => exact hq.elim
theorem PostG.bindE {α β γ δ : Type} {rel : Hp → List Addr → α → β → Prop} {rel' : Hp → List Addr → γ → δ → Prop} {m : R α} {f : α → M γ} {Q : δ → Hp → Prop} (h : PostG K W rel' F adr s σ H (m.bind f) Q) :
    PostG K W rel F adr s σ H m fun v H1 => ∃ F1 adr1 d s1, m = .ok d s1 ∧ Step F adr (Fp adr s σ) H F1 adr1 (Fp adr1 s1 σ) H1 ∧ Abs K F1 adr1 s1 σ H1 ∧ rel F1 adr1 d v ∧ PostG K W rel' F1 adr1 s1 σ H1 (f d s1) Q := by
  cases m with
  | ok d s1 => exact fun v F1 adr1 H1 st ab rp => ⟨F1, adr1, d, s1, rfl, st, ab, rp, PostG.from st h⟩
  | exc x s1 => exact h
  | bad => exact h
theorem mal_len : ∀ {ms : List (M D)} {s s' : S} {ds : List D}, mal ms s = .ok ds s' → ds.length = ms.length
  | [], _, _, _, h => by cases h; rfl
  | m :: ms, s, s', ds, h => by
    have h' : (m s).bind (fun d => bnd (settle d) fun d => bnd (mal ms) fun ds => pur (d :: ds)) = .ok ds s' := h
    cases e1 : m s with
    | ok d s1 =>
      rw [e1] at h'
      have h2 : (settle d s1).bind (fun d => bnd (mal ms) fun ds => pur (d :: ds)) = .ok ds s' := h'
      cases e2 : settle d s1 with
      | ok d2 s2 =>
        rw [e2] at h2
        have h3 : (mal ms s2).bind (fun ds => pur (d2 :: ds)) = .ok ds s' := h2
        cases e3 : mal ms s2 with
        | ok ds3 s3 =>
          rw [e3] at h3
          cases h3
          rw [List.length_cons, mal_len e3, List.length_cons]
        | exc x s3 => rw [e3] at h3; cases h3
        | bad => rw [e3] at h3; cases h3
      | exc x s3 => rw [e2] at h2; cases h2
      | bad => rw [e2] at h2; cases h2
    | exc x s3 => rw [e1] at h'; cases h'
    | bad => rw [e1] at h'; cases h'
section
variable {k : Nat} {f : Addr} {fd : FuncData} {ps ks : List Str} {ix : List Nat} {dds : List D} {den : Den} {x : Str} {p pos : Pos} {e : Expr} {es : List Expr} {kws : List Keyword} {ms mk : List (M D)}
/-- f(e, ..) -/
theorem se_call (G : FnG X.prog X.w X.K X.mg X.base k f fd ps (spD (kk X) ps.length den)) (hr : Room k X.A) (hgd : X.A.guards = some []) (hg : Gl X x) (hm : X.mg x = some (.ref f)) (hk : PySem.W.keepIn X.K (.ref f) = true)
    (hb : CallB (kk X) fd ps ms.length [] ix dds) (hix : ix.length = ps.length) (tk : Takes X W) (ha : SAL X W (e :: es) (mal ms)) (hdb : (x == ("__debug__" : Str)) = false := by decide)
    (he : starEach (e :: es) X.env = (false, eval e X.env) :: starEach es X.env := by rfl) (hpl : (backTo pos (starEach es X.env)).any (·.1) = false := by rfl) :
    SE X W (.Call (.Name x p) (e :: es) [] pos) (callK den ix dds (mal ms) (mal [])) := by
  refine ⟨fun pins sh σ H Q I h => ?_⟩
  obtain ⟨F, adr, s, ab, po⟩ := h
  refine wpAny_Call_Name_kw (ld_glob I hg hm ?_ hdb)
  have hA := ha.run pos pins sh σ H _ I ⟨F, adr, s, ab, PostG.bindE po⟩
  refine PySem.W.callWith_K (h₀ := X.base) I.ok.mod.kin hk (thn hA fun us s1 ⟨vs, H1, I1, rv, F1, adr1, ds, s1', e1, st1, ab1, rp1, po1⟩ => ⟨I1.kIn, ?_⟩) he hpl
  exact run_G (ws := []) (zs := []) (es := []) (n := ms.length) (ks := []) (σ0 := σ) G hr hgd hb hix tk I1 rv .nil (mal_len e1) rfl ab1 rp1 rfl po1
theorem se_callB {id : String} {g : List D → M D} (hc : CallR X (.builtin id) (rCI (kk X) W g)) (hg : Gl X x) (hm : X.mg x = none) (hv : bootBuiltins x = some (.builtin id)) (ha : SA X W (e :: es) (margs ms)) (hn : x ≠ "__name__" := by decide) (hdb : (x == ("__debug__" : Str)) = false := by decide)
    (he : starEach (e :: es) X.env = (false, eval e X.env) :: starEach es X.env := by rfl) (hpl : (backTo pos (starEach es X.env)).any (·.1) = false := by rfl) : SE X W (.Call (.Name x p) (e :: es) [] pos) (bnd (margs ms) g) :=
  PE.imp (pe_callB hc hg hm hv ha hn hdb he hpl) fun σ H Q t => by
    obtain ⟨F, adr, s, ab, po⟩ := t
    refine ⟨F, adr, s, ab, (PostG.bind po).imp ?_⟩
    rintro xs H1 ⟨F1, adr1, ds, s1, st1, ab1, rp1, po1⟩
    exact ⟨F1, adr1, s1, σ, ds, ab1, rp1, po1⟩
theorem se_callTy {id : String} {g : List D → M D} (hc : CallR X (.type id) (rCI (kk X) W g)) (hg : Gl X x) (hm : X.mg x = none) (hv : bootBuiltins x = some (.type id)) (ha : SA X W (e :: es) (margs ms)) (hn : x ≠ "__name__" := by decide) (hdb : (x == ("__debug__" : Str)) = false := by decide)
    (he : starEach (e :: es) X.env = (false, eval e X.env) :: starEach es X.env := by rfl) (hpl : (backTo pos (starEach es X.env)).any (·.1) = false := by rfl) : SE X W (.Call (.Name x p) (e :: es) [] pos) (bnd (margs ms) g) :=
  PE.imp (pe_callTy hc hg hm hv ha hn hdb he hpl) fun σ H Q t => by
    obtain ⟨F, adr, s, ab, po⟩ := t
    refine ⟨F, adr, s, ab, (PostG.bind po).imp ?_⟩
    rintro xs H1 ⟨F1, adr1, ds, s1, st1, ab1, rp1, po1⟩
    exact ⟨F1, adr1, s1, σ, ds, ab1, rp1, po1⟩
end
end
end Bx
namespace Bx
open PySem L2 PySem.Spec PyProof.Rows
section
variable {X : Cx} {W : WX} {K : KK} {F F' H H' : Hp} {adr adr' : List Addr} {s : S} {σ : L2.St} {d : D} {v : V} {e a b c : Expr} {es : List Expr} {m ma mb mc : M D} {ms : List (M D)} {pos : Pos}
def mtup (ms : List (M D)) : M D := bnd (mal ms) fun ds => pur (.tup ds)
def mlst (ms : List (M D)) : M D := bnd (mal ms) fun ds => pur (.lst ds)
theorem se_tup {x1 : Nat} (h : SAL X W es (mal ms)) (hl : ms.length ≤ 100000 := by decide) : SE X W (.Tuple es x1 pos) (mtup ms) := PE.imp (pe_tupX h) fun σ H Q t => by
  obtain ⟨F, adr, s, ab, po⟩ := t
  refine ⟨F, adr, s, ab, (PostG.bindE po).imp ?_⟩
  rintro xs H1 ⟨F1, adr1, ds, s1, e1, st1, ab1, rp1, po1⟩
  refine ⟨sz (by rw [rp1.length, mal_len e1]; exact hl), fun p ob hd hp => Post.new ab1 po1 hp ⟨p, xs, rfl, .of upd_same hd, rp1.mono (Ex.new (ab1.fnone hp)) (List.prefix_refl _)⟩⟩
theorem se_lst (h : SAL X W es (mal ms)) (hl : ms.length ≤ 100000 := by decide) : SE X W (.List es pos) (mlst ms) := PE.imp (pe_lst h) fun σ H Q t => by
  obtain ⟨F, adr, s, ab, po⟩ := t
  refine ⟨F, adr, s, ab, (PostG.bindE po).imp ?_⟩
  rintro xs H1 ⟨F1, adr1, ds, s1, e1, st1, ab1, rp1, po1⟩
  refine ⟨sz (by rw [rp1.length, mal_len e1]; exact hl), fun p hp => Post.new ab1 po1 hp ⟨p, xs, rfl, upd_same, rp1.mono (Ex.new (ab1.fnone hp)) (List.prefix_refl _)⟩⟩
def lookD (f : Str) : List (Str × D) → Option D
  | [] => none
  | (g, d) :: r => if f = g then some d else lookD f r
theorem RpF.look {f : Str} : ∀ {ds : List (Str × D)} {fs : List (Str × V)} {d : D}, RpF K F adr ds fs → lookD f ds = some d → ∃ v, fs.lookup f = some v ∧ Rp K F adr d v
  | [], _, _, _, h => nomatch h
  | (g, d0) :: ds, _, d, ⟨v, r, q, h1, h2⟩, h => by
    subst q
    have h' : (if f = g then some d0 else lookD f ds) = some d := h
    by_cases hf : f = g
    · rw [if_pos hf] at h'
      cases h'
      exact ⟨v, by rw [hf, List.lookup_cons, beq_self_eq_true], h1⟩
    · rw [if_neg hf] at h'
      obtain ⟨u, e1, e2⟩ := RpF.look h2 h'
      exact ⟨u, by rw [List.lookup_cons, beq_eq_false_iff_ne.mpr hf]; exact e1, e2⟩
theorem RpF.lookN {f : Str} : ∀ {ds : List (Str × D)} {fs : List (Str × V)}, RpF K F adr ds fs → lookD f ds = none → fs.lookup f = none
  | [], _, r, _ => by cases r; rfl
  | (g, d0) :: ds, _, ⟨v, r, q, h1, h2⟩, h => by
    subst q
    have h' : (if f = g then some d0 else lookD f ds) = none := h
    by_cases hf : f = g
    · rw [if_pos hf] at h'; cases h'
    · rw [if_neg hf] at h'
      rw [List.lookup_cons, beq_eq_false_iff_ne.mpr hf]
      exact RpF.lookN h2 h'
/-- an object of the class c: still, in the store, one's own -/
def objOf (c : Str) (s : S) : D → Option (List (Str × D))
  | .obj c' fs => if c' = c then some fs else none
  | .ref i => match s.μ[i]? with
    | some (.ins c' fs) => if c' = c then some fs else none
    | _ => none
  | .loc j => match s.ρ[j]? with
    | some (.own (.ins c' fs)) => if c' = c then some fs else none
    | some (.own (.slf c' _ _ fs)) => if c' = c then some fs else none
    | some (.val (.obj c' fs)) => if c' = c then some fs else none
    | _ => none
  | _ => none
theorem Abs.obj {c : Str} {fs : List (Str × D)} (ab : Abs K F adr s σ H) (r : RpV K F adr σ d v) (h : objOf c s d = some fs) : ∃ a dx vs, v = .ref a ∧ H a = some (.ins (He.ga K.K c) dx vs) ∧ RpF K F adr fs vs := by
  have still : ∀ c' (v : V), Rp K F adr (.obj c' fs) v → c' = c → ∃ a dx vs, v = .ref a ∧ H a = some (.ins (He.ga K.K c) dx vs) ∧ RpF K F adr fs vs := fun c' v ⟨a, dx, vs, q, e, z⟩ hc => by
    subst hc
    exact ⟨a, dx, vs, q, ex_i ab.sub (fun z => z) e, z⟩
  cases d <;> first | (cases h; done) | skip
  case obj c' gs =>
    by_cases hc : c' = c
    · simp only [objOf, hc, if_true, Option.some.injEq] at h
      subst h
      exact still c' v r hc
    · simp only [objOf, hc, if_false] at h
      cases h
  case ref i =>
    obtain ⟨a, q, rfl⟩ := r
    cases e : s.μ[i]? with
    | none => simp only [objOf, e] at h; cases h
    | some m =>
      obtain ⟨h1, o, h2, h3⟩ := ab.sto i a m q e
      cases m <;> first | (simp only [objOf, e] at h; cases h; done) | skip
      case ins c' gs =>
        by_cases hc : c' = c
        · simp only [objOf, e, hc, if_true, Option.some.injEq] at h
          subst h hc
          obtain ⟨dx, vs, rfl, z⟩ := h3
          exact ⟨a, dx, vs, rfl, h2, z⟩
        · simp only [objOf, e, hc, if_false] at h
          cases h
  case loc j =>
    have r' : σ[j]? = some (some v) := r
    cases e : s.ρ[j]? with
    | none => simp only [objOf, e] at h; cases h
    | some sl =>
      cases sl with
      | no => simp only [objOf, e] at h; cases h
      | val d1 =>
        obtain ⟨v', q1, q2⟩ := ab.slv j d1 e
        rw [r'] at q1
        cases q1
        cases d1 <;> first | (simp only [objOf, e] at h; cases h; done) | skip
        case obj c' gs =>
          by_cases hc : c' = c
          · simp only [objOf, e, hc, if_true, Option.some.injEq] at h
            subst h
            exact still c' v q2 hc
          · simp only [objOf, e, hc, if_false] at h
            cases h
      | own m =>
        obtain ⟨l, o, q1, q2, q3, q4, q5⟩ := ab.slo j m e
        rw [r'] at q1
        cases q1
        cases m <;> first | (simp only [objOf, e] at h; cases h; done) | skip
        case ins c' gs =>
          by_cases hc : c' = c
          · simp only [objOf, e, hc, if_true, Option.some.injEq] at h
            subst h hc
            obtain ⟨dx, vs, rfl, z⟩ := q5
            exact ⟨l, dx, vs, rfl, q4, z⟩
          · simp only [objOf, e, hc, if_false] at h
            cases h
        case slf c' x dx gs =>
          by_cases hc : c' = c
          · simp only [objOf, e, hc, if_true, Option.some.injEq] at h
            subst h hc
            obtain ⟨_, vs, rfl, z⟩ := q5
            exact ⟨l, dx, vs, rfl, q4, z⟩
          · simp only [objOf, e, hc, if_false] at h
            cases h
def fldD (c f : Str) (d : D) : M D := fun s => match objOf c s d with
  | some fs => match lookD f fs with
    | some x => .ok x s
    | none => .bad
  | none => .bad
theorem se_fld {cn f : Str} (he : SE X W e m) (cl : Cls X.K (He.ga X.K cn)) (na : NoAttr X.K (He.ga X.K cn) f) (hb : attributeBase e f X.env (eval e X.env) = eval e X.env := by rfl) : SE X W (.Attribute e f pos) (bnd m (fldD cn f)) :=
  PE.imp (pe_fld he hb) fun σ H Q t => by
    obtain ⟨F, adr, s, ab, po⟩ := t
    refine ⟨F, adr, s, ab, (PostG.bind po).imp ?_⟩
    rintro x H1 ⟨F1, adr1, d1, s1, st1, ab1, rp1, po1⟩
    unfold fldD at po1
    cases h1 : objOf cn s1 d1 with
    | none => rw [h1] at po1; exact po1.elim
    | some fs =>
      rw [h1] at po1
      obtain ⟨a, dx, vs, q1, q2, q3⟩ := ab1.obj rp1 h1
      cases h2 : lookD f fs with
      | none => simp only [h2] at po1; exact po1.elim
      | some y =>
        simp only [h2] at po1
        obtain ⟨u, z1, z2⟩ := q3.look h2
        exact ⟨a, _, dx, vs, u, q1, q2, cl, na, z1, Post.at ab1 po1 z2⟩
def andD (a b : M D) : M D := bnd a fun d => match d with
  | .bl true => b
  | .bl false => pur (.bl false)
  | _ => fun _ => .bad
def orD (a b : M D) : M D := bnd a fun d => match d with
  | .bl false => b
  | .bl true => pur (.bl true)
  | _ => fun _ => .bad
def notD (a : M D) : M D := bnd a fun d => match d with
  | .bl x => pur (.bl !x)
  | _ => fun _ => .bad
theorem se_one {op : BoolOp} (h : SE X W a ma) : SE X W (.BoolOp op [a] pos) ma := PE.imp (pe_one h) fun _ _ _ t => t
theorem se_and {rest : List Expr} (ha : SE X W a ma) (hb : SE X W (.BoolOp .And (b :: rest) pos) mb) : SE X W (.BoolOp .And (a :: b :: rest) pos) (andD ma mb) := PE.imp (pe_and ha hb) fun σ H Q t => by
  obtain ⟨F, adr, s, ab, po⟩ := t
  refine ⟨F, adr, s, ab, (PostG.bind po).imp ?_⟩
  rintro x H1 ⟨F1, adr1, d1, s1, st1, ab1, rp1, po1⟩
  cases d1 <;> try (exact po1.elim)
  case bl k =>
    refine ⟨k, rp1, ?_⟩
    cases k with
    | true => exact ⟨F1, adr1, s1, ab1, po1⟩
    | false => exact Post.at ab1 po1 rfl
theorem se_not (ha : SE X W a ma) : SE X W (.UnaryOp .Not a pos) (notD ma) := PE.imp (pe_not ha) fun σ H Q t => by
  obtain ⟨F, adr, s, ab, po⟩ := t
  refine ⟨F, adr, s, ab, (PostG.bind po).imp ?_⟩
  rintro x H1 ⟨F1, adr1, d1, s1, st1, ab1, rp1, po1⟩
  cases d1 <;> try (exact po1.elim)
  case bl k => exact ⟨k, rp1, Post.at ab1 po1 rfl⟩
def SW (X : Cx) (W : WX) (e : Expr) (m : M Bool) : Prop := PW X e (tT (kk X) W m)
theorem PW.imp {e : Expr} {t t' : TT} (h : PW X e t) (q : ∀ σ H Q, t' σ H Q → t σ H Q) : PW X e t' := ⟨fun wh pins s σ H Q I w => h.run wh pins s σ H Q I (q σ H Q w)⟩
variable {ta tb tc : M Bool}
theorem st_w (h : SW X W e ta) : ST X W e ta := PW.pt h
theorem sw_and1 (ha : ST X W a ta) : SW X W (.BoolOp .And [a] pos) ta := PW.imp (pw_and1 ha) fun _ _ _ t => t
theorem sw_or1 (ha : ST X W a ta) : SW X W (.BoolOp .Or [a] pos) ta := PW.imp (pw_or1 ha) fun _ _ _ t => t
def andT (a b : M Bool) : M Bool := bnd a fun x => if x then b else pur false
def orT (a b : M Bool) : M Bool := bnd a fun x => if x then pur true else b
def notT (a : M Bool) : M Bool := bnd a fun x => pur !x
theorem PostG.done {α β : Type} {rel : Hp → List Addr → α → β → Prop} {x : α} {y : β} {Q : β → Hp → Prop} (ab : Abs K F adr s σ H) (po : PostG K W rel F adr s σ H (.ok x s) Q) (r : rel F adr x y) : Q y H := po y F adr H .refl ab r
theorem sw_and {rest : List Expr} (ha : ST X W a ta) (hb : SW X W (.BoolOp .And (b :: rest) pos) tb) : SW X W (.BoolOp .And (a :: b :: rest) pos) (andT ta tb) := PW.imp (pw_and ha hb) fun σ H Q t => by
  obtain ⟨F, adr, s, ab, po⟩ := t
  refine ⟨F, adr, s, ab, (PostG.bind po).imp ?_⟩
  rintro x H1 ⟨F1, adr1, d1, s1, st1, ab1, rp1, po1⟩
  have e1 : x = d1 := rp1
  subst e1
  cases x with
  | true => exact ⟨F1, adr1, s1, ab1, po1⟩
  | false => exact PostG.done ab1 po1 rfl
theorem sw_or {rest : List Expr} (ha : ST X W a ta) (hb : SW X W (.BoolOp .Or (b :: rest) pos) tb) : SW X W (.BoolOp .Or (a :: b :: rest) pos) (orT ta tb) := PW.imp (pw_or ha hb) fun σ H Q t => by
  obtain ⟨F, adr, s, ab, po⟩ := t
  refine ⟨F, adr, s, ab, (PostG.bind po).imp ?_⟩
  rintro x H1 ⟨F1, adr1, d1, s1, st1, ab1, rp1, po1⟩
  have e1 : x = d1 := rp1
  subst e1
  cases x with
  | true => exact PostG.done ab1 po1 rfl
  | false => exact ⟨F1, adr1, s1, ab1, po1⟩
theorem st_not (ha : ST X W a ta) : ST X W (.UnaryOp .Not a pos) (notT ta) := PT.imp (pt_not ha) fun σ H Q t => by
  obtain ⟨F, adr, s, ab, po⟩ := t
  refine ⟨F, adr, s, ab, (PostG.bind po).imp ?_⟩
  rintro x H1 ⟨F1, adr1, d1, s1, st1, ab1, rp1, po1⟩
  have e1 : x = d1 := rp1
  subst e1
  exact PostG.done ab1 po1 rfl
/-- a comparison that gives a truth -/
def tru (a : M D) : M Bool := bnd a fun d => match d with
  | .bl x => pur x
  | _ => fun _ => .bad
theorem t_tru {σ : L2.St} {H : Hp} {Q : Bool → Hp → Prop} (t : tT K W (tru m) σ H Q) : tI K W m σ H fun x H1 => ∃ k, x = .bl k ∧ Q k H1 := by
  obtain ⟨F, adr, s, ab, po⟩ := t
  refine ⟨F, adr, s, ab, (PostG.bind po).imp ?_⟩
  rintro x H1 ⟨F1, adr1, d1, s1, st1, ab1, rp1, po1⟩
  cases d1 <;> try (exact po1.elim)
  case bl k => exact ⟨k, rp1, PostG.done ab1 po1 rfl⟩
theorem st_cmp {op : CmpOp} {f : D → D → M D} (ho : OpR X (compareOp op) (r2I (kk X) W f)) (ha : SE X W a ma) (hb : SE X W b mb) (hm : behindInMarks op b = false) : ST X W (.Compare a [op] [b] pos) (tru (bin f ma mb)) :=
  PT.imp (pt_cmpR ho ha hb hm) fun σ H Q t => t_bin (t_tru t)
def chain (f g : D → D → M D) (a b c : M D) : M D := bnd a fun x => bnd b fun y => bnd (f x y) fun z => match z with
  | .bl true => bnd c fun w => g y w
  | .bl false => pur (.bl false)
  | _ => fun _ => .bad
theorem t_chain {f g : D → D → M D} {σ : L2.St} {H : Hp} {Q : VK} (t : tI K W (chain f g ma mb mc) σ H Q) : tChain (r2I K W f) (r2I K W g) (tI K W ma) (tI K W mb) (tI K W mc) σ H Q := by
  obtain ⟨F, adr, s, ab, po⟩ := t
  refine ⟨F, adr, s, ab, (PostG.bind po).imp ?_⟩
  rintro x H1 ⟨F1, adr1, d1, s1, st1, ab1, rp1, po1⟩
  refine ⟨F1, adr1, s1, ab1, (PostG.bind po1).imp ?_⟩
  rintro y H2 ⟨F2, adr2, d2, s2, st2, ab2, rp2, po2⟩
  refine ⟨F2, adr2, s2, σ, d1, d2, ab2, rp1.mono st2.ex st2.pre, rp2, (PostG.bind po2).imp ?_⟩
  rintro z H3 ⟨F3, adr3, d3, s3, st3, ab3, rp3, po3⟩
  cases d3 <;> try (exact po3.elim)
  case bl k =>
    refine ⟨k, rp3, ?_⟩
    cases k with
    | false => exact Post.at ab3 po3 rfl
    | true =>
      refine ⟨F3, adr3, s3, ab3, (PostG.bind po3).imp ?_⟩
      rintro w H4 ⟨F4, adr4, d4, s4, st4, ab4, rp4, po4⟩
      exact ⟨F4, adr4, s4, σ, d2, d4, ab4, rp2.mono (st3.trans st4).ex (st3.trans st4).pre, rp4, po4⟩
theorem se_chain {op op' : CmpOp} {f g : D → D → M D} (ho : OpR X (compareOp op) (r2I (kk X) W f)) (ho' : OpR X (compareOp op') (r2I (kk X) W g)) (ha : SE X W a ma) (hb : SE X W b mb) (hc : SE X W c mc)
    (hm : lastMarks [op, op'] [b, c] = false := by with_unfolding_all rfl) : SE X W (.Compare a [op, op'] [b, c] pos) (chain f g ma mb mc) := PE.imp (pe_chain ho ho' ha hb hc hm) fun _ _ _ => t_chain
theorem st_chain {op op' : CmpOp} {f g : D → D → M D} (ho : OpR X (compareOp op) (r2I (kk X) W f)) (ho' : OpR X (compareOp op') (r2I (kk X) W g)) (ha : SE X W a ma) (hb : SE X W b mb) (hc : SE X W c mc)
    (hm : lastMarks [op, op'] [b, c] = false := by with_unfolding_all rfl) : ST X W (.Compare a [op, op'] [b, c] pos) (tru (chain f g ma mb mc)) := PT.imp (pt_chain ho ho' ha hb hc hm) fun σ H Q t => t_chain (t_tru t)
/-- any value as a test, by its truth -/
def truthD (s : S) (d : D) : Option Bool := match rsl s d with
  | .non => some false
  | .bl b => some b
  | .int i => some (i != 0)
  | .str x => if x.length ≤ 100000 then some ((x.length : Int) != 0) else none
  | .lst xs => some (!xs.isEmpty)
  | .tup xs => some (!xs.isEmpty)
  | _ => none
def truth (a : M D) : M Bool := bnd a fun d s => match truthD s d with
  | some b => .ok b s
  | none => .bad
theorem RpL.isEmpty {ds : List D} {vs : List V} (h : RpL K F adr ds vs) : vs.isEmpty = ds.isEmpty := by
  have e := h.length
  cases ds <;> cases vs <;> first | rfl | simp at e
theorem truth_ok {k : Bool} (ab : Abs K F adr s σ H) (r : RpV K F adr σ d v) (h : truthD s d = some k) : TruV K.K v H k := by
  have t := ab.t r
  unfold truthD at h
  generalize rsl s d = e1 at *
  cases e1 <;> first | (cases h; done) | skip
  case non => cases h; rw [RpT.non t]; exact rfl
  case bl x => cases h; rw [RpT.bl t]; exact rfl
  case int x => cases h; rw [RpT.int t]; exact rfl
  case str x =>
    rw [RpT.str t]
    by_cases hc : x.length ≤ 100000
    · simp only [hc, if_true] at h; cases h; exact ⟨sz hc, rfl⟩
    · simp only [hc, if_false] at h; cases h
  case lst xs =>
    cases h
    obtain ⟨a, vs, rfl, h1, h2⟩ := t
    exact .inl ⟨vs, SqL.of h1, by rw [h2.isEmpty]⟩
  case tup xs =>
    cases h
    obtain ⟨a, vs, rfl, h1, h2⟩ := t
    exact .inr (.inl ⟨vs, ex_t ab.sub h1.t, by rw [h2.isEmpty]⟩)
theorem st_truth (ha : SE X W a ma) (he : ∀ whole, isTrue a X.env whole = (do let v ← whole; standAt a.pos; holding [v] (truthy v)) := by intro _; rfl) : ST X W a (truth ma) := PT.imp (pt_truth ha he) fun σ H Q t => by
  obtain ⟨F, adr, s, ab, po⟩ := t
  refine ⟨F, adr, s, ab, (PostG.bind po).imp ?_⟩
  rintro x H1 ⟨F1, adr1, d1, s1, st1, ab1, rp1, po1⟩
  cases e : truthD s1 d1 with
  | none => simp only [e] at po1; exact po1.elim
  | some k => simp only [e] at po1; exact ⟨k, truth_ok ab1 rp1 e, PostG.done ab1 po1 rfl⟩
def ifD (t : M Bool) (a b : M D) : M D := bnd t fun x => if x then a else b
theorem se_if (hc : ST X W c tc) (ha : SE X W a ma) (hb : SE X W b mb) : SE X W (.IfExp c a b pos) (ifD tc ma mb) := PE.imp (pe_ifExp hc ha hb) fun σ H Q t => by
  obtain ⟨F, adr, s, ab, po⟩ := t
  refine ⟨F, adr, s, ab, (PostG.bind po).imp ?_⟩
  rintro x H1 ⟨F1, adr1, d1, s1, st1, ab1, rp1, po1⟩
  have e1 : x = d1 := rp1
  subst e1
  cases x with
  | true => exact ⟨F1, adr1, s1, ab1, po1⟩
  | false => exact ⟨F1, adr1, s1, ab1, po1⟩
theorem RpVs.one {d : D} {vs : List V} (h : RpVs K F adr σ [d] vs) : ∃ v, vs = [v] ∧ RpV K F adr σ d v := by
  obtain ⟨v, r, q, h1, h2⟩ := h
  have e : r = [] := h2
  exact ⟨v, by rw [q, e], h1⟩
theorem RpVs.two {d e : D} {vs : List V} (h : RpVs K F adr σ [d, e] vs) : ∃ v u, vs = [v, u] ∧ RpV K F adr σ d v ∧ RpV K F adr σ e u := by
  obtain ⟨v, r, q, h1, h2⟩ := h
  obtain ⟨u, e2, h3⟩ := RpVs.one h2
  exact ⟨v, u, by rw [q, e2], h1, h3⟩
/-- a function of one value, of two -/
def f1 (g : D → M D) : List D → M D := fun ds => match ds with
  | [d] => g d
  | _ => fun _ => .bad
def f2 (g : D → D → M D) : List D → M D := fun ds => match ds with
  | [d, e] => g d e
  | _ => fun _ => .bad
theorem f1_of {g : D → M D} {xs : List V} {Q : VK} (h : rCI K W (f1 g) xs H Q) : ∃ x, xs = [x] ∧ r1I K W g x H Q := by
  obtain ⟨F, adr, s, σ, ds, ab, rp, po⟩ := h
  match ds, rp, po with
  | [], _, po => exact po.elim
  | [d], rp, po =>
    obtain ⟨v, e, r⟩ := RpVs.one rp
    exact ⟨v, e, F, adr, s, σ, d, ab, r, po⟩
  | _ :: _ :: _, _, po => exact po.elim
theorem f2_of {g : D → D → M D} {xs : List V} {Q : VK} (h : rCI K W (f2 g) xs H Q) : ∃ x y, xs = [x, y] ∧ r2I K W g x y H Q := by
  obtain ⟨F, adr, s, σ, ds, ab, rp, po⟩ := h
  match ds, rp, po with
  | [], _, po => exact po.elim
  | [_], _, po => exact po.elim
  | [d, e], rp, po =>
    obtain ⟨v, u, q, r1, r2⟩ := RpVs.two rp
    exact ⟨v, u, q, F, adr, s, σ, d, e, ab, r1, r2, po⟩
  | _ :: _ :: _ :: _, _, po => exact po.elim
def lenD (d : D) : M D := fun s => match rsl s d with
  | .str x => if x.length ≤ 100000 then .ok (.int x.length) s else .bad
  | .lst xs => .ok (.int xs.length) s
  | .tup xs => .ok (.int xs.length) s
  | .scr xs => .ok (.int xs.length) s
  | _ => .bad
theorem cr_len : CallR X (.builtin "len") (rCI (kk X) W (f1 lenD)) := CallR.imp call_len fun xs H Q h => by
  obtain ⟨x, rfl, F, adr, s, σ, d, ab, r, po⟩ := f1_of h
  have t := ab.t r
  unfold lenD at po
  generalize rsl s d = e1 at *
  cases e1 <;> try (exact po.elim)
  case str z =>
    by_cases hc : z.length ≤ 100000
    · simp only [hc, if_true] at po
      rw [RpT.str t]
      exact ⟨_, z.length, rfl, ⟨sz hc, rfl⟩, Post.at ab po rfl⟩
    · simp only [hc, if_false] at po; exact po.elim
  case lst ds =>
    obtain ⟨a, vs, rfl, h1, h2⟩ := t
    exact ⟨_, vs.length, rfl, .inl ⟨vs, SqL.of h1, rfl⟩, Post.at ab po (by rw [h2.length]; rfl)⟩
  case tup ds =>
    obtain ⟨a, vs, rfl, h1, h2⟩ := t
    exact ⟨_, vs.length, rfl, .inr ⟨vs, ex_t ab.sub h1.t, rfl⟩, Post.at ab po (by rw [h2.length]; rfl)⟩
  case scr ns =>
    obtain ⟨a, rfl, h1⟩ := t
    exact ⟨_, (ns.map V.int).length, rfl, .inl ⟨_, ex_l ab.sub h1, rfl⟩, Post.at ab po (by rw [List.length_map]; rfl)⟩
def absD (d : D) : M D := fun s => match rsl s d with
  | .int i => .ok (.int (if i < 0 then -i else i)) s
  | _ => .bad
theorem cr_abs : CallR X (.builtin "abs") (rCI (kk X) W (f1 absD)) := CallR.imp call_abs fun xs H Q h => by
  obtain ⟨x, rfl, F, adr, s, σ, d, ab, r, po⟩ := f1_of h
  have t := ab.t r
  unfold absD at po
  generalize rsl s d = e1 at *
  cases e1 <;> try (exact po.elim)
  case int i => rw [RpT.int t]; exact ⟨i, rfl, Post.at ab po rfl⟩
def maxD : D → D → M D := ii fun i j => .int (if j > i then j else i)
def minD : D → D → M D := ii fun i j => .int (if j < i then j else i)
theorem cr_max2 (hc : X.calm = true) : CallR X (.builtin "max") (rCI (kk X) W (f2 maxD)) := CallR.imp (call_max2 hc) fun xs H Q h => by
  obtain ⟨x, y, rfl, h2⟩ := f2_of h
  obtain ⟨i, j, rfl, rfl, q⟩ := ii_of h2 (fun i j => .int (if j > i then j else i)) fun _ _ _ _ => rfl
  exact ⟨i, j, rfl, q⟩
theorem cr_min2 (hc : X.calm = true) : CallR X (.builtin "min") (rCI (kk X) W (f2 minD)) := CallR.imp (call_min2 hc) fun xs H Q h => by
  obtain ⟨x, y, rfl, h2⟩ := f2_of h
  obtain ⟨i, j, rfl, rfl, q⟩ := ii_of h2 (fun i j => .int (if j < i then j else i)) fun _ _ _ _ => rfl
  exact ⟨i, j, rfl, q⟩
def intD (d : D) : M D := fun s => match rsl s d with
  | .int i => .ok (.int i) s
  | .bl k => .ok (.int (if k then 1 else 0)) s
  | _ => .bad
theorem cr_int : CallR X (.type "int") (rCI (kk X) W (f1 intD)) := CallR.imp call_int1 fun xs H Q h => by
  obtain ⟨x, rfl, F, adr, s, σ, d, ab, r, po⟩ := f1_of h
  have t := ab.t r
  unfold intD at po
  generalize rsl s d = e1 at *
  cases e1 <;> try (exact po.elim)
  case int i => rw [RpT.int t]; exact .inl ⟨i, rfl, Post.at ab po rfl⟩
  case bl i => rw [RpT.bl t]; exact .inr ⟨i, rfl, Post.at ab po rfl⟩
/-- a list of truths -/
def blsD : List D → Option (List Bool)
  | [] => some []
  | .bl b :: r => (blsD r).map (b :: ·)
  | _ => none
theorem RpL.bls : ∀ {ds : List D} {vs : List V} {bs : List Bool}, RpL K F adr ds vs → blsD ds = some bs → vs = bs.map V.bl
  | [], _, _, h, e => by cases e; exact h
  | d :: ds, _, _, ⟨v, r, q, h1, h2⟩, e => by
    cases d <;> first | (cases e; done) | skip
    case bl b =>
      obtain ⟨cs, e1, rfl⟩ := Option.map_eq_some_iff.mp (show (blsD ds).map (b :: ·) = some _ from e)
      rw [q, RpL.bls h2 e1, show v = .bl b from h1]
      rfl
def allD (d : D) : M D := fun s => match rsl s d with
  | .lst ds => match blsD ds with
    | some bs => .ok (.bl (bs.all id)) s
    | none => .bad
  | _ => .bad
def anyD (d : D) : M D := fun s => match rsl s d with
  | .lst ds => match blsD ds with
    | some bs => .ok (.bl (bs.any id)) s
    | none => .bad
  | _ => .bad
theorem cr_allD (hc : X.calm = true) : CallR X (.builtin "all") (rCI (kk X) W (f1 allD)) := CallR.imp (cr_all hc) fun xs H Q h => by
  obtain ⟨x, rfl, F, adr, s, σ, d, ab, r, po⟩ := f1_of h
  have t := ab.t r
  unfold allD at po
  generalize rsl s d = e1 at *
  cases e1 <;> try (exact po.elim)
  case lst ds =>
    obtain ⟨a, vs, rfl, h1, h2⟩ := t
    cases e : blsD ds with
    | none => simp only [e] at po; exact po.elim
    | some bs => simp only [e] at po; exact ⟨a, bs, rfl, SqL.of (by rw [← h2.bls e]; exact h1), Post.at ab po rfl⟩
theorem cr_anyD (hc : X.calm = true) : CallR X (.builtin "any") (rCI (kk X) W (f1 anyD)) := CallR.imp (cr_any hc) fun xs H Q h => by
  obtain ⟨x, rfl, F, adr, s, σ, d, ab, r, po⟩ := f1_of h
  have t := ab.t r
  unfold anyD at po
  generalize rsl s d = e1 at *
  cases e1 <;> try (exact po.elim)
  case lst ds =>
    obtain ⟨a, vs, rfl, h1, h2⟩ := t
    cases e : blsD ds with
    | none => simp only [e] at po; exact po.elim
    | some bs => simp only [e] at po; exact ⟨a, bs, rfl, SqL.of (by rw [← h2.bls e]; exact h1), Post.at ab po rfl⟩
/-- tuple(..) -/
def tupleD (d : D) : M D := fun s => match rsl s d with
  | .lst xs => .ok (.tup xs) s
  | .tup xs => .ok (.tup xs) s
  | _ => .bad
theorem cr_tuple : CallR X (.type "tuple") (rCI (kk X) W (f1 tupleD)) := CallR.imp call_tuple_X fun xs H Q h => by
  obtain ⟨x, rfl, F, adr, s, σ, d, ab, r, po⟩ := f1_of h
  have t := ab.t r
  unfold tupleD at po
  generalize rsl s d = e1 at *
  cases e1 <;> try (exact po.elim)
  case lst ds =>
    obtain ⟨a, vs, rfl, h1, h2⟩ := t
    exact ⟨a, vs, rfl, .inl ⟨SqL.of h1, fun p ob hd hp => Post.new ab po hp ⟨p, vs, rfl, .of upd_same hd, h2.mono (Ex.new (ab.fnone hp)) (List.prefix_refl _)⟩⟩⟩
  case tup ds =>
    obtain ⟨a, vs, rfl, h1, h2⟩ := t
    exact ⟨a, vs, rfl, .inr ⟨ex_t ab.sub h1.t, Post.at ab po ⟨a, vs, rfl, h1, h2⟩⟩⟩
def listD (d : D) : M D := fun s => match rsl s d with
  | .lst xs => .ok (.lst xs) s
  | .tup xs => .ok (.lst xs) s
  | _ => .bad
end
end Bx
namespace Bx
open PySem L2 PySem.Spec PyProof.Rows
section
variable {X : Cx} {W : WX} {K : KK} {F F' H H' : Hp} {adr adr' : List Addr} {s s' : S} {σ σ' : L2.St} {d : D} {v : V} {e a b c : Expr} {es : List Expr} {m ma mb mc : M D} {ms : List (M D)} {pos : Pos} {E : Ends}
theorem PostS.from {r : RS} {F1 : Hp} {adr1 : List Addr} {s1 : S} {σ1 : L2.St} {H1 : Hp} (st : Step F adr (Fp adr s σ) H F1 adr1 (Fp adr1 s1 σ1) H1) (h : PostS K W F adr s σ H r E) : PostS K W F1 adr1 s1 σ1 H1 r E := by
  cases r with
  | nx s2 => exact fun σ2 F2 adr2 H2 st2 ab2 => h σ2 F2 adr2 H2 (st.trans st2) ab2
  | bk s2 => exact fun σ2 F2 adr2 H2 st2 ab2 => h σ2 F2 adr2 H2 (st.trans st2) ab2
  | ct s2 => exact fun σ2 F2 adr2 H2 st2 ab2 => h σ2 F2 adr2 H2 (st.trans st2) ab2
  | rt d s2 => exact fun σ2 v F2 adr2 H2 st2 ab2 => h σ2 v F2 adr2 H2 (st.trans st2) ab2
  | exc x s2 => exact fun c dd σ2 F2 adr2 H2 st2 ab2 => h c dd σ2 F2 adr2 H2 (st.trans st2) ab2
  | bad => exact h
def R.toS {α : Type} (r : R α) (f : α → MS) : RS := match r with
  | .ok x s => f x s
  | .exc x s => .exc x s
  | .bad => .bad
theorem S_bind {α β : Type} {rel : Hp → List Addr → α → β → Prop} {r : R α} {f : α → MS} (h : PostS K W F adr s σ H (r.toS f) E) :
    PostG K W rel F adr s σ H r fun v H1 => ∃ F1 adr1 d s1, Step F adr (Fp adr s σ) H F1 adr1 (Fp adr1 s1 σ) H1 ∧ Abs K F1 adr1 s1 σ H1 ∧ rel F1 adr1 d v ∧ PostS K W F1 adr1 s1 σ H1 (f d s1) E := by
  cases r with
  | ok d s1 => exact fun v F1 adr1 H1 st ab rp => ⟨F1, adr1, d, s1, st, ab, rp, PostS.from st h⟩
  | exc x s1 => exact fun c dd F1 adr1 H1 st ab rp => h c dd σ F1 adr1 H1 st ab rp
  | bad => exact h
def sq (a b : MS) : MS := fun s => match a s with
  | .nx s' => b s'
  | r => r
def skip : MS := fun s => .nx s
theorem sb_nil : SB X W [] skip := PSs.imp pss_nil fun E σ H t => by
  obtain ⟨F, adr, s, ab, po⟩ := t
  exact po σ F adr H .refl ab
theorem sb_cons {st : Stmt} {rest : List Stmt} {x y : MS} (h1 : SS X W st x) (h2 : SB X W rest y) : SB X W (st :: rest) (sq x y) := PSs.imp (pss_cons h1 h2) fun E σ H t => by
  obtain ⟨F, adr, s, ab, po⟩ := t
  refine ⟨F, adr, s, ab, ?_⟩
  unfold sq at po
  cases e : x s with
  | nx s1 => rw [e] at po; exact fun σ1 F1 adr1 H1 st1 ab1 => ⟨F1, adr1, s1, ab1, PostS.from st1 po⟩
  | _ => rw [e] at po; exact po
theorem sb_one {st : Stmt} {x : MS} (h1 : SS X W st x) : SB X W [st] x := PSs.imp (pss_one h1) fun E σ H t => t
theorem ss_never {st : Stmt} : SS X W st (fun _ => .bad) := PS.imp ps_never fun E σ H t => by
  obtain ⟨F, adr, s, ab, po⟩ := t
  exact po
def sbreak : MS := fun s => .bk s
def scont : MS := fun s => .ct s
def sexpr (m : M D) : MS := fun s => (m s).toS fun _ => skip
theorem ss_expr (he : SE X W e m) (hs : swapsWith e none pos.line X.env = pure false := by rfl) : SS X W (.Expr e pos) (sexpr m) := PS.imp (ps_expr he hs) fun E σ H t => by
  obtain ⟨F, adr, s, ab, po⟩ := t
  refine ⟨F, adr, s, ab, (S_bind po).imp ?_⟩
  rintro x H1 ⟨F1, adr1, d1, s1, st1, ab1, rp1, po1⟩
  exact po1 σ F1 adr1 H1 .refl ab1
def sret (m : M D) : MS := fun s => (stl m s).toS fun d s => .rt d s
theorem t_stl {σ : L2.St} {H : Hp} {f : D → MS} (ab : Abs K F adr s σ H) (po : PostS K W F adr s σ H ((stl m s).toS f) E) :
    Post K W F adr s σ H (m s) fun v H1 => ∃ F1 adr1 d s1, Step F adr (Fp adr s σ) H F1 adr1 (Fp adr1 s1 σ) H1 ∧ Abs K F1 adr1 s1 σ H1 ∧ Rp K F1 adr1 d v ∧ PostS K W F1 adr1 s1 σ H1 (f d s1) E := by
  unfold stl bnd at po
  cases e : m s with
  | ok d s1 =>
    rw [e] at po
    intro v F1 adr1 H1 st1 ab1 rp1
    have po' : PostS K W F adr s σ H ((settle d s1).toS f) E := po
    cases e2 : settle d s1 with
    | ok d2 s2 =>
      rw [e2] at po'
      obtain ⟨F2, q1, q2, q3⟩ := settle_ok ab1 rp1 e2
      exact ⟨F2, adr1, d2, s2, st1.trans q1, q2, q3, PostS.from (st1.trans q1) po'⟩
    | exc x s' => cases d <;> simp [settle] at e2 <;> (split at e2 <;> cases e2)
    | bad => rw [e2] at po'; exact po'.elim
  | exc x s1 => rw [e] at po; exact fun c dd F1 adr1 H1 st ab rp => po c dd σ F1 adr1 H1 st ab rp
  | bad => rw [e] at po; exact po
theorem ss_ret (he : SE X W e m) : SS X W (.Return (some e) pos) (sret m) := PS.imp (ps_ret he) fun E σ H t => by
  obtain ⟨F, adr, s, ab, po⟩ := t
  refine ⟨F, adr, s, ab, PostG.imp (t_stl ab po) ?_⟩
  rintro x H1 ⟨F1, adr1, d1, s1, st1, ab1, rp1, po1⟩
  exact po1 σ x F1 adr1 H1 .refl ab1 rp1
def sretN : MS := fun s => .rt .non s
def sif (t : M Bool) (x y : MS) : MS := fun s => (t s).toS fun b => if b then x else y
theorem ss_if {t : M Bool} {x y : MS} {p q : List Stmt} (hc : ST X W c t) (hx : SB X W p x) (hy : SB X W q y) : SS X W (.If c p q pos) (sif t x y) := PS.imp (ps_if hc hx hy) fun E σ H t => by
  obtain ⟨F, adr, s, ab, po⟩ := t
  refine ⟨F, adr, s, ab, (S_bind po).imp ?_⟩
  rintro z H1 ⟨F1, adr1, d1, s1, st1, ab1, rp1, po1⟩
  have e1 : z = d1 := rp1
  subst e1
  cases z with
  | true => exact ⟨F1, adr1, s1, ab1, po1⟩
  | false => exact ⟨F1, adr1, s1, ab1, po1⟩
def S.put (s : S) (j : Nat) (x : Sl) : S := { s with ρ := s.ρ.set j x }
theorem set_back {α : Type} {l : List α} {j i : Nat} {x y : α} (h : (l.set j x)[i]? = some y) : (i = j ∧ y = x ∧ j < l.length) ∨ (i ≠ j ∧ l[i]? = some y) := by
  by_cases hi : i = j
  · subst hi
    by_cases hl : i < l.length
    · rw [List.getElem?_set_self hl] at h
      exact .inl ⟨rfl, (Option.some.inj h).symm, hl⟩
    · rw [List.getElem?_eq_none (by simpa using hl)] at h
      cases h
  · rw [List.getElem?_set_ne (Ne.symm hi)] at h
    exact .inr ⟨hi, h⟩
/-- a slot holds what stands still -/
theorem Abs.setVal {j : Nat} (ab : Abs K F adr s σ H) (r : Rp K F adr d v) :
    Step F adr (Fp adr s σ) H F adr (Fp adr (s.put j (.val d)) (σ.set j (some v))) H ∧ Abs K F adr (s.put j (.val d)) (σ.set j (some v)) H := by
  have nown : ∀ i m, (s.ρ.set j (.val d))[i]? = some (.own m) → i ≠ j ∧ s.ρ[i]? = some (.own m) := fun i m h => by
    rcases set_back h with ⟨_, z, _⟩ | z
    · cases z
    · exact z
  have other : ∀ {i : Nat}, i ≠ j → (σ.set j (some v))[i]? = σ[i]? := fun h => List.getElem?_set_ne (Ne.symm h)
  refine ⟨⟨.refl _, List.prefix_refl _, fun _ _ h _ _ => h, fun a h => ?_, fun _ h => .inl h, fun _ h => h⟩, ⟨ab.toAbsH, ?_, fun i d' h => ?_, fun i m h => ?_, fun i i' m m' l h1 h2 h3 h4 => ?_⟩⟩
  · rcases h with h | ⟨i, m, h1, h2⟩
    · exact .inl (.inl h)
    · obtain ⟨n1, n2⟩ := nown i m h1
      rw [other n1] at h2
      exact .inl (.inr ⟨i, m, n2, h2⟩)
  · show (σ.set j (some v)).length = (s.ρ.set j _).length
    rw [List.length_set, List.length_set]; exact ab.lenr
  · rcases set_back h with ⟨e1, e2, e3⟩ | ⟨n1, n2⟩
    · cases e2
      subst e1
      exact ⟨v, by rw [List.getElem?_set_self (by rw [ab.lenr]; exact e3)], r⟩
    · rw [other n1]
      exact ab.slv i d' n2
  · obtain ⟨n1, n2⟩ := nown i m h
    rw [other n1]
    exact ab.slo i m n2
  · obtain ⟨n1, n2⟩ := nown i m h1
    obtain ⟨n3, n4⟩ := nown i' m' h2
    rw [other n1] at h3
    rw [other n3] at h4
    exact ab.dis i i' m m' l n2 n4 h3 h4
/-- something new that nobody else has -/
structure Fresh (K : KK) (F : Hp) (adr : List Addr) (s : S) (σ : L2.St) (H : Hp) (l : Addr) (m : MO) : Prop where
  fn : F l = none
  na : ¬ Fp adr s σ l
  ob : ∃ o, H l = some o ∧ RpO K F adr l m o
theorem Fresh.step {F1 : Hp} {adr1 : List Addr} {s1 : S} {σ1 : L2.St} {H1 : Hp} {l : Addr} {m : MO} (fr : Fresh K F adr s σ H l m) (st : Step F adr (Fp adr s σ) H F1 adr1 (Fp adr1 s1 σ1) H1) : Fresh K F1 adr1 s1 σ1 H1 l m := by
  obtain ⟨o, h1, h2⟩ := fr.ob
  have hl : H l ≠ none := by rw [h1]; simp
  refine ⟨?_, fun z => ?_, o, st.keep l o h1 fr.na fr.fn, h2.mono st.ex st.pre⟩
  · cases e : F1 l with
    | none => rfl
    | some u =>
      rcases st.frz l (by rw [e]; simp) with z | z | z
      · exact absurd fr.fn z
      · exact absurd z hl
      · exact absurd z fr.na
  · rcases st.foot l z with y | y
    · exact fr.na y
    · exact hl y
/-- a slot owns a new thing; F0 .. H0: a state ahead of its making -/
theorem Abs.setOwn {j : Nat} {l : Addr} {m : MO} {F0 H0 : Hp} {adr0 : List Addr} {P0 : Addr → Prop} (ab : Abs K F adr s σ H) (fr : Fresh K F adr s σ H l m) (h0 : H0 l = none) (st : Step F0 adr0 P0 H0 F adr (Fp adr s σ) H) :
    Step F0 adr0 P0 H0 F adr (Fp adr (s.put j (.own m)) (σ.set j (some (.ref l)))) H ∧ Abs K F adr (s.put j (.own m)) (σ.set j (some (.ref l))) H := by
  have other : ∀ {i : Nat}, i ≠ j → (σ.set j (some (.ref l)))[i]? = σ[i]? := fun h => List.getElem?_set_ne (Ne.symm h)
  have self : j < s.ρ.length → (σ.set j (some (V.ref l)))[j]? = some (some (.ref l)) := fun h => List.getElem?_set_self (by rw [ab.lenr]; exact h)
  refine ⟨⟨st.ex, st.pre, st.keep, fun a h => ?_, st.frz, st.there⟩, ⟨ab.toAbsH, ?_, fun i d' h => ?_, fun i m' h => ?_, fun i i' m1 m2 l' h1 h2 h3 h4 => ?_⟩⟩
  · rcases h with h | ⟨i, m', h1, h2⟩
    · exact st.foot a (.inl h)
    · rcases set_back h1 with ⟨e1, e2, e3⟩ | ⟨n1, n2⟩
      · subst e1
        rw [self e3] at h2
        cases h2
        exact .inr h0
      · rw [other n1] at h2
        exact st.foot a (.inr ⟨i, m', n2, h2⟩)
  · show (σ.set j _).length = (s.ρ.set j _).length
    rw [List.length_set, List.length_set]; exact ab.lenr
  · rcases set_back h with ⟨e1, e2, e3⟩ | ⟨n1, n2⟩
    · cases e2
    · rw [other n1]
      exact ab.slv i d' n2
  · rcases set_back h with ⟨e1, e2, e3⟩ | ⟨n1, n2⟩
    · cases e2
      subst e1
      obtain ⟨o, q1, q2⟩ := fr.ob
      exact ⟨l, o, self e3, fr.fn, fun z => fr.na (.inl z), q1, q2⟩
    · rw [other n1]
      exact ab.slo i m' n2
  · have key : ∀ i m, i ≠ j → s.ρ[i]? = some (Sl.own m) → σ[i]? = some (some (V.ref l')) → ∀ i' m', i' = j → (s.ρ.set j (.own m))[i']? = some (.own m') → l' = l → False := fun i m _ n2 h3 _ _ _ _ e => fr.na (.inr ⟨i, m, n2, by rw [← e]; exact h3⟩)
    rcases set_back h1 with ⟨e1, e2, e3⟩ | ⟨n1, n2⟩
    · rcases set_back h2 with ⟨e4, e5, e6⟩ | ⟨n3, n4⟩
      · rw [e1, e4]
      · subst e1
        rw [self e3] at h3
        cases h3
        rw [other n3] at h4
        exact absurd (.inr ⟨i', m2, n4, h4⟩) fr.na
    · rcases set_back h2 with ⟨e4, e5, e6⟩ | ⟨n3, n4⟩
      · subst e4
        rw [self e6] at h4
        cases h4
        rw [other n1] at h3
        exact absurd (.inr ⟨i, m1, n2, h3⟩) fr.na
      · rw [other n1] at h3
        rw [other n3] at h4
        exact ab.dis i i' m1 m2 l' n2 n4 h3 h4
def sset (j : Nat) (m : M D) : MS := fun s => (stl m s).toS fun d s => .nx (s.put j (.val d))
theorem ss_set {j : Nat} {x : Str} {pos' : Pos} (hN : X.N.Nodup) (hi : X.N[j]? = some x) (hx : Loc X.env.scope x) (he : SE X W e m) (hs : swapsWith e (some (.Name x pos')) pos.line X.env = pure false := by rfl)
    (hf : X.fn x = true ∨ X.env.scope.names.lookup x = some .local := by first | exact .inl rfl | exact .inr rfl | assumption) : SS X W (.Assign [.Name x pos'] e pos) (sset j m) := PS.imp (ps_set hN hi hx he hs hf) fun E σ H t => by
  obtain ⟨F, adr, s, ab, po⟩ := t
  refine ⟨F, adr, s, ab, PostG.imp (t_stl ab po) ?_⟩
  rintro x H1 ⟨F1, adr1, d1, s1, st1, ab1, rp1, po1⟩
  exact po1 _ F1 adr1 H1 (ab1.setVal rp1).1 (ab1.setVal rp1).2
end
end Bx
namespace Bx
open PySem L2 PySem.Spec PyProof.Rows
section
variable {X : Cx} {W : WX} {K : KK} {F F' H H' : Hp} {adr adr' : List Addr} {s s' : S} {σ σ' : L2.St} {d : D} {v : V} {e a b c : Expr} {es : List Expr} {m ma mb mc : M D} {ms : List (M D)} {pos : Pos} {E : Ends}
def PostN (K : KK) (W : WX) (F : Hp) (adr : List Addr) (s : S) (σ : L2.St) (H : Hp) (r : R MO) (Q : VK) : Prop := match r with
  | .ok mo s' => ∀ l F' adr' H', Step F adr (Fp adr s σ) H F' adr' (Fp adr' s' σ) H' → Abs K F' adr' s' σ H' → H l = none → Fresh K F' adr' s' σ H' l mo → Q (.ref l) H'
  | .exc x s' => ∀ cls dd F' adr' H', Step F adr (Fp adr s σ) H F' adr' (Fp adr' s' σ) H' → Abs K F' adr' s' σ H' → RpX K F' adr' x cls dd H' → W cls dd σ H'
  | .bad => False
def tN (K : KK) (W : WX) (m : M MO) : TE := fun σ H Q => ∃ F adr s, Abs K F adr s σ H ∧ PostN K W F adr s σ H (m s) Q
def SF (X : Cx) (W : WX) (e : Expr) (m : M MO) : Prop := PE X e (tN (kk X) W m)
theorem Abs.allocM {p : Addr} {o : HO} {mo : MO} (ab : Abs K F adr s σ H) (h : H p = none) :
    Step F adr (Fp adr s σ) H F adr (Fp adr s σ) (upd H p o) ∧ Abs K F adr s σ (upd H p o) ∧ (RpO K F adr p mo o → Fresh K F adr s σ (upd H p o) p mo) := by
  have hF := ab.fnone h
  have sub : Ex F (upd H p o) := fun a u r => by
    have ne : a ≠ p := by
      rintro rfl
      exact r.some hF
    rcases ab.sub a u r with z | ⟨l, o', z⟩
    · exact .inl (by rw [upd_ne ne]; exact z)
    · exact .inr ⟨l, o', by rw [upd_ne ne]; exact z⟩
  refine ⟨⟨.refl _, List.prefix_refl _, fun a u q _ _ => by rw [upd_ne (ne_of_none q h)]; exact q, fun a q => .inl q, fun a q => .inl q, fun a q => ?_⟩, ⟨⟨sub, ab.len, ab.nd, fun i a m h1 h2 => ?_⟩, ab.lenr, ab.slv, fun j m q => ?_, ab.dis⟩, fun r => ⟨hF, fun z => (ab.fpH z).1 h, o, upd_same, r⟩⟩
  · by_cases ha : a = p
    · subst ha; rw [upd_same]; simp
    · rw [upd_ne ha]; exact q
  · obtain ⟨f, u, q, r⟩ := ab.sto i a m h1 h2
    exact ⟨f, u, by rw [upd_ne (ne_of_none q h)]; exact q, r⟩
  · obtain ⟨l, u, q1, q2, q3, q4, q5⟩ := ab.slo j m q
    exact ⟨l, u, q1, q2, q3, by rw [upd_ne (ne_of_none q4 h)]; exact q4, q5⟩
/-- a new thing in the very state -/
theorem PostN.new {p : Addr} {o : HO} {mo : MO} {Q : VK} (ab : Abs K F adr s σ H) (po : PostN K W F adr s σ H (.ok mo s) Q) (h : H p = none) (r : RpO K F adr p mo o) : Q (.ref p) (upd H p o) :=
  po p F adr _ (ab.allocM (mo := mo) h).1 (ab.allocM (mo := mo) h).2.1 h ((ab.allocM h).2.2 r)
theorem N_bind {α β : Type} {rel : Hp → List Addr → α → β → Prop} {r : R α} {f : α → M MO} {Q : VK} (h : PostN K W F adr s σ H (r.bind f) Q) :
    PostG K W rel F adr s σ H r fun v H1 => ∃ F1 adr1 d s1, r = .ok d s1 ∧ Step F adr (Fp adr s σ) H F1 adr1 (Fp adr1 s1 σ) H1 ∧ Abs K F1 adr1 s1 σ H1 ∧ rel F1 adr1 d v ∧ PostN K W F1 adr1 s1 σ H1 (f d s1) Q := by
  cases r with
  | ok d s1 =>
    intro v F1 adr1 H1 st ab rp
    refine ⟨F1, adr1, d, s1, rfl, st, ab, rp, ?_⟩
    have h' : PostN K W F adr s σ H (f d s1) Q := h
    cases e2 : f d s1 with
    | ok mo s2 =>
      rw [e2] at h'
      intro l F2 adr2 H2 st2 ab2 hl fr
      refine h' l F2 adr2 H2 (st.trans st2) ab2 ?_ fr
      cases e3 : H l with
      | none => rfl
      | some o => exact absurd hl (st.there l (by rw [e3]; simp))
    | exc x s2 => rw [e2] at h'; exact fun c dd F2 adr2 H2 st2 ab2 rp2 => h' c dd F2 adr2 H2 (st.trans st2) ab2 rp2
    | bad => rw [e2] at h'; exact h'
  | exc x s1 => exact h
  | bad => exact h
def nlst (ms : List (M D)) : M MO := bnd (mal ms) fun ds => pur (.lst ds)
theorem sf_lst (h : SAL X W es (mal ms)) (hl : ms.length ≤ 100000 := by decide) : SF X W (.List es pos) (nlst ms) := PE.imp (pe_lst h) fun σ H Q t => by
  obtain ⟨F, adr, s, ab, po⟩ := t
  refine ⟨F, adr, s, ab, (N_bind po).imp ?_⟩
  rintro xs H1 ⟨F1, adr1, ds, s1, e1, st1, ab1, rp1, po1⟩
  exact ⟨sz (by rw [rp1.length, mal_len e1]; exact hl), fun p hp => PostN.new ab1 po1 hp ⟨xs, rfl, rp1⟩⟩
def ndct : M MO := pur (.dct [])
def nset : M MO := pur (.set [])
theorem sf_set {p : Pos} (hg : Gl X "set") (hm : X.mg "set" = none) : SF X W (.Call (.Name "set" p) [] [] pos) nset := PE.imp (pe_callTy0 cr_set0K hg hm (by decide +kernel)) fun σ H Q t => by
  obtain ⟨F, adr, s, ab, po⟩ := t
  exact ⟨rfl, fun p hp => PostN.new ab po hp rfl⟩
/-- name = a new thing, one's own -/
def ssetO (j : Nat) (m : M MO) : MS := fun s => (m s).toS fun mo s => .nx (s.put j (.own mo))
theorem tN_S {f : MO → MS} {mm : M MO} (po : PostS K W F adr s σ H ((mm s).toS f) E) : PostN K W F adr s σ H (mm s) fun v H1 => ∃ F1 adr1 l mo s1, v = .ref l ∧ Step F adr (Fp adr s σ) H F1 adr1 (Fp adr1 s1 σ) H1 ∧ Abs K F1 adr1 s1 σ H1 ∧ H l = none ∧ Fresh K F1 adr1 s1 σ H1 l mo ∧ PostS K W F adr s σ H (f mo s1) E := by
  cases e : mm s with
  | ok mo s1 => rw [e] at po; exact fun l F1 adr1 H1 st ab hl fr => ⟨F1, adr1, l, mo, s1, rfl, st, ab, hl, fr, po⟩
  | exc x s1 => rw [e] at po; exact fun c dd F1 adr1 H1 st ab rp => po c dd σ F1 adr1 H1 st ab rp
  | bad => rw [e] at po; exact po
theorem PostN.imp {r : R MO} {Q Q' : VK} (h : PostN K W F adr s σ H r Q) (q : ∀ v H', Q v H' → Q' v H') : PostN K W F adr s σ H r Q' := by
  cases r with
  | ok d s' => exact fun v F' adr' H' a b c d => q _ _ (h v F' adr' H' a b c d)
  | exc x s' => exact h
  | bad => exact h
theorem ss_setO {j : Nat} {x : Str} {pos' : Pos} {mm : M MO} (hN : X.N.Nodup) (hi : X.N[j]? = some x) (hx : Loc X.env.scope x) (he : SF X W e mm) (hs : swapsWith e (some (.Name x pos')) pos.line X.env = pure false := by rfl)
    (hf : X.fn x = true ∨ X.env.scope.names.lookup x = some .local := by first | exact .inl rfl | exact .inr rfl | assumption) : SS X W (.Assign [.Name x pos'] e pos) (ssetO j mm) := PS.imp (ps_set hN hi hx he hs hf) fun E σ H t => by
  obtain ⟨F, adr, s, ab, po⟩ := t
  refine ⟨F, adr, s, ab, (tN_S po).imp ?_⟩
  rintro x H1 ⟨F1, adr1, l, mo, s1, rfl, st1, ab1, hl, fr, po1⟩
  obtain ⟨z1, z2⟩ := ab1.setOwn (j := j) fr hl st1
  exact po1 _ F1 adr1 H1 z1 z2
inductive MX where
  | v (m : M D) | f (m : M MO)
def mmix : List MX → M (List Sl)
  | [] => pur []
  | .v m :: r => bnd m fun d => bnd (settle d) fun d => bnd (mmix r) fun xs => pur (.val d :: xs)
  | .f m :: r => bnd m fun o => bnd (mmix r) fun xs => pur (.own o :: xs)
def SlsOk (K : KK) (H0 : Hp) (F : Hp) (adr : List Addr) (s : S) (σ : L2.St) (H : Hp) : List Sl → List V → Prop
  | [], vs => vs = []
  | .val d :: xs, vs => ∃ v r, vs = v :: r ∧ Rp K F adr d v ∧ SlsOk K H0 F adr s σ H xs r
  | .own o :: xs, vs => ∃ l r, vs = .ref l :: r ∧ H0 l = none ∧ Fresh K F adr s σ H l o ∧ (∀ (i : Nat) (o' : MO), xs[i]? = some (.own o') → r[i]? ≠ some (.ref l)) ∧ SlsOk K H0 F adr s σ H xs r
  | .no :: _, _ => False
theorem SlsOk.length {H0 : Hp} : ∀ {xs : List Sl} {vs : List V}, SlsOk K H0 F adr s σ H xs vs → vs.length = xs.length
  | [], _, h => by cases h; rfl
  | .val d :: xs, _, ⟨v, r, q, _, h⟩ => by subst q; simp [SlsOk.length h]
  | .own d :: xs, _, ⟨v, r, q, _, _, _, h⟩ => by subst q; simp [SlsOk.length h]
  | .no :: _, _, h => h.elim
theorem SlsOk.mono {H0 H0' : Hp} {F1 : Hp} {adr1 : List Addr} {s1 : S} {σ1 : L2.St} {H1 : Hp} (h0 : ∀ l, H0 l = none → H0' l = none) (st : Step F adr (Fp adr s σ) H F1 adr1 (Fp adr1 s1 σ1) H1) :
    ∀ {xs : List Sl} {vs : List V}, SlsOk K H0 F adr s σ H xs vs → SlsOk K H0' F1 adr1 s1 σ1 H1 xs vs
  | [], _, h => h
  | .val d :: xs, _, ⟨v, r, q, h1, h2⟩ => ⟨v, r, q, h1.mono st.ex st.pre, SlsOk.mono h0 st h2⟩
  | .own d :: xs, _, ⟨l, r, q, h1, h2, h3, h4⟩ => ⟨l, r, q, h0 l h1, h2.step st, h3, SlsOk.mono h0 st h4⟩
  | .no :: _, _, h => h.elim
theorem SlsOk.mem {H0 : Hp} : ∀ {xs : List Sl} {vs : List V} {i : Nat} {o : MO}, SlsOk K H0 F adr s σ H xs vs → xs[i]? = some (.own o) → ∃ l, vs[i]? = some (.ref l) ∧ H0 l = none
  | [], _, _, _, _, e => by simp at e
  | .val d :: xs, _, 0, _, _, e => by simp at e
  | .val d :: xs, _, i + 1, o, ⟨v, r, q, _, h⟩, e => by
    subst q
    obtain ⟨l, h1, h2⟩ := SlsOk.mem (i := i) h (by simpa using e)
    exact ⟨l, by simpa using h1, h2⟩
  | .own d :: xs, _, 0, _, ⟨l, r, q, h1, _⟩, e => by subst q; exact ⟨l, rfl, h1⟩
  | .own d :: xs, _, i + 1, o, ⟨v, r, q, _, _, _, h⟩, e => by
    subst q
    obtain ⟨l, h1, h2⟩ := SlsOk.mem (i := i) h (by simpa using e)
    exact ⟨l, by simpa using h1, h2⟩
  | .no :: _, _, _, _, h, _ => h.elim
def PostM (K : KK) (W : WX) (F : Hp) (adr : List Addr) (s : S) (σ : L2.St) (H : Hp) (r : R (List Sl)) (Q : List V → Hp → Prop) : Prop := match r with
  | .ok xs s' => ∀ vs F' adr' H', Step F adr (Fp adr s σ) H F' adr' (Fp adr' s' σ) H' → Abs K F' adr' s' σ H' → SlsOk K H F' adr' s' σ H' xs vs → Q vs H'
  | .exc x s' => ∀ cls dd F' adr' H', Step F adr (Fp adr s σ) H F' adr' (Fp adr' s' σ) H' → Abs K F' adr' s' σ H' → RpX K F' adr' x cls dd H' → W cls dd σ H'
  | .bad => False
def tMx (K : KK) (W : WX) (m : M (List Sl)) : TA := fun σ H Q => ∃ F adr s, Abs K F adr s σ H ∧ PostM K W F adr s σ H (m s) Q
def SX (X : Cx) (W : WX) (es : List Expr) (m : List MX) : Prop := PA X es (tMx (kk X) W (mmix m))
theorem sx_nil : SX X W [] [] := PA.imp pa_nil fun σ H Q t => by
  obtain ⟨F, adr, s, ab, po⟩ := t
  exact po [] F adr H .refl ab rfl
theorem there_none {F1 : Hp} {adr1 : List Addr} {P P1 : Addr → Prop} {H1 : Hp} (st : Step F adr P H F1 adr1 P1 H1) {l : Addr} (h : H1 l = none) : H l = none := by
  cases e3 : H l with
  | none => rfl
  | some o => exact absurd h (st.there l (by rw [e3]; simp))
/-- from a state on, with the tail's values put behind one slot -/
theorem M_tail {x : Sl} {v : V} {r : R (List Sl)} {Q : List V → Hp → Prop} {F1 : Hp} {adr1 : List Addr} {s1 : S} {H1 : Hp} (st : Step F adr (Fp adr s σ) H F1 adr1 (Fp adr1 s1 σ) H1)
    (hx : ∀ vs xs F2 adr2 s2 H2, Step F1 adr1 (Fp adr1 s1 σ) H1 F2 adr2 (Fp adr2 s2 σ) H2 → SlsOk K H1 F2 adr2 s2 σ H2 xs vs → SlsOk K H F2 adr2 s2 σ H2 (x :: xs) (v :: vs))
    (po : PostM K W F adr s σ H (r.bind fun xs => pur (x :: xs)) Q) : PostM K W F1 adr1 s1 σ H1 r fun vs H2 => Q (v :: vs) H2 := by
  cases r with
  | ok xs s2 =>
    intro vs F2 adr2 H2 st2 ab2 ok2
    exact po (v :: vs) F2 adr2 H2 (st.trans st2) ab2 (hx vs xs F2 adr2 s2 H2 st2 ok2)
  | exc x s2 => exact fun c dd F2 adr2 H2 st2 ab2 rp2 => po c dd F2 adr2 H2 (st.trans st2) ab2 rp2
  | bad => exact po
theorem sx_v {e : Expr} {es : List Expr} {m : M D} {ms : List MX} (ha : SE X W e m) (hr : SX X W es ms) (hs : starEach (e :: es) X.env = (false, eval e X.env) :: starEach es X.env := by rfl) : SX X W (e :: es) (.v m :: ms) :=
  PA.imp (pa_cons ha hr hs) fun σ H Q t => by
    obtain ⟨F, adr, s, ab, po⟩ := t
    refine ⟨F, adr, s, ab, ?_⟩
    have po0 : PostM (kk X) W F adr s σ H ((m s).bind fun d => bnd (settle d) fun d => bnd (mmix ms) fun xs => pur (.val d :: xs)) Q := po
    cases e1 : m s with
    | ok d s1 =>
      rw [e1] at po0
      intro v F1 adr1 H1 st1 ab1 rp1
      have po1 : PostM (kk X) W F adr s σ H ((settle d s1).bind fun d => bnd (mmix ms) fun xs => pur (.val d :: xs)) Q := po0
      cases e2 : settle d s1 with
      | ok d2 s2 =>
        rw [e2] at po1
        obtain ⟨F2, q1, q2, q3⟩ := settle_ok ab1 rp1 e2
        refine ⟨F2, adr1, s2, q2, M_tail (x := .val d2) (st1.trans q1) (fun vs xs F3 adr3 s3 H3 st3 ok3 => ?_) po1⟩
        have st0 : Step F2 adr1 (Fp adr1 s2 σ) H1 F3 adr3 (Fp adr3 s3 σ) H3 := st3
        exact ⟨v, vs, rfl, q3.mono st3.ex st3.pre, SlsOk.mono (fun l h => there_none st1 h) .refl ok3⟩
      | exc x s' => cases d <;> simp [settle] at e2 <;> (split at e2 <;> cases e2)
      | bad => rw [e2] at po1; exact po1.elim
    | exc x s1 => rw [e1] at po0; exact po0
    | bad => rw [e1] at po0; exact po0
theorem sx_f {e : Expr} {es : List Expr} {m : M MO} {ms : List MX} (ha : SF X W e m) (hr : SX X W es ms) (hs : starEach (e :: es) X.env = (false, eval e X.env) :: starEach es X.env := by rfl) : SX X W (e :: es) (.f m :: ms) :=
  PA.imp (pa_cons ha hr hs) fun σ H Q t => by
    obtain ⟨F, adr, s, ab, po⟩ := t
    refine ⟨F, adr, s, ab, ?_⟩
    have po0 : PostM (kk X) W F adr s σ H ((m s).bind fun o => bnd (mmix ms) fun xs => pur (.own o :: xs)) Q := po
    cases e1 : m s with
    | ok o s1 =>
      rw [e1] at po0
      intro l F1 adr1 H1 st1 ab1 hl fr
      refine ⟨F1, adr1, s1, ab1, M_tail (x := .own o) st1 (fun vs xs F3 adr3 s3 H3 st3 ok3 => ?_) po0⟩
      refine ⟨l, vs, rfl, hl, fr.step st3, fun i o' hi hv => ?_, SlsOk.mono (fun l h => there_none st1 h) .refl ok3⟩
      obtain ⟨l', h1, h2⟩ := ok3.mem hi
      rw [hv] at h1
      cases h1
      obtain ⟨u, z, _⟩ := fr.ob
      rw [h2] at z
      cases z
    | exc x s1 => rw [e1] at po0; exact po0
    | bad => rw [e1] at po0; exact po0
/-- the slots at js -/
def S.puts (s : S) : List Nat → List Sl → S
  | j :: js, x :: xs => (s.put j x).puts js xs
  | _, _ => s
def sets (σ : L2.St) : List Nat → List V → L2.St
  | j :: js, v :: vs => sets (σ.set j (some v)) js vs
  | _, _ => σ
theorem Abs.setAll {F0 H0 : Hp} {adr0 : List Addr} {P0 : Addr → Prop} : ∀ {js : List Nat} {xs : List Sl} {vs : List V} {s : S} {σ : L2.St}, Abs K F adr s σ H → Step F0 adr0 P0 H0 F adr (Fp adr s σ) H → SlsOk K H0 F adr s σ H xs vs →
    Step F0 adr0 P0 H0 F adr (Fp adr (s.puts js xs) (sets σ js vs)) H ∧ Abs K F adr (s.puts js xs) (sets σ js vs) H
  | [], xs, vs, s, σ, ab, st, ok => by
    have e1 : s.puts [] xs = s := by cases xs <;> rfl
    have e2 : sets σ [] vs = σ := by cases vs <;> rfl
    rw [e1, e2]
    exact ⟨st, ab⟩
  | j :: js, [], vs, s, σ, ab, st, ok => by cases ok; exact ⟨st, ab⟩
  | j :: js, .val d :: xs, _, s, σ, ab, st, ⟨v, r, q, h1, h2⟩ => by
    subst q
    obtain ⟨z1, z2⟩ := ab.setVal (j := j) h1
    exact Abs.setAll (js := js) (xs := xs) (vs := r) (s := s.put j (.val d)) (σ := σ.set j (some v)) z2 (st.trans z1) (SlsOk.mono (fun _ h => h) z1 h2)
  | j :: js, .own o :: xs, _, s, σ, ab, st, ⟨l, r, q, h1, h2, h3, h4⟩ => by
    subst q
    obtain ⟨z1, z2⟩ := ab.setOwn (j := j) h2 h1 st
    refine Abs.setAll (js := js) (xs := xs) (vs := r) (s := s.put j (.own o)) (σ := σ.set j (some (.ref l))) z2 z1 ?_
    -- the others stay new
    have hl : H l ≠ none := by obtain ⟨u, z, _⟩ := h2.ob; rw [z]; simp
    have gen : ∀ {xs : List Sl} {r : List V}, (∀ (i : Nat) (o' : MO), xs[i]? = some (.own o') → r[i]? ≠ some (.ref l)) → SlsOk K H0 F adr s σ H xs r → SlsOk K H0 F adr (s.put j (.own o)) (σ.set j (some (.ref l))) H xs r := by
      intro xs
      induction xs with
      | nil => intro r _ h; exact h
      | cons x xs ih =>
        intro r hn h
        cases x with
        | no => exact h.elim
        | val d =>
          obtain ⟨v, r', q, g1, g2⟩ := h
          subst q
          exact ⟨v, r', rfl, g1, ih (fun i o' hi => by have := hn (i + 1) o' (by simpa using hi); simpa using this) g2⟩
        | own o2 =>
          obtain ⟨l2, r', q, g1, g2, g3, g4⟩ := h
          subst q
          have ne : l2 ≠ l := fun z => hn 0 o2 rfl (by rw [z]; rfl)
          refine ⟨l2, r', rfl, g1, ⟨g2.fn, fun z => ?_, g2.ob⟩, g3, ih (fun i o' hi => by have := hn (i + 1) o' (by simpa using hi); simpa using this) g4⟩
          rcases z with z | ⟨i, m', y1, y2⟩
          · exact g2.na (.inl z)
          · rcases set_back y1 with ⟨e1, e2, e3⟩ | ⟨n1, n2⟩
            · subst e1
              rw [List.getElem?_set_self (by rw [ab.lenr]; exact e3)] at y2
              cases y2
              exact ne rfl
            · rw [List.getElem?_set_ne (Ne.symm n1)] at y2
              exact g2.na (.inr ⟨i, m', n2, y2⟩)
    exact gen h3 h4
  | j :: js, .no :: xs, _, _, _, _, _, h => h.elim
def spar (js : List Nat) (ms : List MX) : MS := fun s => (mmix ms s).toS fun xs s => .nx (s.puts js xs)
theorem mmix_len : ∀ {ms : List MX} {s s' : S} {xs : List Sl}, mmix ms s = .ok xs s' → xs.length = ms.length
  | [], _, _, _, h => by cases h; rfl
  | .v m :: ms, s, s', xs, h => by
    have h' : (m s).bind (fun d => bnd (settle d) fun d => bnd (mmix ms) fun xs => pur (.val d :: xs)) = .ok xs s' := h
    cases e1 : m s with
    | ok d s1 =>
      rw [e1] at h'
      have h2 : (settle d s1).bind (fun d => bnd (mmix ms) fun xs => pur (.val d :: xs)) = .ok xs s' := h'
      cases e2 : settle d s1 with
      | ok d2 s2 =>
        rw [e2] at h2
        have h3 : (mmix ms s2).bind (fun xs => pur (.val d2 :: xs)) = .ok xs s' := h2
        cases e3 : mmix ms s2 with
        | ok ds3 s3 => rw [e3] at h3; cases h3; rw [List.length_cons, mmix_len e3, List.length_cons]
        | exc x s3 => rw [e3] at h3; cases h3
        | bad => rw [e3] at h3; cases h3
      | exc x s3 => rw [e2] at h2; cases h2
      | bad => rw [e2] at h2; cases h2
    | exc x s3 => rw [e1] at h'; cases h'
    | bad => rw [e1] at h'; cases h'
  | .f m :: ms, s, s', xs, h => by
    have h' : (m s).bind (fun d => bnd (mmix ms) fun xs => pur (.own d :: xs)) = .ok xs s' := h
    cases e1 : m s with
    | ok d s1 =>
      rw [e1] at h'
      have h3 : (mmix ms s1).bind (fun xs => pur (.own d :: xs)) = .ok xs s' := h'
      cases e3 : mmix ms s1 with
      | ok ds3 s3 => rw [e3] at h3; cases h3; rw [List.length_cons, mmix_len e3, List.length_cons]
      | exc x s3 => rw [e3] at h3; cases h3
      | bad => rw [e3] at h3; cases h3
    | exc x s3 => rw [e1] at h'; cases h'
    | bad => rw [e1] at h'; cases h'
theorem spar_fin {js : List Nat} {mx : List MX} (ab : Abs K F adr s σ H) (po : PostS K W F adr s σ H (spar js mx s) E) : PostM K W F adr s σ H (mmix mx s) fun vs H1 => vs.length = mx.length ∧ (E.nx (sets σ js vs) H1 ∧ ∀ p o, H1 p = none → E.nx (sets σ js vs) (upd H1 p o)) := by
  unfold spar at po
  cases e : mmix mx s with
  | ok xs s1 =>
    rw [e] at po
    intro vs F1 adr1 H1 st1 ab1 ok1
    obtain ⟨z1, z2⟩ := Abs.setAll (js := js) ab1 st1 ok1
    refine ⟨by rw [ok1.length, mmix_len e], po _ F1 adr1 H1 z1 z2, fun p o hp => ?_⟩
    obtain ⟨y1, y2, _⟩ := z2.allocM (p := p) (o := o) (mo := .lst []) hp
    exact po _ F1 adr1 _ (z1.trans y1) y2
  | exc x s1 => rw [e] at po; exact fun c dd F1 adr1 H1 st ab rp => po c dd σ F1 adr1 H1 st ab rp
  | bad => rw [e] at po; exact po
theorem PostM.imp {r : R (List Sl)} {Q Q' : List V → Hp → Prop} (h : PostM K W F adr s σ H r Q) (q : ∀ v H', Q v H' → Q' v H') : PostM K W F adr s σ H r Q' := by
  cases r with
  | ok d s' => exact fun v F' adr' H' a b c => q _ _ (h v F' adr' H' a b c)
  | exc x s' => exact h
  | bad => exact h
theorem ss_par2 {i j : Nat} {x y : Str} {x1 x2 : MX} {px py pt : Pos} {kt k2 pt2} (hc : X.calm = true) (hN : X.N.Nodup) (hi : X.N[i]? = some x) (hj : X.N[j]? = some y) (hij : i ≠ j)
    (hx : X.env.scope.names.lookup x = some .local) (hy : X.env.scope.names.lookup y = some .local) (ha : SX X W [a, b] [x1, x2])
    (hw : swappedStores [.Tuple [.Name x px, .Name y py] kt pt] (.Tuple [a, b] k2 pt2) X.env = pure (some [x, y]))
    (hs : swapsWithSole [.Tuple [.Name x px, .Name y py] kt pt] (.Tuple [a, b] k2 pt2) pos.line X.env = pure false := by rfl) :
    SS X W (.Assign [.Tuple [.Name x px, .Name y py] kt pt] (.Tuple [a, b] k2 pt2) pos) (spar [i, j] [x1, x2]) := PS.imp (ps_par hc hN hi hj hij hx hy ha hw hs) fun E σ H t => by
  obtain ⟨F, adr, s, ab, po⟩ := t
  refine ⟨F, adr, s, ab, (spar_fin ab po).imp ?_⟩
  rintro vs H1 ⟨hl, h1, _⟩
  match vs, hl with
  | [v, w], _ => exact ⟨v, w, rfl, h1⟩
theorem ss_par3 {i j l : Nat} {x y z : Str} {x1 x2 x3 : MX} {px py pz pt : Pos} {kt k2 pt2} (hc : X.calm = true) (hN : X.N.Nodup) (hi : X.N[i]? = some x) (hj : X.N[j]? = some y) (hl : X.N[l]? = some z) (hij : i ≠ j) (hil : i ≠ l) (hjl : j ≠ l)
    (hx : X.env.scope.names.lookup x = some .local) (hy : X.env.scope.names.lookup y = some .local) (hz : X.env.scope.names.lookup z = some .local) (ha : SX X W [a, b, c] [x1, x2, x3])
    (hw : swappedStores [.Tuple [.Name x px, .Name y py, .Name z pz] kt pt] (.Tuple [a, b, c] k2 pt2) X.env = pure (some [x, y, z]))
    (hs : swapsWithSole [.Tuple [.Name x px, .Name y py, .Name z pz] kt pt] (.Tuple [a, b, c] k2 pt2) pos.line X.env = pure false := by rfl) :
    SS X W (.Assign [.Tuple [.Name x px, .Name y py, .Name z pz] kt pt] (.Tuple [a, b, c] k2 pt2) pos) (spar [i, j, l] [x1, x2, x3]) := PS.imp (ps_par3 hc hN hi hj hl hij hil hjl hx hy hz ha hw hs) fun E σ H t => by
  obtain ⟨F, adr, s, ab, po⟩ := t
  refine ⟨F, adr, s, ab, (spar_fin ab po).imp ?_⟩
  rintro vs H1 ⟨hl, h1, _⟩
  match vs, hl with
  | [v, w, u], _ => exact ⟨v, w, u, rfl, h1⟩
end
end Bx
namespace Bx
open PySem L2 PySem.Spec PyProof.Rows
section
variable {X : Cx} {W : WX} {K : KK} {F F' H H' : Hp} {adr adr' : List Addr} {s s' : S} {σ σ' : L2.St} {d : D} {v : V} {e a b c tg : Expr} {es : List Expr} {m ma mb mc : M D} {ms : List (M D)} {pos : Pos} {E : Ends}
def PostA1 (K : KK) (F : Hp) (adr : List Addr) (s : S) (σ : L2.St) (H : Hp) (r : RS) (Q : L2.St → Hp → Prop) : Prop := match r with
  | .nx s' => ∀ σ' F' adr' H', Step F adr (Fp adr s σ) H F' adr' (Fp adr' s' σ') H' → Abs K F' adr' s' σ' H' → Q σ' H'
  | _ => False
def gI (K : KK) (asg : D → MS) : TG := fun v σ H Q => ∃ F adr s d, Abs K F adr s σ H ∧ Rp K F adr d v ∧ PostA1 K F adr s σ H (asg d s) Q
def SG (X : Cx) (tg : Expr) (asg : D → MS) : Prop := PG X tg (gI (kk X) asg)
theorem PG.imp {t t' : TG} (h : PG X tg t) (q : ∀ v σ H Q, t' v σ H Q → t v σ H Q) : PG X tg t' := ⟨fun pins s σ H v u Q I r w => h.run pins s σ H v u Q I r (q v σ H Q w)⟩
theorem PGs.imp {t t' : TGs} (h : PGs X es t) (q : ∀ v σ H Q, t' v σ H Q → t v σ H Q) : PGs X es t' := ⟨fun pins s σ H v u Q I r w => h.run pins s σ H v u Q I r (q v σ H Q w)⟩
def gset (j : Nat) : D → MS := fun d s => .nx (s.put j (.val d))
theorem sg_name {j : Nat} {x : Str} (hN : X.N.Nodup) (hi : X.N[j]? = some x) (hx : Loc X.env.scope x) (hf : X.fn x = true ∨ X.env.scope.names.lookup x = some .local := by first | exact .inl rfl | exact .inr rfl | assumption) : SG X (.Name x pos) (gset j) :=
  PG.imp (pg_name hN hi hx hf) fun v σ H Q t => by
    obtain ⟨F, adr, s, d, ab, r, po⟩ := t
    exact po _ F adr H (ab.setVal r).1 (ab.setVal r).2
def gN (js : List Nat) : TGs := fun vs σ H Q => vs.length = js.length ∧ Q (sets σ js vs) H
def SGn (X : Cx) (es : List Expr) (js : List Nat) : Prop := PGs X es (gN js)
theorem sgn_nil : SGn X [] [] := PGs.imp pgs_nil fun v σ H Q t => by
  obtain ⟨h1, h2⟩ := t
  have e1 : v = [] := List.length_eq_zero_iff.mp h1
  subst e1
  exact ⟨rfl, h2⟩
theorem sgn_cons {j : Nat} {js : List Nat} {y : Str} {p : Pos} (hN : X.N.Nodup) (hi : X.N[j]? = some y) (hx : Loc X.env.scope y) (h2 : SGn X es js) (hf : X.fn y = true ∨ X.env.scope.names.lookup y = some .local := by first | exact .inl rfl | exact .inr rfl | assumption)
    (hs : (assignEach (.Name y p :: es) X.env).map (·.2) = assign (.Name y p) X.env :: (assignEach es X.env).map (·.2) := by rfl) : SGn X (.Name y p :: es) (j :: js) :=
  PGs.imp (pgs_cons (pg_name hN hi hx hf) h2 hs) fun v σ H Q t => by
    obtain ⟨h1, h2⟩ := t
    match v, h1 with
    | x :: r, h1 => exact ⟨x, r, rfl, by simpa using h1, h2⟩
def gtup (js : List Nat) : D → MS := fun d s => match unT d with
  | some ds => if ds.length = js.length then .nx (s.puts js (ds.map .val)) else .bad
  | none => .bad
theorem slsOk_vals {H0 : Hp} : ∀ {ds : List D} {vs : List V}, RpL K F adr ds vs → SlsOk K H0 F adr s σ H (ds.map .val) vs
  | [], _, h => h
  | d :: ds, _, ⟨v, r, q, h1, h2⟩ => ⟨v, r, q, h1, slsOk_vals h2⟩
theorem sg_tup {k : Nat} {js : List Nat} (hc : X.calm = true) (h : SGn X es js) (hn : (assignEach es X.env).length = js.length := by rfl) (hst : (assignEach es X.env).findIdx? (·.1) = none := by rfl) : SG X (.Tuple es k pos) (gtup js) :=
  PG.imp (pg_tup hc h hn hst) fun v σ H Q t => by
    obtain ⟨F, adr, s, d, ab, r, po⟩ := t
    unfold gtup at po
    cases hd : unT d with
    | none => rw [hd] at po; exact po.elim
    | some ds =>
      rw [hd] at po
      obtain ⟨a, vs, rfl, h1, h2⟩ := unT_ok hd r
      by_cases hl : ds.length = js.length
      · simp only [hl, if_true] at po
        have hv : vs.length = js.length := by rw [h2.length, hl]
        obtain ⟨z1, z2⟩ := Abs.setAll (js := js) (xs := ds.map .val) (vs := vs) ab .refl (slsOk_vals h2)
        exact ⟨a, vs, rfl, ex_t ab.sub h1, hv, hv, po _ F adr H z1 z2⟩
      · simp only [hl, if_false] at po
        exact po.elim
/-- targets = value -/
def sasg (asg : D → MS) (m : M D) : MS := fun s => (stl m s).toS asg
/-- a target's store goes on, or is none -/
def Plain (asg : D → MS) : Prop := ∀ d s, (∃ s', asg d s = .nx s') ∨ asg d s = .bad
theorem plain_gtup {js : List Nat} : Plain (gtup js) := fun d s => by
  unfold gtup
  cases hd : unT d with
  | none => exact .inr rfl
  | some ds =>
    by_cases hl : ds.length = js.length
    · exact .inl ⟨s.puts js (ds.map .val), by simp only [hl, if_true]⟩
    · exact .inr (by simp only [hl, if_false])
theorem PostS.plain {asg : D → MS} (pl : Plain asg) (h : PostS K W F adr s σ H (asg d s) E) : PostA1 K F adr s σ H (asg d s) E.nx := by
  rcases pl d s with ⟨s', e⟩ | e
  · rw [e] at h ⊢; exact h
  · rw [e] at h ⊢; exact h
theorem ss_asg {asg : D → MS} (pl : Plain asg) (he : SE X W e m) (hg : SG X tg asg) (hs : swapsWithSole [tg] e pos.line X.env = pure false := by rfl) (hw : swappedStores [tg] e X.env = pure none := by rfl)
    (h1 : (assignEach [tg] X.env).map (·.2) = [assign tg X.env] := by rfl) : SS X W (.Assign [tg] e pos) (sasg asg m) := PS.imp (ps_asg he hg hs hw h1) fun E σ H t => by
  obtain ⟨F, adr, s, ab, po⟩ := t
  refine ⟨F, adr, s, ab, PostG.imp (t_stl ab po) ?_⟩
  rintro x H1 ⟨F1, adr1, d1, s1, st1, ab1, rp1, po1⟩
  exact ⟨F1, adr1, s1, d1, ab1, rp1, PostS.plain pl po1⟩
structure Walks (K : KK) (F : Hp) (adr : List Addr) (J : It) (items : List D) : Prop where
  go : ∀ F' adr' H', Ex F F' → adr <+: adr' → Ex F' H' → ∀ (i : Nat) (d : D), items[i]? = some d → J.go i H' ∧ ∀ x H'', J.yld i H' x H'' → (H'' = H' ∧ Rp K F' adr' d x) ∨ ∃ T o, H' T = none ∧ H'' = upd H' T o ∧ ∀ (hF : F' T = none), Rp K (upd F' T o) adr' d x
  stop : ∀ F' adr' H', Ex F F' → adr <+: adr' → Ex F' H' → J.stop items.length H'
def tIt (K : KK) (W : WX) (m : M (List D)) : TI := fun σ H R => ∃ F adr s, Abs K F adr s σ H ∧ PostG K W (fun F adr items J => Walks K F adr J items) F adr s σ H (m s) R
def SI (X : Cx) (W : WX) (tg iter : Expr) (m : M (List D)) : Prop := PI X tg iter (tIt (kk X) W m)
theorem PI.imp {t t' : TI} (h : PI X tg e t) (q : ∀ σ H Q, t' σ H Q → t σ H Q) : PI X tg e t' := ⟨fun pins s σ H Q I w => h.run pins s σ H Q I (q σ H Q w)⟩
/-- a list, a tuple, a text, by its value -/
def rAnyIt (K : PySem.W.Frag) (x : V) (H : Hp) (R : It → Hp → Prop) : Prop :=
  (∃ a xs, x = .ref a ∧ SqL K H a xs ∧ R (Itl K a) H) ∨ (∃ a xs, x = .ref a ∧ SqT K H a xs ∧ R (Itt K a) H) ∨ ∃ z, x = .str z ∧ R (Its z) H
theorem pi_any {te : TE} (he : PE X e te) : PI X tg e (fun σ H R => te σ H fun x H1 => rAnyIt X.K x H1 R) := by
  refine ⟨fun pins sh σ H R I h => thn (he.run pins sh σ H _ I h) fun u s1 ⟨x, H1, I1, r1, q1⟩ => ?_⟩
  rcases q1 with ⟨a, xs, ex, hq, q⟩ | ⟨a, xs, ex, hq, q⟩ | ⟨z, ex, q⟩
  · subst ex; cases r1
    obtain ⟨its, rv, pl, _⟩ := I1.list hq
    exact wpAny_pyIter_list pl.isList (pi_one (tk := s1.toks) I1 _ (turn_list a _) ⟨_, Heap.get?_push_size _ rfl, rfl, rfl⟩ q)
  · subst ex; cases r1
    obtain ⟨its, rv, pl, _⟩ := I1.tuple hq
    exact wpAny_pyIter_tuple (show s1.heap.IsTuple a its.toArray from pl) (pi_one (tk := s1.toks) I1 _ (turn_tuple a _) ⟨_, Heap.get?_push_size _ rfl, rfl, rfl⟩ q)
  · subst ex
    obtain ⟨t, rfl⟩ := r1
    cases ha : z.cps.all (· < 128)
    · exact wpAny_pyIter_wide ha (pi_one (tk := s1.toks) I1 _ (turn_str _ z t "str_iterator" (.inr rfl)) ⟨_, Heap.get?_push_size _ rfl, rfl, rfl⟩ q)
    · exact wpAny_pyIter_ascii ha (pi_one (tk := s1.toks) I1 _ (turn_str _ z t "str_ascii_iterator" (.inl rfl)) ⟨_, Heap.get?_push_size _ rfl, rfl, rfl⟩ q)
/-- its items -/
def itemsD (d : D) : M (List D) := fun s => match d with
  | .lst xs => .ok xs s
  | .tup xs => .ok xs s
  | .scr ns => .ok (ns.map .int) s
  | .str x => .ok (x.cps.toList.map fun c => .str ⟨#[c]⟩) s
  | _ => .bad
theorem walks_l {a0 : Addr} {vs : List V} {ds : List D} (h1 : F a0 = some (.lst vs)) (h2 : RpL K F adr ds vs) : Walks K F adr (Itl K.K a0) ds where
  go := fun F' adr' H' e p eh i d hi => by
    have hL : SqL K.K H' a0 vs := SqL.of (ex_i eh (fun z => z) (ex_i e (fun z => z) h1))
    obtain ⟨w, q1, q2⟩ := (h2.mono e p).get hi
    refine ⟨⟨vs, w, hL, q1⟩, fun x H'' y => .inl ⟨y.1, ?_⟩⟩
    have z := y.2 vs hL
    rw [q1] at z
    cases z
    exact q2
  stop := fun F' adr' H' e p eh => ⟨vs, SqL.of (ex_i eh (fun z => z) (ex_i e (fun z => z) h1)), by rw [h2.length]; exact Nat.le_refl _⟩
theorem walks_s {a0 : Addr} {ns : List Int} (h1 : SqL K.K F a0 (ns.map V.int)) : Walks K F adr (Itl K.K a0) (ns.map .int) where
  go := fun F' adr' H' e p eh i d hi => by
    have hL : SqL K.K H' a0 (ns.map V.int) := ex_l eh (ex_l e h1)
    obtain ⟨w, q1, q2⟩ := (rpl_ints (K := K) (F := F') (adr := adr') ns).get hi
    refine ⟨⟨_, w, hL, q1⟩, fun x H'' y => .inl ⟨y.1, ?_⟩⟩
    have z := y.2 _ hL
    rw [q1] at z
    cases z
    exact q2
  stop := fun F' adr' H' e p eh => ⟨_, ex_l eh (ex_l e h1), by simp⟩
theorem walks_t {a0 : Addr} {vs : List V} {ds : List D} (h1 : SqT K.K F a0 vs) (h2 : RpL K F adr ds vs) : Walks K F adr (Itt K.K a0) ds where
  go := fun F' adr' H' e p eh i d hi => by
    have hL : SqT K.K H' a0 vs := ex_t eh (ex_t e h1)
    obtain ⟨w, q1, q2⟩ := (h2.mono e p).get hi
    refine ⟨⟨vs, w, hL, q1⟩, fun x H'' y => .inl ⟨y.1, ?_⟩⟩
    have z := y.2 vs hL
    rw [q1] at z
    cases z
    exact q2
  stop := fun F' adr' H' e p eh => ⟨vs, ex_t eh (ex_t e h1), by rw [h2.length]; exact Nat.le_refl _⟩
theorem walks_str {z : Str} : Walks K F adr (Its z) (z.cps.toList.map fun c => .str ⟨#[c]⟩) where
  go := fun F' adr' H' e p eh i d hi => by
    rw [List.getElem?_map] at hi
    obtain ⟨c, hc, rfl⟩ := Option.map_eq_some_iff.mp hi
    have hlt : i < z.cps.size := by have := (List.getElem?_eq_some_iff.mp hc).1; simpa using this
    refine ⟨hlt, fun x H'' y => .inl ⟨y.1, ?_⟩⟩
    obtain ⟨c', h1, h2⟩ := y.2
    have h3 : z.cps[i]? = some c := by rw [← hc]; simp
    rw [h3] at h1
    cases h1
    exact h2
  stop := fun F' adr' H' e p eh => by show z.cps.size ≤ _; simp
def mits (m : M D) : M (List D) := bnd m fun d => bnd (settle d) itemsD
theorem si_any (he : SE X W e m) : SI X W tg e (mits m) := PI.imp (pi_any he) fun σ H R t => by
  obtain ⟨F, adr, s, ab, po⟩ := t
  refine ⟨F, adr, s, ab, (PostG.bind po).imp ?_⟩
  rintro x H1 ⟨F1, adr1, d1, s1, st1, ab1, rp1, po1⟩
  obtain ⟨F2, d2, s2, q1, q2, q3, q4⟩ := settle_bind ab1 rp1 po1
  cases d2 <;> try (exact q4.elim)
  case lst ds =>
    obtain ⟨a, vs, rfl, h1, h2⟩ := q3
    exact .inl ⟨a, vs, rfl, SqL.of (ex_i q2.sub (fun z => z) h1), PostG.done q2 q4 (walks_l h1 h2)⟩
  case scr ns =>
    obtain ⟨a, rfl, h1⟩ := q3
    exact .inl ⟨a, _, rfl, ex_l q2.sub h1, PostG.done q2 q4 (walks_s h1)⟩
  case tup ds =>
    obtain ⟨a, vs, rfl, h1, h2⟩ := q3
    exact .inr (.inl ⟨a, vs, rfl, ex_t q2.sub h1.t, PostG.done q2 q4 (walks_t h1.t h2)⟩)
  case str z => exact .inr (.inr ⟨z, q3, PostG.done q2 q4 walks_str⟩)
/-- range -/
def rangeI (lo : Int) (n : Nat) : List D := (List.range n).map fun (i : Nat) => D.int (lo + i)
theorem walks_r {lo : Int} {n : Nat} : Walks K F adr (Itr lo n) (rangeI lo n) where
  go := fun F' adr' H' e p eh i d hi => by
    unfold rangeI at hi
    rw [List.getElem?_map] at hi
    obtain ⟨c, hc, rfl⟩ := Option.map_eq_some_iff.mp hi
    have hlt : i < n := by have := (List.getElem?_eq_some_iff.mp hc).1; simpa using this
    have e2 : c = i := by rw [List.getElem?_range hlt] at hc; exact (Option.some.inj hc).symm
    subst e2
    exact ⟨hlt, fun x H'' y => .inl ⟨y.1, y.2⟩⟩
  stop := fun F' adr' H' e p eh => by show n ≤ _; simp [rangeI]
def inRg (i : Int) : Bool := decide (-(2 ^ 62) ≤ i) && decide (i < 2 ^ 62)
def rg1 : D → M (List D)
  | .int j => fun s => if inRg j then .ok (rangeI 0 j.toNat) s else .bad
  | _ => fun _ => .bad
def rg2 : D → D → M (List D)
  | .int i, .int j => fun s => if inRg i && inRg j then .ok (rangeI i (j - i).toNat) s else .bad
  | _, _ => fun _ => .bad
def on1 {α : Type} (f : D → M α) : List D → M α
  | [d] => f d
  | _ => fun _ => .bad
def on2 {α : Type} (f : D → D → M α) : List D → M α
  | [d, e] => f d e
  | _ => fun _ => .bad
def mrange1 (ms : List (M D)) : M (List D) := bnd (margs ms) (on1 rg1)
def mrange2 (ms : List (M D)) : M (List D) := bnd (margs ms) (on2 rg2)
theorem inRg_ok {i : Int} (h : inRg i = true) : -(2 ^ 62) ≤ i ∧ i < 2 ^ 62 := by
  unfold inRg at h
  simp only [Bool.and_eq_true, decide_eq_true_eq] at h
  exact h
theorem si_range1 {p : Pos} (hg : Gl X "range") (hm : X.mg "range" = none) (ha : SA X W [a] (margs ms)) (hs : starEach [a] X.env = [(false, eval a X.env)] := by rfl) : SI X W tg (.Call (.Name "range" p) [a] [] pos) (mrange1 ms) :=
  PI.imp (pi_range1 hg hm ha hs) fun σ H R t => by
    obtain ⟨F, adr, s, ab, po⟩ := t
    refine ⟨F, adr, s, ab, (PostG.bind po).imp ?_⟩
    rintro xs H1 ⟨F1, adr1, ds, s1, st1, ab1, rp1, po1⟩
    cases ds with
    | nil => exact po1.elim
    | cons d0 r0 =>
      cases r0 with
      | cons _ _ => exact po1.elim
      | nil =>
        obtain ⟨v, q, r⟩ := RpVs.one rp1
        cases d0 <;> first | exact po1.elim | skip
        case int j =>
          have r' : v = .int j := r
          have po2 : PostG (kk X) W (fun F adr items J => Walks (kk X) F adr J items) F1 adr1 s1 σ H1 (if inRg j = true then .ok (rangeI 0 j.toNat) s1 else .bad) R := po1
          by_cases hc : inRg j = true
          · rw [if_pos hc] at po2
            exact ⟨j, by rw [q, r'], (inRg_ok hc).1, (inRg_ok hc).2, PostG.done ab1 po2 walks_r⟩
          · rw [if_neg hc] at po2
            exact po2.elim
theorem si_range2 {p : Pos} (hg : Gl X "range") (hm : X.mg "range" = none) (ha : SA X W [a, b] (margs ms)) (hs : starEach [a, b] X.env = [(false, eval a X.env), (false, eval b X.env)] := by rfl) (hs2 : starEach [b] X.env = [(false, eval b X.env)] := by rfl) :
    SI X W tg (.Call (.Name "range" p) [a, b] [] pos) (mrange2 ms) := PI.imp (pi_range2 hg hm ha hs hs2) fun σ H R t => by
  obtain ⟨F, adr, s, ab, po⟩ := t
  refine ⟨F, adr, s, ab, (PostG.bind po).imp ?_⟩
  rintro xs H1 ⟨F1, adr1, ds, s1, st1, ab1, rp1, po1⟩
  cases ds with
  | nil => exact po1.elim
  | cons d0 r0 =>
    cases r0 with
    | nil => exact po1.elim
    | cons d1 r1 =>
      cases r1 with
      | cons _ _ => exact po1.elim
      | nil =>
        obtain ⟨v, u, q, r1, r2⟩ := RpVs.two rp1
        cases d0 <;> first | exact po1.elim | skip
        case int i =>
          cases d1 <;> first | exact po1.elim | skip
          case int j =>
            have r1' : v = .int i := r1
            have r2' : u = .int j := r2
            have po2 : PostG (kk X) W (fun F adr items J => Walks (kk X) F adr J items) F1 adr1 s1 σ H1 (if (inRg i && inRg j) = true then .ok (rangeI i (j - i).toNat) s1 else .bad) R := po1
            by_cases hc : (inRg i && inRg j) = true
            · rw [if_pos hc] at po2
              obtain ⟨c1, c2⟩ := Bool.and_eq_true_iff.mp hc
              exact ⟨i, j, by rw [q, r1', r2'], ⟨(inRg_ok c1).1, (inRg_ok c1).2, (inRg_ok c2).1, (inRg_ok c2).2⟩, PostG.done ab1 po2 walks_r⟩
            · rw [if_neg hc] at po2
              exact po2.elim
def floop (asg : D → MS) (body : MS) : List D → MS
  | [], s => .nx s
  | d :: r, s => match asg d s with
    | .nx s1 => match body s1 with
      | .nx s2 => floop asg body r s2
      | .ct s2 => floop asg body r s2
      | .bk s2 => .nx s2
      | r => r
    | _ => .bad
def sfor (it : M (List D)) (asg : D → MS) (body : MS) : MS := fun s => (it s).toS (floop asg body)
theorem walk_one {J : It} {items : List D} {i : Nat} (wk : Walks K F adr J items) {F1 : Hp} {adr1 : List Addr} {s1 : S} {σ1 : L2.St} {H1 : Hp} (st : Ex F F1 ∧ adr <+: adr1) (ab : Abs K F1 adr1 s1 σ1 H1) (hi : items[i]? = some d) :
    J.go i H1 ∧ ∀ x H2, J.yld i H1 x H2 → ∃ F2, Step F1 adr1 (Fp adr1 s1 σ1) H1 F2 adr1 (Fp adr1 s1 σ1) H2 ∧ Abs K F2 adr1 s1 σ1 H2 ∧ Rp K F2 adr1 d x := by
  obtain ⟨h1, h2⟩ := wk.go F1 adr1 H1 st.1 st.2 ab.sub i d hi
  refine ⟨h1, fun x H2 y => ?_⟩
  rcases h2 x H2 y with ⟨rfl, r⟩ | ⟨T, o, hT, rfl, r⟩
  · exact ⟨F1, .refl, ab, r⟩
  · exact ⟨upd F1 T o, (ab.alloc hT).1, (ab.alloc hT).2, r (ab.fnone hT)⟩
theorem ss_for {iter : Expr} {body : List Stmt} {it : M (List D)} {asg : D → MS} {mb : MS} (hp : PassesOwn (model X.prog X.w) X.A X.env X.xe) (hc : X.calm = true) (hi : SI X W tg iter it) (hg : SG X tg asg) (hb : SB X W body mb)
    (hs : ∀ x, foldedSetIterable iter X.env x = pure x := by intro _; rfl) : SS X W (.For tg iter body [] pos) (sfor it asg mb) := PS.imp (ps_for hp hc hi hg hb hs) fun E σ H t => by
  obtain ⟨F, adr, s, ab, po⟩ := t
  refine ⟨F, adr, s, ab, (S_bind po).imp ?_⟩
  rintro J H1 ⟨F1, adr1, items, s1, st1, ab1, wk, po1⟩
  refine ⟨fun i m σ' H' => m = items.length - i ∧ i ≤ items.length ∧ ∃ F' adr' s', (Ex F1 F' ∧ adr1 <+: adr') ∧ Abs (kk X) F' adr' s' σ' H' ∧ PostS (kk X) W F' adr' s' σ' H' (floop asg mb (items.drop i) s') E,
    ⟨items.length, by simp, Nat.zero_le _, F1, adr1, s1, ⟨.refl _, List.prefix_refl _⟩, ab1, by simpa using po1⟩, ?_⟩
  rintro i m σ2 H2 ⟨rfl, hil, F2, adr2, s2, st2, ab2, po2⟩
  by_cases hlt : i < items.length
  · obtain ⟨d, hd⟩ : ∃ d, items[i]? = some d := ⟨_, List.getElem?_eq_getElem hlt⟩
    have hdrop : items.drop i = d :: items.drop (i + 1) := by
      rw [List.drop_eq_getElem_cons hlt]
      rw [List.getElem?_eq_getElem hlt] at hd
      rw [Option.some.inj hd]
    rw [hdrop] at po2
    obtain ⟨g1, g2⟩ := walk_one wk st2 ab2 hd
    refine .inr ⟨g1, fun σ' H' => ∃ F' adr' s', (Ex F1 F' ∧ adr1 <+: adr') ∧ Abs (kk X) F' adr' s' σ' H' ∧ PostS (kk X) W F' adr' s' σ' H' (floop asg mb (items.drop (i + 1)) s') E, fun σ' H' h => ⟨items.length - (i + 1), by omega, rfl, hlt, h⟩, fun x H3 y => ?_⟩
    obtain ⟨F3, st3, ab3, rp3⟩ := g2 x H3 y
    refine ⟨F3, adr2, s2, d, ab3, rp3, ?_⟩
    have po3 := PostS.from st3 po2
    unfold floop at po3
    cases e1 : asg d s2 with
    | nx s3 =>
      rw [e1] at po3
      intro σ4 F4 adr4 H4 st4 ab4
      refine ⟨F4, adr4, s3, ab4, ?_⟩
      have po4 := PostS.from st4 po3
      have ex4 : Ex F1 F4 ∧ adr1 <+: adr4 := ⟨st2.1.trans (st3.trans st4).ex, st2.2.trans (st3.trans st4).pre⟩
      simp only at po4
      cases e2 : mb s3 with
      | nx s5 => rw [e2] at po4; exact fun σ5 F5 adr5 H5 st5 ab5 => ⟨F5, adr5, s5, ⟨ex4.1.trans st5.ex, ex4.2.trans st5.pre⟩, ab5, PostS.from st5 po4⟩
      | ct s5 => rw [e2] at po4; exact fun σ5 F5 adr5 H5 st5 ab5 => ⟨F5, adr5, s5, ⟨ex4.1.trans st5.ex, ex4.2.trans st5.pre⟩, ab5, PostS.from st5 po4⟩
      | bk s5 => rw [e2] at po4; exact po4
      | rt d5 s5 => rw [e2] at po4; exact po4
      | exc x5 s5 => rw [e2] at po4; exact po4
      | bad => rw [e2] at po4; exact po4
    | _ => rw [e1] at po3; exact po3
  · have e : i = items.length := by omega
    subst e
    rw [List.drop_length] at po2
    exact .inl ⟨wk.stop F2 adr2 H2 st2.1 st2.2 ab2.sub, po2 σ2 F2 adr2 H2 .refl ab2⟩
def wloop (t : M Bool) (body : MS) : Nat → MS
  | 0, _ => .bad
  | n + 1, s => (t s).toS fun b s1 => if b then (match body s1 with
      | .nx s2 => wloop t body n s2
      | .ct s2 => wloop t body n s2
      | .bk s2 => .nx s2
      | r => r) else .nx s1
theorem ss_while {c : Expr} {body : List Stmt} {t : M Bool} {mb : MS} (n : Nat) (hp : PassesOwn (model X.prog X.w) X.A X.env X.xe) (hc : ST X W c t) (hb : SB X W body mb) : SS X W (.While c body [] pos) (wloop t mb n) := PS.imp (ps_while hp hc hb) fun E σ H t0 => by
  obtain ⟨F, adr, s, ab, po⟩ := t0
  refine ⟨fun m σ' H' => ∃ F' adr' s', Abs (kk X) F' adr' s' σ' H' ∧ PostS (kk X) W F' adr' s' σ' H' (wloop t mb m s') E, ⟨n, F, adr, s, ab, po⟩, ?_⟩
  rintro m σ1 H1 ⟨F1, adr1, s1, ab1, po1⟩
  cases m with
  | zero => exact po1.elim
  | succ m =>
    refine ⟨F1, adr1, s1, ab1, (S_bind po1).imp ?_⟩
    rintro z H2 ⟨F2, adr2, d2, s2, st2, ab2, rp2, po2⟩
    have e2 : z = d2 := rp2
    subst e2
    cases z with
    | false => exact po2 σ1 F2 adr2 H2 .refl ab2
    | true =>
      refine ⟨fun σ' H' => ∃ F' adr' s', Abs (kk X) F' adr' s' σ' H' ∧ PostS (kk X) W F' adr' s' σ' H' (wloop t mb m s') E, fun σ' H' h => ⟨m, Nat.lt_succ_self _, h⟩, F2, adr2, s2, ab2, ?_⟩
      simp only [if_true] at po2
      cases e3 : mb s2 with
      | nx s5 => rw [e3] at po2; exact fun σ5 F5 adr5 H5 st5 ab5 => ⟨F5, adr5, s5, ab5, PostS.from st5 po2⟩
      | ct s5 => rw [e3] at po2; exact fun σ5 F5 adr5 H5 st5 ab5 => ⟨F5, adr5, s5, ab5, PostS.from st5 po2⟩
      | bk s5 => rw [e3] at po2; exact po2
      | rt d5 s5 => rw [e3] at po2; exact po2
      | exc x5 s5 => rw [e3] at po2; exact po2
      | bad => rw [e3] at po2; exact po2
end
end Bx
namespace Bx
open PySem L2 PySem.Spec PyProof.Rows
section
variable {X : Cx} {W : WX} {K : KK} {F F' H H' : Hp} {adr adr' : List Addr} {s s' : S} {σ σ' : L2.St} {d : D} {v : V} {e a b c tg o : Expr} {es : List Expr} {m ma mb mc : M D} {ms : List (M D)} {pos apos : Pos} {E : Ends}
def S.mo (s : S) : D → Option MO
  | .loc j => match s.ρ[j]? with
    | some (.own m) => some m
    | _ => none
  | .ref i => s.μ[i]?
  | _ => none
def S.mut (s : S) (d : D) (m : MO) : S := match d with
  | .loc j => s.put j (.own m)
  | .ref i => { s with μ := s.μ.set i m }
  | _ => s
theorem Ex.wr {p : Addr} {o : HO} (e : Ex F H) (h : F p = none) : Ex F (upd H p o) := fun a u r => by
  have ne : a ≠ p := by
    rintro rfl
    exact r.some h
  rcases e a u r with z | ⟨l, o', z⟩
  · exact .inl (by rw [upd_ne ne]; exact z)
  · exact .inr ⟨l, o', by rw [upd_ne ne]; exact z⟩
theorem Abs.mut {mo : MO} (ab : Abs K F adr s σ H) (r : RpV K F adr σ d v) (h : s.mo d = some mo) :
    ∃ a o, v = .ref a ∧ H a = some o ∧ RpO K F adr a mo o ∧ ∀ mo' o', RpO K F adr a mo' o' → Step F adr (Fp adr s σ) H F adr (Fp adr (s.mut d mo') σ) (upd H a o') ∧ Abs K F adr (s.mut d mo') σ (upd H a o') := by
  -- a write at a place of ours
  have wr : ∀ (a : Addr) (o' : HO) (s2 : S), Fp adr s σ a → (∀ x, Fp adr s2 σ x → Fp adr s σ x) → Step F adr (Fp adr s σ) H F adr (Fp adr s2 σ) (upd H a o') := fun a o' s2 ha hs =>
    ⟨.refl _, List.prefix_refl _, fun x u q n _ => by
      have ne : x ≠ a := fun z => n (by rw [z]; exact ha)
      rw [upd_ne ne]; exact q, fun x q => .inl (hs x q), fun x q => .inl q, fun x q => by
      by_cases hx : x = a
      · subst hx; rw [upd_same]; simp
      · rw [upd_ne hx]; exact q⟩
  cases d <;> first | (cases h; done) | skip
  case ref i =>
    obtain ⟨a, q, rfl⟩ := r
    have h' : s.μ[i]? = some mo := h
    obtain ⟨h1, o, h2, h3⟩ := ab.sto i a mo q h'
    have fpa : Fp adr s σ a := .inl (List.mem_of_getElem? q)
    refine ⟨a, o, rfl, h2, h3, fun mo' o' r' => ⟨wr a o' _ fpa (fun x z => z), ⟨⟨ab.sub.wr h1, by simp [S.mut, ab.len], ab.nd, fun k b m' g1 g2 => ?_⟩, ab.lenr, ab.slv, fun j m' g => ?_, ab.dis⟩⟩⟩
    · rcases set_back (show (s.μ.set i mo')[k]? = some m' from g2) with ⟨e1, e2, e3⟩ | ⟨n1, n2⟩
      · subst e1 e2
        rw [q] at g1
        cases g1
        exact ⟨h1, o', upd_same, r'⟩
      · obtain ⟨f, u, y1, y2⟩ := ab.sto k b m' g1 n2
        have ne : b ≠ a := by
          rintro rfl
          exact n1 ((List.getElem?_inj (List.getElem?_eq_some_iff.mp g1).1 ab.nd).mp (g1.trans q.symm))
        exact ⟨f, u, by rw [upd_ne ne]; exact y1, y2⟩
    · obtain ⟨l, u, y1, y2, y3, y4, y5⟩ := ab.slo j m' g
      have ne : l ≠ a := by
        rintro rfl
        exact y3 (List.mem_of_getElem? q)
      exact ⟨l, u, y1, y2, y3, by rw [upd_ne ne]; exact y4, y5⟩
  case loc j =>
    have r' : σ[j]? = some (some v) := r
    have h' : s.ρ[j]? = some (.own mo) := by
      cases e : s.ρ[j]? with
      | none => simp only [S.mo, e] at h; cases h
      | some sl =>
        cases sl with
        | no => simp only [S.mo, e] at h; cases h
        | val d1 => simp only [S.mo, e] at h; cases h
        | own m1 => simp only [S.mo, e] at h; rw [Option.some.inj h]
    obtain ⟨l, u, y1, y2, y3, y4, y5⟩ := ab.slo j mo h'
    rw [r'] at y1
    cases y1
    have fpa : Fp adr s σ l := .inr ⟨j, mo, h', r'⟩
    have hj : j < s.ρ.length := (List.getElem?_eq_some_iff.mp h').1
    refine ⟨l, u, rfl, y4, y5, fun mo' o' q' => ⟨wr l o' _ fpa (fun x z => ?_), ⟨⟨ab.sub.wr y2, ab.len, ab.nd, fun k b m' g1 g2 => ?_⟩, by simp [S.mut, S.put, ab.lenr], fun i d' g => ?_, fun i m' g => ?_, fun i i' m1 m2 l' g1 g2 g3 g4 => ?_⟩⟩⟩
    · rcases z with z | ⟨i, m', z1, z2⟩
      · exact .inl z
      · rcases set_back (show (s.ρ.set j (.own mo'))[i]? = some (.own m') from z1) with ⟨e1, e2, e3⟩ | ⟨n1, n2⟩
        · subst e1; exact .inr ⟨i, mo, h', z2⟩
        · exact .inr ⟨i, m', n2, z2⟩
    · obtain ⟨f, u, x1, x2⟩ := ab.sto k b m' g1 g2
      have ne : b ≠ l := by
        rintro rfl
        exact y3 (List.mem_of_getElem? g1)
      exact ⟨f, u, by rw [upd_ne ne]; exact x1, x2⟩
    · rcases set_back (show (s.ρ.set j (.own mo'))[i]? = some (.val d') from g) with ⟨e1, e2, e3⟩ | ⟨n1, n2⟩
      · cases e2
      · exact ab.slv i d' n2
    · rcases set_back (show (s.ρ.set j (.own mo'))[i]? = some (.own m') from g) with ⟨e1, e2, e3⟩ | ⟨n1, n2⟩
      · cases e2
        subst e1
        exact ⟨l, o', r', y2, y3, upd_same, q'⟩
      · obtain ⟨l2, u2, x1, x2, x3, x4, x5⟩ := ab.slo i m' n2
        have ne : l2 ≠ l := by
          rintro rfl
          exact n1 (ab.dis i j m' mo l2 n2 h' x1 r')
        exact ⟨l2, u2, x1, x2, x3, by rw [upd_ne ne]; exact x4, x5⟩
    · have b1 : ∀ (i : Nat) (m1 : MO), (s.ρ.set j (Sl.own mo'))[i]? = some (Sl.own m1) → ∃ m0 : MO, s.ρ[i]? = some (Sl.own m0) := fun i m1 g => by
        rcases set_back g with ⟨e1, e2, e3⟩ | ⟨n1, n2⟩
        · subst e1; exact ⟨mo, h'⟩
        · exact ⟨m1, n2⟩
      obtain ⟨m3, k3⟩ := b1 i m1 g1
      obtain ⟨m4, k4⟩ := b1 i' m2 g2
      exact ab.dis i i' m3 m4 l' k3 k4 g3 g4
/-- a value that is a list now -/
def isL (s : S) (d : D) : Bool := match rsl s d with
  | .lst _ => true
  | _ => false
theorem isL_ok (ab : Abs K F adr s σ H) (r : RpV K F adr σ d v) (h : isL s d = true) : tyV K.K "list" v H := by
  have t := ab.t r
  unfold isL at h
  generalize rsl s d = e1 at *
  cases e1 <;> first | (cases h; done) | skip
  case lst xs =>
    obtain ⟨a, vs, rfl, h1, h2⟩ := t
    exact .inl ⟨rfl, vs, SqL.of h1⟩
def chk (f : S → D → Bool) (d : D) : M D := fun s => if f s d then .ok d s else .bad
/-- xs.append(e) -/
def appD (d x : D) : M D := fun s => match s.mo d with
  | some (.lst xs) => if xs.length < 100000 then .ok .non (s.mut d (.lst (xs ++ [x]))) else .bad
  | _ => .bad
def mapp (m a : M D) : M D := bnd m fun d => bnd (chk isL d) fun d => bnd (mal [a]) (on1 (appD d))
theorem chk_bind {γ δ : Type} {f : S → D → Bool} {rel' : Hp → List Addr → γ → δ → Prop} {k : D → M γ} {Q : δ → Hp → Prop} (h : PostG K W rel' F adr s σ H ((chk f d s).bind k) Q) : f s d = true ∧ PostG K W rel' F adr s σ H (k d s) Q := by
  unfold chk at h
  by_cases hc : f s d = true
  · rw [if_pos hc] at h; exact ⟨hc, h⟩
  · rw [if_neg hc] at h; exact h.elim
theorem on1_ok {α β : Type} {rel : Hp → List Addr → α → β → Prop} {f : D → M α} {ds : List D} {Q : β → Hp → Prop} (h : PostG K W rel F adr s σ H (on1 f ds s) Q) : ∃ d, ds = [d] ∧ PostG K W rel F adr s σ H (f d s) Q := by
  match ds, h with
  | [], h => exact h.elim
  | [d], h => exact ⟨d, rfl, h⟩
  | _ :: _ :: _, h => exact h.elim
theorem se_append (ho : SE X W o m) (ha : SAL X W [e] (mal [ma])) (hbase : attributeBase o "append" X.env (eval o X.env) = eval o X.env := by rfl)
    (hfew : ((backTo pos (starEach [e] X.env)).all (fun x => !x.1) && (backToKw pos (keywordEach [] X.env)).all (fun x => x.1.isSome) && decide ([e].length + ([] : List Keyword).length + (if ([] : List Keyword).isEmpty then 0 else 1) < 30)) = true := by rfl)
    (hline : (apos.endLine == pos.line) = true := by rfl) (hs : starEach [e] X.env = (false, eval e X.env) :: starEach [] X.env := by rfl) (hplain : (backTo pos (starEach [] X.env)).any (·.1) = false := by rfl) :
    SE X W (.Call (.Attribute o "append" apos) [e] [] pos) (mapp m ma) :=
  PE.imp (pe_bm PySem.F.plainAttrs_list PySem.F.slot_list_append PySem.F.type_list_append mt_append ho ha hbase hfew hline hs hplain) fun σ H Q t => by
    obtain ⟨F, adr, s, ab, po⟩ := t
    refine ⟨F, adr, s, ab, (PostG.bind po).imp ?_⟩
    rintro x H1 ⟨F1, adr1, d1, s1, st1, ab1, rp1, po1⟩
    obtain ⟨hc, po2⟩ := chk_bind po1
    refine ⟨isL_ok ab1 rp1 hc, F1, adr1, s1, ab1, (PostG.bind po2).imp ?_⟩
    rintro xs H2 ⟨F2, adr2, ds, s2, st2, ab2, rp2, po3⟩
    obtain ⟨y, rfl, po4⟩ := on1_ok po3
    obtain ⟨v, r, q, g1, g2⟩ := rp2
    have e0 : r = [] := g2
    subst e0 q
    have rp1' := rp1.mono st2.ex st2.pre
    unfold appD at po4
    cases e1 : s2.mo d1 with
    | none => rw [e1] at po4; exact po4.elim
    | some mo =>
      rw [e1] at po4
      obtain ⟨p, u, hp, z1, z2, z3⟩ := ab2.mut rp1' e1
      cases mo <;> try (exact po4.elim)
      case lst zs =>
        obtain ⟨vs, rfl, zr⟩ := z2
        by_cases hl : zs.length < 100000
        · simp only [hl, if_true] at po4
          refine ⟨p, vs, v, hp, rfl, z1, by rw [zr.length]; exact Nat.lt_of_lt_of_le hl line5, ?_⟩
          obtain ⟨y1, y2⟩ := z3 (.lst (zs ++ [y])) (.lst (vs ++ [v])) ⟨_, rfl, zr.append (.one g1)⟩
          exact po4 .non F2 adr2 _ y1 y2 rfl
        · simp only [hl, if_false] at po4
          exact po4.elim
/-- xs[i] = e -/
def setD (d i x : D) : S → RS := fun s => match s.mo d, i with
  | some (.lst xs), .int k => match ixN xs.length k with
    | some j => .nx (s.mut d (.lst (xs.set j x)))
    | none => .bad
  | _, _ => .bad
def ssub (m o i : M D) : MS := fun s => (stl m s).toS fun x s => (o s).toS fun d s => (i s).toS fun k s => setD d k x s
theorem ss_sub {i : Expr} {mo mi : M D} {tpos : Pos} (he : SE X W e m) (ho : SE X W o mo) (hi : SE X W i mi) (hs : swapsWithSole [.Subscript o i tpos] e pos.line X.env = pure false := by rfl) (hw : swappedStores [.Subscript o i tpos] e X.env = pure none := by rfl)
    (h1 : (assignEach [.Subscript o i tpos] X.env).map (·.2) = [assign (.Subscript o i tpos) X.env] := by rfl)
    (ha : ∀ v, assign (.Subscript o i tpos) X.env v = (do
      let ov ← holding [v] (eval o X.env)
      let iv ← holding [v, ov] (eval i X.env)
      standAt tpos
      holding [v, ov, iv] (setItem ov iv v)
      release [v, ov, iv] []) := by intro _; rfl) : SS X W (.Assign [.Subscript o i tpos] e pos) (ssub m mo mi) :=
  PS.imp (ps_asg he (pg_sub ho hi set_list ha) hs hw h1) fun E σ H t => by
    obtain ⟨F, adr, s, ab, po⟩ := t
    refine ⟨F, adr, s, ab, PostG.imp (t_stl ab po) ?_⟩
    rintro x H1 ⟨F1, adr1, d1, s1, st1, ab1, rp1, po1⟩
    refine ⟨F1, adr1, s1, ab1, (S_bind po1).imp ?_⟩
    rintro y H2 ⟨F2, adr2, d2, s2, st2, ab2, rp2, po2⟩
    refine ⟨F2, adr2, s2, ab2, (S_bind po2).imp ?_⟩
    rintro z H3 ⟨F3, adr3, d3, s3, st3, ab3, rp3, po3⟩
    have rp1' := rp1.mono (st2.trans st3).ex (st2.trans st3).pre
    have rp2' := rp2.mono st3.ex st3.pre
    unfold setD at po3
    cases e1 : s3.mo d2 with
    | none => rw [e1] at po3; exact po3.elim
    | some mo =>
      rw [e1] at po3
      obtain ⟨p, u, hp, z1, z2, z3⟩ := ab3.mut rp2' e1
      cases mo <;> try (exact po3.elim)
      case lst zs =>
        cases d3 <;> try (exact po3.elim)
        case int k =>
          obtain ⟨vs, rfl, zr⟩ := z2
          simp only at po3
          cases e2 : ixN zs.length k with
          | none => rw [e2] at po3; exact po3.elim
          | some j =>
            rw [e2] at po3
            obtain ⟨y1, y2⟩ := z3 (.lst (zs.set j d1)) (.lst (vs.set j x)) ⟨_, rfl, zr.set j rp1'⟩
            exact ⟨p, vs, k, j, hp, rp3, z1, by rw [zr.length]; exact e2, po3 σ F3 adr3 _ y1 y2⟩
def keyD : D → Option Key
  | .int i => some (.inl i)
  | .str x => some (.inr x)
  | _ => none
theorem keyD_ok {k : Key} (h : keyD d = some k) (r : RpV K F adr σ d v) : v = kV k := by
  cases d <;> first | (cases h; done) | skip
  case int i => cases h; exact r
  case str i => cases h; exact r
def addK (ks : List Key) (k : Key) : List Key := if hasK ks k then ks else ks ++ [k]
theorem hasK_self {ks : List Key} {k j : Key} (h : hasK ks k = true) : (hasK ks j || decide (j = k)) = hasK ks j := by
  by_cases e : j = k
  · subst e; rw [h]; rfl
  · rw [decide_eq_false e, Bool.or_false]
theorem addK_set {P : Program} {w : World} {a : Addr} (ks : List Key) (k : Key) : SetK P w a (fun j => hasK ks j || decide (j = k)) (if hasK ks k = true then ks.length else ks.length + 1) = SetK P w a (hasK (addK ks k)) (addK ks k).length := by
  unfold addK
  by_cases h : hasK ks k = true
  · rw [if_pos h, if_pos h, show (fun j => hasK ks j || decide (j = k)) = hasK ks from funext fun j => hasK_self h]
  · rw [if_neg h, if_neg h, List.length_append, show (fun j => hasK ks j || decide (j = k)) = hasK (ks ++ [k]) from funext fun j => ?_]
    · rfl
    · unfold hasK
      rw [List.any_append]
      simp [eq_comm]
def isSet (s : S) (d : D) : Bool := match s.mo d with
  | some (.set _) => true
  | _ => false
def sadD (d x : D) : M D := fun s => match s.mo d, keyD x with
  | some (.set ks), some k => if ks.length < 1000 then .ok .non (s.mut d (.set (addK ks k))) else .bad
  | _, _ => .bad
def msadd (m a : M D) : M D := bnd m fun d => bnd (chk isSet d) fun d => bnd (mal [a]) (on1 (sadD d))
theorem se_sadd (ho : SE X W o m) (ha : SAL X W [e] (mal [ma])) (hbase : attributeBase o "add" X.env (eval o X.env) = eval o X.env := by rfl)
    (hfew : ((backTo pos (starEach [e] X.env)).all (fun x => !x.1) && (backToKw pos (keywordEach [] X.env)).all (fun x => x.1.isSome) && decide ([e].length + ([] : List Keyword).length + (if ([] : List Keyword).isEmpty then 0 else 1) < 30)) = true := by rfl)
    (hline : (apos.endLine == pos.line) = true := by rfl) (hs : starEach [e] X.env = (false, eval e X.env) :: starEach [] X.env := by rfl) (hplain : (backTo pos (starEach [] X.env)).any (·.1) = false := by rfl) :
    SE X W (.Call (.Attribute o "add" apos) [e] [] pos) (msadd m ma) := PE.imp (pe_saddK ho ha hbase hfew hline hs hplain) fun σ H Q t => by
  obtain ⟨F, adr, s, ab, po⟩ := t
  refine ⟨F, adr, s, ab, (PostG.bind po).imp ?_⟩
  rintro x H1 ⟨F1, adr1, d1, s1, st1, ab1, rp1, po1⟩
  obtain ⟨hc, po2⟩ := chk_bind po1
  refine ⟨?_, F1, adr1, s1, ab1, (PostG.bind po2).imp ?_⟩
  · unfold isSet at hc
    cases e1 : s1.mo d1 with
    | none => rw [e1] at hc; cases hc
    | some mo =>
      rw [e1] at hc
      cases mo <;> first | (cases hc; done) | skip
      case set ks =>
        obtain ⟨p, u, hp, z1, z2, _⟩ := ab1.mut rp1 e1
        exact ⟨p, _, _, hp, by rw [z1, show u = _ from z2]⟩
  rintro xs H2 ⟨F2, adr2, ds, s2, st2, ab2, rp2, po3⟩
  obtain ⟨y, rfl, po4⟩ := on1_ok po3
  obtain ⟨v, r, q, g1, g2⟩ := rp2
  have e0 : r = [] := g2
  subst e0 q
  have rp1' := rp1.mono st2.ex st2.pre
  unfold sadD at po4
  cases e1 : s2.mo d1 with
  | none => rw [e1] at po4; exact po4.elim
  | some mo =>
    rw [e1] at po4
    obtain ⟨p, u, hp, z1, z2, z3⟩ := ab2.mut rp1' e1
    cases mo <;> try (exact po4.elim)
    case set ks =>
      cases e3 : keyD y with
      | none => simp only [e3] at po4; exact po4.elim
      | some k =>
        simp only [e3] at po4
        by_cases hl : ks.length < 1000
        · simp only [hl, if_true] at po4
          refine ⟨p, k, hasK ks, ks.length, hp, by rw [keyD_ok (K := kk X) (σ := σ) e3 (.of g1)], by rw [z1, show u = _ from z2], by show ks.length + 1 < 4096; omega, ?_⟩
          rw [addK_set]
          obtain ⟨y1, y2⟩ := z3 (.set (addK ks k)) _ rfl
          exact po4 .non F2 adr2 _ y1 y2 rfl
        · simp only [hl, if_false] at po4
          exact po4.elim
def inA (neg : Bool) : D → D → M D := fun x y s => match s.mo y with
  | some (.set ks) => match keyD x with
    | some k => .ok (.bl (if neg then !hasK ks k else hasK ks k)) s
    | none => .bad
  | _ => inD neg x y s
theorem inA_fin (neg : Bool) {x y : V} {Q : VK} (h : r2I K W (inA neg) x y H Q) : rSInK K.P K.w neg x y H Q ∨ r2I K W (inD neg) x y H Q := by
  obtain ⟨F, adr, s, σ, d1, d2, ab, r1, r2, po⟩ := h
  unfold inA at po
  cases e1 : s.mo d2 with
  | none => rw [e1] at po; exact .inr ⟨F, adr, s, σ, d1, d2, ab, r1, r2, po⟩
  | some mo =>
    rw [e1] at po
    cases mo with
    | set ks =>
      simp only at po
      obtain ⟨p, u, hp, z1, z2, _⟩ := ab.mut r2 e1
      cases e3 : keyD d1 with
      | none => simp only [e3] at po; exact po.elim
      | some k =>
        simp only [e3] at po
        exact .inl ⟨k, p, hasK ks, ks.length, keyD_ok e3 r1, hp, by rw [z1, show u = _ from z2], Post.at ab po rfl⟩
    | _ => exact .inr ⟨F, adr, s, σ, d1, d2, ab, r1, r2, po⟩
theorem op_inA : OpR X (compareOp .In) (r2I (kk X) W (inA false)) := OpR.imp (or_sinK.or op_inD) fun x y H Q h => inA_fin false h
theorem op_ninA : OpR X (compareOp .NotIn) (r2I (kk X) W (inA true)) := OpR.imp (or_snotinK.or op_ninD) fun x y H Q h => inA_fin true h
end
end Bx
namespace Bx
open PySem L2 PySem.Spec PyProof.Rows
section
variable {X : Cx} {W : WX} {K : KK} {F F' H H' : Hp} {adr adr' : List Addr} {s s' : S} {σ σ' : L2.St} {d : D} {v : V} {e a b c tg o iter elt : Expr} {es : List Expr} {m ma mb mc : M D} {ms : List (M D)} {pos apos : Pos} {E : Ends}
def wipeR (ρ : List Sl) : List Nat → List Sl
  | [] => ρ
  | v :: vs => (wipeR ρ vs).set v .no
def wipeS (vs : List Nat) (s : S) : S := { s with ρ := wipeR s.ρ vs }
theorem wipeR_len (ρ : List Sl) : ∀ vs : List Nat, (wipeR ρ vs).length = ρ.length
  | [] => rfl
  | v :: vs => by unfold wipeR; rw [List.length_set, wipeR_len ρ vs]
theorem wipeR_get {ρ : List Sl} {i : Nat} {x : Sl} : ∀ {vs : List Nat}, (wipeR ρ vs)[i]? = some x → x ≠ .no → i ∉ vs ∧ ρ[i]? = some x
  | [], h, _ => ⟨by simp, h⟩
  | v :: vs, h, n => by
    unfold wipeR at h
    rcases set_back h with ⟨e1, e2, e3⟩ | ⟨n1, n2⟩
    · exact absurd e2 n
    · obtain ⟨z1, z2⟩ := wipeR_get n2 n
      exact ⟨by simp only [List.mem_cons, not_or]; exact ⟨n1, z1⟩, z2⟩
/-- the block's state, and back -/
theorem Abs.wiped {vs : List Nat} {σ1 σ2 : L2.St} (ab : Abs K F adr s σ1 H) (hl : σ2.length = σ1.length) (hσ : ∀ i : Nat, i ∉ vs → σ2[i]? = σ1[i]?) :
    (∀ x, Fp adr (wipeS vs s) σ2 x → Fp adr s σ1 x) ∧ Abs K F adr (wipeS vs s) σ2 H := by
  have back : ∀ (i : Nat) (x : Sl), (wipeR s.ρ vs)[i]? = some x → x ≠ .no → s.ρ[i]? = some x ∧ σ2[i]? = σ1[i]? := fun i x h n => by
    obtain ⟨h1, h2⟩ := wipeR_get h n
    exact ⟨h2, hσ i h1⟩
  refine ⟨fun x h => ?_, ⟨ab.toAbsH, by show σ2.length = (wipeR s.ρ vs).length; rw [wipeR_len, hl, ab.lenr], fun j d h => ?_, fun j m h => ?_, fun j j' m m' l h1 h2 h3 h4 => ?_⟩⟩
  · rcases h with h | ⟨i, m, h1, h2⟩
    · exact .inl h
    · obtain ⟨z1, z2⟩ := back i _ h1 (fun z => nomatch z)
      exact .inr ⟨i, m, z1, by rw [← z2]; exact h2⟩
  · obtain ⟨z1, z2⟩ := back j _ h (fun z => nomatch z)
    rw [z2]; exact ab.slv j d z1
  · obtain ⟨z1, z2⟩ := back j _ h (fun z => nomatch z)
    rw [z2]; exact ab.slo j m z1
  · obtain ⟨z1, z2⟩ := back j _ h1 (fun z => nomatch z)
    obtain ⟨z3, z4⟩ := back j' _ h2 (fun z => nomatch z)
    rw [z2] at h3
    rw [z4] at h4
    exact ab.dis j j' m m' l z1 z3 h3 h4
theorem Step.less {F1 : Hp} {adr1 : List Addr} {P P1 P2 : Addr → Prop} {H1 : Hp} (st : Step F adr P H F1 adr1 P1 H1) (h : ∀ x, P2 x → P1 x) : Step F adr P H F1 adr1 P2 H1 := ⟨st.ex, st.pre, st.keep, fun a q => st.foot a (h a q), st.frz, st.there⟩
/-- a write at something newer than the start -/
theorem Step.wrNew {F1 : Hp} {adr1 : List Addr} {P P1 : Addr → Prop} {H1 : Hp} {p : Addr} {o : HO} (st : Step F adr P H F1 adr1 P1 H1) (h : H p = none) : Step F adr P H F1 adr1 P1 (upd H1 p o) :=
  ⟨st.ex, st.pre, fun a u q n f => by rw [upd_ne (ne_of_none q h)]; exact st.keep a u q n f, st.foot, st.frz, fun a q => by
    by_cases ha : a = p
    · subst ha; rw [upd_same]; simp
    · rw [upd_ne ha]; exact st.there a q⟩
theorem Abs.wrFresh {p : Addr} {o : HO} (ab : Abs K F adr s σ H) (h1 : F p = none) (h2 : ¬ Fp adr s σ p) : Abs K F adr s σ (upd H p o) := by
  refine ⟨⟨ab.sub.wr h1, ab.len, ab.nd, fun i x m g1 g2 => ?_⟩, ab.lenr, ab.slv, fun j m q => ?_, ab.dis⟩
  · obtain ⟨f, u, q, r⟩ := ab.sto i x m g1 g2
    have ne : x ≠ p := fun z => h2 (.inl (by rw [← z]; exact List.mem_of_getElem? g1))
    exact ⟨f, u, by rw [upd_ne ne]; exact q, r⟩
  · obtain ⟨l, u, q1, q2, q3, q4, q5⟩ := ab.slo j m q
    have ne : l ≠ p := fun z => h2 (.inr ⟨j, m, q, by rw [← z]; exact q1⟩)
    exact ⟨l, u, q1, q2, q3, by rw [upd_ne ne]; exact q4, q5⟩
theorem keep_fresh {F1 : Hp} {adr1 : List Addr} {s1 : S} {σ1 : L2.St} {H1 : Hp} {p : Addr} {u : HO} (st : Step F adr (Fp adr s σ) H F1 adr1 (Fp adr1 s1 σ1) H1) (h1 : F p = none) (h2 : ¬ Fp adr s σ p) (h3 : H p = some u) : F1 p = none ∧ ¬ Fp adr1 s1 σ1 p ∧ H1 p = some u := by
  have hp : H p ≠ none := by rw [h3]; simp
  refine ⟨?_, fun z => ?_, st.keep p u h3 h2 h1⟩
  · cases e : F1 p with
    | none => rfl
    | some y =>
      rcases st.frz p (by rw [e]; simp) with z | z | z
      · exact absurd h1 z
      · exact absurd z hp
      · exact absurd z h2
  · rcases st.foot p z with y | y
    · exact h2 y
    · exact hp y
def W0 : WX := fun _ _ _ _ => False
def cloop (vs : List Nat) (asg : D → MS) (t : M Bool) (el : M D) : List D → List D → S → R D
  | [], acc, s => .ok (.lst acc) (wipeS vs s)
  | d :: r, acc, s => match asg d s with
    | .nx s1 => match t s1 with
      | .ok true s2 => match stl el s2 with
        | .ok y s3 => if acc.length < 100000 then cloop vs asg t el r (acc ++ [y]) (wipeS vs s3) else .bad
        | _ => .bad
      | .ok false s2 => cloop vs asg t el r acc (wipeS vs s2)
      | _ => .bad
    | _ => .bad
def mcomp (vs : List Nat) (it : M (List D)) (asg : D → MS) (t : M Bool) (el : M D) : M D := bnd it fun items s => cloop vs asg t el items [] (wipeS vs s)
def STs (X : Cx) (W : WX) (ifs : List Expr) (m : M Bool) : Prop := PTs X ifs (tT (kk X) W m)
def yes : M Bool := pur true
theorem sts_nil : STs X W [] yes := ⟨fun pins sh σ H Q I t => by
  obtain ⟨F, adr, s, ab, po⟩ := t
  exact pts_nil.run pins sh σ H Q I (PostG.done ab po rfl)⟩
theorem sts_one {t : M Bool} (h : ST X W c t) : STs X W [c] t := pts_one h
theorem wipe_in {σ : L2.St} {i : Nat} : ∀ {vs : List Nat}, i ∈ vs → (wipe σ vs)[i]? = if i < σ.length then some none else none
  | [], h => nomatch h
  | v :: vs, h => by
    unfold wipe
    by_cases hv : v = i
    · subst hv
      by_cases hl : v < σ.length
      · rw [List.getElem?_set_self (by rw [wipe_length]; exact hl), if_pos hl]
      · rw [if_neg hl, List.getElem?_eq_none (by simpa [wipe_length] using hl)]
    · rw [List.getElem?_set_ne hv]
      exact wipe_in (by rcases List.mem_cons.mp h with z | z; exact absurd z.symm hv; exact z)
theorem wipe_out' {σ : L2.St} {i : Nat} {vs : List Nat} (h : i ∉ vs) : (wipe σ vs)[i]? = σ[i]? := wipe_out h
theorem wipe_ext {σ1 σ2 : L2.St} {vs : List Nat} (hl : σ1.length = σ2.length) (h : ∀ i : Nat, i ∉ vs → σ1[i]? = σ2[i]?) : wipe σ1 vs = wipe σ2 vs := by
  apply List.ext_getElem?
  intro i
  by_cases hi : i ∈ vs
  · rw [wipe_in hi, wipe_in hi, hl]
  · rw [wipe_out' hi, wipe_out' hi]; exact h i hi
/-- a comprehension's target -/
inductive Tgt where
  | name (j : Nat) | tup (js : List Nat)
def Tgt.slots : Tgt → List Nat
  | .name j => [j]
  | .tup js => js
def Tgt.asg : Tgt → D → MS
  | .name j => gset j
  | .tup js => gtup js
def Tgt.tr (K : PySem.W.Frag) : Tgt → TG
  | .name j => gName j
  | .tup js => gTup K js.length (gN js)
def SGc (X : Cx) (tg : Expr) (g : Tgt) : Prop := PG X tg (g.tr X.K)
theorem sgc_name {j : Nat} {x : Str} (hN : X.N.Nodup) (hi : X.N[j]? = some x) (hx : Loc X.env.scope x) (hf : X.fn x = true ∨ X.env.scope.names.lookup x = some .local := by first | exact .inl rfl | exact .inr rfl | assumption) : SGc X (.Name x pos) (.name j) := pg_name hN hi hx hf
theorem sgc_tup {k : Nat} {js : List Nat} (hc : X.calm = true) (h : SGn X es js) (hn : (assignEach es X.env).length = js.length := by rfl) (hst : (assignEach es X.env).findIdx? (·.1) = none := by rfl) : SGc X (.Tuple es k pos) (.tup js) := pg_tup hc h hn hst
theorem sets_len : ∀ (js : List Nat) (σ : L2.St) (vs : List V), (sets σ js vs).length = σ.length
  | [], σ, vs => by cases vs <;> rfl
  | j :: js, σ, [] => rfl
  | j :: js, σ, v :: vs => by show (sets (σ.set j (some v)) js vs).length = _; rw [sets_len js, List.length_set]
theorem sets_out {i : Nat} : ∀ {js : List Nat} {σ : L2.St} {vs : List V}, i ∉ js → (sets σ js vs)[i]? = σ[i]?
  | [], σ, vs, _ => by cases vs <;> rfl
  | j :: js, σ, [], _ => rfl
  | j :: js, σ, v :: vs, h => by
    simp only [List.mem_cons, not_or] at h
    show (sets (σ.set j (some v)) js vs)[i]? = _
    rw [sets_out h.2, List.getElem?_set_ne (fun z => h.1 z.symm)]
theorem Tgt.run {g : Tgt} {Q : L2.St → Hp → Prop} (ab : Abs K F adr s σ H) (r : Rp K F adr d v) (h : g.asg d s = .nx s')
    (q : ∀ σ', σ'.length = σ.length → (∀ i : Nat, i ∉ g.slots → σ'[i]? = σ[i]?) → Step F adr (Fp adr s σ) H F adr (Fp adr s' σ') H → Abs K F adr s' σ' H → Q σ' H) : g.tr K.K v σ H Q := by
  cases g with
  | name j =>
    cases h
    exact q _ (by simp) (fun i hi => List.getElem?_set_ne (fun z => hi (by rw [z]; exact List.mem_singleton.mpr rfl))) (ab.setVal r).1 (ab.setVal r).2
  | tup js =>
    have h' : gtup js d s = .nx s' := h
    unfold gtup at h'
    cases hd : unT d with
    | none => rw [hd] at h'; cases h'
    | some ds =>
      rw [hd] at h'
      obtain ⟨a, vs, rfl, h1, h2⟩ := unT_ok hd r
      by_cases hl : ds.length = js.length
      · simp only [hl, if_true] at h'
        cases h'
        have hv : vs.length = js.length := by rw [h2.length, hl]
        obtain ⟨z1, z2⟩ := Abs.setAll (js := js) (xs := ds.map .val) (vs := vs) ab .refl (slsOk_vals h2)
        exact ⟨a, vs, rfl, ex_t ab.sub h1, hv, hv, q _ (sets_len _ _ _) (fun i hi => sets_out hi) z1 z2⟩
      · simp only [hl, if_false] at h'
        cases h'
theorem settle_noloc {j : Nat} (h : settle d s = .ok (.loc j) s') : False := by
  cases d <;> first | (cases h; done) | skip
  case loc i =>
    cases e : s.ρ[i]? with
    | none => simp only [settle, e] at h; cases h
    | some sl =>
      simp only [settle, e] at h
      cases sl with
      | no => cases h
      | val d1 => cases d1 <;> cases h
      | own m => cases m <;> cases h
theorem stl_noloc {j : Nat} {el : M D} (h : stl el s = .ok (.loc j) s') : False := by
  have h' : (el s).bind settle = .ok (.loc j) s' := h
  cases e : el s with
  | ok d0 s0 => rw [e] at h'; exact settle_noloc h'
  | exc x0 s0 => rw [e] at h'; cases h'
  | bad => rw [e] at h'; cases h'
theorem t_comp {vs : List Nat} {it : M (List D)} {g : Tgt} {t : M Bool} {el : M D} {σ : L2.St} {H : Hp} {Q : VK} (hg : ∀ i ∈ g.slots, i ∈ vs) (h : tI K W (mcomp vs it g.asg t el) σ H Q) :
    tLc (tIt K W it) (g.tr K.K) (tT K W0 t) (tI K W0 (stl el)) vs σ H Q := by
  obtain ⟨F, adr, s, ab, po⟩ := h
  refine ⟨F, adr, s, ab, (PostG.bind po).imp ?_⟩
  rintro J H1 ⟨F1, adr1, items, s1, st1, ab1, wk, po1⟩
  intro p hp
  -- the start, behind the new list
  have hFp := ab1.fnone hp
  have npp : ¬ Fp adr1 s1 σ p := fun z => (ab1.fpH z).1 hp
  refine ⟨fun i m' H' => m' = items.length - i ∧ i ≤ items.length ∧ ∃ F' adr' s' acc av, Step F1 adr1 (Fp adr1 s1 σ) H1 F' adr' (Fp adr' s' (wipe σ vs)) H' ∧ Abs K F' adr' s' (wipe σ vs) H' ∧ F' p = none ∧ ¬ Fp adr' s' (wipe σ vs) p ∧ H' p = some (.lst av) ∧
      RpL K F' adr' acc av ∧ Post K W F1 adr1 s1 σ H1 (cloop vs g.asg t el (items.drop i) acc s') Q, ⟨items.length, by simp, Nat.zero_le _, ?_⟩, ?_⟩
  · obtain ⟨y1, y2⟩ := ab1.wiped (vs := vs) (σ2 := wipe σ vs) (wipe_length σ vs) (fun i hi => wipe_out' hi)
    have st0 : Step F1 adr1 (Fp adr1 s1 σ) H1 F1 adr1 (Fp adr1 (wipeS vs s1) (wipe σ vs)) H1 := Step.less .refl y1
    exact ⟨F1, adr1, wipeS vs s1, [], [], st0.wrNew hp, y2.wrFresh hFp (fun z => npp (y1 _ z)), hFp, fun z => npp (y1 _ z), upd_same, rfl, by simpa using po1⟩
  · rintro i m' H2 ⟨rfl, hil, F2, adr2, s2, acc, av, st2, ab2, f2, n2, h2, r2, po2⟩
    by_cases hlt : i < items.length
    · obtain ⟨d, hd⟩ : ∃ d, items[i]? = some d := ⟨_, List.getElem?_eq_getElem hlt⟩
      have hdrop : items.drop i = d :: items.drop (i + 1) := by
        rw [List.drop_eq_getElem_cons hlt]
        rw [List.getElem?_eq_getElem hlt] at hd
        rw [Option.some.inj hd]
      rw [hdrop] at po2
      obtain ⟨g1, g2⟩ := walk_one wk ⟨st2.ex, st2.pre⟩ ab2 hd
      refine .inr ⟨g1, fun H' => ∃ F' adr' s' acc av, Step F1 adr1 (Fp adr1 s1 σ) H1 F' adr' (Fp adr' s' (wipe σ vs)) H' ∧ Abs K F' adr' s' (wipe σ vs) H' ∧ F' p = none ∧ ¬ Fp adr' s' (wipe σ vs) p ∧ H' p = some (.lst av) ∧
        RpL K F' adr' acc av ∧ Post K W F1 adr1 s1 σ H1 (cloop vs g.asg t el (items.drop (i + 1)) acc s') Q, fun H' z => ⟨items.length - (i + 1), by omega, rfl, hlt, z⟩, fun x H3 y => ?_⟩
      obtain ⟨F3, st3, ab3, rp3⟩ := g2 x H3 y
      obtain ⟨f3, n3, h3⟩ := keep_fresh st3 f2 n2 h2
      unfold cloop at po2
      cases e1 : g.asg d s2 with
      | nx s3 =>
        simp only [e1] at po2
        refine Tgt.run ab3 rp3 e1 fun σ4 hl4 ho4 st4 ab4 => ?_
        have wz : wipe σ4 vs = wipe σ vs := wipe_ext (by rw [hl4, wipe_length]) (fun j hj => by rw [ho4 j (fun z => hj (hg j z)), wipe_out' hj])
        refine ⟨wz, F3, adr2, s3, ab4, ?_⟩
        obtain ⟨f4, n4, h4⟩ := keep_fresh st4 f3 n3 h3
        -- behind a turn: the slots forgotten again
        have fin : ∀ {F5 : Hp} {adr5 : List Addr} {s5 : S} {H5 : Hp}, Step F3 adr2 (Fp adr2 s3 σ4) H3 F5 adr5 (Fp adr5 s5 σ4) H5 → Abs K F5 adr5 s5 σ4 H5 →
            Step F1 adr1 (Fp adr1 s1 σ) H1 F5 adr5 (Fp adr5 (wipeS vs s5) (wipe σ vs)) H5 ∧ Abs K F5 adr5 (wipeS vs s5) (wipe σ vs) H5 ∧ F5 p = none ∧ ¬ Fp adr5 (wipeS vs s5) (wipe σ vs) p ∧ H5 p = some (.lst av) ∧ RpL K F5 adr5 acc av := fun {F5 adr5 s5 H5} st5 ab5 => by
          obtain ⟨y1, y2⟩ := ab5.wiped (vs := vs) (σ2 := wipe σ vs) (by rw [wipe_length, hl4, wipe_length]) (fun j hj => by rw [wipe_out' hj, ho4 j (fun z => hj (hg j z)), wipe_out' hj])
          obtain ⟨f5, n5, h5⟩ := keep_fresh st5 f4 n4 h4
          have stA := (st2.trans st3).trans (st4.trans st5)
          exact ⟨Step.less stA y1, y2, f5, fun z => n5 (y1 _ z), h5, r2.mono ((st3.trans st4).trans st5).ex ((st3.trans st4).trans st5).pre⟩
        cases e2 : t s3 with
        | ok bb s5 =>
          simp only [e2] at po2
          intro b' F5 adr5 H5 st5 ab5 hb
          have hb' : b' = bb := hb
          subst hb'
          cases b' with
          | false =>
            obtain ⟨q1, q2, q3, q4, q5, q6⟩ := fin st5 ab5
            exact ⟨F5, adr5, _, acc, av, q1, q2, q3, q4, q5, q6, po2⟩
          | true =>
            refine ⟨F5, adr5, s5, ab5, ?_⟩
            simp only at po2
            cases e3 : stl el s5 with
            | ok yv s6 =>
              simp only [e3] at po2
              intro w F6 adr6 H6 st6 ab6 rp6
              obtain ⟨q1, q2, q3, q4, q5, q6⟩ := fin (st5.trans st6) ab6
              by_cases hz : acc.length < 100000
              · simp only [hz, if_true] at po2
                refine ⟨av, q5, by rw [r2.length]; exact Nat.lt_of_lt_of_le hz line5, F6, adr6, wipeS vs s6, acc ++ [yv], av ++ [w], q1.wrNew hp, q2.wrFresh q3 q4, q3, q4, upd_same, q6.append (.one ?_), po2⟩
                cases yv with
                | loc j => exact (stl_noloc e3).elim
                | _ => exact rp6
              · simp only [hz, if_false] at po2
                exact po2.elim
            | exc x6 s6 => simp only [e3] at po2; exact po2.elim
            | bad => simp only [e3] at po2; exact po2.elim
        | exc x5 s5 => simp only [e2] at po2; exact po2.elim
        | bad => simp only [e2] at po2; exact po2.elim
      | _ => simp only [e1] at po2; exact po2.elim
    · have e : i = items.length := by omega
      subst e
      rw [List.drop_length] at po2
      refine .inl ⟨wk.stop F2 adr2 H2 st2.ex st2.pre ab2.sub, ?_⟩
      obtain ⟨y1, y2⟩ := ab2.wiped (vs := vs) (σ2 := σ) (wipe_length σ vs).symm (fun j hj => (wipe_out' hj).symm)
      have po3 : Post K W F1 adr1 s1 σ H1 (.ok (.lst acc) (wipeS vs s2)) Q := po2
      have ex := Ex.new (o := .lst av) f2
      refine po3 (.ref p) (upd F2 p (.lst av)) adr2 H2 ⟨st2.ex.trans ex, st2.pre, st2.keep, fun x z => st2.foot x (y1 _ z), fun x z => ?_, st2.there⟩ ?_ ?_
      · by_cases hx : x = p
        · exact .inr (.inl (by rw [hx]; exact hp))
        · rw [upd_ne hx] at z; exact st2.frz x z
      · refine ⟨⟨fun x u r => ?_, y2.len, y2.nd, fun k x m' k1 k2 => ?_⟩, y2.lenr, fun j d' q => ?_, fun j m' q => ?_, y2.dis⟩
        · by_cases hx : x = p
          · subst hx
            rcases r with r | ⟨lk, o', r⟩
            · rw [upd_same] at r; exact .inl (by rw [← r]; exact h2)
            · rw [upd_same] at r; exact .inr ⟨lk, o', by rw [← r]; exact h2⟩
          · refine y2.sub x u ?_
            rcases r with r | ⟨lk, o', r⟩
            · exact .inl (by rw [upd_ne hx] at r; exact r)
            · exact .inr ⟨lk, o', by rw [upd_ne hx] at r; exact r⟩
        · obtain ⟨z1, u, z2, z3⟩ := y2.sto k x m' k1 k2
          have ne : x ≠ p := fun z => n2 (.inl (by rw [← z]; exact List.mem_of_getElem? k1))
          exact ⟨by rw [upd_ne ne]; exact z1, u, z2, z3.mono ex (List.prefix_refl _)⟩
        · obtain ⟨w, z1, z2⟩ := y2.slv j d' q
          exact ⟨w, z1, z2.mono ex (List.prefix_refl _)⟩
        · obtain ⟨l, u, z1, z2, z3, z4, z5⟩ := y2.slo j m' q
          have ne : l ≠ p := fun z => n2 (y1 _ (.inr ⟨j, m', q, by rw [← z]; exact z1⟩) |> fun h => h)
          exact ⟨l, u, z1, by rw [upd_ne ne]; exact z2, z3, z4, z5.mono ex (List.prefix_refl _)⟩
      · exact ⟨p, av, rfl, upd_same, r2.mono ex (List.prefix_refl _)⟩
theorem se_comp {ifs : List Expr} {scope : Scope} {own : List (Str × Nat)} {it : M (List D)} {g : Tgt} {t : M Bool} {el : M D} (hc : X.calm = true) (hN : X.N.Nodup) (hi : SI X W tg iter it) (ok : BlkOk X.N X.env.scope scope own)
    (hg : ∀ (s : Shared) (H : Hp) (C : Addr) (cl : List (Str × Addr)) (fp : List Addr), SGc (X.blk s H scope (compEnvC scope cl C X.env) fp) tg g) (ht : ∀ (s : Shared) (H : Hp) (C : Addr) (cl : List (Str × Addr)) (fp : List Addr), STs (X.blk s H scope (compEnvC scope cl C X.env) fp) W0 ifs t)
    (he : ∀ (s : Shared) (H : Hp) (C : Addr) (cl : List (Str × Addr)) (fp : List Addr), SE (X.blk s H scope (compEnvC scope cl C X.env) fp) W0 elt el) (hsl : g.slots.all (fun i => (own.map (·.2)).contains i) = true := by rfl) (hs : ∀ x, foldedSetIterable iter X.env x = pure x := by intro _; rfl) :
    SE X W (.ListComp elt [⟨tg, iter, ifs, 0⟩] scope pos) (mcomp (own.map (·.2)) it g.asg t el) :=
  PE.imp (pe_lc (g := g.tr X.K) (tt := tT (kk X) W0 t) (te := tI (kk X) W0 (stl el)) hc hN hi ok hg ht (fun s H C cl fp => se_stl (he s H C cl fp)) hs) fun σ H Q h => t_comp (fun i hi => by have := List.all_eq_true.mp hsl i hi; simpa using this) h
/-- name = [..] -/
theorem ss_comp {j : Nat} {y : Str} {py : Pos} {ifs : List Expr} {scope : Scope} {own : List (Str × Nat)} {spos : Pos} {it : M (List D)} {g : Tgt} {t : M Bool} {el : M D} (hc : X.calm = true) (hN : X.N.Nodup) (hy : X.N[j]? = some y) (hyl : X.env.scope.names.lookup y = some .local)
    (hsw : swapsWith (.ListComp elt [⟨tg, iter, ifs, 0⟩] scope pos) (some (.Name y py)) spos.line X.env = pure true) (hi : SI X W tg iter it) (ok : BlkOk X.N X.env.scope scope own)
    (hg : ∀ (s : Shared) (H : Hp) (C : Addr) (cl : List (Str × Addr)) (fp : List Addr), SGc (X.blk s H scope (compEnvC scope cl C X.env) fp) tg g) (ht : ∀ (s : Shared) (H : Hp) (C : Addr) (cl : List (Str × Addr)) (fp : List Addr), STs (X.blk s H scope (compEnvC scope cl C X.env) fp) W0 ifs t)
    (he : ∀ (s : Shared) (H : Hp) (C : Addr) (cl : List (Str × Addr)) (fp : List Addr), SE (X.blk s H scope (compEnvC scope cl C X.env) fp) W0 elt el) (hsl : g.slots.all (fun i => (own.map (·.2)).contains i) = true := by rfl) (hs : ∀ x, foldedSetIterable iter X.env x = pure x := by intro _; rfl) :
    SS X W (.Assign [.Name y py] (.ListComp elt [⟨tg, iter, ifs, 0⟩] scope pos) spos) (sset j (mcomp (own.map (·.2)) it g.asg t el)) :=
  PS.imp (ps_setLc (g := g.tr X.K) (tt := tT (kk X) W0 t) (te := tI (kk X) W0 (stl el)) hc hN hy hyl hsw hi ok hg ht (fun s H C cl fp => se_stl (he s H C cl fp)) hs) fun E σ H h => by
    obtain ⟨F, adr, s, ab, po⟩ := h
    refine t_comp (K := kk X) (W := W) (fun i hi => by have := List.all_eq_true.mp hsl i hi; simpa using this) ⟨F, adr, s, ab, PostG.imp (t_stl ab po) ?_⟩
    rintro x H1 ⟨F1, adr1, d1, s1, st1, ab1, rp1, po1⟩
    exact po1 _ F1 adr1 H1 (ab1.setVal rp1).1 (ab1.setVal rp1).2
end
end Bx
namespace Bx
open PySem L2 PySem.Spec PyProof.Rows
inductive RI where
  | ok (fs : List (Str × D)) (μ : List MO) | exc (x : Xc) (μ : List MO) | bad
abbrev DenI := Addr → Addr → List D → List MO → RI
def PostI (K : KK) (cn : Str) (F : Hp) (adr : List Addr) (H : Hp) (x : Addr) (dx : Addr) (r : RI) (Q : VK) (E : XK) : Prop := match r with
  | .ok fs μ' => ∀ F' adr' H' fv, Step F adr (fun a => a ∈ adr ∨ a = x) H F' adr' (fun a => a ∈ adr' ∨ a = x) H' → AbsH K F' adr' μ' H' → F' x = none → x ∉ adr' → H' x = some (.ins (He.ga K.K cn) dx fv) → RpF K F' adr' fs fv → Q .non H'
  | .exc y μ' => ∀ cls dd F' adr' H', Step F adr (fun a => a ∈ adr ∨ a = x) H F' adr' (fun a => a ∈ adr' ∨ a = x) H' → AbsH K F' adr' μ' H' → F' x = none → x ∉ adr' → RpX K F' adr' y cls dd H' → E cls dd H'
  | .bad => False
def spI (K : KK) (cn : Str) (n : Nat) (den : DenI) : Sp := fun vs H Q E => ∃ F adr μ ds x dx r, vs = .ref x :: r ∧ H x = some (.ins (He.ga K.K cn) dx []) ∧ F x = none ∧ x ∉ adr ∧ AbsH K F adr μ H ∧ RpL K F adr ds r ∧ vs.length = n ∧ PostI K cn F adr H x dx (den x dx ds μ) Q E
section
variable {X : Cx} {W : WX} {K : KK} {F F' H H' : Hp} {adr adr' : List Addr} {s s' : S} {σ σ' : L2.St} {d : D} {v : V} {e a b c tg o iter elt : Expr} {es : List Expr} {m ma mb mc : M D} {ms : List (M D)} {pos apos : Pos} {E : Ends}
def makeD (cn : Str) (den : DenI) (ds : List D) : M D := fun s => match den 0 0 ds s.μ with
  | .ok fs μ' => .ok (.obj cn fs) { s with μ := μ' }
  | .exc x μ' => .exc x { s with μ := μ' }
  | .bad => .bad
/-- something new comes to stand still -/
theorem Abs.adopt {p : Addr} {o : HO} (ab : Abs K F adr s σ H) (h1 : F p = none) (h2 : ¬ Fp adr s σ p) (h3 : H p = some o) : Abs K (upd F p o) adr s σ H := by
  have ex := Ex.new (o := o) h1
  refine ⟨⟨fun x u r => ?_, ab.len, ab.nd, fun k x m' k1 k2 => ?_⟩, ab.lenr, fun j d' q => ?_, fun j m' q => ?_, ab.dis⟩
  · by_cases hx : x = p
    · subst hx
      rcases r with r | ⟨lk, o', r⟩
      · rw [upd_same] at r; exact .inl (by rw [← r]; exact h3)
      · rw [upd_same] at r; exact .inr ⟨lk, o', by rw [← r]; exact h3⟩
    · refine ab.sub x u ?_
      rcases r with r | ⟨lk, o', r⟩
      · exact .inl (by rw [upd_ne hx] at r; exact r)
      · exact .inr ⟨lk, o', by rw [upd_ne hx] at r; exact r⟩
  · obtain ⟨z1, u, z2, z3⟩ := ab.sto k x m' k1 k2
    have ne : x ≠ p := fun z => h2 (.inl (by rw [← z]; exact List.mem_of_getElem? k1))
    exact ⟨by rw [upd_ne ne]; exact z1, u, z2, z3.mono ex (List.prefix_refl _)⟩
  · obtain ⟨w, z1, z2⟩ := ab.slv j d' q
    exact ⟨w, z1, z2.mono ex (List.prefix_refl _)⟩
  · obtain ⟨l, u, z1, z2, z3, z4, z5⟩ := ab.slo j m' q
    have ne : l ≠ p := fun z => h2 (.inr ⟨j, m', q, by rw [← z]; exact z1⟩)
    exact ⟨l, u, z1, by rw [upd_ne ne]; exact z2, z3, z4, z5.mono ex (List.prefix_refl _)⟩
theorem Step.adopt {F1 : Hp} {adr1 : List Addr} {P P1 : Addr → Prop} {H1 : Hp} {p : Addr} {o : HO} (st : Step F adr P H F1 adr1 P1 H1) (h : H p = none) (h1 : F1 p = none) : Step F adr P H (upd F1 p o) adr1 P1 H1 :=
  ⟨st.ex.trans (Ex.new h1), st.pre, st.keep, st.foot, fun x z => by
    by_cases hx : x = p
    · exact .inr (.inl (by rw [hx]; exact h))
    · rw [upd_ne hx] at z; exact st.frz x z, st.there⟩
/-- the addresses do not matter -/
def Blind (den : DenI) : Prop := ∀ x dx ds μ, den x dx ds μ = den 0 0 ds μ
theorem make_post {cn : Str} {den : DenI} {ds : List D} {Q : VK} {x dx : Addr} (bl : Blind den) (ab : Abs K F adr s σ H) (hx : H x = none) (hdx : H dx = none) (ne : dx ≠ x) (po : Post K W F adr s σ H (makeD cn den ds s) Q) :
    PostI K cn F adr (upd (upd H dx (.own x)) x (.ins (He.ga K.K cn) dx [])) x dx (den x dx ds s.μ) (fun v H2 => v = .non ∧ Q (.ref x) H2) (fun cls dd H' => W cls dd σ H') := by
  have old : ∀ y u, H y = some u → (upd (upd H dx (.own x)) x (.ins (He.ga K.K cn) dx [])) y = some u := fun y u q => by rw [upd_ne (ne_of_none q hx), upd_ne (ne_of_none q hdx)]; exact q
  have oldn : ∀ y, (upd (upd H dx (.own x)) x (.ins (He.ga K.K cn) dx [])) y = none → H y = none := fun y q => by
    cases e : H y with
    | none => rfl
    | some u => rw [old y u e] at q; cases q
  have look : ∀ {F' : Hp} {adr' : List Addr} {H' : Hp} {μ' : List MO}, Step F adr (fun a => a ∈ adr ∨ a = x) (upd (upd H dx (.own x)) x (.ins (He.ga K.K cn) dx [])) F' adr' (fun a => a ∈ adr' ∨ a = x) H' → AbsH K F' adr' μ' H' → x ∉ adr' →
      Step F adr (Fp adr s σ) H F' adr' (Fp adr' { s with μ := μ' } σ) H' ∧ Abs K F' adr' { s with μ := μ' } σ H' := fun {F' adr' H' μ'} st ah nx => by
    refine Abs.after ab ⟨st.ex, st.pre, fun y u q n f => st.keep y u (old y u q) (fun z => ?_) f, fun y z => ?_, fun y z => ?_, fun y z => st.there y (fun w => z (oldn y w))⟩ ah
    · rcases z with z | z
      · exact n z
      · rw [z, hx] at q; cases q
    · rcases st.foot y (.inl z) with (w | w) | w
      · exact .inl w
      · exact absurd (by rw [← w]; exact z) nx
      · exact .inr (oldn y w)
    · rcases st.frz y z with w | w | (w | w)
      · exact .inl w
      · exact .inr (.inl (oldn y w))
      · exact .inr (.inr w)
      · exact .inr (.inl (by rw [w]; exact hx))
  unfold makeD at po
  rw [bl x dx ds s.μ]
  cases e : den 0 0 ds s.μ with
  | ok fs μ' =>
    rw [e] at po
    intro F' adr' H' fv st ah fx nx hv rf
    obtain ⟨z1, z2⟩ := look st ah nx
    have nfp : ¬ Fp adr' { s with μ := μ' } σ x := fun z => by
      rcases z with z | ⟨j, mo, y1, y2⟩
      · exact nx z
      · obtain ⟨l, u, g1, _, _, g4, _⟩ := ab.slo j mo y1
        rw [y2] at g1
        cases g1
        rw [hx] at g4
        cases g4
    exact ⟨rfl, po (.ref x) (upd F' x (.ins (He.ga K.K cn) dx fv)) adr' H' (z1.adopt hx fx) (z2.adopt fx nfp hv) ⟨x, dx, fv, rfl, upd_same, rf.mono (Ex.new fx) (List.prefix_refl _)⟩⟩
  | exc y μ' =>
    rw [e] at po
    intro cls dd F' adr' H' st ah fx nx rx
    obtain ⟨z1, z2⟩ := look st ah nx
    exact po cls dd F' adr' H' z1 z2 rx
  | bad => rw [e] at po; exact po
/-- C(e, ..) -/
def mkK (cn : Str) (den : DenI) (ix : List Nat) (dds : List D) (a k : M (List D)) : M D := bnd a fun ds => bnd k fun es => makeD cn den (pick .non ix (ds ++ es ++ dds))
/-- binding of __init__: self ahead -/
structure CallI (K : KK) (fd : FuncData) (ps : List Str) (n : Nat) (ks : List Str) (ix : List Nat) (dds : List D) : Prop where
  ex : ∃ (dfl : List Value) (dvs : List V), Vals dvs dfl ∧ (∀ F adr, RpL K F adr dds dvs) ∧
    ∀ (s : Shared) (x : Value) (us ws : List Value), K.K.In s.heap → us.length = n → ws.length = ks.length → BindsTo s fd ⟨x :: us, ks.zip ws⟩ (ps.zip (x :: pick .none ix (us ++ ws ++ dfl)))
theorem run_mk {k n : Nat} {f : Addr} {fd : FuncData} {ps ks : List Str} {ix : List Nat} {dds : List D} {den : DenI} {cn : Str} {pins : List (Addr × Obj)} {sh : Shared} {Q : VK} {us ws : List Value} {vs zs : List V} {ds es : List D}
    (bl : Blind den) (M : Mk X.K (He.ga X.K cn) f) (G : FnG X.prog X.w X.K X.mg X.base k f fd ps (spI (kk X) cn ps.length den)) (hr : Room (k + 1) X.A) (hgd : X.A.guards = some []) (hb : CallI (kk X) fd ps n ks ix dds) (hix : ix.length + 1 = ps.length) (tk : Takes X W)
    (I : Inv X pins σ H sh) (rv : Vals vs us) (rz : Vals zs ws) (l1 : ds.length = n) (l2 : es.length = ks.length)
    (ab : Abs (kk X) F adr s σ H) (r1 : RpL (kk X) F adr ds vs) (r2 : RpL (kk X) F adr es zs) (po : Post (kk X) W F adr s σ H (makeD cn den (pick .non ix (ds ++ es ++ dds)) s) Q) :
    wpAny (model X.prog X.w) X.A (call (.ref (He.ga X.K cn)) us (ks.zip ws)) (EP X pins σ Q) X.xe sh := by
  obtain ⟨dfl, dvs, hv, hd, hbt⟩ := hb.ex
  have rAll : Vals (vs ++ zs ++ dvs) (us ++ ws ++ dfl) := (rv.append rz).append hv
  have dAll : RpL (kk X) F adr (ds ++ es ++ dds) (vs ++ zs ++ dvs) := (r1.append r2).append (hd F adr)
  have nx : H (sh.heap.objs.size + 1) = none := I.hok.fresh (Nat.le_succ _)
  have ndx : H sh.heap.objs.size = none := I.hok.fresh (Nat.le_refl _)
  have ne : sh.heap.objs.size ≠ sh.heap.objs.size + 1 := Nat.ne_of_lt (Nat.lt_succ_self _)
  have I2 := Inv.made (C := He.ga X.K cn) I
  have hlen : (V.ref (sh.heap.objs.size + 1) :: pick V.non ix (vs ++ zs ++ dvs)).length = ps.length := by unfold pick; rw [List.length_cons, List.length_map, hix]
  -- the abstract heap behind the two new things
  obtain ⟨_, ab1, _⟩ := ab.allocM (o := .own (sh.heap.objs.size + 1)) (mo := .lst []) ndx
  obtain ⟨_, ab2, _⟩ := ab1.allocM (p := sh.heap.objs.size + 1) (o := .ins (He.ga X.K cn) sh.heap.objs.size []) (mo := .lst []) (by rw [upd_ne (Ne.symm ne)]; exact nx)
  have hg2 : (X.A.under (.builtin "type.__call__" ⟨.ref (He.ga X.K cn) :: us, ks.zip ws⟩)).guards = some [] := by
    rw [← hgd]
    first | rfl | simp [Around.under, Code.guards, pushGuards, hgd, Code.isGuard, guardIds]
  refine wpAny_call (make_map (f := f) I.kIn M.makes M.init (beq_iff_eq.mp M.fn) (codeAny_mono (G.run _ X.stack _ _ ⟨Value.ref (sh.heap.objs.size + 1) :: us, ks.zip ws⟩ (Value.ref (sh.heap.objs.size + 1) :: pick .none ix (us ++ ws ++ dfl)) (V.ref (sh.heap.objs.size + 1) :: pick .non ix (vs ++ zs ++ dvs)) _ (fun c dd H' => W c dd σ H')
    (hr.make _ us _) hg2 (I2.env0.make _ us _) (hbt _ _ us ws I2.kIn (by rw [← rv.length, r1.length, l1]) (by rw [← rz.length, r2.length, l2])) (.cons rfl (vals_pick ix rAll))
    ⟨F, adr, s.μ, _, sh.heap.objs.size + 1, sh.heap.objs.size, _, rfl, upd_same, ab.fnone nx, fun z => (ab.adrH z).1 nx, ab2.toAbsH, rpl_pick ix dAll, hlen, make_post bl ab nx ndx ne po⟩) fun r s' hq => ?_))
  cases r with
  | error er => exact tk er s' (XE.of_call I2 (fun _ _ _ h => h) hq)
  | ok fl =>
    cases fl with
    | ret u =>
      obtain ⟨v, H', I3, rv, ev, q3⟩ := I2.after hq
      subst ev
      exact ⟨rv, ⟨V.ref (sh.heap.objs.size + 1), H', I3, rfl, q3⟩⟩
    | next => exact hq.elim
    | brk => exact hq.elim
    | cont => exact hq.elim
section
variable {k : Nat} {f : Addr} {fd : FuncData} {ps ks : List Str} {ix : List Nat} {dds : List D} {den : DenI} {cn : Str} {p : Pos} {kws : List Keyword} {mk : List (M D)}
theorem se_make (bl : Blind den) (M : Mk X.K (He.ga X.K cn) f) (G : FnG X.prog X.w X.K X.mg X.base k f fd ps (spI (kk X) cn ps.length den)) (hr : Room (k + 1) X.A) (hgd : X.A.guards = some []) (hg : Gl X cn) (hm : X.mg cn = some (.ref (He.ga X.K cn)))
    (hb : CallI (kk X) fd ps ms.length [] ix dds) (hix : ix.length + 1 = ps.length) (tk : Takes X W) (ha : SAL X W (e :: es) (mal ms)) (hdb : (cn == ("__debug__" : Str)) = false := by decide)
    (he : starEach (e :: es) X.env = (false, eval e X.env) :: starEach es X.env := by rfl) (hpl : (backTo pos (starEach es X.env)).any (·.1) = false := by rfl) :
    SE X W (.Call (.Name cn p) (e :: es) [] pos) (mkK cn den ix dds (mal ms) (mal [])) := by
  refine ⟨fun pins sh σ H Q I h => ?_⟩
  obtain ⟨F, adr, s, ab, po⟩ := h
  refine wpAny_Call_Name_kw (ld_glob I hg hm ?_ hdb)
  have hA := ha.run pos pins sh σ H _ I ⟨F, adr, s, ab, PostG.bindE po⟩
  refine PySem.W.callWith_K (h₀ := X.base) I.ok.mod.kin M.kp (thn hA fun us s1 ⟨vs, H1, I1, rv, F1, adr1, ds, s1', e1, st1, ab1, rp1, po1⟩ => ⟨I1.kIn, ?_⟩) he hpl
  exact run_mk (ws := []) (zs := []) (es := []) (n := ms.length) (ks := []) bl M G hr hgd hb hix tk I1 rv .nil (mal_len e1) rfl ab1 rp1 rfl po1
end
/-- the receiver is an object of the class, the method no field of it -/
def recv (cn mn : Str) (d : D) : M D := fun s => match objOf cn s d with
  | some fs => match lookD mn fs with
    | none => .ok d s
    | some _ => .bad
  | none => .bad
def methK (cn mn : Str) (den : Den) (ix : List Nat) (dds : List D) (o : M D) (a k : M (List D)) : M D := bnd o fun d => bnd (settle d) fun d => bnd (recv cn mn d) fun d => bnd a fun ds => bnd k fun es => callD den (d :: pick .non ix (ds ++ es ++ dds))
theorem recv_ok {γ δ : Type} {cn mn : Str} {rel' : Hp → List Addr → γ → δ → Prop} {k : D → M γ} {Q : δ → Hp → Prop} (ab : Abs K F adr s σ H) (r : Rp K F adr d v) (h : PostG K W rel' F adr s σ H ((recv cn mn d s).bind k) Q) :
    (∃ a dx vs, v = .ref a ∧ H a = some (.ins (He.ga K.K cn) dx vs) ∧ vs.lookup mn = none) ∧ PostG K W rel' F adr s σ H (k d s) Q := by
  unfold recv at h
  cases e1 : objOf cn s d with
  | none => simp only [e1] at h; exact h.elim
  | some fs =>
    simp only [e1] at h
    cases e2 : lookD mn fs with
    | some y => simp only [e2] at h; exact h.elim
    | none =>
      simp only [e2] at h
      obtain ⟨a, dx, vs, q1, q2, q3⟩ := ab.obj (.of r) e1
      exact ⟨⟨a, dx, vs, q1, q2, q3.lookN e2⟩, h⟩
theorem run_mt {k n : Nat} {f : Addr} {fd : FuncData} {ps ks : List Str} {ix : List Nat} {dds : List D} {den : Den} {pins : List (Addr × Obj)} {sh : Shared} {Q : VK} {u : Value} {us ws : List Value} {vs zs : List V} {ds es : List D}
    (G : FnG X.prog X.w X.K X.mg X.base k f fd ps (spD (kk X) ps.length den)) (hr : Room k X.A) (hgd : X.A.guards = some []) (hb : CallI (kk X) fd ps n ks ix dds) (hix : ix.length + 1 = ps.length) (tk : Takes X W)
    (I : Inv X pins σ H sh) (ru : RelV v u) (rv : Vals vs us) (rz : Vals zs ws) (l1 : ds.length = n) (l2 : es.length = ks.length)
    (ab : Abs (kk X) F adr s σ H) (r0 : Rp (kk X) F adr d v) (r1 : RpL (kk X) F adr ds vs) (r2 : RpL (kk X) F adr es zs) (po : Post (kk X) W F adr s σ H (callD den (d :: pick .non ix (ds ++ es ++ dds)) s) Q) :
    wpAny (model X.prog X.w) X.A (call (.ref f) (u :: us) (ks.zip ws)) (EP X pins σ Q) X.xe sh := by
  obtain ⟨dfl, dvs, hv, hd, hbt⟩ := hb.ex
  have rAll : Vals (vs ++ zs ++ dvs) (us ++ ws ++ dfl) := (rv.append rz).append hv
  have dAll : RpL (kk X) F adr (ds ++ es ++ dds) (vs ++ zs ++ dvs) := (r1.append r2).append (hd F adr)
  have hlen : (v :: pick V.non ix (vs ++ zs ++ dvs)).length = ps.length := by unfold pick; rw [List.length_cons, List.length_map, hix]
  refine wpAny_call (codeAny_mono (G.run X.A X.stack sh H ⟨u :: us, ks.zip ws⟩ (u :: pick .none ix (us ++ ws ++ dfl)) (v :: pick .non ix (vs ++ zs ++ dvs)) Q (fun c dd H' => W c dd σ H') hr hgd I.env0
    (hbt sh u us ws I.kIn (by rw [← rv.length, r1.length, l1]) (by rw [← rz.length, r2.length, l2])) (.cons ru (vals_pick ix rAll)) ⟨F, adr, s.μ, _, ab.toAbsH, .cons r0 (rpl_pick ix dAll), hlen, call_post ab po⟩) fun r s' hq => ?_)
  cases r with
  | error er => exact tk er s' (XE.of_call I (fun _ _ _ h => h) hq)
  | ok fl =>
    cases fl with
    | ret u => exact I.after hq
    | next => exact hq.elim
    | brk => exact hq.elim
    | cont => exact hq.elim
section
variable {k : Nat} {f : Addr} {fd : FuncData} {ps ks : List Str} {ix : List Nat} {dds : List D} {den : Den} {cn mn : Str} {p : Pos} {kws : List Keyword} {mk : List (M D)} {mo : M D}
/-- o.m() -/
theorem se_meth0 {pl : Sem Bool} (ho : SE X W o mo) (cl : Cls X.K (He.ga X.K cn)) (hm : Meth X.K (He.ga X.K cn) mn f) (G : FnG X.prog X.w X.K X.mg X.base k f fd ps (spD (kk X) ps.length den)) (hr : Room k X.A) (hgd : X.A.guards = some [])
    (hb : CallI (kk X) fd ps 0 [] ix dds) (hix : ix.length + 1 = ps.length) (tk : Takes X W)
    (ht : eval (.Call (.Attribute o mn apos) [] [] pos) X.env = (do
      let ov ← eval o X.env
      standAt apos.atName
      let (f, first) ← holding [ov] (getMethod ov mn pl)
      callWith pos f first (backTo pos (starEach [] X.env)) (backToKw pos (keywordEach [] X.env))) := by rfl) :
    SE X W (.Call (.Attribute o mn apos) [] [] pos) (methK cn mn den ix dds mo (mal []) (mal [])) := by
  refine ⟨fun pins sh σ H Q I h => ?_⟩
  obtain ⟨F, adr, s, ab, po⟩ := h
  refine PySem.W.methodCall_KW (pl := pl) (thn (ho.run pins sh σ H _ I ⟨F, adr, s, ab, PostG.bind po⟩) fun u s1 ⟨x, H1, I1, rx, F1, adr1, d1, s1', st1, ab1, rp1, po1⟩ => ?_) ht
  obtain ⟨F2, d2, s2, q1, q2, q3, q4⟩ := settle_bind ab1 rp1 po1
  obtain ⟨⟨a, dx, vs, z1, z2, z3⟩, po3⟩ := recv_ok q2 q3 q4
  subst z1
  obtain rfl : u = Value.ref a := rx
  refine getmeth_ok I1 z2 cl hm z3 ?_
  exact PySem.W.callWith_K0 (first := [.ref a]) I1.kIn hm.kp (run_mt (v := .ref a) (us := []) (vs := []) (ds := []) (ws := []) (zs := []) (es := []) (n := 0) (ks := []) G hr hgd hb hix tk I1 rfl .nil .nil rfl rfl q2 q3 rfl rfl po3)
/-- o.m(e, ..) -/
theorem se_meth {pl : Sem Bool} (ho : SE X W o mo) (cl : Cls X.K (He.ga X.K cn)) (hm : Meth X.K (He.ga X.K cn) mn f) (G : FnG X.prog X.w X.K X.mg X.base k f fd ps (spD (kk X) ps.length den)) (hr : Room k X.A) (hgd : X.A.guards = some [])
    (hb : CallI (kk X) fd ps ms.length [] ix dds) (hix : ix.length + 1 = ps.length) (tk : Takes X W) (ha : SAL X W (e :: es) (mal ms))
    (hst : starEach (e :: es) X.env = (false, eval e X.env) :: starEach es X.env := by rfl) (hpl : (backTo pos (starEach es X.env)).any (·.1) = false := by rfl)
    (ht : eval (.Call (.Attribute o mn apos) (e :: es) [] pos) X.env = (do
      let ov ← eval o X.env
      standAt apos.atName
      let (f, first) ← holding [ov] (getMethod ov mn pl)
      callWith pos f first (backTo pos (starEach (e :: es) X.env)) (backToKw pos (keywordEach [] X.env))) := by rfl) :
    SE X W (.Call (.Attribute o mn apos) (e :: es) [] pos) (methK cn mn den ix dds mo (mal ms) (mal [])) := by
  refine ⟨fun pins sh σ H Q I h => ?_⟩
  obtain ⟨F, adr, s, ab, po⟩ := h
  refine PySem.W.methodCall_KW (pl := pl) (thn (ho.run pins sh σ H _ I ⟨F, adr, s, ab, PostG.bind po⟩) fun u s1 ⟨x, H1, I1, rx, F1, adr1, d1, s1', st1, ab1, rp1, po1⟩ => ?_) ht
  obtain ⟨F2, d2, s2, q1, q2, q3, q4⟩ := settle_bind ab1 rp1 po1
  obtain ⟨⟨a, dx, vs, z1, z2, z3⟩, po3⟩ := recv_ok q2 q3 q4
  subst z1
  obtain rfl : u = Value.ref a := rx
  refine getmeth_ok I1 z2 cl hm z3 ?_
  have hA := ha.run pos pins s1 σ H1 _ I1 ⟨F2, adr1, s2, q2, PostG.bindE po3⟩
  refine PySem.W.callWith_K (first := [.ref a]) (h₀ := X.base) I.ok.mod.kin hm.kp (thn hA fun us s3 ⟨ws, H3, I3, rv, F3, adr3, ds, s3', e3, st3, ab3, rp3, po4⟩ => ⟨I3.kIn, ?_⟩) hst hpl
  exact run_mt (v := .ref a) (ws := []) (zs := []) (es := []) (n := ms.length) (ks := []) G hr hgd hb hix tk I3 rfl rv .nil (mal_len e3) rfl ab3 (q3.mono st3.ex st3.pre) rp3 rfl po4
end
def putD (f : Str) (x : D) : List (Str × D) → List (Str × D)
  | [] => [(f, x)]
  | (g, y) :: r => if g = f then (g, x) :: r else (g, y) :: putD f x r
theorem RpF.put {f : Str} {x : D} {v : V} (hv : Rp K F adr x v) : ∀ {ds : List (Str × D)} {fs : List (Str × V)}, RpF K F adr ds fs → RpF K F adr (putD f x ds) (putF f v fs)
  | [], _, h => by cases h; exact ⟨v, [], rfl, hv, rfl⟩
  | (g, y) :: ds, _, ⟨u, r, q, h1, h2⟩ => by
    subst q
    show RpF K F adr (if g = f then (g, x) :: ds else (g, y) :: putD f x ds) (if g = f then (g, v) :: r else (g, u) :: putF f v r)
    by_cases hg : g = f
    · rw [if_pos hg, if_pos hg]; exact ⟨v, r, rfl, hv, h2⟩
    · rw [if_neg hg, if_neg hg]; exact ⟨u, _, rfl, h1, RpF.put hv h2⟩
theorem RpF.length : ∀ {ds : List (Str × D)} {fs : List (Str × V)}, RpF K F adr ds fs → fs.length = ds.length
  | [], _, h => by cases h; rfl
  | (g, y) :: ds, _, ⟨u, r, q, h1, h2⟩ => by subst q; simp [RpF.length h2]
def setF (cn f : Str) (d x : D) : MS := fun s => match s.mo d with
  | some (.ins c fs) => if c = cn ∧ fs.length < 100 then .nx (s.mut d (.ins c (putD f x fs))) else .bad
  | some (.slf c y dx fs) => if c = cn ∧ fs.length < 100 then .nx (s.mut d (.slf c y dx (putD f x fs))) else .bad
  | _ => .bad
def sfld (cn f : Str) (o v : M D) : MS := fun s => (stl v s).toS fun x s => (o s).toS fun d s => setF cn f d x s
theorem ss_fld {cn f : Str} {mo mv : M D} {val : Expr} {pos' : Pos} (cl : Cls X.K (He.ga X.K cn)) (na : NoAttr X.K (He.ga X.K cn) f) (ho : SE X W o mo) (hv : SE X W val mv) (hs : swapsWith val (some (.Attribute o f pos')) pos.line X.env = pure false := by rfl) :
    SS X W (.Assign [.Attribute o f pos'] val pos) (sfld cn f mo mv) := PS.imp (ps_fld ho hv hs) fun E σ H t => by
  obtain ⟨F, adr, s, ab, po⟩ := t
  refine ⟨F, adr, s, ab, PostG.imp (t_stl ab po) ?_⟩
  rintro x H1 ⟨F1, adr1, d1, s1, st1, ab1, rp1, po1⟩
  refine ⟨F1, adr1, s1, ab1, (S_bind po1).imp ?_⟩
  rintro y H2 ⟨F2, adr2, d2, s2, st2, ab2, rp2, po2⟩
  have rp1' := rp1.mono st2.ex st2.pre
  unfold setF at po2
  cases e1 : s2.mo d2 with
  | none => rw [e1] at po2; exact po2.elim
  | some mo =>
    rw [e1] at po2
    obtain ⟨p, u, hp, z1, z2, z3⟩ := ab2.mut rp2 e1
    cases mo <;> try (exact po2.elim)
    case ins c0 fs =>
      by_cases hc : c0 = cn ∧ fs.length < 100
      · simp only [hc, and_self, if_true] at po2
        obtain ⟨hc1, hc2⟩ := hc
        subst hc1
        obtain ⟨dx, vs, rfl, zr⟩ := z2
        obtain ⟨y1, y2⟩ := z3 (.ins c0 (putD f d1 fs)) (.ins (He.ga X.K c0) dx (putF f x vs)) ⟨dx, _, rfl, zr.put rp1'⟩
        exact ⟨p, _, dx, vs, hp, z1, cl, na, by rw [zr.length]; omega, po2 σ F2 adr2 _ y1 y2⟩
      · simp only [hc, if_false] at po2
        exact po2.elim
    case slf c0 x0 dx fs =>
      by_cases hc : c0 = cn ∧ fs.length < 100
      · simp only [hc, and_self, if_true] at po2
        obtain ⟨hc1, hc2⟩ := hc
        subst hc1
        obtain ⟨hx0, vs, rfl, zr⟩ := z2
        obtain ⟨y1, y2⟩ := z3 (.slf c0 x0 dx (putD f d1 fs)) (.ins (He.ga X.K c0) dx (putF f x vs)) ⟨hx0, _, rfl, zr.put rp1'⟩
        exact ⟨p, _, dx, vs, hp, z1, cl, na, by rw [zr.length]; omega, po2 σ F2 adr2 _ y1 y2⟩
      · simp only [hc, if_false] at po2
        exact po2.elim
def sretS (m : M MO) : MS := fun s => (m s).toS fun mo s => .rt (.ref s.μ.length) { s with μ := s.μ ++ [mo] }
theorem ss_retS {mm : M MO} (he : SF X W e mm) : SS X W (.Return (some e) pos) (sretS mm) := PS.imp (ps_ret he) fun E σ H t => by
  obtain ⟨F, adr, s, ab, po⟩ := t
  refine ⟨F, adr, s, ab, (tN_S po).imp ?_⟩
  rintro x H1 ⟨F1, adr1, l, mo, s1, rfl, st1, ab1, hl, fr, po1⟩
  have nl : l ∉ adr1 := fun z => fr.na (.inl z)
  have pre : adr1 <+: adr1 ++ [l] := List.prefix_append _ _
  have ab2 : Abs (kk X) F1 (adr1 ++ [l]) { s1 with μ := s1.μ ++ [mo] } σ H1 := by
    refine ⟨⟨ab1.sub, by simp [ab1.len], by
      rw [List.nodup_append]
      exact ⟨ab1.nd, by simp, fun a ha b hb => by simp at hb; subst hb; exact fun z => nl (z ▸ ha)⟩, fun i a m' h1 h2 => ?_⟩, ab1.lenr, fun j d h => ?_, fun j m' h => ?_, ab1.dis⟩
    · by_cases hi : i < adr1.length
      · rw [List.getElem?_append_left hi] at h1
        have h2' : s1.μ[i]? = some m' := by
          have := h2
          rw [show (s1.μ ++ [mo])[i]? = s1.μ[i]? from List.getElem?_append_left (by rw [← ab1.len]; exact hi)] at this
          exact this
        obtain ⟨z1, u, z2, z3⟩ := ab1.sto i a m' h1 h2'
        exact ⟨z1, u, z2, z3.mono (.refl _) pre⟩
      · have e1 : i = adr1.length := by
          have := (List.getElem?_eq_some_iff.mp h1).1
          simp at this
          omega
        subst e1
        rw [List.getElem?_append_right (Nat.le_refl _)] at h1
        simp at h1
        subst h1
        have h2' : (s1.μ ++ [mo])[adr1.length]? = some m' := h2
        rw [ab1.len, List.getElem?_append_right (Nat.le_refl _)] at h2'
        simp at h2'
        subst h2'
        obtain ⟨u, z1, z2⟩ := fr.ob
        exact ⟨fr.fn, u, z1, z2.mono (.refl _) pre⟩
    · obtain ⟨v, z1, z2⟩ := ab1.slv j d h
      exact ⟨v, z1, z2.mono (.refl _) pre⟩
    · obtain ⟨l', u, z1, z2, z3, z4, z5⟩ := ab1.slo j m' h
      refine ⟨l', u, z1, z2, fun z => ?_, z4, z5.mono (.refl _) pre⟩
      rcases List.mem_append.mp z with z | z
      · exact z3 z
      · simp at z
        exact fr.na (.inr ⟨j, m', h, by rw [← z]; exact z1⟩)
  refine po1 σ (.ref l) F1 (adr1 ++ [l]) H1 ⟨st1.ex, st1.pre.trans pre, st1.keep, fun a z => ?_, st1.frz, st1.there⟩ ab2 ⟨l, by rw [← ab1.len, List.getElem?_append_right (Nat.le_refl _)]; simp, rfl⟩
  rcases z with z | z
  · rcases List.mem_append.mp z with z | z
    · exact st1.foot a (.inl z)
    · simp at z
      exact .inr (by rw [z]; exact hl)
  · exact st1.foot a (.inr z)
end
end Bx
namespace Bx
open PySem L2 PySem.Spec PyProof.Rows
def frame (n : Nat) (ds : List D) : List Sl := ds.map Sl.val ++ List.replicate (n - ds.length) Sl.no
def runB (n : Nat) (b : MS) : Den := fun ds μ => match b ⟨frame n ds, μ⟩ with
  | .nx s => .ok .non s.μ
  | .rt d s => .ok d s.μ
  | .exc x s => .exc x s.μ
  | _ => .bad
section
variable {K : KK} {F F' H H' : Hp} {adr adr' : List Addr}
theorem start_get {N : List Str} {vs : List V} {j : Nat} {v : V} (h : vs[j]? = some v) : (L2.start N vs)[j]? = some (some v) := by
  have hj : j < vs.length := (List.getElem?_eq_some_iff.mp h).1
  unfold L2.start
  rw [List.getElem?_append_left (by rw [List.length_map]; exact hj), List.getElem?_map, h]
  rfl
theorem frame_val {n j : Nat} {ds : List D} {d : D} (h : (frame n ds)[j]? = some (.val d)) : ds[j]? = some d := by
  unfold frame at h
  by_cases hj : j < ds.length
  · rw [List.getElem?_append_left (by rw [List.length_map]; exact hj), List.getElem?_map] at h
    cases e : ds[j]? with
    | none => rw [e] at h; cases h
    | some x => rw [e] at h; cases h; rfl
  · rw [List.getElem?_append_right (by rw [List.length_map]; omega), List.getElem?_replicate] at h
    split at h <;> cases h
theorem frame_own {n j : Nat} {ds : List D} {m : MO} : ¬ (frame n ds)[j]? = some (.own m) := fun h => by
  unfold frame at h
  by_cases hj : j < ds.length
  · rw [List.getElem?_append_left (by rw [List.length_map]; exact hj), List.getElem?_map] at h
    cases e : ds[j]? with
    | none => rw [e] at h; cases h
    | some x => rw [e] at h; cases h
  · rw [List.getElem?_append_right (by rw [List.length_map]; omega), List.getElem?_replicate] at h
    split at h <;> cases h
theorem Abs.begin {N : List Str} {vs : List V} {ds : List D} {μ : List MO} (ah : AbsH K F adr μ H) (r : RpL K F adr ds vs) : Abs K F adr ⟨frame N.length ds, μ⟩ (L2.start N vs) H := by
  refine ⟨ah, ?_, fun j d h => ?_, fun j m h => (frame_own h).elim, fun j j' m m' l h => (frame_own h).elim⟩
  · show (L2.start N vs).length = (frame N.length ds).length
    unfold L2.start frame
    rw [List.length_append, List.length_append, List.length_map, List.length_map, List.length_replicate, List.length_replicate, r.length]
  · obtain ⟨v, e1, e2⟩ := r.get (frame_val h)
    exact ⟨v, start_get e1, e2⟩
theorem Step.bare {n : Nat} {ds : List D} {μ : List MO} {σ σ' : L2.St} {s' : S} (st : Step F adr (Fp adr ⟨frame n ds, μ⟩ σ) H F' adr' (Fp adr' s' σ') H') : Step F adr (· ∈ adr) H F' adr' (· ∈ adr') H' := by
  have fp : ∀ a, Fp adr ⟨frame n ds, μ⟩ σ a → a ∈ adr := fun a h => by
    rcases h with h | ⟨j, m, h1, _⟩
    · exact h
    · exact (frame_own h1).elim
  exact ⟨st.ex, st.pre, fun a o h q f => st.keep a o h (fun z => q (fp a z)) f, fun a h => (st.foot a (.inl h)).imp (fp a) id, fun a h => (st.frz a h).imp id (Or.imp id (fp a)), st.there⟩
end
theorem fnG_body {P : Program} {w : World} {K : PySem.W.Frag} {mg : Str → Option Value} {base : Heap} {k : Nat} {f : Addr} {x qual : Str} {params : Arguments} {body : List Stmt} {scope : Scope} {dvs : List V} {kws : List (Str × V)} {fd : FuncData}
    {N ps : List Str} {b : MS} (D : FunD K x qual params body scope dvs kws f fd) (S : FnScope N ps scope)
    (hb : ∀ (cdv : Value) (A : Around) (outer : List Env) (s : Shared) (H : Hp) (E : XK), Room k (cxOf (L2.CX P w) P w K mg base N qual scope f cdv A outer s H E).A → (cxOf (L2.CX P w) P w K mg base N qual scope f cdv A outer s H E).A.guards = some [] →
      Takes (cxOf (L2.CX P w) P w K mg base N qual scope f cdv A outer s H E) (fun cls d _ H => E cls d H) →
      SB (cxOf (L2.CX P w) P w K mg base N qual scope f cdv A outer s H E) (fun cls d _ H => E cls d H) body b) :
    FnG P w K mg base (k + 1) f fd ps (spD ⟨K, P, w⟩ ps.length (runB N.length b)) := by
  refine fnG_of D S (fun vs H Q E ⟨_, _, _, _, _, _, h, _⟩ => h) fun cdv A outer s H vs Q E hr hgd ⟨F, adr, μ, ds, ah, rl, hl, po⟩ => ⟨_, hb cdv A outer s H E hr hgd (takes_of rfl rfl rfl rfl), F, adr, ⟨frame N.length ds, μ⟩, Abs.begin ah rl, ?_⟩
  unfold runB at po
  cases e : b ⟨frame N.length ds, μ⟩ with
  | nx s' => rw [e] at po; exact fun σ' F' adr' H' st ab => po .non F' adr' H' st.bare ab.toAbsH rfl
  | rt d s' => rw [e] at po; exact fun σ' v F' adr' H' st ab rp => po v F' adr' H' st.bare ab.toAbsH rp
  | exc x s' => rw [e] at po; exact fun cls dd σ' F' adr' H' st ab rp => po cls dd F' adr' H' st.bare ab.toAbsH rp
  | bk s' => rw [e] at po; exact po.elim
  | ct s' => rw [e] at po; exact po.elim
  | bad => rw [e] at po; exact po.elim
def frameI (cn : Str) (n : Nat) (x dx : Addr) (ds : List D) : List Sl := Sl.own (.slf cn x dx []) :: frame (n - 1) ds
def slfOf (cn : Str) (x dx : Addr) (s : Bx.S) : Option (List (Str × D)) := match (s.ρ[0]? : Option Sl) with
  | some (.own (.slf c y dy fs)) => if c = cn ∧ y = x ∧ dy = dx then some fs else none
  | _ => none
def runI (cn : Str) (n : Nat) (b : MS) : DenI := fun x dx ds μ => match b ⟨frameI cn n x dx ds, μ⟩ with
  | .nx s => match slfOf cn x dx s with
    | some fs => .ok fs s.μ
    | none => .bad
  | .exc y s => match slfOf cn x dx s with
    | some fs => .exc y s.μ
    | none => .bad
  | _ => .bad
section
variable {K : KK} {F F' H H' : Hp} {adr adr' : List Addr} {cn : Str} {n : Nat} {x dx : Addr}
theorem Abs.beginI {N : List Str} {vs : List V} {ds : List D} {μ : List MO} (ah : AbsH K F adr μ H) (r : RpL K F adr ds vs) (hx : H x = some (.ins (He.ga K.K cn) dx [])) (fx : F x = none) (nx : x ∉ adr) (hN : N ≠ []) :
    Abs K F adr ⟨frameI cn N.length x dx ds, μ⟩ (L2.start N (.ref x :: vs)) H := by
  have hn : 0 < N.length := List.length_pos_iff.mpr hN
  have one : ∀ (j : Nat) (m : MO), (frameI cn N.length x dx ds)[j]? = some (.own m) → j = 0 ∧ m = .slf cn x dx [] := fun j m h => by
    cases j with
    | zero => cases h; exact ⟨rfl, rfl⟩
    | succ j => exact (frame_own (by simpa [frameI] using h)).elim
  refine ⟨ah, ?_, fun j d h => ?_, fun j m h => ?_, fun j j' m m' l h1 h2 _ _ => by rw [(one j m h1).1, (one j' m' h2).1]⟩
  · show (L2.start N (.ref x :: vs)).length = (frameI cn N.length x dx ds).length
    unfold L2.start frameI frame
    simp only [List.length_append, List.length_map, List.length_replicate, List.length_cons, r.length]
    omega
  · cases j with
    | zero => cases h
    | succ j =>
      obtain ⟨v, e1, e2⟩ := r.get (frame_val (by simpa [frameI] using h))
      exact ⟨v, start_get (by simpa using e1), e2⟩
  · obtain ⟨rfl, rfl⟩ := one j m h
    exact ⟨x, _, start_get rfl, fx, nx, hx, rfl, [], rfl, rfl⟩
theorem Step.bareI {N : List Str} {vs : List V} {ds : List D} {μ : List MO} {σ' : L2.St} {s' : S} (st : Step F adr (Fp adr ⟨frameI cn n x dx ds, μ⟩ (L2.start N (.ref x :: vs))) H F' adr' (Fp adr' s' σ') H') (h0 : σ'[0]? = some (some (.ref x))) (hs : ∃ m, s'.ρ[0]? = some (.own m)) :
    Step F adr (fun a => a ∈ adr ∨ a = x) H F' adr' (fun a => a ∈ adr' ∨ a = x) H' := by
  have fp : ∀ a, Fp adr ⟨frameI cn n x dx ds, μ⟩ (L2.start N (.ref x :: vs)) a → a ∈ adr ∨ a = x := fun a h => by
    rcases h with h | ⟨j, m, h1, h2⟩
    · exact .inl h
    · cases j with
      | zero =>
        rw [start_get (v := .ref x) rfl] at h2
        cases h2
        exact .inr rfl
      | succ j => exact (frame_own (by simpa [frameI] using h1)).elim
  refine ⟨st.ex, st.pre, fun a o h q f => st.keep a o h (fun z => q (fp a z)) f, fun a h => ?_, fun a h => (st.frz a h).imp id (Or.imp id (fp a)), st.there⟩
  rcases h with h | h
  · exact (st.foot a (.inl h)).imp (fp a) id
  · exact .inl (.inr h)
theorem slf_at {s : S} {σ : L2.St} {fs : List (Str × D)} (ab : Abs K F adr s σ H) (h : slfOf cn x dx s = some fs) : σ[0]? = some (some (.ref x)) ∧ (∃ m, s.ρ[0]? = some (.own m)) ∧ F x = none ∧ x ∉ adr ∧ ∃ fv, H x = some (.ins (He.ga K.K cn) dx fv) ∧ RpF K F adr fs fv := by
  unfold slfOf at h
  split at h
  case h_1 c y dy fs' e =>
    split at h
    case isTrue hc =>
      cases h
      obtain ⟨rfl, rfl, rfl⟩ := hc
      obtain ⟨l, o, q1, q2, q3, q4, q5⟩ := ab.slo 0 _ e
      obtain ⟨rfl, fv, rfl, q6⟩ := q5
      exact ⟨q1, ⟨_, e⟩, q2, q3, fv, q4, q6⟩
    case isFalse => cases h
  case h_2 => cases h
end
theorem fnG_init {P : Program} {w : World} {K : PySem.W.Frag} {mg : Str → Option Value} {base : Heap} {k : Nat} {f : Addr} {x qual cn : Str} {params : Arguments} {body : List Stmt} {scope : Scope} {dvs : List V} {kws : List (Str × V)} {fd : FuncData}
    {N ps : List Str} {b : MS} (D : FunD K x qual params body scope dvs kws f fd) (S : FnScope N ps scope) (hN : N ≠ [])
    (hb : ∀ (cdv : Value) (A : Around) (outer : List Env) (s : Shared) (H : Hp) (E : XK), Room k (cxOf (L2.CX P w) P w K mg base N qual scope f cdv A outer s H E).A → (cxOf (L2.CX P w) P w K mg base N qual scope f cdv A outer s H E).A.guards = some [] →
      Takes (cxOf (L2.CX P w) P w K mg base N qual scope f cdv A outer s H E) (fun cls d _ H => E cls d H) →
      SB (cxOf (L2.CX P w) P w K mg base N qual scope f cdv A outer s H E) (fun cls d _ H => E cls d H) body b) :
    FnG P w K mg base (k + 1) f fd ps (spI ⟨K, P, w⟩ cn ps.length (runI cn N.length b)) := by
  refine fnG_of D S (fun vs H Q E h => h.elim fun _ h => h.elim fun _ h => h.elim fun _ h => h.elim fun _ h => h.elim fun _ h => h.elim fun _ h => h.elim fun _ h => h.2.2.2.2.2.2.1)
    fun cdv A outer s H vs Q E hr hgd ⟨F, adr, μ, ds, x, dx, r, hv, hx, fx, nx, ah, rl, hl, po⟩ => ⟨_, hb cdv A outer s H E hr hgd (takes_of rfl rfl rfl rfl), F, adr, ⟨frameI cn N.length x dx ds, μ⟩, by rw [hv]; exact Abs.beginI ah rl hx fx nx hN, ?_⟩
  subst hv
  unfold runI at po
  cases e : b ⟨frameI cn N.length x dx ds, μ⟩ with
  | nx s' =>
    rw [e] at po
    intro σ' F' adr' H' st ab
    cases e2 : slfOf cn x dx s' with
    | none => simp only [e2] at po; exact po.elim
    | some fs =>
      simp only [e2] at po
      obtain ⟨q1, q2, q3, q4, fv, q5, q6⟩ := slf_at ab e2
      exact po F' adr' H' fv (st.bareI q1 q2) ab.toAbsH q3 q4 q5 q6
  | rt d s' => rw [e] at po; exact po.elim
  | exc y s' =>
    rw [e] at po
    intro cls dd σ' F' adr' H' st ab rp
    cases e2 : slfOf cn x dx s' with
    | none => simp only [e2] at po; exact po.elim
    | some fs =>
      simp only [e2] at po
      obtain ⟨q1, q2, q3, q4, fv, q5, q6⟩ := slf_at ab e2
      exact po cls dd F' adr' H' (st.bareI q1 q2) ab.toAbsH q3 q4 rp
  | bk s' => rw [e] at po; exact po.elim
  | ct s' => rw [e] at po; exact po.elim
  | bad => rw [e] at po; exact po.elim
end Bx
namespace Bx
open PySem L2 PySem.Spec PyProof.Rows
section
variable {X : Cx} {W : WX} {K : KK} {F F' H H' : Hp} {adr adr' : List Addr} {s s' : S} {σ σ' : L2.St} {d : D} {v : V} {e a b c tg : Expr} {es : List Expr} {m ma mb mc : M D} {ms : List (M D)} {pos : Pos} {E : Ends}
theorem objOk_at {P : Program} {w : World} {h : Heap} {p : Addr} {o : HO} (x : ObjOk P w H h p o) : ∃ ob, h.get? p = some ob := by
  cases o
  case lst => let ⟨_, _, _, _, z⟩ := x; exact ⟨_, z⟩
  case tup => let ⟨_, _, _, ⟨_, z, _⟩⟩ := x; exact ⟨_, z⟩
  case dK => let ⟨_, _, _, _, _, _, _, z, _⟩ := x; exact ⟨_, z⟩
  case dT => let ⟨_, _, _, _, _, _, _, z, _⟩ := x; exact ⟨_, z⟩
  case set => let ⟨_, _, _, _, z, _⟩ := x; exact ⟨_, z⟩
  case ins => let ⟨_, _, _, z, _⟩ := x; exact ⟨_, z⟩
  case own => let ⟨_, z⟩ := x; exact ⟨_, z⟩
  case xd => let ⟨_, ⟨_, _, _, z, _⟩, _⟩ := x; exact ⟨_, z⟩
  case rng => let ⟨_, _, _, z⟩ := x; exact ⟨_, z⟩
  case frz => let ⟨z, _⟩ := x; exact ⟨_, z⟩
  case tbl => exact ⟨_, x⟩
  case met => exact ⟨_, x⟩
  case ext => let ⟨_, ⟨_, z⟩, _⟩ := x; exact ⟨_, z⟩
/-- a new list, laid by a rule of frames and news -/
theorem Inv.fresh_list {pins : List (Addr × Obj)} {sh : Shared} {T : Addr} {h' : Heap} {tk : Nat} {mp : Str → Option Value} {its : List Value} {xs : List V} (I : Inv X pins σ H sh) (hn : sh.heap.Ns X.env.locals mp)
    (F' : Fr X.base X.env.locals h' mp) (N' : News X.base X.env.locals h' ((T, PySem.W.listOf its.toArray 0) :: allNews X.base sh.heap X.env.locals)) (hT : ∀ p ∈ allNews X.base sh.heap X.env.locals, p.1 < T) (r : Vals xs its) (hz : xs.length ≤ sizeLine) :
    H T = none ∧ Inv X pins σ (upd H T (.lst xs)) { sh with heap := h', toks := tk } := by
  obtain ⟨g1, g2, g3⟩ := N' _ (List.mem_cons_self ..)
  have kept : ∀ b o, b ≠ X.env.locals → sh.heap.get? b = some o → h'.get? b = some o := fun b o hb q => by
    cases z : X.base.get? b with
    | some u =>
      have := I.bk b u z
      rw [q] at this
      cases this
      exact F'.keep b _ z
    | none => exact (N' (b, o) (List.mem_cons_of_mem _ (mem_allNews hb z q))).1
  have newT : sh.heap.get? T = none := by
    cases q : sh.heap.get? T with
    | none => rfl
    | some o => exact absurd (hT _ (mem_allNews g2 g3 q)) (Nat.lt_irrefl _)
  have hH : ∀ b u, H b = some u → ∃ o, sh.heap.get? b = some o := fun b u q => objOk_at (I.hok b u q)
  have HT : H T = none := by
    cases q : H T with
    | none => rfl
    | some u => obtain ⟨o, z⟩ := hH T u q; rw [newT] at z; cases z
  have tr : ∀ b u, H b = some u → b ≠ X.env.locals := fun b u q z => by rw [z, I.free] at q; cases q
  refine ⟨HT, I.step (g' := sh.gens) (d' := sh.drawn) (ch := []) (fun _ z => nomatch z) (fun b o hb _ _ q _ => kept b o hb q) (fun b o hb _ _ q _ => ⟨o.slots, kept b o hb q⟩) (fun b o _ q n => ?_) (fun b o _ q => ?_) (fun b ys q => ?_) (fun b o u q => ?_) (fun b ps q => ⟨#[], ?_⟩) (fun m' hm => ?_) (fun b u q => ?_) I.bare⟩
  · rw [upd_ne (fun z => by rw [z, newT] at q; cases q)]; exact n
  · by_cases hb : b = X.env.locals
    · obtain ⟨o', _, _, q', _⟩ := F'.ns
      exact ⟨o', by rw [hb]; exact q'⟩
    · exact ⟨o, kept b o hb q⟩
  · rw [upd_ne (ne_of_none q HT)]; exact q
  · rw [upd_ne (ne_of_none q HT)]; exact q
  · rw [upd_ne (ne_of_none q HT), q]; simp
  · rw [SlX.ns_only hm hn]; exact F'.ns
  · by_cases hb : b = T
    · subst hb
      rw [upd_same] at q
      cases q
      exact ⟨hz, its, 0, r, g1⟩
    · rw [upd_ne hb] at q
      refine (I.hok b u q).stay (fun c w' hc z => kept c w' ?_ z) (fun c z => by rw [upd_ne (ne_of_none z HT)]; exact z) fun c ys z => by rw [upd_ne (ne_of_none z HT)]; exact z
      rcases hc with z | z
      · rw [z]; exact tr b u q
      · exact tr c _ z
def gStar (K : PySem.W.Frag) (i n : Nat) (t : TGs) : TG := fun v σ H Q => ∃ a xs, v = .ref a ∧ (SqT K H a xs ∨ SqL K H a xs) ∧ i < n ∧ n ≤ xs.length + 1 ∧ xs.length ≤ 16384 ∧
  ∀ T, H T = none → t (xs.take i ++ [V.ref T] ++ (xs.drop i).drop (xs.length + 1 - n)) σ (upd H T (.lst ((xs.drop i).take (xs.length + 1 - n)))) Q
theorem pg_star {es' : List Expr} {k i n : Nat} {t : TGs} (hc : X.calm = true) (h : PGs X es' t) (hs : (assignEach es X.env).map (·.2) = (assignEach es' X.env).map (·.2) := by rfl)
    (hn : (assignEach es X.env).length = n := by rfl) (hst : (assignEach es X.env).findIdx? (·.1) = some i := by rfl) : PG X (.Tuple es k pos) (gStar X.K i n t) := by
  refine ⟨fun pins sh σ H v u Q I r hw => ?_⟩
  obtain ⟨a, xs, e1, hq, hi, hl, hz, hw⟩ := hw
  subst e1
  cases r
  obtain ⟨mp, F0⟩ := I.fr
  have fin : ∀ (its : List Value), Vals xs its → ∀ T h' tk, Fr X.base X.env.locals h' mp → News X.base X.env.locals h' ((T, PySem.W.listOf ((its.drop i).take (its.length + 1 - n)).toArray 0) :: allNews X.base sh.heap X.env.locals) → (∀ p ∈ allNews X.base sh.heap X.env.locals, p.1 < T) →
      wpAny (model X.prog X.w) X.A (assignInOrder ((assignEach es X.env).map (·.2)) (its.take i ++ [.ref T] ++ (its.drop i).drop (its.length + 1 - n))) (fun _ s' => ∃ σ' H', Inv X pins σ' H' s' ∧ Q σ' H') X.xe { sh with heap := h', toks := tk } := fun its rv T h' tk F' N' hT => by
    have le := rv.length
    obtain ⟨z1, z2⟩ := Inv.fresh_list (tk := tk) I F0.ns F' N' hT ((rv.drop i).take (its.length + 1 - n)) (by rw [List.length_take, List.length_drop, sizeLine_eq]; omega)
    rw [hs]
    rw [← le] at z2 ⊢
    exact h.run pins _ σ _ _ _ Q z2 (((rv.take i).append (.cons (show RelV (V.ref T) (Value.ref T) from rfl) .nil)).append ((rv.drop i).drop _)) (hw T z1)
  rcases hq with hq | hq
  · obtain ⟨its, rv, ht, _⟩ := I.tuple hq
    have le := rv.length
    exact PySem.W.kun_assignT F0 news_all ht (I.ok.hd hc) hn hst hi (by simp only [List.size_toArray]; omega) (by simp only [List.size_toArray]; omega) rfl rfl rfl fun T h' tk F' N' hT => by simpa using fin its rv T h' tk F' (by simpa using N') hT
  · obtain ⟨its, rv, pl, _⟩ := I.list hq
    have le := rv.length
    exact PySem.W.kun_assignL F0 news_all pl.isList (I.ok.hd hc) hn hst hi (by simp only [List.size_toArray]; omega) (by simp only [List.size_toArray]; omega) rfl rfl rfl fun T h' tk F' N' hT => by simpa using fin its rv T h' tk F' (by simpa using N') hT
def starOf (i : Nat) (js : List Nat) (ds : List D) : MS := fun s => if i < js.length ∧ js.length ≤ ds.length + 1 ∧ ds.length ≤ 16384 then .nx (s.puts js ((ds.take i ++ [D.lst ((ds.drop i).take (ds.length + 1 - js.length))] ++ (ds.drop i).drop (ds.length + 1 - js.length)).map .val)) else .bad
def gstar (i : Nat) (js : List Nat) : D → MS := fun d => match d with
  | .tup ds => starOf i js ds
  | .lst ds => starOf i js ds
  | _ => fun _ => .bad
theorem plain_gstar {i : Nat} {js : List Nat} : Plain (gstar i js) := fun d s => by
  have go : ∀ ds, (∃ s', starOf i js ds s = .nx s') ∨ starOf i js ds s = .bad := fun ds => by
    unfold starOf
    split
    · exact .inl ⟨_, rfl⟩
    · exact .inr rfl
  cases d <;> first | exact .inr rfl | exact go _
theorem sg_star {es' : List Expr} {k i : Nat} {js : List Nat} (hc : X.calm = true) (h : SGn X es' js) (hs : (assignEach es X.env).map (·.2) = (assignEach es' X.env).map (·.2) := by rfl) (hn : (assignEach es X.env).length = js.length := by rfl) (hst : (assignEach es X.env).findIdx? (·.1) = some i := by rfl) : SG X (.Tuple es k pos) (gstar i js) :=
  PG.imp (pg_star hc h hs hn hst) fun v σ H Q t => by
    obtain ⟨F, adr, s, d, ab, r, po⟩ := t
    have go : ∀ (a : Addr) (vs : List V) (ds : List D), v = .ref a → (SqT (kk X).K H a vs ∨ SqL (kk X).K H a vs) → RpL (kk X) F adr ds vs → PostA1 (kk X) F adr s σ H (starOf i js ds s) Q → gStar X.K i js.length (gN js) v σ H Q := fun a vs ds ev hq h2 po => by
      by_cases hg : i < js.length ∧ js.length ≤ ds.length + 1 ∧ ds.length ≤ 16384
      · unfold starOf at po
        rw [if_pos hg] at po
        obtain ⟨g1, g2, g3⟩ := hg
        have le := h2.length
        refine ⟨a, vs, ev, hq, g1, by omega, by omega, fun T hT => ⟨by simp only [List.length_append, List.length_take, List.length_drop, List.length_cons, List.length_nil]; omega, ?_⟩⟩
        obtain ⟨y1, y2⟩ := ab.alloc (o := .lst ((vs.drop i).take (vs.length + 1 - js.length))) hT
        have h3 := h2.mono y1.ex y1.pre
        have rl : RpL (kk X) (upd F T (.lst ((vs.drop i).take (vs.length + 1 - js.length)))) adr (ds.take i ++ [D.lst ((ds.drop i).take (ds.length + 1 - js.length))] ++ (ds.drop i).drop (ds.length + 1 - js.length)) (vs.take i ++ [V.ref T] ++ (vs.drop i).drop (vs.length + 1 - js.length)) := by
          rw [← le]
          exact ((h3.take i).append (.one (show Rp (kk X) _ adr (.lst _) (.ref T) from ⟨T, _, rfl, upd_same, (h3.drop i).take _⟩))).append ((h3.drop i).drop _)
        obtain ⟨z1, z2⟩ := Abs.setAll (js := js) y2 y1 (slsOk_vals rl)
        exact po _ _ adr _ z1 z2
      · unfold starOf at po
        rw [if_neg hg] at po
        exact po.elim
    cases d <;> try (exact po.elim)
    case tup ds => obtain ⟨a, vs, ev, h1, h2⟩ := r; exact go a vs ds ev (.inl (ex_t ab.sub h1.t)) h2 po
    case lst ds => obtain ⟨a, vs, ev, h1, h2⟩ := r; exact go a vs ds ev (.inr (SqL.of (ex_i ab.sub (fun z => z) h1))) h2 po
end
end Bx
namespace Bx
open PySem L2 PySem.Spec PyProof.Rows
theorem enum_new1 {v : Value} {o : Obj} {H : Heap → Prop} (B : Begins v o H) :
    Meets (Builtin.«enumerate.__new__» ⟨[.type "enumerate", v], []⟩) (fun _ R s => H s.heap ∧
      R (.ok (.ret (.ref (s.heap.push o).objs.size))) { s with heap := (s.heap.push o).push { cls := .type "enumerate", data := .fields #[.none, .bool false, .ref s.heap.objs.size, rawInt 0, .none, .none] } }) :=
  .of_wp fun prog w A R s hyp => by
    obtain ⟨hp, g, d, tk, os⟩ := s; obtain ⟨h1, hyp⟩ := hyp
    have hsub := sub_enumerate
    have go : ∀ {A' : Around} {E : Value → Shared → Prop} {Q : Value → Shared → Prop}, Q (.ref hp.objs.size) ⟨hp.push o, g, d, tk, os⟩ → wpAny (model prog w) A' (pyIter v) Q E ⟨hp, g, d, tk, os⟩ := fun q => B.iter prog w _ _ ⟨hp, g, d, tk, os⟩ _ h1 q
    wp_walk using go
    refine wpAny_stack_any fun st => wpAny_pure ?_
    split
    · rename_i c _ _ _ _ _
      cases (c == Value.type "enumerate") <;> (wp_walk using go; exact ⟨_, rfl, hyp⟩)
    · wp_walk using go
      exact ⟨_, rfl, hyp⟩
theorem call_enum1 {prog : Program} {w : World} {A : Around} {E : Value → Shared → Prop} {s : Shared} {v : Value} {o : Obj} {H : Heap → Prop} {Q : Value → Shared → Prop} (B : Begins v o H) (h1 : H s.heap)
    (h : ∀ h', IsEnum h' (s.heap.objs.size + 1) s.heap.objs.size 0 .none → h'.get? s.heap.objs.size = some o → (∀ b o, s.heap.get? b = some o → h'.get? b = some o) → Q (.ref (s.heap.objs.size + 1)) { s with heap := h' }) :
    wpAny (model prog w) A (call (.type "enumerate") [v]) Q E s := by
  refine callType_new F.called_enumerate (by decide) (F.typeCall_enumerate_1 _) (F.newCall_enumerate_1 _) (fun obj => F.args_object_init_2 obj _) F.entry_enumerate_new (enum_new1 B) ⟨h1, ?_⟩
  have hz : (s.heap.push o).objs.size = s.heap.objs.size + 1 := Heap.size_push ..
  show _ ∧ _
  rw [hz]
  have he := Heap.get?_push_size (s.heap.push o) (o := { cls := .type "enumerate", data := .fields #[.none, .bool false, .ref s.heap.objs.size, rawInt 0, .none, .none] }) rfl
  rw [hz] at he
  exact ⟨⟨_, he, rfl⟩, h _ he (Heap.get?_push_of_some _ (Heap.get?_push_size _ B.free)) fun b o x => Heap.get?_push_of_some _ (Heap.get?_push_of_some _ x)⟩
def Itet (K : PySem.W.Frag) (a : Addr) : It :=
  ⟨fun i H => ∃ (xs : List V) (x : V), SqT K H a xs ∧ xs[i]? = some x, fun i H v H' => ∃ T x, v = .ref T ∧ H T = none ∧ H' = upd H T (.tup [.int (i : Nat), x]) ∧ ∀ xs, SqT K H a xs → xs[i]? = some x, fun i H => ∃ xs : List V, SqT K H a xs ∧ i = xs.length⟩
theorem turn_enumT {P : Program} {w : World} {K : PySem.W.Frag} {elts : List Expr} {kk : Nat} {tpos : Pos} (a e it : Addr) :
    Turn P w K (.Tuple elts kk tpos) (Itet K a) [e, it] e (fun i h => (∃ old, IsEnum h e it ((i : Nat) : Int) old) ∧ h.IsTupleIter it a i ∧ e ≠ it) where
  mem := List.mem_cons_self ..
  obj := fun i h st b hb => by
    obtain ⟨⟨old, he⟩, ⟨o, ho, hc, hd⟩, _⟩ := st
    rcases List.mem_cons.mp hb with z | hb
    · cases z; exact ⟨_, he, fun v q => nomatch q⟩
    · exact ⟨o, by rw [List.mem_singleton.mp hb]; exact ho, fun v q => by rw [hd] at q; cases q⟩
  keep := fun i h h' st k => let ⟨⟨old, he⟩, hi, hne⟩ := st; ⟨⟨old, k e (List.mem_cons_self ..) _ he⟩, hi.at fun o q => k it (by simp) o q, hne⟩
  item := by
    intro X hP hw hK hc i pins s σ H E I hf st hg
    subst hP hw hK
    obtain ⟨⟨old, he⟩, hit, hne⟩ := st
    obtain ⟨xs, x, hq, hx⟩ := hg
    obtain ⟨its, rv, p, hz⟩ := I.tuple hq
    have pT : s.heap.IsTuple a its.toArray := p
    have le := rv.length
    have hi : i < xs.length := (List.getElem?_eq_some_iff.mp hx).1
    have nea : e ≠ a := fun z => by
      obtain ⟨o, q1, q2, _⟩ := pT
      have he' : s.heap.get? e = some _ := he
      rw [z, q1] at he'
      cases he'
      simp at q2
    have nit : a ≠ it := fun z => by
      obtain ⟨o, q1, q2, _⟩ := pT
      obtain ⟨o', q3, q4, _⟩ := hit
      rw [z, q3] at q1
      cases q1
      rw [q4] at q2
      simp at q2
    have hel : e < s.heap.objs.size := Heap.lt_size he
    have hil : it < s.heap.objs.size := by obtain ⟨_, q, _⟩ := hit; exact Heap.lt_size q
    refine wpAny_pyNext_enum_itemD (Draws.tuple (A := X.A.in1) (I.ok.hd hc) it a nit its.toArray) he ⟨hit, pT⟩ (by simp; omega) hne (by simp [hne, nea]) fun u h' tk hu ho hst' hT hsz hk => ?_
    have hu' : its[i]? = some u := by simpa using hu
    have ru : RelV x u := by
      obtain ⟨u', q1, q2⟩ := rv.get hx
      rw [hu'] at q1
      cases q1
      exact q2
    refine ⟨_, rfl, wpAny_letOwnedTupleGo_enum (s := { s with heap := h', toks := tk + 1 }) ho fun h'' he' sb => ?_⟩
    have hT2 := (sb.2 _ (Nat.ne_of_gt hel)).trans hT
    have new : ObjOk X.prog X.w (upd H s.heap.objs.size (.tup [.int (i : Nat), x])) h'' s.heap.objs.size (.tup [.int (i : Nat), x]) := ⟨by show 2 ≤ sizeLine; decide, [.int i tk, u], .cons ⟨_, rfl⟩ (.cons ru .nil), ⟨_, hT2, rfl, _, rfl⟩⟩
    have I1 : Inv X pins σ (upd H s.heap.objs.size (.tup [.int (i : Nat), x])) { s with heap := h'', toks := tk + 1 } :=
      I.turnedNew (ch := [e, it]) (fun b ob hb q => (sb.2 b (fun z => hb (by simp [z]))).trans (hk b ob (fun z => hb (by simp [z])) (fun z => hb (by simp [z])) q)) hf (Nat.le_refl _) new
    refine ⟨.ref s.heap.objs.size, _, I1, rfl, ⟨_, x, rfl, I.hok.fresh (Nat.le_refl _), rfl, fun ys hy => by rw [I.tuple_inj hy hq]; exact hx⟩, ⟨⟨u, by rw [Int.natCast_succ]; exact he'⟩, hst'.1.at fun o q => (sb.2 it (Ne.symm hne)).trans q, hne⟩, fun b hb => ?_⟩
    have hb' : b < s.heap.objs.size := by
      rcases List.mem_cons.mp hb with z | z
      · rw [z]; exact hel
      · rw [List.mem_singleton.mp z]; exact hil
    rw [upd_ne (Nat.ne_of_lt hb')]
    exact (hf b hb).1
  done := by
    intro X hP hw hK hc i pins s σ H E I hf st hg
    subst hP hw hK
    obtain ⟨⟨old, he⟩, hit, hne⟩ := st
    obtain ⟨xs, hq, hx⟩ := hg
    obtain ⟨its, rv, p, hz⟩ := I.tuple hq
    have pT : s.heap.IsTuple a its.toArray := p
    have le := rv.length
    have nit : a ≠ it := fun z => by
      obtain ⟨o, q1, q2, _⟩ := pT
      obtain ⟨o', q3, q4, _⟩ := hit
      rw [z, q3] at q1
      cases q1
      rw [q4] at q2
      simp at q2
    obtain ⟨f0, f1, f2, f3, f4, f5⟩ := hf it (by simp)
    refine wpAny_pyNext_enum_endD (Draws.tuple (A := X.A.in1) (I.ok.hd hc) it a nit its.toArray) he ⟨?_, pT⟩ fun h' eb => ⟨rfl, I.turned (t' := s.toks) (fun b o hb q => eb b o hb q) f0 f1 f3 f4 f5⟩
    have e1 : its.toArray.size = i := by simp; omega
    rw [e1]
    exact hit
  self := fun A i s Q E st h => let ⟨⟨_, he⟩, _⟩ := st; wpAny_pyIter_enum he h
section
variable {X : Cx} {W : WX} {K : KK} {F F' H H' : Hp} {adr adr' : List Addr} {s s' : S} {σ σ' : L2.St} {d : D} {v : V} {e a b c tg : Expr} {es : List Expr} {m ma mb mc : M D} {ms : List (M D)} {pos : Pos} {E : Ends}
def iEnumA (K : PySem.W.Frag) (ta : TA) : TI := fun σ H R => ta σ H fun vs H1 => (∃ a xs, vs = [.ref a] ∧ SqT K H1 a xs ∧ R (Itet K a) H1) ∨ ∃ a xs, vs = [.ref a] ∧ SqL K H1 a xs ∧ R (Ite K a) H1
theorem pi_enumA {ta : TA} {p tpos : Pos} {elts : List Expr} {kk : Nat} (hg : Gl X "enumerate") (hm : X.mg "enumerate" = none) (ha : PA X [e] ta) (hs : starEach [e] X.env = [(false, eval e X.env)] := by rfl) :
    PI X (.Tuple elts kk tpos) (.Call (.Name "enumerate" p) [e] [] pos) (iEnumA X.K ta) := by
  refine ⟨fun pins s σ H R I h => Call_ (ld_blt I hg hm boot_enumerate (PyProof.Rows.callWith_type1 (thn (ha.run pos pins s σ H _ I h) fun us s1 ⟨vs, H1, I1, r1, q1⟩ => ?_) hs rfl))⟩
  have fp : ∀ b ∈ [s1.heap.objs.size + 1, s1.heap.objs.size], FpOk X pins H1 b := fun b hb => by
    have hle : s1.heap.objs.size ≤ b := by
      rcases List.mem_cons.mp hb with z | z
      · omega
      · rw [List.mem_singleton.mp z]; exact Nat.le_refl _
    exact I1.fpOk hle (I1.hok.fresh hle)
  rcases q1 with ⟨a, xs, ex, hq, q⟩ | ⟨a, xs, ex, hq, q⟩
  · subst ex
    obtain rfl := r1.ref1
    obtain ⟨its, rv, p', hz⟩ := I1.tuple hq
    refine call_enum1 (begins_tuple a its.toArray) p' fun h' he hit hk => wpAny_pyIter_enum he ?_
    exact ⟨s1.heap.objs.size + 1, [s1.heap.objs.size + 1, s1.heap.objs.size], _, _, H1, rfl, I1.kept (t' := s1.toks) hk, turn_enumT a (s1.heap.objs.size + 1) s1.heap.objs.size, ⟨⟨.none, he⟩, ⟨_, hit, rfl, rfl⟩, Nat.succ_ne_self _⟩, fp, q⟩
  · subst ex
    obtain rfl := r1.ref1
    obtain ⟨its, rv, p', hz⟩ := I1.list hq
    refine call_enum1 (begins_list a its.toArray) p'.isList fun h' he hit hk => wpAny_pyIter_enum he ?_
    exact ⟨s1.heap.objs.size + 1, [s1.heap.objs.size + 1, s1.heap.objs.size], _, _, H1, rfl, I1.kept (t' := s1.toks) hk, turn_enum a (s1.heap.objs.size + 1) s1.heap.objs.size, ⟨⟨.none, he⟩, ⟨_, hit, rfl, rfl⟩, Nat.succ_ne_self _⟩, fp, q⟩
/-- numbered -/
def nums : Nat → List D → List D
  | _, [] => []
  | i, d :: ds => .twk [.int i, d] :: nums (i + 1) ds
theorem nums_len : ∀ {i : Nat} {ds : List D}, (nums i ds).length = ds.length
  | _, [] => rfl
  | i, d :: ds => by simp [nums, nums_len]
theorem nums_get : ∀ {ds : List D} {k i : Nat} {x : D}, (nums k ds)[i]? = some x → ∃ d, ds[i]? = some d ∧ x = .twk [.int ((k + i : Nat) : Int), d]
  | [], _, _, _, h => by simp [nums] at h
  | d :: ds, k, 0, x, h => by simp [nums] at h; exact ⟨d, rfl, by rw [← h]; rfl⟩
  | d :: ds, k, i + 1, x, h => by
    obtain ⟨y, q1, q2⟩ := nums_get (k := k + 1) (i := i) (by simpa [nums] using h)
    exact ⟨y, by simpa using q1, by rw [q2, show k + 1 + i = k + (i + 1) by omega]⟩
theorem rp_pair {T : Addr} {i : Int} {x : V} {F' : Hp} (hF : F' T = none) (r : Rp K F' adr d x) : Rp K (upd F' T (.tup [.int i, x])) adr (.twk [.int i, d]) (.ref T) :=
  ⟨T, [.int i, x], rfl, .inl (.inl upd_same), .cons (show V.int i = V.int i from rfl) (.one (r.mono (Ex.new hF) (List.prefix_refl _)))⟩
theorem walks_enT {a0 : Addr} {vs : List V} {ds : List D} (h1 : SqT K.K F a0 vs) (h2 : RpL K F adr ds vs) : Walks K F adr (Itet K.K a0) (nums 0 ds) where
  go := fun F' adr' H' e p eh i d hi => by
    have hL := ex_t eh (ex_t e h1)
    obtain ⟨y, q1, rfl⟩ := nums_get hi
    obtain ⟨w, q2, q3⟩ := (h2.mono e p).get q1
    refine ⟨⟨vs, w, hL, q2⟩, fun x H'' ⟨T, x', z1, z2, z3, z4⟩ => .inr ⟨T, _, z2, z3, fun hF => ?_⟩⟩
    have := z4 vs hL
    rw [q2] at this
    cases this
    subst z1
    rw [Nat.zero_add]
    exact rp_pair hF q3
  stop := fun F' adr' H' e p eh => ⟨vs, ex_t eh (ex_t e h1), by rw [h2.length, nums_len]⟩
theorem walks_enL {a0 : Addr} {vs : List V} {ds : List D} (h1 : F a0 = some (.lst vs)) (h2 : RpL K F adr ds vs) : Walks K F adr (Ite K.K a0) (nums 0 ds) where
  go := fun F' adr' H' e p eh i d hi => by
    have hL : SqL K.K H' a0 vs := SqL.of (ex_i eh (fun z => z) (ex_i e (fun z => z) h1))
    obtain ⟨y, q1, rfl⟩ := nums_get hi
    obtain ⟨w, q2, q3⟩ := (h2.mono e p).get q1
    refine ⟨⟨vs, w, hL, q2⟩, fun x H'' ⟨T, x', z1, z2, z3, z4⟩ => .inr ⟨T, _, z2, z3, fun hF => ?_⟩⟩
    have := z4 vs hL
    rw [q2] at this
    cases this
    subst z1
    rw [Nat.zero_add]
    exact rp_pair hF q3
  stop := fun F' adr' H' e p eh => ⟨vs, SqL.of (ex_i eh (fun z => z) (ex_i e (fun z => z) h1)), by rw [h2.length, nums_len]; exact Nat.le_refl _⟩
def enumD (d : D) : M (List D) := fun s => match d with
  | .lst xs => .ok (nums 0 xs) s
  | .tup xs => .ok (nums 0 xs) s
  | _ => .bad
def menum (m : M D) : M (List D) := bnd (mal [m]) fun ds => enumD (ds.headD .non)
theorem si_enum {p tpos : Pos} {elts : List Expr} {kk : Nat} (hg : Gl X "enumerate") (hm : X.mg "enumerate" = none) (ha : SAL X W [e] (mal [m])) (hs : starEach [e] X.env = [(false, eval e X.env)] := by rfl) :
    SI X W (.Tuple elts kk tpos) (.Call (.Name "enumerate" p) [e] [] pos) (menum m) := PI.imp (pi_enumA hg hm ha hs) fun σ H Q t => by
  obtain ⟨F, adr, s, ab, po⟩ := t
  refine ⟨F, adr, s, ab, (PostG.bindE po).imp ?_⟩
  rintro xs H1 ⟨F1, adr1, ds, s1, e1, st1, ab1, rp1, po1⟩
  have hl := mal_len e1
  match ds, hl with
  | [d], _ =>
    obtain ⟨v, r, rfl, r1, r2⟩ := rp1
    cases r2
    cases d with
    | lst ys =>
      obtain ⟨a, vs, rfl, h1, h2⟩ := r1
      exact .inr ⟨a, vs, rfl, SqL.of (ex_i ab1.sub (fun z => z) h1), po1 _ F1 adr1 H1 .refl ab1 (walks_enL h1 h2)⟩
    | tup ys =>
      obtain ⟨a, vs, rfl, h1, h2⟩ := r1
      exact .inl ⟨a, vs, rfl, ex_t ab1.sub h1.t, po1 _ F1 adr1 H1 .refl ab1 (walks_enT h1.t h2)⟩
    | _ => exact po1.elim
end
end Bx
namespace Bx
open PySem L2 PySem.Spec PyProof.Rows
def tyN : List String := ["NoneType", "bool", "int", "str", "tuple", "list", "dict"]
def tyD : D → Option String
  | .non => some "NoneType"
  | .bl _ => some "bool"
  | .int _ => some "int"
  | .str _ => some "str"
  | .tup _ => some "tuple"
  | .lst _ => some "list"
  | .dct _ => some "dict"
  | .scr _ => some "list"
  | _ => none
def isT (n T : String) : Bool := n == T || (n == "bool" && T == "int")
theorem isT_ok : ∀ n ∈ tyN, ∀ T ∈ tyN, T ≠ "NoneType" → kitB n T = some (isT n T) := by decide +kernel
structure IsC (K : PySem.W.Frag) (C : Str) : Prop where
  cl : Cls K (He.ga K C)
  ha : PySem.W.findIn K (.ref (He.ga K C)) "__class__" = some (some (.builtin "object.__class__"))
  hn : PySem.W.specialIn K (.builtin "object.__class__") "__get__" = some (some (.builtin "getset_descriptor.__get__"))
  htk : PySem.W.takesIn K (.builtin "object.__class__") = some true
  hm : PySem.W.mroIn K (He.ga K C) (.type "object") = some true
  ofB : ∀ n ∈ tyN, PySem.W.kitOne K (.type n) (.ref (He.ga K C)) = some false
  toB : ∀ n ∈ tyN, n ≠ "NoneType" → PySem.W.kitOne K (.ref (He.ga K C)) (.type n) = some false
def eqB (a b : Option Bool) : Bool := decide (a = b)
def isB (K : PySem.W.Frag) (C : Str) : Bool := He.eqO (PySem.W.findIn K (.ref (He.ga K C)) "__class__") (some (some (.builtin "object.__class__"))) && (He.eqO (PySem.W.specialIn K (.builtin "object.__class__") "__get__") (some (some (.builtin "getset_descriptor.__get__"))) &&
  (eqB (PySem.W.takesIn K (.builtin "object.__class__")) (some true) && (eqB (PySem.W.mroIn K (He.ga K C) (.type "object")) (some true) && ((tyN.all fun n => eqB (PySem.W.kitOne K (.type n) (.ref (He.ga K C))) (some false)) && (tyN.all fun n => n == "NoneType" || eqB (PySem.W.kitOne K (.ref (He.ga K C)) (.type n)) (some false))))))
theorem isB_ok {K : PySem.W.Frag} {C : Str} (cl : Cls K (He.ga K C)) (h : isB K C = true) : IsC K C := by
  unfold isB at h
  obtain ⟨h1, h⟩ := He.ba h
  obtain ⟨h2, h⟩ := He.ba h
  obtain ⟨h3, h⟩ := He.ba h
  obtain ⟨h4, h⟩ := He.ba h
  obtain ⟨h5, h6⟩ := He.ba h
  refine ⟨cl, He.eqO_ok h1, He.eqO_ok h2, of_decide_eq_true h3, of_decide_eq_true h4, fun n hn => of_decide_eq_true (List.all_eq_true.mp h5 n hn), fun n hn hne => ?_⟩
  have := List.all_eq_true.mp h6 n hn
  rcases Bool.or_eq_true _ _ ▸ this with z | z
  · exact absurd (beq_iff_eq.mp z) hne
  · exact of_decide_eq_true z
def isiD (cs : List Str) (d c : D) : M D := fun s => match c with
  | .ty T => if T ∈ tyN ∧ T ≠ "NoneType" then match rsl s d with
      | .obj cn _ => if cn ∈ cs then .ok (.bl false) s else .bad
      | x => match tyD x with
        | some n => .ok (.bl (isT n T)) s
        | none => .bad
    else .bad
  | .glo C => if C ∈ cs then match rsl s d with
      | .obj cn _ => if cn = C then .ok (.bl true) s else .bad
      | x => match tyD x with
        | some _ => .ok (.bl false) s
        | none => .bad
    else .bad
  | _ => .bad
section
variable {X : Cx} {W : WX} {K : KK} {F F' H H' : Hp} {adr adr' : List Addr} {s s' : S} {σ σ' : L2.St} {d : D} {v : V}
theorem tyD_mem {n : String} (h : tyD d = some n) : n ∈ tyN := by
  cases d <;> simp [tyD] at h <;> subst h <;> decide
theorem tyX_sq {a : Addr} {xs : List V} (h : SqT K.K H a xs) : TyX K.K H (.ref a) (.type "tuple") := by
  rcases h with (h | ⟨o, h⟩) | ⟨o, its, n, h1, h2, _⟩
  · exact .base (.tup h)
  · exact .fTuple h
  · exact .kTuple h1 h2
theorem tyX_sl {a : Addr} {xs : List V} (h : SqL K.K H a xs) : TyX K.K H (.ref a) (.type "list") := by
  rcases h with (h | ⟨o, h⟩) | ⟨o, its, n, h1, h2, _⟩
  · exact .base (.lst h)
  · exact .base (.frz h)
  · exact .kList h1 h2
theorem tyX_of {n : String} (e : Ex F H) (t : RpT K F adr H d v) (h : tyD d = some n) : TyX K.K H v (.type n) := by
  cases d <;> simp [tyD] at h <;> subst h
  case non => rw [show v = .non from t]; exact .base .non
  case bl b => rw [show v = .bl b from t]; exact .base (.bl b)
  case int b => rw [show v = .int b from t]; exact .base (.int b)
  case str b => rw [show v = .str b from t]; exact .base (.str b)
  case tup ds => obtain ⟨a, vs, rfl, h1, _⟩ := t; exact tyX_sq (ex_t e h1.t)
  case lst ds => obtain ⟨a, vs, rfl, h1, _⟩ := t; exact .base (.lst h1)
  case dct ds =>
    obtain ⟨a, vs, rfl, h1, _⟩ := t
    rcases h1 with h1 | ⟨_, o, h1⟩
    · exact .base (.dK h1)
    · exact .fDict h1
  case scr ns => obtain ⟨a, rfl, h1⟩ := t; exact tyX_sl (ex_l e h1)
theorem cr_isi {cs : List Str} (ok : ∀ C ∈ cs, IsC X.K C) : CallR X (.builtin "isinstance") (rCI (kk X) W (f2 (isiD cs))) := CallR.imp call_isi fun xs H Q h => by
  obtain ⟨x, y, rfl, F, adr, s, σ, d1, d2, ab, r1, r2, po⟩ := f2_of h
  have t := ab.t r1
  unfold isiD at po
  cases d2 <;> try (exact po.elim)
  case ty T =>
    have ey : y = .ty T := r2
    subst ey
    by_cases hT : T ∈ tyN ∧ T ≠ "NoneType"
    · simp only [hT, and_self, ne_eq, not_false_eq_true, if_true] at po
      obtain ⟨hT1, hT2⟩ := hT
      have tyGo : ∀ n, tyD (rsl s d1) = some n → Post (kk X) W F adr s σ H (.ok (.bl (isT n T)) s) Q → rIsi X.K [x, .ty T] H Q := fun n hn po => ⟨x, _, _, _, isT n T, rfl, .ty T, tyX_of (K := kk X) ab.sub t hn, kit_ty (isT_ok n (tyD_mem hn) T hT1 hT2), Post.at ab po rfl⟩
      generalize rsl s d1 = e1 at *
      cases e1
      case obj cn fs =>
        by_cases hc : cn ∈ cs
        · simp only [hc, if_true] at po
          obtain ⟨a, dx, vs, rfl, h1, h2⟩ := t
          have k := ok cn hc
          exact ⟨_, _, _, _, false, rfl, .ty T, .base (.ins (ex_i ab.sub (fun z => z) h1) k.cl k.ha k.hn k.htk k.hm), k.toB T hT1 hT2, Post.at ab po rfl⟩
        · simp only [hc, if_false] at po; exact po.elim
      all_goals first | exact tyGo _ rfl po | exact po.elim
    · simp only [hT, if_false] at po; exact po.elim
  case glo C =>
    have ey : y = .ref (He.ga X.K C) := r2
    subst ey
    by_cases hC : C ∈ cs
    · simp only [hC, if_true] at po
      have k := ok C hC
      have tyGo : ∀ n, tyD (rsl s d1) = some n → Post (kk X) W F adr s σ H (.ok (.bl false) s) Q → rIsi X.K [x, .ref (He.ga X.K C)] H Q := fun n hn po => ⟨x, _, _, _, false, rfl, .own _, tyX_of (K := kk X) ab.sub t hn, k.ofB n (tyD_mem hn), Post.at ab po rfl⟩
      generalize rsl s d1 = e1 at *
      cases e1
      case obj cn fs =>
        by_cases hc : cn = C
        · simp only [hc, if_true] at po
          subst hc
          obtain ⟨a, dx, vs, rfl, h1, h2⟩ := t
          refine ⟨_, _, _, _, true, rfl, .own _, .base (.ins (ex_i ab.sub (fun z => z) h1) k.cl k.ha k.hn k.htk k.hm), ?_, Post.at ab po rfl⟩
          unfold PySem.W.kitOne
          rw [if_pos (beq_iff_eq.mpr rfl)]
        · simp only [hc, if_false] at po; exact po.elim
      all_goals first | exact tyGo _ rfl po | exact po.elim
    · simp only [hC, if_false] at po; exact po.elim
end
end Bx
namespace Bx
open PySem L2 PySem.Spec PyProof.Rows
def leS (x y : Str) : Bool := !ltCps y.cps.toList x.cps.toList
def sortS (xs : List Str) : List Str := xs.mergeSort leS
theorem leS_iff {x y : Str} : leS x y = true ↔ x.cps.toList ≤ y.cps.toList := by
  unfold leS
  rw [PyProof.Rows.ltCps_eq, Bool.not_eq_true', decide_eq_false_iff_not, List.not_lt]
theorem leS_trans (x y z : Str) (h1 : leS x y = true) (h2 : leS y z = true) : leS x z = true := leS_iff.mpr (List.le_trans (leS_iff.mp h1) (leS_iff.mp h2))
theorem leS_total (x y : Str) : (leS x y || leS y x) = true := by
  rw [Bool.or_eq_true, leS_iff, leS_iff]
  exact List.le_total _ _
theorem leS_anti {x y : Str} (h1 : leS x y = true) (h2 : leS y x = true) : x = y := by
  have := List.le_antisymm (leS_iff.mp h1) (leS_iff.mp h2)
  obtain ⟨⟨a⟩⟩ := x
  obtain ⟨⟨b⟩⟩ := y
  simp at this
  rw [this]
theorem sortS_sorted (xs : List Str) : (sortS xs).Pairwise fun a b => leS a b = true := List.pairwise_mergeSort leS_trans leS_total xs
theorem sortS_perm (xs : List Str) : (sortS xs).Perm xs := List.mergeSort_perm xs leS
theorem rising_pw : ∀ {r : List Str} {p : Str}, PyProof.Rows.risingS p r = true → (p :: r).Pairwise fun a b => leS a b = true
  | [], p, _ => List.pairwise_cons.mpr ⟨fun _ h => (nomatch h), .nil⟩
  | x :: r, p, h => by
    have h' : (leS p x && PyProof.Rows.risingS x r) = true := h
    rw [Bool.and_eq_true] at h'
    have ih := rising_pw h'.2
    refine List.pairwise_cons.mpr ⟨fun y hy => ?_, ih⟩
    rcases List.mem_cons.mp hy with rfl | hy
    · exact h'.1
    · exact leS_trans _ _ _ h'.1 ((List.pairwise_cons.mp ih).1 y hy)
theorem sorted_pw {ys : List Str} (h : PyProof.Rows.sortedS ys = true) : ys.Pairwise fun a b => leS a b = true := by
  cases ys with
  | nil => exact .nil
  | cons x r => exact rising_pw h
theorem sortS_of {xs ys : List Str} (p : ys.Perm xs) (h : ys.Pairwise fun a b => leS a b = true) : ys = sortS xs := List.Perm.eq_of_pairwise (fun a b _ _ h1 h2 => leS_anti h1 h2) h (sortS_sorted xs) (p.trans (sortS_perm xs).symm)
theorem sortS_congr {xs ys : List Str} (p : xs.Perm ys) : sortS xs = sortS ys := sortS_of ((sortS_perm xs).trans p) (sortS_sorted xs)
def strsD : List D → Option (List Str)
  | [] => some []
  | .str x :: r => (strsD r).map (x :: ·)
  | _ => none
theorem strsD_map (xs : List Str) : strsD (xs.map D.str) = some xs := by
  induction xs with
  | nil => rfl
  | cons x r ih => simp [strsD, ih]
theorem strsD_eq : ∀ {ds : List D} {xs : List Str}, strsD ds = some xs → ds = xs.map D.str
  | [], _, h => by cases h; rfl
  | d :: ds, xs, h => by
    cases d <;> try (simp [strsD] at h)
    case str x =>
      obtain ⟨ys, h1, rfl⟩ := h
      rw [strsD_eq h1]
      rfl
theorem rpl_strs {K : KK} {F : Hp} {adr : List Addr} : ∀ {xs : List Str} {vs : List V}, RpL K F adr (xs.map D.str) vs → vs = xs.map V.str
  | [], _, h => h
  | x :: r, _, ⟨v, t, q, h1, h2⟩ => by
    rw [q, show v = V.str x from h1, rpl_strs h2]
    rfl
theorem rpl_strs' {K : KK} {F : Hp} {adr : List Addr} : ∀ (xs : List Str), RpL K F adr (xs.map D.str) (xs.map V.str)
  | [] => .nil
  | x :: r => .cons (show V.str x = V.str x from rfl) (rpl_strs' r)
/-- sorted(texts) -/
def sortD (d : D) : M D := fun s => match rsl s d with
  | .lst ds => match strsD ds with
    | some xs => if xs.length ≤ 100000 then .ok (.lst ((sortS xs).map .str)) s else .bad
    | none => .bad
  | _ => .bad
section
variable {X : Cx} {W : WX} {K : KK} {F F' H H' : Hp} {adr adr' : List Addr} {s s' : S} {σ σ' : L2.St} {d : D} {v : V} {e a b c tg o : Expr} {es : List Expr} {m ma mb mc mo : M D} {ms : List (M D)} {pos apos : Pos} {E : Ends}
theorem cr_sortedSA : CallR X (.builtin "sorted") (fun vs H Q => ∃ (a : Addr) (xs : List Str), vs = [V.ref a] ∧ SqL X.K H a (xs.map V.str) ∧ ∀ (ys : List Str) (p : Addr), ys.Perm xs → PyProof.Rows.sortedS ys = true → H p = none → Q (.ref p) (upd H p (.lst (ys.map V.str)))) := by
  intro pins s σ H vs us Q I r h
  obtain ⟨a, xs, rfl, hs, q⟩ := h
  obtain ⟨its, rv, hl, hz⟩ := I.list hs
  rw [Vals.ref1 r]
  have hlen0 := rv.length
  rw [List.length_map] at hlen0 hz
  refine PyProof.Rows.sorted_strsAny hl.isList rv.strs (by rw [← hlen0]; exact hz) fun out ys h1 h2 h3 => ?_
  obtain ⟨ep, he'⟩ := PyProof.Rows.sortedAll_at s.heap its out
  have hlen : (ys.map V.str).length ≤ sizeLine := by rw [List.length_map, h2.length_eq]; exact hz
  exact ⟨.ref _, upd H (s.heap.objs.size + 1) (.lst (ys.map V.str)), I.laid (t' := s.toks) (fun _ _ => PyProof.Rows.sortedAll_old) (Nat.le_succ _) ⟨hlen, out.toList, ep, vals_of_strs h1, he'⟩, rfl, q ys _ h2 h3 (I.hok.fresh (Nat.le_succ _))⟩
theorem cr_sort : CallR X (.builtin "sorted") (rCI (kk X) W (f1 sortD)) := CallR.imp cr_sortedSA fun xs H Q h => by
  obtain ⟨x, rfl, F, adr, s, σ, d, ab, r, po⟩ := f1_of h
  have t := ab.t r
  unfold sortD at po
  generalize rsl s d = e1 at *
  cases e1 <;> try (exact po.elim)
  case lst ds =>
    obtain ⟨a, vs, rfl, h1, h2⟩ := t
    cases e2 : strsD ds with
    | none => simp only [e2] at po; exact po.elim
    | some xs =>
      simp only [e2] at po
      by_cases hl : xs.length ≤ 100000
      · simp only [hl, if_true] at po
        rw [strsD_eq e2] at h2
        have e3 := rpl_strs h2
        subst e3
        refine ⟨a, xs, rfl, SqL.of h1, fun ys p hp hs hn => ?_⟩
        rw [sortS_of hp (sorted_pw hs)]
        exact Post.new ab po hn ⟨p, _, rfl, upd_same, rpl_strs' _⟩
      · simp only [hl, if_false] at po; exact po.elim
/-- repr of a list, of a tuple -/
def reprD (d : D) : M D := fun s => match pd (rsl s d) with
  | some (.list ps) => if (PyData.list ps).showable = true ∧ (PyData.list ps).hasDict = false ∧ (PyData.list ps).shown.length ≤ 16000000 ∧ (PyData.list ps).depth ≤ 60 then .ok (.str (PyData.list ps).shown) s else .bad
  | some (.tuple ps) => if (PyData.tuple ps).showable = true ∧ (PyData.tuple ps).hasDict = false ∧ (PyData.tuple ps).shown.length ≤ 16000000 ∧ (PyData.tuple ps).depth ≤ 60 then .ok (.str (PyData.tuple ps).shown) s else .bad
  | _ => .bad
/-- divmod -/
def divD (a b : D) : M D := fun s => match rsl s a, rsl s b with
  | .int i, .int j => if 0 < j ∧ j < 1073741824 then .ok (.twk [.int (i / j), .int (i % j)]) s else .bad
  | _, _ => .bad
theorem cr_divmod : CallR X (.builtin "divmod") (rCI (kk X) W (f2 divD)) := CallR.imp call_divmod fun xs H Q h => by
  obtain ⟨x, y, rfl, F, adr, s, σ, d1, d2, ab, r1, r2, po⟩ := f2_of h
  have t1 := ab.t r1
  have t2 := ab.t r2
  unfold divD at po
  generalize rsl s d1 = e1 at *
  generalize rsl s d2 = e2 at *
  cases e1 <;> try (exact po.elim)
  case int i =>
    cases e2 <;> try (exact po.elim)
    case int j =>
      by_cases hj : 0 < j ∧ j < 1073741824
      · simp only [hj, and_self, if_true] at po
        rw [RpT.int t1, RpT.int t2]
        exact ⟨i, j, rfl, hj, fun p hp => Post.new ab po hp ⟨p, _, rfl, SqT.of upd_same, .cons (show V.int (i / j) = _ from rfl) (.one (show V.int (i % j) = _ from rfl))⟩⟩
      · simp only [hj, if_false] at po; exact po.elim
theorem rev_applied {prog : Program} {w : World} {A : Around} {E : Value → Shared → Prop} {sh : Shared} {sl : Addr} {vl vu vs : Value} {n : Nat} {Q : Int × Int × Nat → Shared → Prop} (hs : sh.heap.IsSliceOf sl vl vu vs) (pl : IsPart vl none) (pu : IsPart vu none) (ps : IsPart vs (some (-1)))
    (h : Q ((n : Int) - 1, -1, n) sh) : wpAny (model prog w) A (Builtin.Slice.sliceApplied (.ref sl) (pure (n : Int))) Q E sh := by
  obtain ⟨os, hos, hcs, hds⟩ := id hs
  unfold Builtin.Slice.sliceApplied Builtin.Slice.sliceFields
  refine wpAny_bind (wpAny_bind (wpAny_field hos hds (x := vl) rfl (wpAny_bind (wpAny_field hos hds (x := vu) rfl (wpAny_bind (wpAny_field hos hds (x := vs) rfl (wpAny_pure (wpAny_bind (HT.slicePart_ ps ?_))))))))) 
  show wpAny _ _ (if ((-1 : Int) == 0) = true then _ else _) _ _ sh
  rw [if_neg (by decide)]
  refine wpAny_bind (HT.slicePart_ pl (wpAny_bind (HT.slicePart_ pu (wpAny_bind (wpAny_pure ?_)))))
  have e1 : Builtin.Slice.sliceAdjust none none (-1) (n : Int) = ((n : Int) - 1, -1) := by
    unfold Builtin.Slice.sliceAdjust
    simp
  show wpAny _ _ (match Builtin.Slice.sliceAdjust none none (-1) (n : Int) with | (lo, hi) => pure (lo, (-1 : Int), Builtin.Slice.slicePlaces lo hi (-1))) _ _ sh
  rw [e1]
  have e2 : Builtin.Slice.slicePlaces ((n : Int) - 1) (-1) (-1) = n := by
    unfold Builtin.Slice.slicePlaces
    simp
    omega
  show wpAny _ _ (pure ((n : Int) - 1, (-1 : Int), Builtin.Slice.slicePlaces ((n : Int) - 1) (-1) (-1))) _ _ sh
  rw [e2]
  exact wpAny_pure h
theorem rev_pick (xs : Array Value) : ((List.range xs.size).filterMap fun (k : Nat) => xs[((xs.size : Int) - 1 + (k : Int) * (-1)).toNat]?).toArray = xs.toList.reverse.toArray := by
  have go : ∀ n, n ≤ xs.size → ((List.range n).filterMap fun (k : Nat) => xs[((xs.size : Int) - 1 + (k : Int) * (-1)).toNat]?) = xs.toList.reverse.take n := by
    intro n
    induction n with
    | zero => intro _; simp
    | succ n ih =>
      intro hn
      rw [List.range_succ, List.filterMap_append, ih (by omega), List.take_add_one]
      congr 1
      have e1 : ((xs.size : Int) - 1 + (n : Int) * (-1)).toNat = xs.size - 1 - n := by omega
      rw [List.getElem?_reverse (by simp; omega)]
      simp only [List.filterMap_cons, List.filterMap_nil, e1, Array.length_toList, Array.getElem?_toList]
      rw [Array.getElem?_eq_getElem (by omega)]
      rfl
  rw [go xs.size (Nat.le_refl _), List.take_of_length_le (by simp)]
theorem getItem_rev {prog : Program} {w : World} {A : Around} {E : Value → Shared → Prop} {sh : Shared} {t sl : Addr} {items : Array Value} {vl vu vs : Value} {Q : Value → Shared → Prop} (ht : IsTup sh.heap t items) (hs : sh.heap.IsSliceOf sl vl vu vs) (pl : IsPart vl none) (pu : IsPart vu none) (ps : IsPart vs (some (-1)))
    (h : Q (.ref sh.heap.objs.size) { sh with heap := sh.heap.push { cls := .type "tuple", data := .seq items.toList.reverse.toArray } }) (hsz : items.size ≤ sizeLine) : wpAny (model prog w) A (getItem (.ref t) (.ref sl)) Q E sh := by
  have ok : sizeOk (.seq items.toList.reverse.toArray) := by
    show items.toList.reverse.toArray.size ≤ sizeLine
    simp
    exact hsz
  have hT : sh.TypeIs (.ref sl) "slice" := let ⟨os, hos, hcs, _⟩ := hs; ⟨os, hos, hcs⟩
  unfold getItem
  try with_reducible refine wpAny_holding ?_
  first | refine wpAny_bind (wpAny_pure ?_) | skip
  refine wpAny_bind (wpAny_sequenceKey ht.typeIs (by decide) (wpAny_bind (wpAny_callSpecial?_slot (name := Str.ofString "__getitem__") ht.typeIs PyProof.Rows.slot_tuple_getitem (wpAny_call_entry PyProof.Rows.slot_tuple_getitem ht.typeIs entry_tuple_getitem ?_ (args_tuple_getitem _ _)))))
  show wpAny _ _ (Builtin.Tuple.tupleItemsOf (.ref t) >>= _) _ _ sh
  refine wpAny_bind (tupleItemsOf_ ht (wpAny_bind (wpAny_typeOf hT ?_)))
  rw [if_pos (by decide)]
  refine wpAny_bind (rev_applied hs pl pu ps ?_)
  show wpAny _ _ (if (((items.size : Int) - 1) == 0 && (-1 : Int) == 1 && items.size == items.size) = true then _ else _) _ _ sh
  rw [if_neg (by simp), rev_pick]
  first
    | exact wpAny_bind (m := Builtin.Tuple.tupleExact _) (wpAny_newObj_type (wpAny_pure ⟨_, rfl, wpAny_pure h⟩) ok)
    | exact wpAny_bind (m := Builtin.Tuple.tupleExact _) (wpAny_newObj_type (wpAny_bind (wpAny_pure (wpAny_pure ⟨_, rfl, wpAny_pure h⟩))) ok)
    | exact wpAny_bind (wpAny_bind (m := Builtin.Tuple.tupleExact _) (wpAny_newObj_type (wpAny_pure (wpAny_pure ⟨_, rfl, wpAny_pure h⟩)) ok))
    | exact wpAny_bind (wpAny_bind (m := Builtin.Tuple.tupleExact _) (wpAny_newObj_type (wpAny_pure ⟨_, rfl, wpAny_pure h⟩) ok))
def tRevT (K : PySem.W.Frag) (te : TE) : TE := fun σ H Q => te σ H fun x H1 => ∃ a xs, x = .ref a ∧ SqT K H1 a xs ∧ ∀ p o, o.dict = none → H1 p = none → Q (.ref p) (upd H1 p (.frz o (.tup xs.reverse)))
theorem pe_revT {te : TE} {k : Nat} {p1 p2 p3 : Pos} (he : PE X e te) : PE X (.Subscript e (.Slice none none (some (.UnaryOp .USub (.Constant (.int 1) k p1) p2)) p3) pos) (tRevT X.K te) := by
  refine ⟨fun pins s σ H Q I h => Subscript_ (thn (he.run pins s σ H _ I h) fun v s1 ⟨x, H1, I1, r1, a, xs, ex, hx, q⟩ => ?_)⟩
  subst ex
  cases r1
  have hst : PO X (some (.UnaryOp .USub (.Constant (.int 1) k p1) p2)) (tPart (tUn (rU fun i => .int (-i)) (tC (.int 1)))) := po_some (pe_un un_neg pe_int)
  refine wpAny_Slice (thn (po_none.run pins s1 σ H1 (fun o H2 => o = none ∧ H2 = H1) I1 ⟨rfl, rfl⟩) fun vl s2 ⟨l, H2, I2, pl, el, e2⟩ => thn (po_none.run pins s2 σ H2 (fun o H3 => o = none ∧ H3 = H2) I2 ⟨rfl, rfl⟩) fun vu s3 ⟨u, H3, I3, pu, eu, e3⟩ => ?_)
  subst el e2 eu e3
  refine thn (hst.run pins s3 σ H3 (fun o H4 => o = some (-1) ∧ H4 = H3) I3 ⟨1, rfl, -1, rfl, rfl, rfl⟩) fun vs s4 ⟨o, H4, I4, ps, eo, e4⟩ => ?_
  subst eo e4
  have I5 : Inv X pins σ H4 { s4 with heap := s4.heap.push { cls := .type "slice", data := .fields #[vl, vu, vs] } } := I4.kept (t' := s4.toks) fun b ob q => Heap.get?_push_of_some _ q
  obtain ⟨its, r, ht, hz⟩ := I5.tuple hx
  have hlen := r.length
  show wpAny (model X.prog X.w) X.A (subscriptTail e (.Slice none none (some (.UnaryOp .USub (.Constant (.int 1) k p1) p2)) p3) (.ref a) (.ref s4.heap.objs.size)) _ X.xe _
  refine tail_any (ops := [.ref a, .ref s4.heap.objs.size]) ht.typeIs (PyProof.Rows.slot_tuple_getitem.lookup) ?_ (by with_unfolding_all rfl)
  refine getItem_rev ht (Heap.IsSliceOf.new _ vl vu vs) pl pu ps ?_ (by rw [List.size_toArray]; omega)
  exact ⟨.ref _, _, I5.laid (t' := s4.toks) (o := .frz _ (.tup xs.reverse)) (fun b ob q => Heap.get?_push_of_some _ q) (Nat.le_refl _) ⟨Heap.get?_push_size _ rfl, ⟨by rw [List.length_reverse]; exact hz, _, r.reverse, ⟨_, Heap.get?_push_size _ rfl, rfl, 0, rfl⟩⟩⟩, rfl, q _ _ rfl (I5.hok.fresh (Nat.le_refl _))⟩
def revD (d : D) : M D := fun s => match d with
  | .tup ds => .ok (.tup ds.reverse) s
  | _ => .bad
theorem se_rev {k : Nat} {p1 p2 p3 : Pos} (he : SE X W e m) : SE X W (.Subscript e (.Slice none none (some (.UnaryOp .USub (.Constant (.int 1) k p1) p2)) p3) pos) (bnd m revD) := PE.imp (pe_revT he) fun σ H Q t => by
  obtain ⟨F, adr, s, ab, po⟩ := t
  refine ⟨F, adr, s, ab, (PostG.bind po).imp ?_⟩
  rintro x H1 ⟨F1, adr1, d1, s1, st1, ab1, rp1, po1⟩
  cases d1 <;> try (exact po1.elim)
  case tup ds =>
    obtain ⟨a, vs, rfl, h1, h2⟩ := rp1
    exact ⟨a, vs, rfl, ex_t ab1.sub h1.t, fun p ob hd hp => Post.new ab1 po1 hp ⟨p, _, rfl, .of upd_same hd, (h2.mono (Ex.new (ab1.fnone hp)) (List.prefix_refl _)).reverse⟩⟩
/-- sep.join(texts) -/
def joinD (a b : D) : M D := fun s => match a, rsl s b with
  | .str z, .lst ds => match strsD ds with
    | some ys => if (ys.map (·.length)).sum + ys.length * z.length ≤ 16777216 then .ok (.str (Txt.join z ys)) s else .bad
    | none => .bad
  | .str z, .tup ds => match strsD ds with
    | some ys => if (ys.map (·.length)).sum + ys.length * z.length ≤ 16777216 then .ok (.str (Txt.join z ys)) s else .bad
    | none => .bad
  | _, _ => .bad
def isStr (d : D) : M D := fun s => match d with
  | .str z => .ok (.str z) s
  | _ => .bad
def mjoin (m n : M D) : M D := bnd (bnd m isStr) fun a => bnd n fun b => joinD a b
theorem se_join (ho : SE X W o mo) (he : SE X W e m) (hs : starEach [e] X.env = [(false, eval e X.env)] := by rfl) (hbase : attributeBase o "join" X.env (eval o X.env) = eval o X.env := by rfl) (hline : (apos.endLine == pos.line) = true := by rfl) :
    SE X W (.Call (.Attribute o "join" apos) [e] [] pos) (mjoin mo m) := PE.imp (pe_join ho he hs hbase hline) fun σ H Q t => by
  obtain ⟨F, adr, s, ab, po⟩ := t
  unfold mjoin bnd at po
  have po' : Post (kk X) W F adr s σ H ((mo s).bind fun a => fun s => (isStr a s).bind fun a => fun s => (m s).bind fun b => joinD a b) Q := by
    cases e1 : mo s with
    | ok d s1 => simp only [e1, R.bind] at po ⊢; exact po
    | exc x s1 => simp only [e1, R.bind] at po ⊢; exact po
    | bad => simp only [e1, R.bind] at po; exact po.elim
  refine ⟨F, adr, s, ab, (PostG.bind po').imp ?_⟩
  rintro x H1 ⟨F1, adr1, d1, s1, st1, ab1, rp1, po1⟩
  cases d1 <;> try (exact po1.elim)
  case str z =>
    have ex : x = .str z := rp1
    subst ex
    have po2 : Post (kk X) W F1 adr1 s1 σ H1 ((m s1).bind fun b => joinD (.str z) b) Q := po1
    refine ⟨⟨z, rfl⟩, F1, adr1, s1, ab1, (PostG.bind po2).imp ?_⟩
    rintro y H2 ⟨F2, adr2, d2, s2, st2, ab2, rp2, po3⟩
    have t := ab2.t rp2
    unfold joinD at po3
    generalize rsl s2 d2 = e1 at *
    have fin : ∀ (ds : List D) (a : Addr) (vs : List V), y = .ref a → (SqL X.K H2 a vs ∨ SqT X.K H2 a vs) → RpL (kk X) F2 adr2 ds vs → Post (kk X) W F2 adr2 s2 σ H2 (match strsD ds with
        | some ys => if (ys.map (·.length)).sum + ys.length * z.length ≤ 16777216 then .ok (.str (Txt.join z ys)) s2 else .bad
        | none => .bad) Q → ∃ a p, ∃ ys : List Str, V.str z = .str a ∧ [y] = [.ref p] ∧ (SqL X.K H2 p (ys.map V.str) ∨ SqT X.K H2 p (ys.map V.str)) ∧ (ys.map (·.length)).sum + ys.length * a.length ≤ 16777216 ∧ Q (.str (Txt.join a ys)) H2 := fun ds a vs ey hq h2 po => by
      cases e2 : strsD ds with
      | none => simp only [e2] at po; exact po.elim
      | some ys =>
        simp only [e2] at po
        by_cases hz : (ys.map (·.length)).sum + ys.length * z.length ≤ 16777216
        · simp only [hz, if_true] at po
          rw [strsD_eq e2] at h2
          have e3 := rpl_strs h2
          subst e3
          exact ⟨z, a, ys, rfl, by rw [ey], hq, hz, Post.at ab2 po rfl⟩
        · simp only [hz, if_false] at po; exact po.elim
    cases e1 <;> try (exact po3.elim)
    case lst ds => obtain ⟨a, vs, ey, h1, h2⟩ := t; exact fin ds a vs ey (.inl (SqL.of h1)) h2 po3
    case tup ds => obtain ⟨a, vs, ey, h1, h2⟩ := t; exact fin ds a vs ey (.inr (ex_t ab2.sub h1.t)) h2 po3
end
end Bx
namespace Bx
open PySem L2 PySem.Spec PyProof.Rows
section
variable {X : Cx} {W : WX} {K : KK} {F F' H H' : Hp} {adr adr' : List Addr} {s s' : S} {σ σ' : L2.St} {d : D} {v : V} {e a b c tg tg1 o iter iter1 elt : Expr} {es : List Expr} {m ma mb mc : M D} {ms : List (M D)} {pos apos : Pos} {E : Ends}
theorem comp_fin {vs : List Nat} {F1 F2 H1 H2 : Hp} {adr1 adr2 : List Addr} {s1 s2 : S} {acc : List D} {av : List V} {p : Addr} {Q : VK} (po : Post K W F1 adr1 s1 σ H1 (.ok (.lst acc) (wipeS vs s2)) Q)
    (st2 : Step F1 adr1 (Fp adr1 s1 σ) H1 F2 adr2 (Fp adr2 s2 (wipe σ vs)) H2) (ab2 : Abs K F2 adr2 s2 (wipe σ vs) H2) (f2 : F2 p = none) (n2 : ¬ Fp adr2 s2 (wipe σ vs) p) (h2 : H2 p = some (.lst av)) (r2 : RpL K F2 adr2 acc av) (hp : H1 p = none) : Q (.ref p) H2 := by
  obtain ⟨y1, y2⟩ := ab2.wiped (vs := vs) (σ2 := σ) (wipe_length σ vs).symm (fun j hj => (wipe_out' hj).symm)
  exact po (.ref p) (upd F2 p (.lst av)) adr2 H2 ((Step.less st2 y1).adopt hp f2) (y2.adopt f2 (fun z => n2 (y1 _ z)) h2) ⟨p, av, rfl, upd_same, r2.mono (Ex.new f2) (List.prefix_refl _)⟩
def cin (vs : List Nat) (asg : D → MS) (t : M Bool) (el : M D) : List D → List D → S → R (List D)
  | [], acc, s => .ok acc s
  | d :: r, acc, s => match asg d s with
    | .nx s1 => match t s1 with
      | .ok true s2 => match stl el s2 with
        | .ok y s3 => if acc.length < 100000 then cin vs asg t el r (acc ++ [y]) (wipeS vs s3) else .bad
        | _ => .bad
      | .ok false s2 => cin vs asg t el r acc (wipeS vs s2)
      | _ => .bad
    | _ => .bad
def cout (vs vs1 : List Nat) (asg : D → MS) (t : M Bool) (it1 : M (List D)) (asg1 : D → MS) (t1 : M Bool) (el : M D) : List D → List D → S → R D
  | [], acc, s => .ok (.lst acc) (wipeS vs s)
  | d :: r, acc, s => match asg d s with
    | .nx s1 => match t s1 with
      | .ok true s2 => match it1 s2 with
        | .ok items s3 => match cin vs1 asg1 t1 el items acc (wipeS vs1 s3) with
          | .ok acc s4 => cout vs vs1 asg t it1 asg1 t1 el r acc (wipeS vs s4)
          | _ => .bad
        | _ => .bad
      | .ok false s2 => cout vs vs1 asg t it1 asg1 t1 el r acc (wipeS vs s2)
      | _ => .bad
    | _ => .bad
def mcomp2 (vs vs1 : List Nat) (it : M (List D)) (asg : D → MS) (t : M Bool) (it1 : M (List D)) (asg1 : D → MS) (t1 : M Bool) (el : M D) : M D := bnd it fun items s => cout vs vs1 asg t it1 asg1 t1 el items [] (wipeS vs s)
/-- what holds of the list under way -/
structure Way (K : KK) (F1 : Hp) (adr1 : List Addr) (s1 : S) (σ : L2.St) (H1 : Hp) (p : Addr) (F' : Hp) (adr' : List Addr) (s' : S) (σ' : L2.St) (H' : Hp) (acc : List D) (av : List V) : Prop where
  st : Step F1 adr1 (Fp adr1 s1 σ) H1 F' adr' (Fp adr' s' σ') H'
  ab : Abs K F' adr' s' σ' H'
  fp : F' p = none
  np : ¬ Fp adr' s' σ' p
  hp : H' p = some (.lst av)
  rp : RpL K F' adr' acc av
theorem Way.step {F1 F2 F3 H1 H2 H3 : Hp} {adr1 adr2 adr3 : List Addr} {s1 s2 s3 : S} {σ2 σ3 : L2.St} {p : Addr} {acc : List D} {av : List V} (w : Way K F1 adr1 s1 σ H1 p F2 adr2 s2 σ2 H2 acc av) (st : Step F2 adr2 (Fp adr2 s2 σ2) H2 F3 adr3 (Fp adr3 s3 σ3) H3) (ab : Abs K F3 adr3 s3 σ3 H3) :
    Way K F1 adr1 s1 σ H1 p F3 adr3 s3 σ3 H3 acc av := by
  obtain ⟨f, n, h⟩ := keep_fresh st w.fp w.np w.hp
  exact ⟨w.st.trans st, ab, f, n, h, w.rp.mono st.ex st.pre⟩
theorem Way.wipe {F1 F2 H1 H2 : Hp} {adr1 adr2 : List Addr} {s1 s2 : S} {σ2 σ3 : L2.St} {p : Addr} {acc : List D} {av : List V} {vs : List Nat} (w : Way K F1 adr1 s1 σ H1 p F2 adr2 s2 σ2 H2 acc av) (hl : σ3.length = σ2.length) (hσ : ∀ i : Nat, i ∉ vs → σ3[i]? = σ2[i]?) :
    Way K F1 adr1 s1 σ H1 p F2 adr2 (wipeS vs s2) σ3 H2 acc av := by
  obtain ⟨y1, y2⟩ := w.ab.wiped (vs := vs) (σ2 := σ3) hl hσ
  exact ⟨Step.less w.st y1, y2, w.fp, fun z => w.np (y1 _ z), w.hp, w.rp⟩
theorem Way.add {F1 F2 H1 H2 : Hp} {adr1 adr2 : List Addr} {s1 s2 : S} {σ2 : L2.St} {p : Addr} {acc : List D} {av : List V} (w : Way K F1 adr1 s1 σ H1 p F2 adr2 s2 σ2 H2 acc av) (hp : H1 p = none) (r : Rp K F2 adr2 d v) :
    Way K F1 adr1 s1 σ H1 p F2 adr2 s2 σ2 (upd H2 p (.lst (av ++ [v]))) (acc ++ [d]) (av ++ [v]) := ⟨w.st.wrNew hp, w.ab.wrFresh w.fp w.np, w.fp, w.np, upd_same, w.rp.append (.one r)⟩
theorem t_comp2 {vs vs1 : List Nat} {it it1 : M (List D)} {g g1 : Tgt} {t t1 : M Bool} {el : M D} {σ : L2.St} {H : Hp} {Q : VK} (hg : ∀ i ∈ g.slots, i ∈ vs) (hg1 : ∀ i ∈ g1.slots, i ∈ vs1) (hv : ∀ i ∈ vs1, i ∈ vs) (h : tI K W (mcomp2 vs vs1 it g.asg t it1 g1.asg t1 el) σ H Q) :
    tLc2 (tIt K W it) (g.tr K.K) (tT K W0 t) (tIt K W0 it1) (g1.tr K.K) (tT K W0 t1) (tI K W0 (stl el)) vs vs1 σ H Q := by
  obtain ⟨F, adr, s, ab, po⟩ := h
  refine ⟨F, adr, s, ab, (PostG.bind po).imp ?_⟩
  rintro J H1 ⟨F1, adr1, items, s1, st1, ab1, wk, po1⟩
  intro p hp
  have hFp := ab1.fnone hp
  have npp : ¬ Fp adr1 s1 σ p := fun z => (ab1.fpH z).1 hp
  refine ⟨fun i m' H' => m' = items.length - i ∧ i ≤ items.length ∧ ∃ F' adr' s' acc av, Way K F1 adr1 s1 σ H1 p F' adr' s' (wipe σ vs) H' acc av ∧ Post K W F1 adr1 s1 σ H1 (cout vs vs1 g.asg t it1 g1.asg t1 el (items.drop i) acc s') Q, ⟨items.length, by simp, Nat.zero_le _, ?_⟩, ?_⟩
  · obtain ⟨y1, y2⟩ := ab1.wiped (vs := vs) (σ2 := wipe σ vs) (wipe_length σ vs) (fun i hi => wipe_out' hi)
    have st0 : Step F1 adr1 (Fp adr1 s1 σ) H1 F1 adr1 (Fp adr1 (wipeS vs s1) (wipe σ vs)) H1 := Step.less .refl y1
    exact ⟨F1, adr1, wipeS vs s1, [], [], ⟨st0.wrNew hp, y2.wrFresh hFp (fun z => npp (y1 _ z)), hFp, fun z => npp (y1 _ z), upd_same, rfl⟩, by simpa using po1⟩
  · rintro i m' H2 ⟨rfl, hil, F2, adr2, s2, acc, av, w2, po2⟩
    by_cases hlt : i < items.length
    · obtain ⟨d, hd⟩ : ∃ d, items[i]? = some d := ⟨_, List.getElem?_eq_getElem hlt⟩
      have hdrop : items.drop i = d :: items.drop (i + 1) := by
        rw [List.drop_eq_getElem_cons hlt]
        rw [List.getElem?_eq_getElem hlt] at hd
        rw [Option.some.inj hd]
      rw [hdrop] at po2
      obtain ⟨g1', g2⟩ := walk_one wk ⟨w2.st.ex, w2.st.pre⟩ w2.ab hd
      refine .inr ⟨g1', fun H' => ∃ F' adr' s' acc av, Way K F1 adr1 s1 σ H1 p F' adr' s' (wipe σ vs) H' acc av ∧ Post K W F1 adr1 s1 σ H1 (cout vs vs1 g.asg t it1 g1.asg t1 el (items.drop (i + 1)) acc s') Q, fun H' z => ⟨items.length - (i + 1), by omega, rfl, hlt, z⟩, fun x H3 y => ?_⟩
      obtain ⟨F3, st3, ab3, rp3⟩ := g2 x H3 y
      have w3 := w2.step st3 ab3
      unfold cout at po2
      cases e1 : g.asg d s2 with
      | nx s3 =>
        simp only [e1] at po2
        refine Tgt.run ab3 rp3 e1 fun σ4 hl4 ho4 st4 ab4 => ?_
        have wz : wipe σ4 vs = wipe σ vs := wipe_ext (by rw [hl4, wipe_length]) (fun j hj => by rw [ho4 j (fun z => hj (hg j z)), wipe_out' hj])
        have w4 := w3.step st4 ab4
        have back : ∀ {σx : L2.St} {F5 : Hp} {adr5 : List Addr} {s5 : S} {H5 : Hp} {acc : List D} {av : List V}, σx.length = σ4.length → (∀ j : Nat, j ∉ vs → σx[j]? = σ4[j]?) → Way K F1 adr1 s1 σ H1 p F5 adr5 s5 σx H5 acc av → Way K F1 adr1 s1 σ H1 p F5 adr5 (wipeS vs s5) (wipe σ vs) H5 acc av := fun {σx _ _ _ _ _ _} hl ho w5 =>
          w5.wipe (by rw [wipe_length, hl, hl4, wipe_length]) (fun j hj => by rw [wipe_out' hj, ho j hj, ho4 j (fun z => hj (hg j z)), wipe_out' hj])
        refine ⟨wz, F3, adr2, s3, ab4, ?_⟩
        cases e2 : t s3 with
        | ok bb s5 =>
          simp only [e2] at po2
          intro b' F5 adr5 H5 st5 ab5 hb
          have hb' : b' = bb := hb
          subst hb'
          have w5 := w4.step st5 ab5
          cases b' with
          | false => exact ⟨F5, adr5, _, acc, av, back rfl (fun _ _ => rfl) w5, po2⟩
          | true =>
            refine ⟨F5, adr5, s5, ab5, ?_⟩
            simp only at po2
            cases e3 : it1 s5 with
            | ok items1 s6 =>
              simp only [e3] at po2
              intro J1 F6 adr6 H6 st6 ab6 wk1
              have w6 := w5.step st6 ab6
              refine ⟨fun j k H' => k = items1.length - j ∧ j ≤ items1.length ∧ ∃ F' adr' s' acc av, (Ex F6 F' ∧ adr6 <+: adr') ∧ Way K F1 adr1 s1 σ H1 p F' adr' s' (wipe σ4 vs1) H' acc av ∧
                Post K W F1 adr1 s1 σ H1 (match cin vs1 g1.asg t1 el (items1.drop j) acc s' with
                  | .ok acc s4 => cout vs vs1 g.asg t it1 g1.asg t1 el (items.drop (i + 1)) acc (wipeS vs s4)
                  | _ => .bad) Q, ⟨items1.length, by simp, Nat.zero_le _, F6, adr6, wipeS vs1 s6, acc, av, ⟨.refl _, List.prefix_refl _⟩, w6.wipe (wipe_length σ4 vs1) (fun i hi => wipe_out' hi), by rw [List.drop_zero]; exact po2⟩, ?_⟩
              rintro j k' H7 ⟨rfl, hjl, F7, adr7, s7, acc7, av7, ex7, w7, po7⟩
              by_cases hjt : j < items1.length
              · obtain ⟨d1, hd1⟩ : ∃ d, items1[j]? = some d := ⟨_, List.getElem?_eq_getElem hjt⟩
                have hdrop1 : items1.drop j = d1 :: items1.drop (j + 1) := by
                  rw [List.drop_eq_getElem_cons hjt]
                  rw [List.getElem?_eq_getElem hjt] at hd1
                  rw [Option.some.inj hd1]
                rw [hdrop1] at po7
                obtain ⟨k1, k2⟩ := walk_one wk1 ex7 w7.ab hd1
                refine .inr ⟨k1, fun H' => ∃ F' adr' s' acc av, (Ex F6 F' ∧ adr6 <+: adr') ∧ Way K F1 adr1 s1 σ H1 p F' adr' s' (wipe σ4 vs1) H' acc av ∧
                  Post K W F1 adr1 s1 σ H1 (match cin vs1 g1.asg t1 el (items1.drop (j + 1)) acc s' with
                    | .ok acc s4 => cout vs vs1 g.asg t it1 g1.asg t1 el (items.drop (i + 1)) acc (wipeS vs s4)
                    | _ => .bad) Q, fun H' z => ⟨items1.length - (j + 1), by omega, rfl, hjt, z⟩, fun x1 H8 y1 => ?_⟩
                obtain ⟨F8, st8, ab8, rp8⟩ := k2 x1 H8 y1
                have w8 := w7.step st8 ab8
                unfold cin at po7
                cases e4 : g1.asg d1 s7 with
                | nx s8 =>
                  simp only [e4] at po7
                  refine Tgt.run ab8 rp8 e4 fun σ9 hl9 ho9 st9 ab9 => ?_
                  have wz9 : wipe σ9 vs1 = wipe σ4 vs1 := wipe_ext (by rw [hl9, wipe_length]) (fun j hj => by rw [ho9 j (fun z => hj (hg1 j z)), wipe_out' hj])
                  have w9 := w8.step st9 ab9
                  have back1 : ∀ {F5 : Hp} {adr5 : List Addr} {s5 : S} {H5 : Hp} {acc : List D} {av : List V}, Way K F1 adr1 s1 σ H1 p F5 adr5 s5 σ9 H5 acc av → Way K F1 adr1 s1 σ H1 p F5 adr5 (wipeS vs1 s5) (wipe σ4 vs1) H5 acc av := fun w5 =>
                    w5.wipe (by rw [wipe_length, hl9, wipe_length]) (fun j hj => by rw [wipe_out' hj, ho9 j (fun z => hj (hg1 j z)), wipe_out' hj])
                  refine ⟨wz9, F8, adr7, s8, ab9, ?_⟩
                  have ex9 : Ex F6 F8 ∧ adr6 <+: adr7 := ⟨ex7.1.trans st8.ex, ex7.2⟩
                  cases e5 : t1 s8 with
                  | ok bb1 s10 =>
                    simp only [e5] at po7
                    intro b1 F10 adr10 H10 st10 ab10 hb1
                    have hb1' : b1 = bb1 := hb1
                    subst hb1'
                    have w10 := w9.step st10 ab10
                    have ex10 : Ex F6 F10 ∧ adr6 <+: adr10 := ⟨ex9.1.trans st10.ex, ex9.2.trans st10.pre⟩
                    cases b1 with
                    | false => exact ⟨F10, adr10, _, acc7, av7, ex10, back1 w10, po7⟩
                    | true =>
                      refine ⟨F10, adr10, s10, ab10, ?_⟩
                      simp only at po7
                      cases e6 : stl el s10 with
                      | ok yv s11 =>
                        simp only [e6] at po7
                        intro wv F11 adr11 H11 st11 ab11 rp11
                        have w11 := w10.step st11 ab11
                        have ex11 : Ex F6 F11 ∧ adr6 <+: adr11 := ⟨ex10.1.trans st11.ex, ex10.2.trans st11.pre⟩
                        by_cases hz : acc7.length < 100000
                        · simp only [hz, if_true] at po7
                          have rpy : Rp K F11 adr11 yv wv := by
                            cases yv with
                            | loc j => exact (stl_noloc e6).elim
                            | _ => exact rp11
                          exact ⟨av7, w11.hp, by rw [w7.rp.length]; exact Nat.lt_of_lt_of_le hz line5, F11, adr11, wipeS vs1 s11, acc7 ++ [yv], av7 ++ [wv], ex11, (back1 w11).add hp rpy, po7⟩
                        · simp only [hz, if_false] at po7
                          exact po7.elim
                      | exc x6 s6 => simp only [e6] at po7; exact po7.elim
                      | bad => simp only [e6] at po7; exact po7.elim
                  | exc x5 s5 => simp only [e5] at po7; exact po7.elim
                  | bad => simp only [e5] at po7; exact po7.elim
                | _ => simp only [e4] at po7; exact po7.elim
              · have e : j = items1.length := by omega
                subst e
                rw [List.drop_length] at po7
                refine .inl ⟨wk1.stop F7 adr7 H7 ex7.1 ex7.2 w7.ab.sub, ?_⟩
                exact ⟨F7, adr7, wipeS vs s7, acc7, av7, back (wipe_length σ4 vs1) (fun j hj => wipe_out' fun z => hj (hv j z)) w7, po7⟩
            | exc x6 s6 => simp only [e3] at po2; exact po2.elim
            | bad => simp only [e3] at po2; exact po2.elim
        | exc x5 s5 => simp only [e2] at po2; exact po2.elim
        | bad => simp only [e2] at po2; exact po2.elim
      | _ => simp only [e1] at po2; exact po2.elim
    · have e : i = items.length := by omega
      subst e
      rw [List.drop_length] at po2
      exact .inl ⟨wk.stop F2 adr2 H2 w2.st.ex w2.st.pre w2.ab.sub, comp_fin po2 w2.st w2.ab w2.fp w2.np w2.hp w2.rp hp⟩
theorem ss_comp2 {j : Nat} {y : Str} {py : Pos} {ifs ifs1 : List Expr} {scope : Scope} {own : List (Str × Nat)} {vs1 : List Nat} {spos : Pos} {it it1 : M (List D)} {g g1 : Tgt} {t t1 : M Bool} {el : M D} (hc : X.calm = true) (hN : X.N.Nodup) (hy : X.N[j]? = some y) (hyl : X.env.scope.names.lookup y = some .local)
    (hsw : swapsWith (.ListComp elt [⟨tg, iter, ifs, 0⟩, ⟨tg1, iter1, ifs1, 0⟩] scope pos) (some (.Name y py)) spos.line X.env = pure true) (hi : SI X W tg iter it) (ok : BlkOk X.N X.env.scope scope own)
    (hg : ∀ (s : Shared) (H : Hp) (C : Addr) (cl : List (Str × Addr)) (fp : List Addr), SGc (X.blk s H scope (compEnvC scope cl C X.env) fp) tg g) (ht : ∀ (s : Shared) (H : Hp) (C : Addr) (cl : List (Str × Addr)) (fp : List Addr), STs (X.blk s H scope (compEnvC scope cl C X.env) fp) W0 ifs t)
    (hi1 : ∀ (s : Shared) (H : Hp) (C : Addr) (cl : List (Str × Addr)) (fp : List Addr), SI (X.blk s H scope (compEnvC scope cl C X.env) fp) W0 tg1 iter1 it1)
    (hg1 : ∀ (s : Shared) (H : Hp) (C : Addr) (cl : List (Str × Addr)) (fp : List Addr), SGc (X.blk s H scope (compEnvC scope cl C X.env) fp) tg1 g1) (ht1 : ∀ (s : Shared) (H : Hp) (C : Addr) (cl : List (Str × Addr)) (fp : List Addr), STs (X.blk s H scope (compEnvC scope cl C X.env) fp) W0 ifs1 t1)
    (he : ∀ (s : Shared) (H : Hp) (C : Addr) (cl : List (Str × Addr)) (fp : List Addr), SE (X.blk s H scope (compEnvC scope cl C X.env) fp) W0 elt el) (hsl : g.slots.all (fun i => (own.map (·.2)).contains i) = true := by rfl) (hsl1 : g1.slots.all (fun i => vs1.contains i) = true := by rfl) (hv : vs1.all (fun i => (own.map (·.2)).contains i) = true := by rfl) (hs : ∀ x, foldedSetIterable iter X.env x = pure x := by intro _; rfl) (hs1 : ∀ env x, foldedSetIterable iter1 env x = pure x := by intro _ _; rfl) :
    SS X W (.Assign [.Name y py] (.ListComp elt [⟨tg, iter, ifs, 0⟩, ⟨tg1, iter1, ifs1, 0⟩] scope pos) spos) (sset j (mcomp2 (own.map (·.2)) vs1 it g.asg t it1 g1.asg t1 el)) :=
  PS.imp (ps_setLc2 (vs1 := vs1) (wi1 := tIt (kk X) W0 it1) (g := g.tr X.K) (tt := tT (kk X) W0 t) (g1 := g1.tr X.K) (tt1 := tT (kk X) W0 t1) (te := tI (kk X) W0 (stl el)) hc hN hy hyl hsw hi ok (fun i hi => by have := List.all_eq_true.mp hv i hi; simpa using this) hg ht hi1 hg1 ht1 (fun s H C cl fp => se_stl (he s H C cl fp)) hs hs1) fun E σ H h => by
    obtain ⟨F, adr, s, ab, po⟩ := h
    refine t_comp2 (K := kk X) (W := W) (fun i hi => by have := List.all_eq_true.mp hsl i hi; simpa using this) (fun i hi => by have := List.all_eq_true.mp hsl1 i hi; simpa using this) (fun i hi => by have := List.all_eq_true.mp hv i hi; simpa using this) ⟨F, adr, s, ab, PostG.imp (t_stl ab po) ?_⟩
    rintro x H1 ⟨F1, adr1, d1, s1, st1, ab1, rp1, po1⟩
    exact po1 _ F1 adr1 H1 (ab1.setVal rp1).1 (ab1.setVal rp1).2
end
end Bx
namespace Bx
open PySem L2 PySem.Spec PyProof.Rows
section
variable {X : Cx} {W : WX} {K : KK} {F F' H H' : Hp} {adr adr' : List Addr} {s s' : S} {σ σ' : L2.St} {d : D} {v : V} {e a b c tg o i : Expr} {es : List Expr} {m ma mb mc mo mi : M D} {ms : List (M D)} {pos apos : Pos} {E : Ends} {Q : L2.St → Hp → Prop}
theorem PostA1.from {r : RS} {F1 : Hp} {adr1 : List Addr} {s1 : S} {σ1 : L2.St} {H1 : Hp} (st : Step F adr (Fp adr s σ) H F1 adr1 (Fp adr1 s1 σ1) H1) (h : PostA1 K F adr s σ H r Q) : PostA1 K F1 adr1 s1 σ1 H1 r Q := by
  cases r with
  | nx s2 => exact fun σ2 F2 adr2 H2 st2 ab2 => h σ2 F2 adr2 H2 (st.trans st2) ab2
  | _ => exact h
theorem A1_bind {α β : Type} {rel : Hp → List Addr → α → β → Prop} {r : R α} {f : α → MS} (h : PostA1 K F adr s σ H (r.toS f) Q) :
    PostG K W0 rel F adr s σ H r fun v H1 => ∃ F1 adr1 d s1, Step F adr (Fp adr s σ) H F1 adr1 (Fp adr1 s1 σ) H1 ∧ Abs K F1 adr1 s1 σ H1 ∧ rel F1 adr1 d v ∧ PostA1 K F1 adr1 s1 σ H1 (f d s1) Q := by
  cases r with
  | ok d s1 => exact fun v F1 adr1 H1 st ab rp => ⟨F1, adr1, d, s1, st, ab, rp, PostA1.from st h⟩
  | exc x s1 => exact h.elim
  | bad => exact h
def gsub (o i : M D) : D → MS := fun x s => (o s).toS fun d s => (i s).toS fun k s => setD d k x s
theorem sg_sub (ho : SE X W0 o mo) (hi : SE X W0 i mi)
    (ha : ∀ v, assign (.Subscript o i pos) X.env v = (do
      let ov ← holding [v] (eval o X.env)
      let iv ← holding [v, ov] (eval i X.env)
      standAt pos
      holding [v, ov, iv] (setItem ov iv v)
      release [v, ov, iv] []) := by intro _; rfl) : SG X (.Subscript o i pos) (gsub mo mi) := PG.imp (pg_sub ho hi set_list ha) fun v σ H Q t => by
  obtain ⟨F, adr, s, d1, ab, rp1, po1⟩ := t
  refine ⟨F, adr, s, ab, (A1_bind po1).imp ?_⟩
  rintro y H2 ⟨F2, adr2, d2, s2, st2, ab2, rp2, po2⟩
  refine ⟨F2, adr2, s2, ab2, (A1_bind po2).imp ?_⟩
  rintro z H3 ⟨F3, adr3, d3, s3, st3, ab3, rp3, po3⟩
  have rp1' := rp1.mono (st2.trans st3).ex (st2.trans st3).pre
  have rp2' := rp2.mono st3.ex st3.pre
  unfold setD at po3
  cases e1 : s3.mo d2 with
  | none => rw [e1] at po3; exact po3.elim
  | some mo =>
    rw [e1] at po3
    obtain ⟨p, u, hp, z1, z2, z3⟩ := ab3.mut rp2' e1
    cases mo <;> try (exact po3.elim)
    case lst zs =>
      cases d3 <;> try (exact po3.elim)
      case int k =>
        obtain ⟨vs, rfl, zr⟩ := z2
        simp only at po3
        cases e2 : ixN zs.length k with
        | none => rw [e2] at po3; exact po3.elim
        | some j =>
          rw [e2] at po3
          obtain ⟨y1, y2⟩ := z3 (.lst (zs.set j d1)) (.lst (vs.set j v)) ⟨_, rfl, zr.set j rp1'⟩
          exact ⟨p, vs, k, j, hp, rp3, z1, by rw [zr.length]; exact e2, po3 σ F3 adr3 _ y1 y2⟩
def gseq : List (D → MS) → List D → MS
  | [], [] => skip
  | g :: gs, d :: ds => fun s => match g d s with
    | .nx s1 => gseq gs ds s1
    | _ => .bad
  | _, _ => fun _ => .bad
def gIs (K : KK) (gs : List (D → MS)) : TGs := fun vs σ H Q => ∃ F adr s ds, Abs K F adr s σ H ∧ RpL K F adr ds vs ∧ PostA1 K F adr s σ H (gseq gs ds s) Q
def SGs (X : Cx) (es : List Expr) (gs : List (D → MS)) : Prop := PGs X es (gIs (kk X) gs)
theorem sgs_nil : SGs X [] [] := PGs.imp pgs_nil fun vs σ H Q t => by
  obtain ⟨F, adr, s, ds, ab, rl, po⟩ := t
  cases ds with
  | nil => cases rl; exact ⟨rfl, po σ F adr H .refl ab⟩
  | cons d ds => exact po.elim
theorem sgs_cons {g : D → MS} {gs : List (D → MS)} (h1 : SG X e g) (h2 : SGs X es gs) (hs : (assignEach (e :: es) X.env).map (·.2) = assign e X.env :: (assignEach es X.env).map (·.2) := by rfl) : SGs X (e :: es) (g :: gs) :=
  PGs.imp (pgs_cons h1 h2 hs) fun vs σ H Q t => by
    obtain ⟨F, adr, s, ds, ab, rl, po⟩ := t
    cases ds with
    | nil => exact po.elim
    | cons d ds =>
      obtain ⟨v, r, rfl, r1, r2⟩ := rl
      refine ⟨v, r, rfl, F, adr, s, d, ab, r1, ?_⟩
      have po' : PostA1 (kk X) F adr s σ H (match g d s with | .nx s1 => gseq gs ds s1 | _ => .bad) Q := po
      cases e1 : g d s with
      | nx s1 =>
        rw [e1] at po'
        exact fun σ1 F1 adr1 H1 st1 ab1 => ⟨F1, adr1, s1, ds, ab1, r2.mono st1.ex st1.pre, PostA1.from st1 po'⟩
      | _ => rw [e1] at po'; exact po'.elim
def gtupG (gs : List (D → MS)) : D → MS := fun d => match unT d with
  | some ds => if ds.length = gs.length then gseq gs ds else fun _ => .bad
  | none => fun _ => .bad
theorem gseq_plain : ∀ (gs : List (D → MS)), ∀ (ds : List D) (s : S), (∃ s', gseq gs ds s = .nx s') ∨ gseq gs ds s = .bad
  | [], [], s => .inl ⟨s, rfl⟩
  | [], _ :: _, s => .inr rfl
  | _ :: _, [], s => .inr rfl
  | g :: gs, d :: ds, s => by
    show (∃ s', (match g d s with | .nx s1 => gseq gs ds s1 | _ => .bad) = .nx s') ∨ (match g d s with | .nx s1 => gseq gs ds s1 | _ => .bad) = .bad
    cases g d s with
    | nx s1 => exact gseq_plain gs ds s1
    | _ => exact .inr rfl
theorem plain_gtupG {gs : List (D → MS)} : Plain (gtupG gs) := fun d s => by
  unfold gtupG
  cases hd : unT d with
  | none => exact .inr rfl
  | some ds =>
    show (∃ s', (if ds.length = gs.length then gseq gs ds else fun _ => .bad) s = .nx s') ∨ (if ds.length = gs.length then gseq gs ds else fun _ => .bad) s = .bad
    by_cases hl : ds.length = gs.length
    · rw [if_pos hl]; exact gseq_plain gs ds s
    · rw [if_neg hl]; exact .inr rfl
theorem sg_tupG {k : Nat} {gs : List (D → MS)} (hc : X.calm = true) (h : SGs X es gs) (hn : (assignEach es X.env).length = gs.length := by rfl) (hst : (assignEach es X.env).findIdx? (·.1) = none := by rfl) : SG X (.Tuple es k pos) (gtupG gs) :=
  PG.imp (pg_tup hc h hn hst) fun v σ H Q t => by
    obtain ⟨F, adr, s, d, ab, r, po⟩ := t
    unfold gtupG at po
    cases hd : unT d with
    | none => rw [hd] at po; exact po.elim
    | some ds =>
      rw [hd] at po
      obtain ⟨a, vs, rfl, h1, h2⟩ := unT_ok hd r
      have po' : PostA1 (kk X) F adr s σ H ((if ds.length = gs.length then gseq gs ds else fun _ => .bad) s) Q := po
      by_cases hl : ds.length = gs.length
      · rw [if_pos hl] at po'
        exact ⟨a, vs, rfl, ex_t ab.sub h1, by rw [h2.length, hl], F, adr, s, ds, ab, h2, po'⟩
      · rw [if_neg hl] at po'
        exact po'.elim
end
end Bx
namespace Bx
open PySem L2 PySem.Spec PyProof.Rows
section
variable {X : Cx} {W : WX} {K : KK} {F F' H H' : Hp} {adr adr' : List Addr} {s s' : S} {σ σ' : L2.St} {d : D} {v : V} {e a b c tg o i : Expr} {es ts : List Expr} {m ma mb mc mo mi : M D} {ms : List (M D)} {pos apos : Pos} {E : Ends} {Q : L2.St → Hp → Prop}
/-- several at once, by a tuple -/
theorem ss_parC {js : List Nat} {xs : List MX} {kt k2 : Nat} {pt pt2 : Pos} (hc : X.calm = true) (ha : SX X W es xs) (hg : SGn X ts js) (hl : xs.length = js.length ∧ xs.length ≤ 100000 := by decide) (hs : swapsWithSole [.Tuple ts kt pt] (.Tuple es k2 pt2) pos.line X.env = pure false := by rfl)
    (hw : swappedStores [.Tuple ts kt pt] (.Tuple es k2 pt2) X.env = pure none := by rfl) (h1 : (assignEach [.Tuple ts kt pt] X.env).map (·.2) = [assign (.Tuple ts kt pt) X.env] := by rfl)
    (hn : (assignEach ts X.env).length = js.length := by rfl) (hst : (assignEach ts X.env).findIdx? (·.1) = none := by rfl) : SS X W (.Assign [.Tuple ts kt pt] (.Tuple es k2 pt2) pos) (spar js xs) :=
  PS.imp (ps_asg (pe_tup ha) (pg_tup hc hg hn hst) hs hw h1) fun E σ H t => by
    obtain ⟨F, adr, s, ab, po⟩ := t
    refine ⟨F, adr, s, ab, (spar_fin ab po).imp ?_⟩
    rintro vs H1 ⟨hl', _, h2⟩
    exact ⟨by rw [hl']; exact Nat.le_trans hl.2 line5, fun p hp => ⟨p, vs, rfl, SqT.of upd_same, by rw [hl', hl.1], by rw [hl', hl.1], h2 p _ hp⟩⟩
theorem takes0 : Takes X W0 := fun u s' ⟨_, _, _, _, _, _, _, _, _, _, _, _, _, _, _, _, z⟩ => z.elim
end
section
variable {K : KK} {x qual : Str} {params : Arguments} {body : List Stmt} {scope : Scope} {dvs : List V} {kws : List (Str × V)} {f : Addr} {fd : FuncData} {ps : List Str}
/-- no defaults -/
theorem callB_no (F : FunD K.K x qual params body scope [] kws f fd) (n : Nat) (ks : List Str) (ix : List Nat)
    (h : ∀ (kV doc pm : Value) (an : Option Addr) (cdv ct : Value) (us ws : List Value), us.length = n → ws.length = ks.length → bindArgs (PySem.W.fnOf x qual params body scope .none kV doc pm an cdv ct) ⟨us, ks.zip ws⟩ = pure (ps.zip (pick .none ix (us ++ ws)))) : CallB K fd ps n ks ix [] := by
  obtain ⟨oc, od, dV, kV, doc, pm, an, cdv, ct, osl, rfl, lk, hcd, hD, hK⟩ := F.ex
  rcases hD with ⟨_, rfl⟩ | ⟨e, _⟩
  · exact ⟨[], [], .nil, fun _ _ => rfl, fun s us ws _ h1 h2 => by rw [List.append_nil]; exact .of_eq (h kV doc pm an cdv ct us ws h1 h2)⟩
  · exact absurd rfl e
theorem callI_no (F : FunD K.K x qual params body scope [] kws f fd) (n : Nat) (ks : List Str) (ix : List Nat)
    (h : ∀ (kV doc pm : Value) (an : Option Addr) (cdv ct : Value) (z : Value) (us ws : List Value), us.length = n → ws.length = ks.length → bindArgs (PySem.W.fnOf x qual params body scope .none kV doc pm an cdv ct) ⟨z :: us, ks.zip ws⟩ = pure (ps.zip (z :: pick .none ix (us ++ ws)))) : CallI K fd ps n ks ix [] := by
  obtain ⟨oc, od, dV, kV, doc, pm, an, cdv, ct, osl, rfl, lk, hcd, hD, hK⟩ := F.ex
  rcases hD with ⟨_, rfl⟩ | ⟨e, _⟩
  · exact ⟨[], [], .nil, fun _ _ => rfl, fun s z us ws _ h1 h2 => by rw [List.append_nil]; exact .of_eq (h kV doc pm an cdv ct z us ws h1 h2)⟩
  · exact absurd rfl e
theorem callI_all (F : FunD K.K x qual params body scope dvs kws f fd) (hd : dvs ≠ []) (n : Nat) (ks : List Str) (ix : List Nat)
    (h : ∀ (T : Addr) (kV doc pm : Value) (an : Option Addr) (cdv ct : Value) (z : Value) (us ws its : List Value), us.length = n → ws.length = ks.length → its.length = dvs.length →
      ∃ k, bindArgs (PySem.W.fnOf x qual params body scope (.ref T) kV doc pm an cdv ct) ⟨z :: us, ks.zip ws⟩ = seqItems? (.ref T) >>= k ∧ k (some its.toArray) = pure (ps.zip (z :: pick .none ix (us ++ ws)))) : CallI K fd ps n ks ix [] := by
  obtain ⟨oc, od, dV, kV, doc, pm, an, cdv, ct, osl, rfl, lk, hcd, hD, hK⟩ := F.ex
  rcases hD with ⟨e, _⟩ | ⟨_, T, o, its, m, rfl, lT, oT, rT⟩
  · exact absurd e hd
  · refine ⟨[], [], .nil, fun _ _ => rfl, fun s z us ws X h1 h2 => BindsTo.of_looks fun M => ?_⟩
    obtain ⟨k, e1, e2⟩ := h T kV doc pm an cdv ct z us ws its h1 h2 rT.length.symm
    rw [e1, List.append_nil]
    exact looks_items X lT oT (.of_pure e2)
end
end Bx
namespace Bx
open PySem L2 PySem.Spec PyProof.Rows
open Classical in
noncomputable def blindOf (den : DenI) : DenI := fun _ _ ds μ => if ∀ x dx, den x dx ds μ = den 0 0 ds μ then den 0 0 ds μ else .bad
theorem blind_of {den : DenI} : Blind (blindOf den) := fun _ _ _ _ => rfl
theorem blindOf_ok {den : DenI} {ds : List D} {μ : List MO} {r : RI} {x dx : Addr} (h : ∀ x dx, den x dx ds μ = r) : blindOf den x dx ds μ = r := by
  unfold blindOf
  rw [if_pos fun x dx => (h x dx).trans (h 0 0).symm]
  exact h 0 0
theorem spI_blind {K : KK} {cn : Str} {n : Nat} {den : DenI} {vs : List V} {H : Hp} {Q : VK} {E : XK} (h : spI K cn n (blindOf den) vs H Q E) : spI K cn n den vs H Q E := by
  obtain ⟨F, adr, μ, ds, x, dx, r, h1, h2, h3, h4, h5, h6, h7, h8⟩ := h
  refine ⟨F, adr, μ, ds, x, dx, r, h1, h2, h3, h4, h5, h6, h7, ?_⟩
  unfold blindOf at h8
  by_cases hb : ∀ x dx, den x dx ds μ = den 0 0 ds μ
  · rw [if_pos hb] at h8
    rw [hb x dx]
    exact h8
  · rw [if_neg hb] at h8
    exact h8.elim
theorem FnG.blind {P : Program} {w : World} {K : PySem.W.Frag} {mg : Str → Option Value} {base : Heap} {k n : Nat} {f : Addr} {fd : FuncData} {ps : List Str} {K0 : KK} {cn : Str} {den : DenI} (G : FnG P w K mg base k f fd ps (spI K0 cn n den)) : FnG P w K mg base k f fd ps (spI K0 cn n (blindOf den)) :=
  ⟨fun vs H Q E h => G.len vs H Q E (spI_blind h), fun A outer s H args us vs Q E hr hg e0 hb rv h => G.run A outer s H args us vs Q E hr hg e0 hb rv (spI_blind h)⟩
theorem gl_of {X : Cx} {x : Str} (h : X.env.kindOf x = some .globalImplicit) : Gl X x := h
def kEq : Option NameKind → NameKind → Bool
  | some a, b => a == b
  | none, _ => false
def blkB (N : List Str) (sc scope : Scope) (own : List (Str × Nat)) : Bool := scope.kind == .function && ((scope.names.all fun y => kEq (scope.names.lookup y.1) y.2) && ((own.all fun p => N[p.2]? == some p.1) &&
  ((scope.names.all fun y => !(y.2 == .free) || (kEq (sc.names.lookup y.1) .cell || kEq (sc.names.lookup y.1) .free)) && (scope.names.all fun y => !(y.2 == .local || y.2 == .cell) || ((own.map (·.1)).contains y.1 || !N.contains y.1)))))
theorem kEq_ok {o : Option NameKind} {k : NameKind} (h : kEq o k = true) : o = some k := by
  cases o with
  | none => cases h
  | some a => rw [show a = k from eq_of_beq h]
theorem blkOk_of {N : List Str} {sc scope : Scope} {own : List (Str × Nat)} (h : blkB N sc scope own = true) : BlkOk N sc scope own := by
  unfold blkB at h
  obtain ⟨h1, h⟩ := He.ba h
  obtain ⟨h2, h⟩ := He.ba h
  obtain ⟨h3, h⟩ := He.ba h
  obtain ⟨h4, h5⟩ := He.ba h
  refine ⟨eq_of_beq h1, fun y hy => kEq_ok (List.all_eq_true.mp h2 y hy), fun p hp => eq_of_beq (List.all_eq_true.mp h3 p hp), fun y hy e => ?_, fun y hy e => ?_⟩
  · have := List.all_eq_true.mp h4 y hy
    rw [Bool.or_eq_true, Bool.or_eq_true] at this
    rcases this with z | z | z
    · rw [e] at z; exact absurd z (by decide)
    · exact .inl (kEq_ok z)
    · exact .inr (kEq_ok z)
  · have := List.all_eq_true.mp h5 y hy
    rw [Bool.or_eq_true, Bool.or_eq_true] at this
    rcases this with z | z | z
    · rcases e with e | e <;> (rw [e] at z; exact absurd z (by decide))
    · exact .inl (by simpa using z)
    · exact .inr (by simpa using z)
end Bx
namespace Bx
open PySem L2 PySem.Spec PyProof.Rows
section
variable {X : Cx} {W : WX} {K : KK} {F F' H H' : Hp} {adr adr' : List Addr} {s s' : S} {σ σ' : L2.St} {d : D} {v : V} {e a b c tg o i iter : Expr} {es ts : List Expr} {m ma mb mc mo mi : M D} {ms : List (M D)} {pos apos : Pos} {E : Ends} {Q : L2.St → Hp → Prop}
def extD (d x : D) : M D := fun s => match s.mo d, x with
  | some (.lst xs), .lst zs => if xs.length + zs.length ≤ 100000 then .ok .non (s.mut d (.lst (xs ++ zs))) else .bad
  | _, _ => .bad
def mext (m a : M D) : M D := bnd m fun d => bnd (chk isL d) fun d => bnd (mal [a]) (on1 (extD d))
theorem se_extend (ho : SE X W o m) (ha : SAL X W [e] (mal [ma])) (hbase : attributeBase o "extend" X.env (eval o X.env) = eval o X.env := by rfl)
    (hfew : ((backTo pos (starEach [e] X.env)).all (fun x => !x.1) && (backToKw pos (keywordEach [] X.env)).all (fun x => x.1.isSome) && decide ([e].length + ([] : List Keyword).length + (if ([] : List Keyword).isEmpty then 0 else 1) < 30)) = true := by rfl)
    (hline : (apos.endLine == pos.line) = true := by rfl) (hs : starEach [e] X.env = (false, eval e X.env) :: starEach [] X.env := by rfl) (hplain : (backTo pos (starEach [] X.env)).any (·.1) = false := by rfl) :
    SE X W (.Call (.Attribute o "extend" apos) [e] [] pos) (mext m ma) :=
  PE.imp (pe_bm PySem.F.plainAttrs_list PySem.F.slot_list_extend PySem.F.type_list_extend mt_extend ho ha hbase hfew hline hs hplain) fun σ H Q t => by
    obtain ⟨F, adr, s, ab, po⟩ := t
    refine ⟨F, adr, s, ab, (PostG.bind po).imp ?_⟩
    rintro x H1 ⟨F1, adr1, d1, s1, st1, ab1, rp1, po1⟩
    obtain ⟨hc, po2⟩ := chk_bind po1
    refine ⟨isL_ok ab1 rp1 hc, F1, adr1, s1, ab1, (PostG.bind po2).imp ?_⟩
    rintro xs H2 ⟨F2, adr2, ds, s2, st2, ab2, rp2, po3⟩
    obtain ⟨y, rfl, po4⟩ := on1_ok po3
    obtain ⟨v, r, q, g1, g2⟩ := rp2
    have e0 : r = [] := g2
    subst e0 q
    have rp1' := rp1.mono st2.ex st2.pre
    unfold extD at po4
    cases e1 : s2.mo d1 with
    | none => rw [e1] at po4; exact po4.elim
    | some mo =>
      rw [e1] at po4
      obtain ⟨p, u, hp, z1, z2, z3⟩ := ab2.mut rp1' e1
      cases mo <;> try (exact po4.elim)
      case lst zs =>
        obtain ⟨vs, rfl, zr⟩ := z2
        cases y <;> try (exact po4.elim)
        case lst ys =>
          obtain ⟨b, ws, rfl, h1, h2⟩ := g1
          by_cases hl : zs.length + ys.length ≤ 100000
          · simp only [hl, if_true] at po4
            refine ⟨p, b, vs, ws, hp, rfl, z1, ex_i ab2.sub (fun z => z) h1, by rw [zr.length, h2.length]; exact Nat.le_trans hl line5, ?_⟩
            obtain ⟨y1, y2⟩ := z3 (.lst (zs ++ ys)) (.lst (vs ++ ws)) ⟨_, rfl, zr.append h2⟩
            exact po4 .non F2 adr2 _ y1 y2 rfl
          · simp only [hl, if_false] at po4
            exact po4.elim
/-- str of a text, a number, None -/
def strD (d : D) : M D := fun s => match rsl s d with
  | .str x => .ok (.str x) s
  | .int i => if i.natAbs.log2 < 1920 then .ok (.str (toString i : String)) s else .bad
  | .non => .ok (.str "None") s
  | _ => .bad
def lookK (k : Key) : List (Key × D) → Option D
  | [] => none
  | (j, d) :: r => if j = k then some d else lookK k r
theorem lookK_ok {k : Key} : ∀ {ds : List (Key × D)} {kvs : List (Key × V)}, RpK K F adr ds kvs → (∀ d, lookK k ds = some d → ∃ v, valV kvs k = some v ∧ Rp K F adr d v) ∧ (lookK k ds = none → valV kvs k = none)
  | [], _, h => by cases h; exact ⟨fun d e => (nomatch e), fun _ => rfl⟩
  | (j, d0) :: ds, _, ⟨v, r, q, h1, h2⟩ => by
    subst q
    obtain ⟨i1, i2⟩ := lookK_ok (k := k) h2
    unfold lookK valV
    rw [List.find?_cons]
    by_cases e : j = k
    · rw [if_pos e]
      simp only [e, decide_true, Option.map_some]
      exact ⟨fun d z => by cases z; exact ⟨v, rfl, h1⟩, fun z => nomatch z⟩
    · rw [if_neg e]
      simp only [e, decide_false]
      exact ⟨i1, i2⟩
/-- d[k] -/
def dgetD : D → D → M D := fun a k s => match rsl s a, keyD k with
  | .dct kvs, some k => match lookK k kvs with
    | some d => .ok d s
    | none => .bad
  | _, _ => .bad
theorem dct_at {ds : List (Key × D)} (ab : Abs K F adr s σ H) (r : RpV K F adr σ d v) (h : rsl s d = .dct ds) : ∃ p kvs, v = .ref p ∧ Rx H p (.dK kvs) ∧ RpK K F adr ds kvs := by
  have t := ab.t r
  rw [h] at t
  exact t
theorem se_dget (hu : X.A.units + 64 < cLine) (ho : SE X W o mo) (hi : SE X W i mi) (hs : NoSl i := by intro _ _; rfl) : SE X W (.Subscript o i pos) (Bx.bin dgetD mo mi) :=
  PE.imp (pe_dget (by omega) ho hi hs) fun σ H Q t => by
    obtain ⟨F, adr, s, ab, po⟩ := t
    refine ⟨F, adr, s, ab, (PostG.bind po).imp ?_⟩
    rintro x H1 ⟨F1, adr1, d1, s1, st1, ab1, rp1, po1⟩
    refine ⟨F1, adr1, s1, ab1, (PostG.bind po1).imp ?_⟩
    rintro y H2 ⟨F2, adr2, d2, s2, st2, ab2, rp2, po2⟩
    unfold dgetD at po2
    cases e1 : rsl s2 d1 <;> simp only [e1] at po2 <;> try (exact po2.elim)
    rename_i kds
    cases e2 : keyD d2 with
    | none => rw [e2] at po2; exact po2.elim
    | some k =>
      rw [e2] at po2
      obtain ⟨p, kvs, rfl, h1, h2⟩ := dct_at ab2 (rp1.mono st2.ex st2.pre) e1
      have hk := keyD_ok e2 rp2
      cases e3 : lookK k kds with
      | none => simp only [e3] at po2; exact po2.elim
      | some d3 =>
        simp only [e3] at po2
        obtain ⟨v3, h3, h4⟩ := (lookK_ok (k := k) h2).1 d3 e3
        exact ⟨p, v3, rfl, .inl ⟨kvs, k, h1.rd, hk, h3.symm⟩, Post.at ab2 po2 h4⟩
def keepR (ρ0 : List Sl) : List Nat → List Sl → List Sl
  | [], ρ => ρ
  | j :: vs, ρ => match ρ0[j]? with
    | some (.val d) => (keepR ρ0 vs ρ).set j (.val d)
    | _ => keepR ρ0 vs ρ
def keepS (vs : List Nat) (s0 s : S) : S := { s with ρ := keepR s0.ρ vs s.ρ }
def kept (vs : List Nat) (m : M D) : M D := fun s => match m s with
  | .ok d s' => .ok d (keepS vs s s')
  | r => r
theorem Abs.know {j : Nat} (ab : Abs K F adr s σ H) (h : σ[j]? = some (some v)) (r : Rp K F adr d v) : (∀ x, Fp adr { s with ρ := s.ρ.set j (.val d) } σ x → Fp adr s σ x) ∧ Abs K F adr { s with ρ := s.ρ.set j (.val d) } σ H := by
  have own : ∀ (i : Nat) (m' : MO), (s.ρ.set j (Sl.val d))[i]? = some (Sl.own m') → s.ρ[i]? = some (Sl.own m') := fun i m' g => by
    rcases set_back g with ⟨e1, e2, e3⟩ | ⟨n1, n2⟩
    · cases e2
    · exact n2
  refine ⟨fun x z => ?_, ⟨⟨ab.sub, ab.len, ab.nd, ab.sto⟩, by simp [ab.lenr], fun i d' g => ?_, fun i m' g => ab.slo i m' (own i m' g), fun i i' m1 m2 l g1 g2 => ab.dis i i' m1 m2 l (own i m1 g1) (own i' m2 g2)⟩⟩
  · rcases z with z | ⟨i, m', z1, z2⟩
    · exact .inl z
    · exact .inr ⟨i, m', own i m' z1, z2⟩
  · rcases set_back (show (s.ρ.set j (.val d))[i]? = some (.val d') from g) with ⟨e1, e2, e3⟩ | ⟨n1, n2⟩
    · cases e2; subst e1; exact ⟨v, h, r⟩
    · exact ab.slv i d' n2
theorem Abs.keeps {F0 : Hp} {adr0 : List Addr} {s0 : S} {H0 : Hp} (ab0 : Abs K F0 adr0 s0 σ H0) (ex : Ex F0 F) (pre : adr0 <+: adr) : ∀ (vs : List Nat) {s : S}, Abs K F adr s σ H → (∀ x, Fp adr (keepS vs s0 s) σ x → Fp adr s σ x) ∧ Abs K F adr (keepS vs s0 s) σ H
  | [], s, ab => ⟨fun _ h => h, ab⟩
  | j :: vs, s, ab => by
    obtain ⟨i1, i2⟩ := Abs.keeps ab0 ex pre vs ab
    show (∀ x, Fp adr { s with ρ := keepR s0.ρ (j :: vs) s.ρ } σ x → Fp adr s σ x) ∧ Abs K F adr { s with ρ := keepR s0.ρ (j :: vs) s.ρ } σ H
    unfold keepR
    cases e : s0.ρ[j]? with
    | none => exact ⟨i1, i2⟩
    | some sl =>
      cases sl with
      | val d =>
        obtain ⟨v, q1, q2⟩ := ab0.slv j d e
        obtain ⟨y1, y2⟩ := i2.know q1 (q2.mono ex pre)
        exact ⟨fun x z => i1 x (y1 x z), y2⟩
      | _ => exact ⟨i1, i2⟩
theorem post_kept {vs : List Nat} {Q : VK} (ab : Abs K F adr s σ H) (h : Post K W F adr s σ H (kept vs m s) Q) : Post K W F adr s σ H (m s) Q := by
  unfold kept at h
  cases e : m s with
  | ok d1 s1 =>
    rw [e] at h
    intro v F1 adr1 H1 st1 ab1 rp1
    obtain ⟨y1, y2⟩ := Abs.keeps ab st1.ex st1.pre vs ab1
    exact h v F1 adr1 H1 (Step.less st1 y1) y2 rp1
  | exc x s1 => rw [e] at h; exact h
  | bad => rw [e] at h; exact h
theorem se_kept (vs : List Nat) (h : SE X W e m) : SE X W e (kept vs m) := PE.imp h fun σ H Q t => by
  obtain ⟨F, adr, s, ab, po⟩ := t
  exact ⟨F, adr, s, ab, post_kept ab po⟩
end
end Bx
namespace Bx
open PySem L2 PySem.Spec PyProof.Rows
section
variable {X : Cx} {W : WX} {K : KK} {F F' H H' : Hp} {adr adr' : List Addr} {s s' : S} {σ σ' : L2.St} {d : D} {v : V} {e a b c tg tg1 o i iter iter1 elt kx vx : Expr} {es ts : List Expr} {m ma mb mc mo mi : M D} {ms : List (M D)} {pos apos : Pos} {E : Ends} {Q : L2.St → Hp → Prop}
def putKD (k : Key) (x : D) (kds : List (Key × D)) : List (Key × D) := if kds.any (fun kv => decide (kv.1 = k)) then kds.map (fun kv => if kv.1 = k then (kv.1, x) else kv) else kds ++ [(k, x)]
theorem RpK.keys : ∀ {ds : List (Key × D)} {kvs : List (Key × V)}, RpK K F adr ds kvs → kvs.map (·.1) = ds.map (·.1)
  | [], _, h => by cases h; rfl
  | (_, _) :: ds, _, ⟨v, r, q, h1, h2⟩ => by subst q; rw [List.map_cons, List.map_cons, RpK.keys h2]
theorem RpK.length {ds : List (Key × D)} {kvs : List (Key × V)} (h : RpK K F adr ds kvs) : kvs.length = ds.length := by
  have := congrArg List.length h.keys
  rwa [List.length_map, List.length_map] at this
theorem RpK.append : ∀ {ds es : List (Key × D)} {vs ws : List (Key × V)}, RpK K F adr ds vs → RpK K F adr es ws → RpK K F adr (ds ++ es) (vs ++ ws)
  | [], _, _, _, h, g => by cases h; exact g
  | (_, _) :: ds, _, _, _, ⟨v, r, q, h1, h2⟩, g => by subst q; exact ⟨v, _, rfl, h1, RpK.append h2 g⟩
theorem RpK.repl {k : Key} {x : D} (hv : Rp K F adr x v) : ∀ {ds : List (Key × D)} {kvs : List (Key × V)}, RpK K F adr ds kvs → RpK K F adr (ds.map fun kv => if kv.1 = k then (kv.1, x) else kv) (kvs.map fun kv => if kv.1 = k then (kv.1, v) else kv)
  | [], _, h => by cases h; rfl
  | (j, y) :: ds, _, ⟨u, r, q, h1, h2⟩ => by
    subst q
    rw [List.map_cons, List.map_cons]
    by_cases e : j = k
    · simp only [e, if_true]; exact ⟨v, _, rfl, hv, RpK.repl hv h2⟩
    · simp only [e, if_false]; exact ⟨u, _, rfl, h1, RpK.repl hv h2⟩
theorem RpK.put {k : Key} {x : D} {ds : List (Key × D)} {kvs : List (Key × V)} (h : RpK K F adr ds kvs) (hv : Rp K F adr x v) : RpK K F adr (putKD k x ds) (putK kvs k v) := by
  have e : (kvs.any fun kv => decide (kv.1 = k)) = ds.any fun kv => decide (kv.1 = k) := by
    have h1 : (kvs.any fun kv => decide (kv.1 = k)) = (kvs.map (·.1)).any fun j => decide (j = k) := by rw [List.any_map]; rfl
    have h2 : (ds.any fun kv => decide (kv.1 = k)) = (ds.map (·.1)).any fun j => decide (j = k) := by rw [List.any_map]; rfl
    rw [h1, h2, h.keys]
  unfold putKD putK
  rw [e]
  by_cases hc : (ds.any fun kv => decide (kv.1 = k)) = true
  · rw [if_pos hc, if_pos hc]; exact h.repl hv
  · rw [if_neg hc, if_neg hc]; exact h.append ⟨v, [], rfl, hv, rfl⟩
def dloop (vs : List Nat) (asg : D → MS) (t : M Bool) (ek ev : M D) : List D → List (Key × D) → S → R D
  | [], acc, s => .ok (.dct acc) (wipeS vs s)
  | d :: r, acc, s => match asg d s with
    | .nx s1 => match t s1 with
      | .ok true s2 => match ek s2 with
        | .ok kd s3 => match keyD kd with
          | some k => match stl ev s3 with
            | .ok y s4 => if acc.length < 100000 then dloop vs asg t ek ev r (putKD k y acc) (wipeS vs s4) else .bad
            | _ => .bad
          | none => .bad
        | _ => .bad
      | .ok false s2 => dloop vs asg t ek ev r acc (wipeS vs s2)
      | _ => .bad
    | _ => .bad
def mdcomp (vs : List Nat) (it : M (List D)) (asg : D → MS) (t : M Bool) (ek ev : M D) : M D := bnd it fun items s => dloop vs asg t ek ev items [] (wipeS vs s)
theorem t_dcomp {vs : List Nat} {it : M (List D)} {g : Tgt} {t : M Bool} {ek ev : M D} {σ : L2.St} {H : Hp} {Q : VK} (hg : ∀ i ∈ g.slots, i ∈ vs) (h : tI K W (mdcomp vs it g.asg t ek ev) σ H Q) :
    tDc (tIt K W it) (g.tr K.K) (tT K W0 t) (tI K W0 ek) (tI K W0 (stl ev)) vs σ H Q := by
  obtain ⟨F, adr, s, ab, po⟩ := h
  refine ⟨F, adr, s, ab, (PostG.bind po).imp ?_⟩
  rintro J H1 ⟨F1, adr1, items, s1, st1, ab1, wk, po1⟩
  intro p hp
  have hFp := ab1.fnone hp
  have npp : ¬ Fp adr1 s1 σ p := fun z => (ab1.fpH z).1 hp
  refine ⟨fun i m' H' => m' = items.length - i ∧ i ≤ items.length ∧ ∃ F' adr' s' acc av, Step F1 adr1 (Fp adr1 s1 σ) H1 F' adr' (Fp adr' s' (wipe σ vs)) H' ∧ Abs K F' adr' s' (wipe σ vs) H' ∧ F' p = none ∧ ¬ Fp adr' s' (wipe σ vs) p ∧ H' p = some (.dK av) ∧
      RpK K F' adr' acc av ∧ Post K W F1 adr1 s1 σ H1 (dloop vs g.asg t ek ev (items.drop i) acc s') Q, ⟨items.length, by simp, Nat.zero_le _, ?_⟩, ?_⟩
  · obtain ⟨y1, y2⟩ := ab1.wiped (vs := vs) (σ2 := wipe σ vs) (wipe_length σ vs) (fun i hi => wipe_out' hi)
    have st0 : Step F1 adr1 (Fp adr1 s1 σ) H1 F1 adr1 (Fp adr1 (wipeS vs s1) (wipe σ vs)) H1 := Step.less .refl y1
    exact ⟨F1, adr1, wipeS vs s1, [], [], st0.wrNew hp, y2.wrFresh hFp (fun z => npp (y1 _ z)), hFp, fun z => npp (y1 _ z), upd_same, rfl, by simpa using po1⟩
  · rintro i m' H2 ⟨rfl, hil, F2, adr2, s2, acc, av, st2, ab2, f2, n2, h2, r2, po2⟩
    by_cases hlt : i < items.length
    · obtain ⟨d, hd⟩ : ∃ d, items[i]? = some d := ⟨_, List.getElem?_eq_getElem hlt⟩
      have hdrop : items.drop i = d :: items.drop (i + 1) := by
        rw [List.drop_eq_getElem_cons hlt]
        rw [List.getElem?_eq_getElem hlt] at hd
        rw [Option.some.inj hd]
      rw [hdrop] at po2
      obtain ⟨g1, g2⟩ := walk_one wk ⟨st2.ex, st2.pre⟩ ab2 hd
      refine .inr ⟨g1, fun H' => ∃ F' adr' s' acc av, Step F1 adr1 (Fp adr1 s1 σ) H1 F' adr' (Fp adr' s' (wipe σ vs)) H' ∧ Abs K F' adr' s' (wipe σ vs) H' ∧ F' p = none ∧ ¬ Fp adr' s' (wipe σ vs) p ∧ H' p = some (.dK av) ∧
        RpK K F' adr' acc av ∧ Post K W F1 adr1 s1 σ H1 (dloop vs g.asg t ek ev (items.drop (i + 1)) acc s') Q, fun H' z => ⟨items.length - (i + 1), by omega, rfl, hlt, z⟩, fun x H3 y => ?_⟩
      obtain ⟨F3, st3, ab3, rp3⟩ := g2 x H3 y
      obtain ⟨f3, n3, h3⟩ := keep_fresh st3 f2 n2 h2
      unfold dloop at po2
      cases e1 : g.asg d s2 with
      | nx s3 =>
        simp only [e1] at po2
        refine Tgt.run ab3 rp3 e1 fun σ4 hl4 ho4 st4 ab4 => ?_
        have wz : wipe σ4 vs = wipe σ vs := wipe_ext (by rw [hl4, wipe_length]) (fun j hj => by rw [ho4 j (fun z => hj (hg j z)), wipe_out' hj])
        refine ⟨wz, F3, adr2, s3, ab4, ?_⟩
        obtain ⟨f4, n4, h4⟩ := keep_fresh st4 f3 n3 h3
        have fin : ∀ {F5 : Hp} {adr5 : List Addr} {s5 : S} {H5 : Hp}, Step F3 adr2 (Fp adr2 s3 σ4) H3 F5 adr5 (Fp adr5 s5 σ4) H5 → Abs K F5 adr5 s5 σ4 H5 →
            Step F1 adr1 (Fp adr1 s1 σ) H1 F5 adr5 (Fp adr5 (wipeS vs s5) (wipe σ vs)) H5 ∧ Abs K F5 adr5 (wipeS vs s5) (wipe σ vs) H5 ∧ F5 p = none ∧ ¬ Fp adr5 (wipeS vs s5) (wipe σ vs) p ∧ H5 p = some (.dK av) ∧ RpK K F5 adr5 acc av := fun {F5 adr5 s5 H5} st5 ab5 => by
          obtain ⟨y1, y2⟩ := ab5.wiped (vs := vs) (σ2 := wipe σ vs) (by rw [wipe_length, hl4, wipe_length]) (fun j hj => by rw [wipe_out' hj, ho4 j (fun z => hj (hg j z)), wipe_out' hj])
          obtain ⟨f5, n5, h5⟩ := keep_fresh st5 f4 n4 h4
          have stA := (st2.trans st3).trans (st4.trans st5)
          exact ⟨Step.less stA y1, y2, f5, fun z => n5 (y1 _ z), h5, r2.mono ((st3.trans st4).trans st5).ex ((st3.trans st4).trans st5).pre⟩
        cases e2 : t s3 with
        | ok bb s5 =>
          simp only [e2] at po2
          intro b' F5 adr5 H5 st5 ab5 hb
          have hb' : b' = bb := hb
          subst hb'
          cases b' with
          | false =>
            obtain ⟨q1, q2, q3, q4, q5, q6⟩ := fin st5 ab5
            exact ⟨F5, adr5, _, acc, av, q1, q2, q3, q4, q5, q6, po2⟩
          | true =>
            refine ⟨F5, adr5, s5, ab5, ?_⟩
            simp only at po2
            cases e3 : ek s5 with
            | ok kd s6 =>
              simp only [e3] at po2
              intro wk F6 adr6 H6 st6 ab6 rp6
              cases e4 : keyD kd with
              | none => simp only [e4] at po2; exact po2.elim
              | some k =>
                simp only [e4] at po2
                have hk := keyD_ok e4 rp6
                refine ⟨F6, adr6, s6, ab6, ?_⟩
                cases e5 : stl ev s6 with
                | ok yv s7 =>
                  simp only [e5] at po2
                  intro w F7 adr7 H7 st7 ab7 rp7
                  obtain ⟨q1, q2, q3, q4, q5, q6⟩ := fin (st5.trans (st6.trans st7)) ab7
                  by_cases hz : acc.length < 100000
                  · simp only [hz, if_true] at po2
                    have rp7' : Rp K F7 adr7 yv w := by
                      cases yv with
                      | loc j => exact (stl_noloc e5).elim
                      | _ => exact rp7
                    exact ⟨av, k, hk, q5, by rw [r2.length]; exact Nat.lt_of_lt_of_le hz line5, F7, adr7, wipeS vs s7, putKD k yv acc, putK av k w, q1.wrNew hp, q2.wrFresh q3 q4, q3, q4, upd_same, q6.put rp7', po2⟩
                  · simp only [hz, if_false] at po2
                    exact po2.elim
                | exc x6 s6 => simp only [e5] at po2; exact po2.elim
                | bad => simp only [e5] at po2; exact po2.elim
            | exc x6 s6 => simp only [e3] at po2; exact po2.elim
            | bad => simp only [e3] at po2; exact po2.elim
        | exc x5 s5 => simp only [e2] at po2; exact po2.elim
        | bad => simp only [e2] at po2; exact po2.elim
      | _ => simp only [e1] at po2; exact po2.elim
    · have e : i = items.length := by omega
      subst e
      rw [List.drop_length] at po2
      refine .inl ⟨wk.stop F2 adr2 H2 st2.ex st2.pre ab2.sub, ?_⟩
      obtain ⟨y1, y2⟩ := ab2.wiped (vs := vs) (σ2 := σ) (wipe_length σ vs).symm (fun j hj => (wipe_out' hj).symm)
      have po3 : Post K W F1 adr1 s1 σ H1 (.ok (.dct acc) (wipeS vs s2)) Q := po2
      exact po3 (.ref p) (upd F2 p (.dK av)) adr2 H2 ((Step.less st2 y1).adopt hp f2) (y2.adopt f2 (fun z => n2 (y1 _ z)) h2) ⟨p, av, rfl, .inl upd_same, r2.mono (Ex.new f2) (List.prefix_refl _)⟩
theorem se_dcomp {ifs : List Expr} {scope : Scope} {own : List (Str × Nat)} {it : M (List D)} {g : Tgt} {t : M Bool} {ek ev : M D} (hc : X.calm = true) (hN : X.N.Nodup) (hi : SI X W tg iter it) (ok : BlkOk X.N X.env.scope scope own)
    (hg : ∀ (s : Shared) (H : Hp) (C : Addr) (cl : List (Str × Addr)) (fp : List Addr), SGc (X.blk s H scope (compEnvC scope cl C X.env) fp) tg g) (ht : ∀ (s : Shared) (H : Hp) (C : Addr) (cl : List (Str × Addr)) (fp : List Addr), STs (X.blk s H scope (compEnvC scope cl C X.env) fp) W0 ifs t)
    (hk : ∀ (s : Shared) (H : Hp) (C : Addr) (cl : List (Str × Addr)) (fp : List Addr), SE (X.blk s H scope (compEnvC scope cl C X.env) fp) W0 kx ek)
    (he : ∀ (s : Shared) (H : Hp) (C : Addr) (cl : List (Str × Addr)) (fp : List Addr), SE (X.blk s H scope (compEnvC scope cl C X.env) fp) W0 vx ev) (hsl : g.slots.all (fun i => (own.map (·.2)).contains i) = true := by rfl) (hs : ∀ x, foldedSetIterable iter X.env x = pure x := by intro _; rfl) :
    SE X W (.DictComp kx vx [⟨tg, iter, ifs, 0⟩] scope pos) (mdcomp (own.map (·.2)) it g.asg t ek ev) :=
  PE.imp (pe_dc (g := g.tr X.K) (tt := tT (kk X) W0 t) (tk := tI (kk X) W0 ek) (tv := tI (kk X) W0 (stl ev)) hc hN hi ok hg ht hk (fun s H C cl fp => se_stl (he s H C cl fp)) hs) fun σ H Q h => t_dcomp (fun i hi => by have := List.all_eq_true.mp hsl i hi; simpa using this) h
end
def etB (K : PySem.W.Frag) (f : Str × Option Str) (i : Nat) : Bool := match K.lookup (He.dflAt f i K) with
  | some ⟨.type c, none, .seq its _, _⟩ => decide (c = "tuple") && decide (its.size = 0)
  | _ => false
end Bx
namespace Bx
open PySem L2 PySem.Spec PyProof.Rows
section
variable {X : Cx} {W : WX} {K : KK} {F F' H H' : Hp} {adr adr' : List Addr} {s s' : S} {σ σ' : L2.St} {d : D} {v : V} {e a b c tg o i iter : Expr} {es ts : List Expr} {m ma mb mc mo mi : M D} {ms : List (M D)} {pos apos : Pos} {E : Ends} {Q : L2.St → Hp → Prop}
def inK (neg : Bool) : D → D → M D := fun x y s => match rsl s y, keyD x with
  | .dct kds, some k => .ok (.bl (if neg then !(lookK k kds).isSome else (lookK k kds).isSome)) s
  | _, _ => .bad
theorem inK_fin {neg : Bool} {x y : V} {Q : VK} (h : r2I K W (inK neg) x y H Q) : ∃ a o, y = .ref a ∧ DGet H a x o ∧ Q (.bl (if neg then !o.isSome else o.isSome)) H := by
  obtain ⟨F, adr, s, σ, d1, d2, ab, r1, r2, po⟩ := h
  unfold inK at po
  cases e1 : rsl s d2 <;> simp only [e1] at po <;> try (exact po.elim)
  rename_i kds
  cases e2 : keyD d1 with
  | none => rw [e2] at po; exact po.elim
  | some k =>
    rw [e2] at po
    obtain ⟨p, kvs, rfl, h1, h2⟩ := dct_at ab r2 e1
    have hk := keyD_ok e2 r1
    refine ⟨p, valV kvs k, rfl, .inl ⟨kvs, k, h1.rd, hk, rfl⟩, ?_⟩
    have e3 : (valV kvs k).isSome = (lookK k kds).isSome := by
      cases e : lookK k kds with
      | none => rw [(lookK_ok (k := k) h2).2 e]; rfl
      | some d3 =>
        obtain ⟨v3, h3, _⟩ := (lookK_ok (k := k) h2).1 d3 e
        rw [h3]
        rfl
    rw [e3]
    exact Post.at ab po rfl
theorem op_ninK (hu : X.A.units + 64 < cLine) : OpR X (compareOp .NotIn) (r2I (kk X) W (inK true)) := fun pins s σ H x y v u Q I rx ry h => by
  obtain ⟨a, o, rfl, g, q⟩ := inK_fin h
  cases ry
  exact d_notIn (by omega) I g rx fun s3 I3 => ⟨.bl (!o.isSome), H, I3, rfl, q⟩
def txtK : List Key → Option (List Str)
  | [] => some []
  | .inr x :: r => (txtK r).map (x :: ·)
  | _ => none
theorem txtK_eq : ∀ {ks : List Key} {xs : List Str}, txtK ks = some xs → ks = xs.map Sum.inr
  | [], _, h => by cases h; rfl
  | .inl _ :: _, _, h => by cases h
  | .inr x :: r, _, h => by
    simp only [txtK, Option.map_eq_some_iff] at h
    obtain ⟨ys, h1, rfl⟩ := h
    rw [txtK_eq h1]
    rfl
theorem txtK_map (xs : List Str) : txtK (xs.map Sum.inr) = some xs := by
  induction xs with
  | nil => rfl
  | cons x r ih => simp [txtK, ih]
def sortK (d : D) : M D := fun s => match rsl s d with
  | .dct kds => match txtK (kds.map (·.1)) with
    | some xs => if xs.length < 64 then .ok (.lst ((sortS xs).map .str)) s else .bad
    | none => .bad
  | _ => .bad
theorem cr_sortK (hc : X.calm = true) : CallR X (.builtin "sorted") (rCI (kk X) W (f1 sortK)) := CallR.imp (call_sortedD hc) fun xs H Q h => by
  obtain ⟨x, rfl, F, adr, s, σ, d, ab, r, po⟩ := f1_of h
  unfold sortK at po
  cases e1 : rsl s d <;> simp only [e1] at po <;> try (exact po.elim)
  rename_i kds
  obtain ⟨p, kvs, rfl, h1, h2⟩ := dct_at ab r e1
  cases e2 : txtK (kds.map (·.1)) with
  | none => simp only [e2] at po; exact po.elim
  | some xs =>
    simp only [e2] at po
    by_cases hl : xs.length < 64
    · simp only [hl, if_true] at po
      refine ⟨p, kvs, xs, rfl, h1.rd, by rw [h2.keys, txtK_eq e2], hl, fun ys q hp hs hn => ?_⟩
      rw [sortS_of hp (sorted_pw hs)]
      exact Post.new ab po hn ⟨q, _, rfl, upd_same, rpl_strs' _⟩
    · simp only [hl, if_false] at po; exact po.elim
end
end Bx
namespace Bx
open PySem L2 PySem.Spec PyProof.Rows
section
variable {X : Cx} {o e : Expr} {es : List Expr} {to : TE} {t : TA} {name : Str} {apos cpos : Pos} {id : String} {r : V → List V → Hp → VK → Prop}
theorem SqX.is {pins : List (Addr × Obj)} {σ : L2.St} {H : Hp} {s : Shared} {p : Addr} {xs : List V} (I : Inv X pins σ H s) (h : SqX X.K H p xs) : s.TypeIs (.ref p) "tuple" ∧ ∀ a, Value.ref p = .ref a → ∃ ob, s.heap.get? a = some ob ∧ ob.dict = none := by
  rcases h with ⟨o, h, hd⟩ | ⟨o, its, n, hk, hc, _, _, _, hd⟩
  · obtain ⟨h1, h2, its, rv, ht⟩ := I.hok p _ h
    refine ⟨ht.typeIs, fun a e => ?_⟩
    cases e
    exact ⟨o, h1, hd⟩
  · refine ⟨⟨o, I.kIn p o hk, hc⟩, fun a e => ?_⟩
    cases e
    exact ⟨o, I.kIn _ o hk, hd⟩
end
section
variable {X : Cx} {W : WX} {K : KK} {F F' H H' : Hp} {adr adr' : List Addr} {s s' : S} {σ σ' : L2.St} {d : D} {v : V} {e a b c tg o i iter : Expr} {es ts : List Expr} {m ma mb mc mo mi : M D} {ms : List (M D)} {pos apos : Pos} {E : Ends}
def isTup (s : S) (d : D) : Bool := match d with
  | .tup _ => true
  | _ => false
def mtm (f : D → D → M D) (m a : M D) : M D := bnd m fun d => bnd (settle d) fun d => bnd (chk isTup d) fun d => bnd (mal [a]) (on1 (f d))
def isBD : D → D → M D := fun a b s => match a, b with
  | .bl x, .bl y => .ok (.bl (decide (x = y))) s
  | _, _ => .bad
def notBD : D → D → M D := fun a b s => match a, b with
  | .bl x, .bl y => .ok (.bl (!decide (x = y))) s
  | _, _ => .bad
end
end Bx
namespace Bx
open PySem L2 PySem.Spec PyProof.Rows
def uniq (ks : List Key) : List Key := ks.foldl addK []
section
variable {X : Cx} {W : WX} {K : KK} {F F' H H' : Hp} {adr adr' : List Addr} {s s' : S} {σ σ' : L2.St} {d : D} {v : V} {e a b c tg o i iter : Expr} {es ts : List Expr} {m ma mb mc mo mi : M D} {ms : List (M D)} {pos apos : Pos} {E : Ends}
def keysD : List D → Option (List Key)
  | [] => some []
  | d :: r => match keyD d, keysD r with
    | some k, some l => some (k :: l)
    | _, _ => none
end
end Bx
namespace Bx
open PySem L2 PySem.Spec PyProof.Rows
end Bx
namespace Bx
open PySem L2 PySem.Spec PyProof.Rows
theorem takesF {X : Cx} : Takes X (fun _ _ _ _ => False) := fun _ _ ⟨_, _, _, _, _, _, _, _, _, _, _, _, _, _, _, _, w⟩ => w.elim
end Bx
namespace Bx
open PySem L2 PySem.Spec PyProof.Rows
section
variable {X : Cx} {W : WX} {cn f sf y : Str} {B newId initId : String} {bmB : List Value} {k j : Nat} {fI : Addr} {fd : FuncData} {e : Expr} {m : M D} {p p2 pos pos' : Pos} {txt : Str}
/-- raise C('text'), C without an __init__ of its own -/
def sraise0 (cn : Str) : MS := fun s => .exc ⟨cn, none⟩ s
/-- raise C(e), C with an __init__ that keeps one field -/
def sraise1 (cn f : Str) (m : M D) : MS := fun s => (stl m s).toS fun d s => .exc ⟨cn, some (f, d)⟩ s
end
end Bx
namespace Bx
open PySem L2 PySem.Spec PyProof.Rows
def w2 (K : PySem.W.Frag) (c1 c2 : Value) (ts : Addr → Value → Option Addr → TS) (Wout : WX) (D : Ends) : WX := fun cls d σ H =>
  ∃ b, PySem.W.exmAny K cls [c1, c2] = some b ∧ (b = true → ∀ a, H a = none → ts a cls d D σ H) ∧ (b = false → Wout cls d σ H)
/-- try: .. except (A, B): ..; the table tells which classes are caught -/
def noX : RS → RS
  | .exc _ _ => .bad
  | r => r
def stry (tbl : List (Str × Bool)) (mb ms : MS) : MS := fun s => match mb s with
  | .exc x s1 => match tbl.lookup x.cls with
    | some true => noX (ms s1)
    | some false => .exc x s1
    | none => .bad
  | r => r
end Bx
namespace Bx
open PySem L2 PySem.Spec PyProof.Rows
end Bx
namespace Bx
open PySem L2 PySem.Spec PyProof.Rows
def eqO (cn : Str) (den : Den) (a b : D) : M D := fun s => match a, b with
  | .obj c fs, .obj c' fs' => if c = cn ∧ c' = cn then (match den [.obj c fs, .obj c' fs'] s.μ with
    | .ok (.bl r) μ' => .ok (.bl r) { s with μ := μ' }
    | _ => .bad) else .bad
  | _, _ => .bad
end Bx
namespace Bx
open PySem L2 PySem.Spec PyProof.Rows
end Bx
namespace Bx
open PySem L2 PySem.Spec PyProof.Rows
end Bx
namespace Bx
open PySem L2 PySem.Spec PyProof.Rows
structure FnP (P : Program) (w : World) (K : PySem.W.Frag) (mg : Str → Option Value) (base : Heap) (k : Nat) (f : Addr) (fd : FuncData) (ps : List Str) (sp : Addr × Obj → Sp) : Prop where
  len : ∀ p vs H Q E, sp p vs H Q E → vs.length = ps.length
  run : ∀ (A : Around) (outer : List Env) (s : Shared) (H : Hp) (args : Args) (us : List Value) (vs : List V) (Q : VK) (E : XK) (p : Addr × Obj), L2H.RoomH k A → A.guards = some [] → L2H.PinOk outer H s p → Env0 P w K mg base A outer s H →
    BindsTo s fd args (ps.zip us) → Vals vs us → sp p vs H Q E → codeAny (model P w) A (.call (.ref f) args) (CR (L2.CX P w) outer P w H s Q E) s
section
variable {X : Cx} {W : WX} {e : EX} {k : Nat} {f : Addr} {fd : FuncData} {ps : List Str} {ix : List Nat} {dds : List D} {den : EX → Den} {x : Str} {p pos : Pos} {ex : Expr} {es : List Expr} {ms : List (M D)}
theorem FnP.mono {P : Program} {w : World} {K : PySem.W.Frag} {mg : Str → Option Value} {base : Heap} {j k : Nat} {sp : Addr × Obj → Sp} (G : FnP P w K mg base j f fd ps sp) (h : j ≤ k) : FnP P w K mg base k f fd ps sp :=
  ⟨G.len, fun A outer s H args us vs Q E p hr => G.run A outer s H args us vs Q E p (hr.mono h)⟩
end
def setNo (i : Nat) (s : S) : S := ⟨s.ρ.set i .no, s.μ⟩
def clr (i : Nat) : RS → RS
  | .nx s => .nx (setNo i s)
  | .rt d s => .rt d (setNo i s)
  | .bk s => .bk (setNo i s)
  | .ct s => .ct (setNo i s)
  | _ => .bad
/-- an exception that may stand for x -/
def ExFor (x : Xc) (e : EX) : Prop := e.cn = x.cls ∧ (e.dd = none ↔ x.fld = none)
open Classical in
noncomputable def hot (x : Xc) (i : Nat) (ms : EX → MS) (s : S) : RS := if h : ∃ r, ∀ e, ExFor x e → clr i (ms e (s.put i (.val (.exv e x.fld.toList)))) = r then h.choose else .bad
noncomputable def stryE (tbl : List (Str × Bool)) (i : Nat) (mb : MS) (ms : EX → MS) : MS := fun s => match mb s with
  | .exc x s1 => match tbl.lookup x.cls with
    | some true => hot x i ms s1
    | some false => .exc x s1
    | none => .bad
  | r => r
end Bx
namespace Bx
open PySem L2 PySem.Spec PyProof.Rows
end Bx
namespace Bx
open PySem L2 PySem.Spec PyProof.Rows
section
variable {X : Cx} {W : WX} {K : KK} {F F' H H' : Hp} {adr adr' : List Addr} {s s' : S} {σ σ' : L2.St} {d : D} {v : V} {e a b c tg o i iter : Expr} {es ts : List Expr} {m ma mb mc mo mi : M D} {ms : List (M D)} {pos apos : Pos} {E : Ends}
def isLst (s : S) (d : D) : Bool := match d with
  | .lst _ => true
  | _ => false
def mlm (f : D → D → M D) (m a : M D) : M D := bnd m fun d => bnd (settle d) fun d => bnd (chk isLst d) fun d => bnd (mal [a]) (on1 (f d))
end
end Bx
namespace Bx
open PySem L2 PySem.Spec PyProof.Rows
section
variable {X : Cx} {W : WX} {K : KK} {F F' H H' : Hp} {adr adr' : List Addr} {s s' : S} {σ σ' : L2.St} {d : D} {v : V} {e a b : Expr} {m ma mb : M D} {pos : Pos}
def saug (j : Nat) (f : Int → Int → Int) (m : M D) : MS := fun s => match s.ρ[j]? with
  | some (.val (.int i)) => (m s).toS fun d s1 => match d with
    | .int k => .nx (s1.put j (.val (.int (f i k))))
    | _ => .bad
  | _ => .bad
theorem ss_aug {j : Nat} {x : Str} {pos' : Pos} {op : Operator} {f : Int → Int → Int} (ho : PIp X op (ipI f)) (hN : X.N.Nodup) (hi : X.N[j]? = some x) (hx : Loc X.env.scope x) (he : SE X W e m)
    (hf : X.fn x = true ∨ X.env.scope.names.lookup x = some .local := by first | exact .inl rfl | exact .inr rfl | assumption) : SS X W (.AugAssign (.Name x pos') op e pos) (saug j f m) := PS.imp (ps_aug hN hi hx he ho hf) fun E σ H t => by
  obtain ⟨F, adr, s, ab, po⟩ := t
  unfold saug at po
  split at po
  · rename_i i hs
    obtain ⟨v, h1, h2⟩ := ab.slv j _ hs
    refine ⟨v, h1, F, adr, s, ab, PostG.imp (S_bind po) ?_⟩
    rintro y H1 ⟨F1, adr1, d1, s1, st1, ab1, rp1, po1⟩
    cases d1 <;> try (exact po1.elim)
    rename_i k
    have hz : Rp (kk X) F1 adr1 (.int (f i k)) (.int (f i k)) := rfl
    exact ⟨i, k, h2, rp1, po1 _ F1 adr1 H1 (ab1.setVal hz).1 (ab1.setVal hz).2⟩
  · exact po.elim
end
end Bx
namespace Bx
open PySem L2 PySem.Spec PyProof.Rows
def reprA (d : D) : M D := fun s => match d with
  | .non => .ok (.str "None") s
  | .bl b => .ok (.str (if b then "True" else "False")) s
  | .int i => if i.natAbs.log2 < 1920 then .ok (.str (toString i)) s else .bad
  | .str x => if (reprText x).length ≤ sizeLine then .ok (.str (reprText x)) s else .bad
  | d => reprD d s
def mulA (a b : D) : M D := fun s => match a, b with
  | .str x, .int n => if 0 ≤ n ∧ n ≤ 100 ∧ x.length ≤ 100 then .ok (.str (Txt.mul x n)) s else .bad
  | a, b => mulD a b s
section
variable {X : Cx} {W : WX}
theorem mulOk_s {x : Str} {n : Int} (h : 0 ≤ n ∧ n ≤ 100 ∧ x.length ≤ 100) : MulOk x n := by
  obtain ⟨h1, h2, h3⟩ := h
  refine ⟨?_, fun hn1 _ => ?_, fun _ _ => ?_⟩
  · rw [Bool.or_eq_false_iff, decide_eq_false_iff_not, decide_eq_false_iff_not]
    omega
  · have : (100 : Int) ≤ (2 ^ 63 - 1) / n := by
      rw [Int.le_ediv_iff_mul_le (by omega)]
      omega
    omega
  · have h4 : x.length * n.toNat ≤ 100 * 100 := Nat.mul_le_mul h3 (by omega)
    unfold PySem.Builtin.Str.tooLong
    rw [decide_eq_false_iff_not]
    have : (16777216 : Nat) = sizeLine := sizeLine_eq.symm
    omega
theorem op_mulA : OpR X (binaryOp .Mult) (r2I (kk X) W mulA) := by
  intro pins s σ H x y v u Q I rx ry h
  obtain ⟨F, adr, sd, σd, d1, d2, ab, r1, r2, po⟩ := h
  by_cases hc : ∃ a b, d1 = .str a ∧ d2 = .int b
  · obtain ⟨a, b, rfl, rfl⟩ := hc
    obtain rfl := (show x = .str a from r1)
    obtain rfl := (show y = .int b from r2)
    obtain ⟨t, rfl⟩ := rx
    obtain ⟨t', rfl⟩ := ry
    unfold mulA at po
    by_cases hn : 0 ≤ b ∧ b ≤ 100 ∧ a.length ≤ 100
    · simp only [hn, and_self, if_true] at po
      exact SB.mul (mulOk_s hn) fun t1 k => ⟨.str _, H, I.tok _, ⟨_, rfl⟩, Post.at ab po rfl⟩
    · simp only [hn, if_false] at po; exact po.elim
  · have po' : Post (kk X) W F adr sd σd H (mulD d1 d2 sd) Q := by
      cases d1 <;> first | exact po | (cases d2 <;> first | exact po | exact (hc ⟨_, _, rfl, rfl⟩).elim)
    exact op_mulD (W := W) pins s σ H x y v u Q I rx ry ⟨F, adr, sd, σd, d1, d2, ab, r1, r2, po'⟩
end
def listM (d : D) : M MO := fun s => match d with
  | .tup xs => .ok (.lst xs) s
  | .lst xs => .ok (.lst xs) s
  | _ => .bad
def nlist (m : M D) : M MO := bnd m listM
end Bx
namespace Bx
open PySem L2 PySem.Spec PyProof.Rows
end Bx
namespace Bx
open PySem L2 PySem.Spec PyProof.Rows
mutual
def pdT : D → Option PyData
  | .non => some .none
  | .bl b => some (.bool b)
  | .int i => some (.int i)
  | .str x => some (.str x)
  | .tup ds => (pdTL ds).map .tuple
  | .dct [] => some (.dict [])
  | _ => none
def pdTL : List D → Option (List PyData)
  | [] => some []
  | d :: ds => match pdT d, pdTL ds with
    | some a, some b => some (a :: b)
    | _, _ => none
end
def reprB (d : D) : M D := fun s => match pdT d with
  | some p => match d with
    | .tup _ => if (pd d).isSome then reprD d s else if p.showable = true ∧ p.shown.length ≤ 16000000 ∧ p.depth ≤ 60 then .ok (.str p.shown) s else .bad
    | .dct _ => if p.showable = true ∧ p.shown.length ≤ 16000000 ∧ p.depth ≤ 60 then .ok (.str p.shown) s else .bad
    | d => reprA d s
  | none => reprA d s
end Bx
namespace Bx
open PySem L2 PySem.Spec PyProof.Rows
end Bx
namespace Bx
open PySem L2 PySem.Spec PyProof.Rows
end Bx
namespace Bx
open PySem L2 PySem.Spec PyProof.Rows
end Bx
namespace Bx
open PySem L2 PySem.Spec PyProof.Rows
section
variable {X : Cx} {W : WX} {a : Expr} {ma : M D} {pos : Pos}
def ssort0 (d : D) : M D := fun s => match d with
  | .tup [] => .ok (.lst []) s
  | _ => .bad
end
end Bx
namespace Bx
open PySem L2 PySem.Spec PyProof.Rows
section
variable {X : Cx} {W : WX} {K : KK} {F F' H H' : Hp} {adr adr' : List Addr} {s s' : S} {σ σ' : L2.St} {d : D} {v : V} {e tg : Expr} {m : M D}
def keyB : Key → D
  | .inl i => .int i
  | .inr x => .str x
def keysM (d : D) : M (List D) := fun s => match d with
  | .dct kds => .ok (kds.map fun p => keyB p.1) s
  | _ => .bad
def mkeys (m : M D) : M (List D) := bnd m fun d => bnd (settle d) keysM
end
def setK (d i x : D) : S → RS := fun s => match s.mo d, keyD i with
  | some (.dct kds), some k => if kds.length < 100000 then .nx (s.mut d (.dct (putKD k x kds))) else .bad
  | _, _ => .bad
def ssubK (m o i : M D) : MS := fun s => (stl m s).toS fun x s => (o s).toS fun d s => (i s).toS fun k s => setK d k x s
end Bx
namespace Bx
open PySem L2 PySem.Spec PyProof.Rows
section
variable {X : Cx} {W : WX} {e : Expr} {m : M D} {pos : Pos}
/-- xs[::-1] of a list -/
def revL (d : D) : M D := fun s => match rsl s d with
  | .lst ds => .ok (.lst ds.reverse) s
  | _ => .bad
end
end Bx
namespace Bx
open PySem L2 PySem.Spec PyProof.Rows
mutual
def pdM : D → Option PyData
  | .non => some .none
  | .bl b => some (.bool b)
  | .int i => some (.int i)
  | .str x => some (.str x)
  | .tup ds => (pdML ds).map .tuple
  | .lst ds => (pdML ds).map .list
  | .dct [] => some (.dict [])
  | _ => none
def pdML : List D → Option (List PyData)
  | [] => some []
  | d :: ds => match pdM d, pdML ds with
    | some a, some b => some (a :: b)
    | _, _ => none
end
/-- repr of a tuple or a list of things -/
def reprM (d : D) : M D := fun s => match pdM d with
  | some p => match d with
    | .tup _ => if (pd d).isSome then reprD d s else if p.showable = true ∧ p.shown.length ≤ 16000000 ∧ p.depth ≤ 60 then .ok (.str p.shown) s else .bad
    | .dct _ => if p.showable = true ∧ p.shown.length ≤ 16000000 ∧ p.depth ≤ 60 then .ok (.str p.shown) s else .bad
    | d => reprA d s
  | none => reprA d s
end Bx
namespace Bx
open PySem L2 PySem.Spec PyProof.Rows
mutual
def keyN : D → Option NestedKey
  | .non => some .none
  | .int i => some (.num i)
  | .str x => some (.text x)
  | .tup ds => (keyNL ds).map .tup
  | _ => none
def keyNL : List D → Option (List NestedKey)
  | [] => some []
  | d :: r => match keyN d, keyNL r with
    | some k, some ks => some (k :: ks)
    | _, _ => none
end
def keyT : D → Option NestedKey
  | .tup ds => (keyNL ds).map .tup
  | _ => none
section
variable {X : Cx} {W : WX} {K : KK} {F F' H H' : Hp} {adr adr' : List Addr} {s s' : S} {σ σ' : L2.St} {d : D} {v : V}
mutual
theorem keyN_ok : ∀ (d : D) (k : NestedKey) (v : V), keyN d = some k → Rp K F adr d v → NkX K.K F k v
  | .non, _, v, h, r => by cases h; exact r
  | .int _, _, v, h, r => by cases h; exact r
  | .str _, _, v, h, r => by cases h; exact r
  | .tup ds, k, v, h, r => by
    rw [keyN, Option.map_eq_some_iff] at h
    obtain ⟨ks, h1, rfl⟩ := h
    obtain ⟨a, vs, q, sx, r1⟩ := r
    exact ⟨a, vs, q, sx, keyNL_ok ds ks vs h1 r1⟩
  | .bl _, _, _, h, _ => by cases h
  | .lst _, _, _, h, _ => by cases h
  | .dct _, _, _, h, _ => by cases h
  | .obj _ _, _, _, h, _ => by cases h
  | .ref _, _, _, h, _ => by cases h
  | .loc _, _, _, h, _ => by cases h
  | .glo _, _, _, h, _ => by cases h
  | .ty _, _, _, h, _ => by cases h
  | .scr _, _, _, h, _ => by cases h
  | .twk _, _, _, h, _ => by cases h
  | .exv _ _, _, _, h, _ => by cases h
  | .dcn _, _, _, h, _ => by cases h
theorem keyNL_ok : ∀ (ds : List D) (ks : List NestedKey) (vs : List V), keyNL ds = some ks → RpL K F adr ds vs → NkXL K.K F ks vs
  | [], _, _, h, r => by cases h; exact r
  | d :: ds, ks, vs, h, ⟨v, r, q, r1, r2⟩ => by
    rw [keyNL] at h
    cases e1 : keyN d with
    | none => rw [e1] at h; cases h
    | some k =>
      cases e2 : keyNL ds with
      | none => rw [e1, e2] at h; cases h
      | some ks' =>
        rw [e1, e2] at h
        cases h
        exact ⟨v, r, q, keyN_ok d k v e1 r1, keyNL_ok ds ks' r e2 r2⟩
end
theorem keyT_ok {k : NestedKey} (h : keyT d = some k) (r : RpV K F adr σ d v) : ∃ b, v = .ref b ∧ NkX K.K F k (.ref b) := by
  cases d <;> first | (cases h; done) | skip
  case tup ds =>
    have r' : Rp K F adr (.tup ds) v := r
    have := keyN_ok (.tup ds) k v h r'
    obtain ⟨a, vs, q, _⟩ := r'
    exact ⟨a, q, q ▸ this⟩
mutual
/-- the data of a key -/
def nkD : NestedKey → D
  | .none => .non
  | .num i => .int i
  | .text x => .str x
  | .tup ks => .tup (nkL ks)
def nkL : List NestedKey → List D
  | [] => []
  | k :: ks => nkD k :: nkL ks
end
theorem nk_weak {K : PySem.W.Frag} {H : Hp} (k : NestedKey) (v : V) (h : NkX K H k v) : NkV K H k v := NkX.weak (H' := H) k v h
def KeyedR (K : PySem.W.Frag) (H : Hp) (rows : List NRow) : Prop := ∀ r ∈ rows, NkV K H r.1 (.ref r.2.1) ∧ r.1.depth ≤ 8
theorem RpN.keyed (e : Ex F H) : ∀ {kvs : List (NestedKey × D)} {rows : List NRow}, RpN K F adr kvs rows → KeyedR K.K H rows
  | [], _, h => by cases h; exact fun r hr => absurd hr List.not_mem_nil
  | (k, d) :: kvs, _, ⟨b, v, r, q, h1, h2, h3, h4⟩ => by
    subst q
    intro z hz
    rcases List.mem_cons.mp hz with rfl | hz
    · exact ⟨nk_weak _ _ (NkX.mono e k _ h1), h2⟩
    · exact RpN.keyed e h4 z hz
theorem RpN.keys : ∀ {kvs : List (NestedKey × D)} {rows : List NRow}, RpN K F adr kvs rows → rows.map (·.1) = kvs.map (·.1)
  | [], _, h => by cases h; rfl
  | (k, d) :: kvs, _, ⟨b, v, r, q, h1, h2, h3, h4⟩ => by subst q; simp [RpN.keys h4]
/-- is it a key of it -/
def hasN (k : NestedKey) (kvs : List (NestedKey × D)) : Bool := kvs.any fun p => decide (p.1 = k)
theorem NT.keys {rows : List NRow} {xs : List (NestedKey × Addr × Value)} (r : NT rows xs) : xs.map (·.1) = rows.map (·.1) := by
  unfold NT at r
  induction r with
  | nil => rfl
  | cons h t ih => rw [List.map_cons, List.map_cons, ih, h.1]
theorem atKey_any (k : NestedKey) (xs : List (NestedKey × Addr × Value)) : (atKey xs k).isSome = (xs.map (·.1)).any fun j => decide (j = k) := by
  unfold atKey
  rw [Option.isSome_map, Bool.eq_iff_iff, List.find?_isSome, List.any_map, List.any_eq_true]
  rfl
theorem has_at {k : NestedKey} {kvs : List (NestedKey × D)} {rows : List NRow} {xs : List (NestedKey × Addr × Value)} (h : RpN K F adr kvs rows) (r : NT rows xs) : (atKey xs k).isSome = hasN k kvs := by
  rw [atKey_any, r.keys, h.keys, List.any_map]
  rfl
end
section
variable {X : Cx} {pins : List (Addr × Obj)} {σ : L2.St} {H : Hp} {s : Shared} {a b : Addr} {k : NestedKey} {rows : List NRow} {A : Around} {E : Value → Shared → Prop} {v : V} {u : Value}
theorem dn_of (I : Inv X pins σ H s) (e : Rx H a (DictN X.prog X.w a rows)) (hk : KeyedR X.K H rows) : rows.length ≤ sizeLine ∧ (a == sysModules) = false ∧ ∃ xs, NT rows xs ∧ s.heap.DictOfH (nestedKind X.prog X.w) a xs := by
  have ok : ObjOk X.prog X.w H s.heap a (DictN X.prog X.w a rows) := by
    rcases e with e | ⟨_, o, e⟩
    · exact I.hok a _ e
    · exact (show ObjOk X.prog X.w H s.heap a (.frz o (DictN X.prog X.w a rows)) from I.hok a _ e).2
  obtain ⟨⟨z, y, xs, r, o, es, ep, h1, h2, h3, h4, h5⟩, _⟩ := ok
  refine ⟨z, y, xs, r, o, es, ep, h1, h2, h3, h4, fun x hx => ?_, h5⟩
  have all : ∀ {l : List NRow} {m : List (NestedKey × Addr × Value)}, NT l m → KeyedR X.K H l → ∀ x ∈ m, (nestedKind X.prog X.w).is s.heap x.1 x.2.1 := by
    intro l m q
    unfold NT at q
    induction q with
    | nil => intro _ x hx; exact nomatch hx
    | @cons p q ps qs hq t ih =>
      intro hk x hx
      rcases List.mem_cons.mp hx with e | hx
      · subst e
        have := hk p (by simp)
        rw [hq.1, hq.2.1] at this
        exact ⟨nk_is I _ _ _ this.1 rfl, this.2⟩
      · exact ih (fun r hr => hk r (by simp [hr])) x hx
  exact all r hk x hx
theorem room8 (hu : A.units + 64 < cLine) : (nestedKind X.prog X.w).room A.in1 := by
  show A.in1.units + 8 < cLine
  have : A.in1.units ≤ A.units + 1 := Nat.le_refl _
  omega
theorem dn_in {Q : Value → Shared → Prop} (hu : A.units + 64 < cLine) (I : Inv X pins σ H s) (e : Rx H a (DictN X.prog X.w a rows)) (hr : KeyedR X.K H rows) (hk : NkV X.K H k (.ref b)) (hd : k.depth ≤ 8) (h : ∀ xs s', NT rows xs → Inv X pins σ H s' → Q (.bool (atKey xs k).isSome) s') :
    wpAny (model X.prog X.w) A (compareOp .In (.ref b) (.ref a)) Q E s := by
  obtain ⟨z, hs, xs, rel, dd⟩ := dn_of I e hr
  exact wpAny_in_heap (room8 hu) ⟨nk_is I _ _ _ hk rfl, hd⟩ hs dd (h xs _ rel (I.tok _))
end
section
variable {X : Cx} {W : WX} {K : KK} {F F' H H' : Hp} {adr adr' : List Addr} {s s' : S} {σ σ' : L2.St} {d : D} {v : V} {e o i a b : Expr} {m mo mi : M D} {pos tpos : Pos}
/-- a new dict without keys -/
def ndcn : M MO := pur (.dcn [])
def inN (neg : Bool) : D → D → M D := fun x y s => match rsl s y, keyT x with
  | .dcn kds, some k => if k.depth ≤ 8 then .ok (.bl (if neg then !hasN k kds else hasN k kds)) s else .bad
  | _, _ => .bad
theorem inN_fin {neg : Bool} {x y : V} {Q : VK} (h : r2I (kk X) W (inN neg) x y H Q) : ∃ a b k rows, y = .ref a ∧ x = .ref b ∧ Rx H a (DictN X.prog X.w a rows) ∧ KeyedR X.K H rows ∧ NkV X.K H k (.ref b) ∧ k.depth ≤ 8 ∧ ∀ xs, NT rows xs → Q (.bl (if neg then !(atKey xs k).isSome else (atKey xs k).isSome)) H := by
  obtain ⟨F, adr, s, σ, d1, d2, ab, r1, r2, po⟩ := h
  have t := ab.t r2
  unfold inN at po
  cases e1 : rsl s d2 <;> simp only [e1] at po <;> try (exact po.elim)
  rename_i kds
  rw [e1] at t
  obtain ⟨a, rows, rfl, h1, hr⟩ := t
  cases e2 : keyT d1 with
  | none => rw [e2] at po; exact po.elim
  | some k =>
    rw [e2] at po
    simp only at po
    by_cases hd : k.depth ≤ 8
    · rw [if_pos hd] at po
      obtain ⟨b, rfl, hk⟩ := keyT_ok e2 r1
      refine ⟨a, b, k, rows, rfl, rfl, h1, hr.keyed ab.sub, nk_weak _ _ (NkX.mono ab.sub k _ hk), hd, fun xs hx => ?_⟩
      rw [has_at hr hx]
      exact Post.at ab po rfl
    · rw [if_neg hd] at po
      exact po.elim
theorem op_inN (hu : X.A.units + 64 < cLine) : OpR X (compareOp .In) (r2I (kk X) W (inN false)) := fun pins s σ H x y v u Q I rx ry h => by
  obtain ⟨a, b, k, rows, rfl, rfl, h1, h2, h3, h4, q⟩ := inN_fin h
  cases rx
  cases ry
  exact dn_in hu I h1 h2 h3 h4 fun xs s3 hx I3 => ⟨.bl (atKey xs k).isSome, H, I3, rfl, q xs hx⟩
def setN (d i x : D) : S → RS := fun s => match s.mo d, keyT i with
  | some (.dcn kds), some k => if k.depth ≤ 8 ∧ hasN k kds = false ∧ kds.length < 100000 then .nx (s.mut d (.dcn (kds ++ [(k, x)]))) else .bad
  | _, _ => .bad
def ssubN (m o i : M D) : MS := fun s => (stl m s).toS fun x s => (o s).toS fun d s => (i s).toS fun k s => setN d k x s
theorem RpN.length : ∀ {kvs : List (NestedKey × D)} {rows : List NRow}, RpN K F adr kvs rows → rows.length = kvs.length := fun h => by
  have := congrArg List.length h.keys
  simpa using this
section
variable {tg : Expr}
theorem RpN.at_ : ∀ {kvs : List (NestedKey × D)} {rows : List NRow} {i : Nat} {k : NestedKey} {d : D}, RpN K F adr kvs rows → kvs[i]? = some (k, d) → ∃ q v, rows[i]? = some (k, q, v) ∧ NkX K.K F k (.ref q)
  | [], _, _, _, _, _, h => by simp at h
  | (k0, d0) :: kvs, _, 0, k, d, ⟨b, v, r, q, h1, h2, h3, h4⟩, h => by
    subst q
    simp only [List.getElem?_cons_zero, Option.some.injEq] at h
    cases h
    exact ⟨b, v, rfl, h1⟩
  | (k0, d0) :: kvs, _, i + 1, k, d, ⟨b, v, r, q, h1, h2, h3, h4⟩, h => by
    subst q
    obtain ⟨q', v', e1, e2⟩ := RpN.at_ (i := i) h4 (by simpa using h)
    exact ⟨q', v', by simpa using e1, e2⟩
def keysNM (d : D) : M (List D) := fun s => match d with
  | .dcn kds => .ok (kds.map fun p => nkD p.1) s
  | _ => .bad
def mkeysN (m : M D) : M (List D) := bnd m fun d => bnd (settle d) keysNM
end
end
end Bx
namespace Bx
open PySem L2 PySem.Spec PyProof.Rows
def intsD : List D → Option (List Int)
  | [] => some []
  | .int n :: r => (intsD r).map (n :: ·)
  | _ :: _ => none
@[simp] theorem intsD_ints : ∀ (ns : List Int), intsD (ns.map D.int) = some ns
  | [] => rfl
  | n :: r => by show (intsD (r.map D.int)).map (n :: ·) = _; rw [intsD_ints r]; rfl
end Bx
namespace Bx
open PySem L2 PySem.Spec PyProof.Rows
section
variable {X : Cx} {W : WX} {o e : Expr} {m ma : M D} {pos apos : Pos}
def popD (d i : D) : M D := fun s => match s.mo d, i with
  | some (.lst xs), .int k => if 0 ≤ k ∧ k < 100000 then (match xs[k.toNat]? with
    | some y => .ok y (s.mut d (.lst (xs.eraseIdx k.toNat)))
    | none => .bad) else .bad
  | _, _ => .bad
def mpop (m a : M D) : M D := bnd m fun d => bnd (chk isL d) fun d => bnd (mal [a]) (on1 (popD d))
theorem RpL.erase {K : KK} {F : Hp} {adr : List Addr} : ∀ {ds : List D} {vs : List V} (n : Nat), RpL K F adr ds vs → RpL K F adr (ds.eraseIdx n) (vs.eraseIdx n)
  | [], _, n, h => by
    have e : _ = [] := h
    subst e
    exact h
  | d :: ds, _, 0, ⟨v, r, q, h1, h2⟩ => by
    subst q
    exact h2
  | d :: ds, _, n + 1, ⟨v, r, q, h1, h2⟩ => by
    subst q
    exact ⟨v, _, rfl, h1, RpL.erase n h2⟩
end
end Bx
namespace Bx
open PySem L2 PySem.Spec PyProof.Rows
section
variable {X : Cx} {W : WX} {K : KK} {F F' H H' : Hp} {adr adr' : List Addr} {s s' : S} {σ σ' : L2.St} {d : D} {v : V} {o i a b e : Expr} {m ma mb mo mi : M D} {pos apos cpos : Pos}
def naddM (x y : D) : M MO := fun s => match rsl s x, rsl s y with
  | .lst xs, .lst ys => if xs.length + ys.length ≤ 100000 then .ok (.lst (xs ++ ys)) s else .bad
  | _, _ => .bad
def naddL (a b : M D) : M MO := bnd a fun x => bnd b fun y => naddM x y
def orVK (b : M D) (d : D) : M D := fun s => match truthD s d with
  | some true => .ok d s
  | some false => b s
  | none => .bad
def orV (a b : M D) : M D := bnd a (orVK b)
theorem se_orV {rest : List Expr} (ha : SE X W a ma) (hb : SE X W (.BoolOp .Or (b :: rest) pos) mb) : SE X W (.BoolOp .Or (a :: b :: rest) pos) (orV ma mb) := PE.imp (pe_orT ha hb) fun σ H Q t => by
  obtain ⟨F, adr, s, ab, po⟩ := t
  refine ⟨F, adr, s, ab, (PostG.bind po).imp ?_⟩
  rintro x H1 ⟨F1, adr1, d1, s1, st1, ab1, rp1, po1⟩
  unfold orVK at po1
  cases e : truthD s1 d1 with
  | none => simp only [e] at po1; exact po1.elim
  | some k =>
    simp only [e] at po1
    refine ⟨k, truth_ok ab1 rp1 e, ?_⟩
    cases k with
    | true => exact po1 x F1 adr1 H1 .refl ab1 rp1
    | false => exact ⟨F1, adr1, s1, ab1, po1⟩
def isDct (s : S) (d : D) : Bool := match s.mo d with
  | some (.dct _) => true
  | _ => false
def dropD (k : Key) (kds : List (Key × D)) : List (Key × D) := kds.filter fun kv => decide (kv.1 ≠ k)
def dpopD (d i : D) : M D := fun s => match s.mo d, keyD i with
  | some (.dct kds), some k => match lookK k kds with
    | some x => .ok x (s.mut d (.dct (dropD k kds)))
    | none => .bad
  | _, _ => .bad
def mdpop (m a : M D) : M D := bnd m fun d => bnd (chk isDct d) fun d => bnd a fun i => dpopD d i
theorem RpK.drop {k : Key} : ∀ {ds : List (Key × D)} {kvs : List (Key × V)}, RpK K F adr ds kvs → RpK K F adr (dropD k ds) (dropK kvs k)
  | [], _, h => by cases h; exact rfl
  | (j, d0) :: ds, _, ⟨v, r, q, h1, h2⟩ => by
    subst q
    have ih := RpK.drop (k := k) h2
    unfold dropD dropK at ih ⊢
    rw [List.filter_cons, List.filter_cons]
    by_cases e : j = k
    · simp only [e, ne_eq, not_true, decide_false, Bool.false_eq_true, if_false]
      exact ih
    · simp only [e, ne_eq, not_false_eq_true, decide_true, if_true]
      exact ⟨v, _, rfl, h1, ih⟩
end
end Bx
namespace Bx
open PySem L2 PySem.Spec PyProof.Rows
end Bx
namespace Bx
open PySem L2 PySem.Spec PyProof.Rows
section
variable {X : Cx} {W : WX} {K : KK} {F F' H H' : Hp} {adr adr' : List Addr} {s s' : S} {σ σ' : L2.St} {d : D} {v : V} {o i a b c e : Expr} {m ma mb mo mi : M D} {pos apos cpos : Pos}
theorem Abs.free {mo : MO} (ab : Abs K F adr s σ H) (r : RpV K F adr σ d v) (h : s.mo d = some mo) : ∃ a, v = .ref a ∧ F a = none := by
  cases d <;> first | (cases h; done) | skip
  case ref i =>
    obtain ⟨a, q, rfl⟩ := r
    obtain ⟨h1, _⟩ := ab.sto i a mo q h
    exact ⟨a, rfl, h1⟩
  case loc j =>
    have r' : σ[j]? = some (some v) := r
    have h' : s.ρ[j]? = some (.own mo) := by
      cases e : s.ρ[j]? with
      | none => simp only [S.mo, e] at h; cases h
      | some sl =>
        cases sl with
        | no => simp only [S.mo, e] at h; cases h
        | val d1 => simp only [S.mo, e] at h; cases h
        | own m1 => simp only [S.mo, e] at h; rw [Option.some.inj h]
    obtain ⟨l, u, y1, y2, _⟩ := ab.slo j mo h'
    rw [r'] at y1
    cases y1
    exact ⟨l, rfl, y2⟩
def remOk (p : PyData) (ps : List PyData) : Bool := p.plain && PyData.plainAll ps && decide (p.depth ≤ 60)
def remD (d x : D) : M D := fun s => match s.mo d, pd x with
  | some (.lst xs), some p => match pdL xs with
    | some ps => if remOk p ps then (match SeqAt.dataPlace ps p with
      | some j => .ok .non (s.mut d (.lst (xs.eraseIdx j)))
      | none => .bad) else .bad
    | none => .bad
  | _, _ => .bad
def mrem (m a : M D) : M D := bnd m fun d => bnd (chk isL d) fun d => bnd (mal [a]) (on1 (remD d))
end
end Bx
namespace Bx
open PySem L2 PySem.Spec PyProof.Rows
section
variable {prog : Program} {w : World} {A : Around} {E : Value → Shared → Prop} {s : Shared} {K : PySem.W.Frag} {x C f : Addr} {ox : Obj} {od : Option Obj}
open PySem.W Builtin in
theorem klo_len {Q : Value → Shared → Prop} (X : K.In s.heap) (I : PySem.W.InstAt s.heap x ox C od) (hs : findIn K (.ref C) "__len__" = some (some (.ref f))) (hf : isFn K (.ref f) = true)
    (h : wpAny (model prog w) A.in1 (call (.ref f) [.ref x]) (fun r s' => ∃ n t, r = .int n t ∧ 0 ≤ n ∧ n < 2 ^ 63 ∧ Q (.int n s'.toks) { s' with toks := s'.toks + 1 }) E s) : wpAny (model prog w) A (call (.builtin "len") [.ref x]) Q E s := by
  refine Calls.call_function_entry kind_len plain_len entry_len (args_len1 _) ?_
  unfold Builtin.«len»
  refine wpAny_bind (m := oneArg "len" _) (wpAny_pure ?_)
  refine wpAny_bind (m := callSpecial? (.ref x) (PySem.Str.ofString "__len__")) (special_fn X I hs (beq_iff_eq.mp hf) (wpAny_mono h (fun r s' hr => ?_) fun _ _ y => y))
  obtain ⟨n, t, rfl, h0, h1, hq⟩ := hr
  refine wpAny_bind (wpAny_holding (wpAny_pure ?_))
  refine wpAny_bind (wpAny_letGo ?_)
  show wpAny _ _ (if n < 0 then _ else _) _ _ _
  rw [if_neg (by omega)]
  show wpAny _ _ (if n ≥ 2 ^ 63 then _ else _) _ _ _
  rw [if_neg (by omega)]
  exact wpAny_bind (wpAny_mkInt (wpAny_pure ⟨_, rfl, hq⟩))
end
def lenO (cn : Str) (den : Den) (d : D) : M D := fun s => match d with
  | .obj c fs => if c = cn then (match den [.obj c fs] s.μ with
    | .ok (.int n) μ' => if 0 ≤ n ∧ n < 1000000 then .ok (.int n) { s with μ := μ' } else .bad
    | _ => .bad) else .bad
  | d => lenD d s
section
variable {X : Cx} {W : WX} {k : Nat} {f : Addr} {fd : FuncData} {ps : List Str} {den : Den} {cn : Str}
theorem cr_lenO (G : FnG X.prog X.w X.K X.mg X.base k f fd ps (spD (kk X) ps.length den)) (hs : PySem.W.findIn X.K (.ref (He.ga X.K cn)) "__len__" = some (some (.ref f))) (hf : PySem.W.isFn X.K (.ref f) = true)
    (hb : Binds X.K fd ps []) (hp : ps.length = 1) (hr : Room (k + 2) X.A) (hgd : X.A.guards = some []) : CallR X (.builtin "len") (rCI (kk X) W (f1 (lenO cn den))) := by
  intro pins s σ H xs us Q I rs hq
  obtain ⟨x, rfl, F, adr, sd, σd, d1, ab, r1, po⟩ := f1_of hq
  by_cases ho : ∃ c fs, d1 = .obj c fs
  · obtain ⟨c, fs, rfl⟩ := ho
    unfold lenO at po
    by_cases hc : c = cn
    · subst hc
      simp only [if_true] at po
      cases rs with
      | cons rx rr =>
        cases rr
        obtain ⟨a, dx, fv, rfl, ha, rfa⟩ := id r1
        cases rx
        have haH : H a = some (.ins (He.ga X.K c) dx fv) := ex_i ab.sub (fun z : lockable (.ins _ _ _) => z) ha
        obtain ⟨mA, J, _⟩ := ins_get I.hok haH
        obtain ⟨od, J, _⟩ := J.look
        have hr2 : Room k X.A.in1 := (hr.mono (Nat.le_succ _)).in1
        refine klo_len I.kIn J hs hf ?_
        cases e : den [.obj c fs] sd.μ with
        | bad => simp only [e] at po; exact po.elim
        | exc _ _ => simp only [e] at po; exact po.elim
        | ok d μ' =>
          simp only [e] at po
          cases d <;> try (exact po.elim)
          rename_i r
          by_cases hl : 0 ≤ r ∧ r < 1000000
          · simp only [hl, and_self, if_true] at po
            have hsp : spD (kk X) ps.length den [.ref a] H (fun z H' => z = .int r ∧ Q (.int r) H') (fun _ _ _ => False) := by
              refine ⟨F, adr, sd.μ, [.obj c fs], ab.toAbsH, ⟨_, _, rfl, r1, rfl⟩, by rw [hp]; rfl, ?_⟩
              rw [e]
              intro z F' adr' H' st ah rp
              have ez : z = .int r := rp
              subst ez
              exact ⟨rfl, po _ F' adr' H' (ab.after st ah).1 (ab.after st ah).2 rfl⟩
            refine wpAny_call (codeAny_mono (G.run X.A.in1 X.stack s H ⟨[.ref a], []⟩ [.ref a] [.ref a] _ (fun _ _ _ => False) hr2 hgd I.env0.in1 (by
              have := hb s [.ref a] I.kIn (by simpa using hp.symm)
              simpa using this) (.cons rfl .nil) hsp) fun r' s' hq => ?_)
            cases r' with
            | error er => exact takesF er s' (XE.of_call I (fun _ _ _ h => h) hq)
            | ok fl =>
              cases fl with
              | ret w =>
                obtain ⟨z, H', I', rz, ez, q⟩ := I.after hq
                subst ez
                obtain ⟨t, rfl⟩ := rz
                exact ⟨r, t, rfl, hl.1, by omega, .int r, H', I'.tok _, ⟨_, rfl⟩, q⟩
              | next => exact hq.elim
              | brk => exact hq.elim
              | cont => exact hq.elim
          · simp only [hl, if_false] at po; exact po.elim
    · simp only [hc, if_false] at po; exact po.elim
  · have po' : Post (kk X) W F adr sd σd H (lenD d1 sd) Q := by
      cases d1 <;> first | exact po | (exact (ho ⟨_, _, rfl⟩).elim)
    exact cr_len (W := W) pins s σ H [x] us Q I rs ⟨F, adr, sd, σd, [d1], ab, ⟨x, [], rfl, r1, rfl⟩, po'⟩
end
end Bx
namespace Bx
open PySem L2 PySem.Spec PyProof.Rows
theorem nodup_len {α : Type} [DecidableEq α] : ∀ {ks l : List α}, ks.Nodup → (∀ k ∈ ks, k ∈ l) → ks.length ≤ l.length
  | [], l, _, _ => Nat.zero_le _
  | k :: ks, l, hn, hs => by
    have hk : k ∈ l := hs k (List.mem_cons_self ..)
    have h1 := List.nodup_cons.mp hn
    have h2 := nodup_len (l := l.erase k) h1.2 fun j hj => (List.mem_erase_of_ne (by rintro rfl; exact h1.1 hj)).mpr (hs j (List.mem_cons_of_mem _ hj))
    rw [List.length_erase_of_mem hk] at h2
    have := List.length_pos_of_mem hk
    rw [List.length_cons]
    omega
section
variable {X : Cx}
def eraseK (ks : List Key) (k : Key) : List Key := ks.filter fun j => decide (j ≠ k)
variable {o e : Expr} {es : List Expr} {to : TE} {t : TA} {apos cpos : Pos}
end
section
variable {X : Cx} {W : WX} {K : KK} {F F' H H' : Hp} {adr adr' : List Addr} {s s' : S} {σ σ' : L2.St} {d : D} {v : V} {e a b c tg o i iter : Expr} {es ts : List Expr} {m ma mb mc mo mi : M D} {ms : List (M D)} {pos apos : Pos} {E : Ends}
def discD (d x : D) : M D := fun s => match s.mo d, keyD x with
  | some (.set ks), some k => if ks.Nodup then .ok .non (s.mut d (.set (eraseK ks k))) else .bad
  | _, _ => .bad
def msdisc (m a : M D) : M D := bnd m fun d => bnd (chk isSet d) fun d => bnd (mal [a]) (on1 (discD d))
def ksetM : List D → M MO := fun ds s => match keysD ds with
  | some ks => if ks.length ≤ 4000 then .ok (.set (uniq ks)) s else .bad
  | none => .bad
def nsetM (d : D) : M MO := fun s => match rsl s d with
  | .lst ds => ksetM ds s
  | .tup ds => ksetM ds s
  | _ => .bad
def nsetK (m : M D) : M MO := bnd m nsetM
end
end Bx
namespace Bx
open PySem L2 PySem.Spec PyProof.Rows
section
variable {X : Cx} {W : WX} {K : KK} {F F' H H' : Hp} {adr adr' : List Addr} {s s' : S} {σ σ' : L2.St} {d : D} {v : V} {e a b c tg tg1 o iter iter1 kx vx : Expr} {es : List Expr} {m ma mb mc : M D} {ms : List (M D)} {pos apos : Pos} {E : Ends}
def dcin (vs : List Nat) (asg : D → MS) (t : M Bool) (ek ev : M D) : List D → List (Key × D) → S → R (List (Key × D))
  | [], acc, s => .ok acc s
  | d :: r, acc, s => match asg d s with
    | .nx s1 => match t s1 with
      | .ok true s2 => match ek s2 with
        | .ok kd s3 => match keyD kd with
          | some k => match stl ev s3 with
            | .ok y s4 => if acc.length < 100000 then dcin vs asg t ek ev r (putKD k y acc) (wipeS vs s4) else .bad
            | _ => .bad
          | none => .bad
        | _ => .bad
      | .ok false s2 => dcin vs asg t ek ev r acc (wipeS vs s2)
      | _ => .bad
    | _ => .bad
def dcout (vs vs1 : List Nat) (asg : D → MS) (t : M Bool) (it1 : M (List D)) (asg1 : D → MS) (t1 : M Bool) (ek ev : M D) : List D → List (Key × D) → S → R D
  | [], acc, s => .ok (.dct acc) (wipeS vs s)
  | d :: r, acc, s => match asg d s with
    | .nx s1 => match t s1 with
      | .ok true s2 => match it1 s2 with
        | .ok items s3 => match dcin vs1 asg1 t1 ek ev items acc (wipeS vs1 s3) with
          | .ok acc s4 => dcout vs vs1 asg t it1 asg1 t1 ek ev r acc (wipeS vs s4)
          | _ => .bad
        | _ => .bad
      | .ok false s2 => dcout vs vs1 asg t it1 asg1 t1 ek ev r acc (wipeS vs s2)
      | _ => .bad
    | _ => .bad
def mdcomp2 (vs vs1 : List Nat) (it : M (List D)) (asg : D → MS) (t : M Bool) (it1 : M (List D)) (asg1 : D → MS) (t1 : M Bool) (ek ev : M D) : M D := bnd it fun items s => dcout vs vs1 asg t it1 asg1 t1 ek ev items [] (wipeS vs s)
/-- what holds of the list under way -/
structure WayD (K : KK) (F1 : Hp) (adr1 : List Addr) (s1 : S) (σ : L2.St) (H1 : Hp) (p : Addr) (F' : Hp) (adr' : List Addr) (s' : S) (σ' : L2.St) (H' : Hp) (acc : List (Key × D)) (av : List (Key × V)) : Prop where
  st : Step F1 adr1 (Fp adr1 s1 σ) H1 F' adr' (Fp adr' s' σ') H'
  ab : Abs K F' adr' s' σ' H'
  fp : F' p = none
  np : ¬ Fp adr' s' σ' p
  hp : H' p = some (.dK av)
  rp : RpK K F' adr' acc av
theorem WayD.step {F1 F2 F3 H1 H2 H3 : Hp} {adr1 adr2 adr3 : List Addr} {s1 s2 s3 : S} {σ2 σ3 : L2.St} {p : Addr} {acc : List (Key × D)} {av : List (Key × V)} (w : WayD K F1 adr1 s1 σ H1 p F2 adr2 s2 σ2 H2 acc av) (st : Step F2 adr2 (Fp adr2 s2 σ2) H2 F3 adr3 (Fp adr3 s3 σ3) H3) (ab : Abs K F3 adr3 s3 σ3 H3) :
    WayD K F1 adr1 s1 σ H1 p F3 adr3 s3 σ3 H3 acc av := by
  obtain ⟨f, n, h⟩ := keep_fresh st w.fp w.np w.hp
  exact ⟨w.st.trans st, ab, f, n, h, w.rp.mono st.ex st.pre⟩
theorem WayD.wipe {F1 F2 H1 H2 : Hp} {adr1 adr2 : List Addr} {s1 s2 : S} {σ2 σ3 : L2.St} {p : Addr} {acc : List (Key × D)} {av : List (Key × V)} {vs : List Nat} (w : WayD K F1 adr1 s1 σ H1 p F2 adr2 s2 σ2 H2 acc av) (hl : σ3.length = σ2.length) (hσ : ∀ i : Nat, i ∉ vs → σ3[i]? = σ2[i]?) :
    WayD K F1 adr1 s1 σ H1 p F2 adr2 (wipeS vs s2) σ3 H2 acc av := by
  obtain ⟨y1, y2⟩ := w.ab.wiped (vs := vs) (σ2 := σ3) hl hσ
  exact ⟨Step.less w.st y1, y2, w.fp, fun z => w.np (y1 _ z), w.hp, w.rp⟩
theorem WayD.add {F1 F2 H1 H2 : Hp} {adr1 adr2 : List Addr} {s1 s2 : S} {σ2 : L2.St} {p : Addr} {acc : List (Key × D)} {av : List (Key × V)} {k : Key} (w : WayD K F1 adr1 s1 σ H1 p F2 adr2 s2 σ2 H2 acc av) (hp : H1 p = none) (r : Rp K F2 adr2 d v) :
    WayD K F1 adr1 s1 σ H1 p F2 adr2 s2 σ2 (upd H2 p (.dK (putK av k v))) (putKD k d acc) (putK av k v) := ⟨w.st.wrNew hp, w.ab.wrFresh w.fp w.np, w.fp, w.np, upd_same, w.rp.put r⟩
end
end Bx
namespace Bx
open PySem L2 PySem.Spec PyProof.Rows
section
variable {X : Cx} {W : WX} {K : KK} {F F' H H' : Hp} {adr adr' : List Addr} {s s' : S} {σ σ' : L2.St} {d : D} {v : V} {e a b c tg o iter elt : Expr} {es : List Expr} {m ma mb mc : M D} {ms : List (M D)} {pos apos : Pos} {E : Ends}
def ncv : R D → R MO
  | .ok (.lst xs) s => .ok (.lst xs) s
  | .exc x s => .exc x s
  | _ => .bad
def ncomp (vs : List Nat) (it : M (List D)) (asg : D → MS) (t : M Bool) (el : M D) : M MO := bnd it fun items s => ncv (cloop vs asg t el items [] (wipeS vs s))
end
end Bx
namespace Bx
open PySem L2 PySem.Spec PyProof.Rows
section
variable {X : Cx} {W : WX} {K : KK} {F F' H H' : Hp} {adr adr' : List Addr} {s s' : S} {σ σ' : L2.St} {d : D} {v : V} {e a b c tg o iter elt : Expr} {es : List Expr} {m ma mb mc : M D} {ms : List (M D)} {pos apos : Pos} {E : Ends}
def itsO (j : Nat) : M (List D) := fun s => match s.ρ[j]? with
  | some (.own (.lst xs)) => .ok xs s
  | _ => .bad
def cloopO (j : Nat) (vs : List Nat) (asg : D → MS) (t : M Bool) (el : M D) : Nat → Nat → List D → S → R D
  | 0, _, _, _ => .bad
  | n + 1, i, acc, s => match s.ρ[j]? with
    | some (.own (.lst xs)) => match xs[i]? with
      | none => .ok (.lst acc) (wipeS vs s)
      | some d => match asg d s with
        | .nx s1 => match t s1 with
          | .ok true s2 => match stl el s2 with
            | .ok y s3 => if acc.length < 100000 then cloopO j vs asg t el n (i + 1) (acc ++ [y]) (wipeS vs s3) else .bad
            | _ => .bad
          | .ok false s2 => cloopO j vs asg t el n (i + 1) acc (wipeS vs s2)
          | _ => .bad
        | _ => .bad
    | _ => .bad
def mcompO (j : Nat) (vs : List Nat) (asg : D → MS) (t : M Bool) (el : M D) : M D := bnd (itsO j) fun _ s => cloopO j vs asg t el 100001 0 [] (wipeS vs s)
end
end Bx
namespace Bx
open PySem L2 PySem.Spec PyProof.Rows
def txtOf (e : Int × Value) : Str := match e.2 with | .str x _ => x | _ => Str.empty
def GoodT (w : World) (e : Int × Value) : Prop := ∃ x tk, e.2 = Value.str x tk ∧ e.1 = hashStr w x
/-- the set of texts at a, its table's places rising -/
def SetT (w : World) (h : Heap) (a : Addr) (S : Str → Bool) (n : Nat) : Prop :=
  ∃ o es ep t, h.get? a = some o ∧ o.ExactSet ∧ o.data = .set es ep t ∧ (∀ e ∈ es.toList, GoodT w e) ∧ (es.toList.map txtOf).Nodup ∧ (∀ k, S k = true ↔ k ∈ es.toList.map txtOf) ∧
    es.size < scanBound ∧ t.fits es.size = true ∧ es.size = n ∧ Ris t.place.toList ∧ (w.params.followText "set-order" = true ∨ t.led = true)
section
variable {P : Program} {w : World} {h h' : Heap} {a : Addr} {S : Str → Bool} {n : Nat}
theorem SetT.at (R : SetT w h a S n) (k : ∀ o, h.get? a = some o → h'.get? a = some o) : SetT w h' a S n := by
  obtain ⟨o, es, ep, t, ho, r⟩ := R
  exact ⟨o, es, ep, t, k o ho, r⟩
end
/-- each once, the last of each -/
def onceT : List Str → List Str
  | [] => []
  | x :: r => if x ∈ onceT r then onceT r else x :: onceT r
def txsD : List D → Option (List Str)
  | [] => some []
  | .str x :: r => (txsD r).map (x :: ·)
  | _ :: _ => none
@[simp] theorem txsD_strs : ∀ (xs : List Str), txsD (xs.map D.str) = some xs
  | [] => rfl
  | x :: r => by show (txsD (r.map D.str)).map (x :: ·) = _; rw [txsD_strs r]; rfl
section
variable {X : Cx} {W : WX} {a b : Expr} {ma mb : M D} {pos : Pos}
def ssortT (d : D) : M D := fun s => match rsl s d with
  | .tup ds => match txsD ds with
    | some xs => if xs.length < 64 then .ok (.lst ((sortS (onceT xs)).map .str)) s else .bad
    | none => .bad
  | _ => .bad
@[simp] theorem ssortT_strs {xs : List Str} {s : S} (h : xs.length < 64) : ssortT (.tup (xs.map .str)) s = .ok (.lst ((sortS (onceT xs)).map .str)) s := by
  unfold ssortT
  simp [rsl, h]
end
end Bx
namespace Bx
open PySem L2 PySem.Spec PyProof.Rows
section
variable {X : Cx} {body : List Stmt} {h₀ : ExceptHandler} {handlers : List ExceptHandler} {pos : Pos} {tb : TS}
def sNoX (mb : MS) : MS := fun s => noX (mb s)
end
end Bx
namespace Bx
open PySem L2 PySem.Spec PyProof.Rows
section
variable {X : Cx} {W : WX} {K : KK} {F F' H H' : Hp} {adr adr' : List Addr} {s s' : S} {σ σ' : L2.St} {d : D} {v : V} {e a b c tg : Expr} {es : List Expr} {m ma mb mc : M D} {ms : List (M D)} {pos : Pos} {E : Ends}
def enumK (k0 : Nat) (d : D) : M (List D) := fun s => match d with
  | .lst xs => .ok (nums k0 xs) s
  | _ => .bad
def menumK (k0 : Nat) (m : M D) : M (List D) := bnd (mal [m]) fun ds => enumK k0 (ds.headD .non)
end
end Bx
namespace Bx
open PySem L2 PySem.Spec PyProof.Rows
end Bx
namespace Bx
open PySem L2 PySem.Spec PyProof.Rows
end Bx
namespace Bx
open PySem L2 PySem.Spec PyProof.Rows
end Bx
namespace Bx
open PySem L2 PySem.Spec PyProof.Rows
section
variable {X : Cx} {W : WX} {K : KK} {F F' H H' : Hp} {adr adr' : List Addr} {s s' : S} {σ σ' : L2.St} {d : D} {v : V} {e o : Expr} {es : List Expr} {m : M D} {ms : List (M D)} {pos apos c0 c1 cp : Pos} {y z c : Str} {j k : Nat}
theorem PET.imp {t t' : TE} (h : PET X e t) (q : ∀ σ H Q, t' σ H Q → t σ H Q) : PET X e t' := fun pins s σ H Q h0 I w => h pins s σ H Q h0 I (q σ H Q w)
theorem PAT.imp {t t' : TA} (h : PAT X es t) (q : ∀ σ H Q, t' σ H Q → t σ H Q) : PAT X es t' := fun pos pins s σ H Q h0 I w => h pos pins s σ H Q h0 I (q σ H Q w)
end
end Bx
namespace Bx
open PySem L2 PySem.Spec PyProof.Rows
def dctM (d : D) : M MO := fun s => match d with
  | .dct kds => .ok (.dct kds) s
  | _ => .bad
def ndcopy (m : M D) : M MO := bnd m dctM
end Bx
namespace Bx
open PySem L2 PySem.Spec PyProof.Rows PySem.SeqAt
open AutoSeq1 (wpAny_loadPart')
open MeetsSeq
end Bx
namespace Bx
open PySem L2 PySem.Spec PyProof.Rows PySem.SeqAt
open AutoSeq1 (wpAny_loadPart')
open MeetsSeq
/-- things of the plain kinds -/
def plK : D → Option String
  | .non => some "NoneType"
  | .bl _ => some "bool"
  | .int _ => some "int"
  | .str _ => some "str"
  | .tup _ => some "tuple"
  | .lst _ => some "list"
  | .dct _ => some "dict"
  | _ => none
section
variable {X : Cx} {W : WX} {K : KK} {F F' H H' : Hp} {adr adr' : List Addr} {s s' : S} {σ σ' : L2.St} {d : D} {v : V}
theorem RpV.rp {n : String} (h : plK d = some n) (r : RpV K F adr σ d v) : Rp K F adr d v := by
  cases d <;> first | (cases h; done) | exact r
end
end Bx
namespace Bx
open PySem L2 PySem.Spec PyProof.Rows
end Bx
namespace Bx
open PySem L2 PySem.Spec PyProof.Rows
section
variable {X : Cx} {W : WX} {K : KK} {F F' H H' : Hp} {adr adr' : List Addr} {s s' : S} {σ σ' : L2.St} {d : D} {v : V} {e o i : Expr} {m mo mi : M D} {mm : M MO} {pos : Pos}
def lookN (k : NestedKey) (kds : List (NestedKey × D)) : Option D := (kds.find? fun p => decide (p.1 = k)).map (·.2)
end
end Bx
namespace Bx
open PySem L2 PySem.Spec PyProof.Rows
section
variable {X : Cx} {W : WX} {K : KK} {F F' H H' : Hp} {adr adr' : List Addr} {s s' : S} {σ σ' : L2.St} {d : D} {v : V} {e o i f a b c : Expr} {m mo mi mf : M D} {mm : M MO} {pos apos cpos : Pos}
def pop0D (d : D) : M D := fun s => match s.mo d with
  | some (.lst xs) => match xs[xs.length - 1]? with
    | some y => .ok y (s.mut d (.lst xs.dropLast))
    | none => .bad
  | _ => .bad
def mpop0 (m : M D) : M D := bnd m fun d => bnd (chk isL d) pop0D
theorem RpL.dropLast : ∀ {ds : List D} {vs : List V}, RpL K F adr ds vs → RpL K F adr ds.dropLast vs.dropLast
  | [], _, h => by
    have e : _ = [] := h
    subst e
    exact rfl
  | [d], _, ⟨v, r, q, h1, h2⟩ => by
    have e : r = [] := h2
    subst q e
    exact rfl
  | d :: d' :: ds, _, ⟨v, r, q, h1, h2⟩ => by
    subst q
    have ih := RpL.dropLast h2
    obtain ⟨v', r', q', h3, h4⟩ := h2
    subst q'
    exact ⟨v, _, rfl, h1, ih⟩
def isDc (s : S) (d : D) : Bool := match rsl s d with
  | .dct _ => true
  | _ => false
def getxD (a k z : D) : M D := fun s => match rsl s a, k with
  | .dct _, .non => .ok z s
  | .dct kvs, k => match keyD k with
    | some k => .ok ((lookK k kvs).getD z) s
    | none => .bad
  | _, _ => .bad
def mget2 (m mi mf : M D) : M D := bnd m fun a => bnd (chk isDc a) fun a => bnd mi fun k => bnd mf fun z => getxD a k z
def rangeC (lo c : Int) (n : Nat) : List D := (List.range n).map fun (i : Nat) => D.int (lo + i * c)
def rg3 : List D → M (List D)
  | [.int i, .int j, .int c] => fun s => if (inRg i && inRg j) = true then (if c = 1 then .ok (rangeC i c (j - i).toNat) s else if c = -1 then .ok (rangeC i c (i - j).toNat) s else .bad) else .bad
  | _ => fun _ => .bad
def mrange3 (ms : List (M D)) : M (List D) := bnd (margs ms) rg3
end
end Bx
namespace Bx
open PySem L2 PySem.Spec PyProof.Rows
section
variable {prog : Program} {w : World} {A : Around} {s : Shared} {env : Env}
abbrev keyBody (rn cn : Str) (p1 p2 p3 p4 p5 p6 p7 : Pos) (j k : Nat) : Expr := .Tuple [.Subscript (.Subscript (.Name rn p1) (.Name cn p2) p3) (.Constant (.int 1) j p4) p5, .Name cn p6] k p7
theorem lam_body {rn cn : Str} {p1 p2 p3 p4 p5 p6 p7 : Pos} {j k : Nat} {c d tp : Addr} {m : Str → Option Value} {u y : Value} {vs : List (L2.Key × Value)} {x : L2.Key} {its : Array Value}
    (hk : env.scope.kind = .function) (kc : env.kindOf cn = some .local) (hn : s.heap.Ns env.locals m) (hm : m cn = some u) (kr : env.kindOf rn = some .free) (hc : env.cells.lookup rn = some c) (cell : s.heap.IsCell c (some (.ref d)))
    (hd : s.heap.DictOf (mixKind prog w) d vs) (kx : (mixKind prog w).is x u = true) (hv : valueAt vs x = some (.ref tp)) (ht : IsTup s.heap tp its) (h1 : its[1]? = some y) (hz : its.size = 2)
    (d1 : (rn == ("__debug__" : Str)) = false) (d2 : (cn == ("__debug__" : Str)) = false) (d3 : (rn == ("__classdict__" : Str)) = false) :
    wpAny (model prog w) A (eval (keyBody rn cn p1 p2 p3 p4 p5 p6 p7 j k) env) (fun v s' => v = .ref s.heap.objs.size ∧ ∃ t', s' = { s with heap := s.heap.push { cls := .type "tuple", data := .seq #[y, u] }, toks := t' }) (fun _ _ => False) s := by
  have name : ∀ (t : Nat) (p : Pos) (Q : Value → Shared → Prop), Q u { s with toks := t } → wpAny (model prog w) A (eval (.Name cn p) env) Q (fun _ _ => False) { s with toks := t } := fun t p Q q => wpAny_Name (wpAny_loadName_local hk kc hn hm q) d2
  refine wpAny_Tuple_spliced (wpAny_items_cons ?_)
  refine Subscript_ ?_
  refine Subscript_ ?_
  refine wpAny_Name (wpAny_loadName_free hk kr hc cell ?_ d3) d1
  refine name _ _ _ ?_
  refine tail_any hd.mapOf.typeIs slot_dict_getitem.lookup (wpAny_getItem_of kx hd.mapOf hv ?_) (by with_unfolding_all rfl)
  refine wpAny_Constant_int ?_
  have hs : ∀ t : Nat, Shared.TypeIs { s with toks := t } (.ref tp) "tuple" := fun t => ht.typeIs
  refine tail_any (hs _) slot_tuple_getitem.lookup (getItem_tuple (k := 1) ?_ (by decide) (by decide) ?_ h1 ?_) (by with_unfolding_all rfl)
  · exact ht
  · rw [hz]; rfl
  · refine wpAny_items_cons (name _ _ _ (wpAny_items_nil ?_))
    exact ⟨by show 2 ≤ sizeLine; rw [sizeLine_eq]; decide, rfl, _, rfl⟩
theorem lam_call {rn cn qual : Str} {p1 p2 p3 p4 p5 p6 p7 : Pos} {j k : Nat} {params : Arguments} {scope : Scope} {clos : List (Str × Addr)} {f c c' d tp : Addr} {pm ctv : Value} {u y : Value} {vs : List (L2.Key × Value)} {x : L2.Key} {its : Array Value}
    (hroom : A.depth < recursionLimit) (hf : s.heap.get? f = some (PySem.W.kla_obj "<lambda>" qual params (keyBody rn cn p1 p2 p3 p4 p5 p6 p7 j k) scope clos pm c' ctv)) (hcd : s.heap.CodeRec (.ref c') qual) (hlim : s.heap.NoLimit)
    (hbind : bindArgs (PySem.W.kla_fn "<lambda>" qual params (keyBody rn cn p1 p2 p3 p4 p5 p6 p7 j k) scope clos pm (.ref c') ctv) ⟨[u], []⟩ = pure [(cn, u)])
    (hk : scope.kind = .function) (hco : scope.isCoroutine = false) (hgen : scope.isGenerator = false) (hnc : ∀ x ∈ scope.names, x.2 ≠ .cell) (kc : scope.names.lookup cn = some .local) (kr : scope.names.lookup rn = some .free)
    (hc : clos.lookup rn = some c) (cell : s.heap.IsCell c (some (.ref d)))
    (hd : s.heap.DictOf (mixKind prog w) d vs) (kx : (mixKind prog w).is x u = true) (hv : valueAt vs x = some (.ref tp)) (ht : IsTup s.heap tp its) (h1 : its[1]? = some y) (hz : its.size = 2)
    (d1 : (rn == ("__debug__" : Str)) = false) (d2 : (cn == ("__debug__" : Str)) = false) (d3 : (rn == ("__classdict__" : Str)) = false) :
    wpAny (model prog w) A (call (.ref f) [u]) (fun v s' => ∃ (h' : Heap) (t' : Nat) (a : Addr), s' = { s with heap := h', toks := t' } ∧ (∀ b o, s.heap.get? b = some o → h'.get? b = some o) ∧ v = .ref a ∧ h'.get? a = some { cls := .type "tuple", data := .seq #[y, u] }) (fun _ _ => False) s := by
  refine wpAny_call ?_
  refine PySem.W.kla_callFunE hroom hf rfl hco hgen rfl hcd ?_
  rw [hbind]
  refine wpAny_pure (wpAny_newFunctionEnv hnc (fun z hz => ?_) (fun h₁ hns hsb => ⟨hlim.fresh _ hsb, ?_⟩) hk)
  · rw [List.mem_singleton.mp hz]
    exact kc
  have kp : ∀ b o, s.heap.get? b = some o → h₁.get? b = some o := fun b o e => hsb.extBut b o (Nat.ne_of_lt (Heap.lt_size e)) (Heap.get?_push_of_some _ e)
  refine PySem.W.kla_codeExpr (wpAny_mono (lam_body (d := d) (tp := tp) (vs := vs) (c := c) (its := its) (x := x) (m := fun x => [(cn, u)].reverse.lookup x) (s := { s with heap := h₁, toks := s.toks + ([(cn, u)] : List (Str × Value)).length }) hk kc hns ?_ kr hc ?_ ?_ kx hv ?_ h1 hz d1 d2 d3) (fun v s' hq => ?_) fun _ _ z => z.elim)
  · simp
  · obtain ⟨o, ho, hdd⟩ := cell
    exact ⟨o, kp _ _ ho, hdd⟩
  · exact hd.keep kp
  · obtain ⟨o, ho, q⟩ := ht
    exact ⟨o, kp _ _ ho, q⟩
  · obtain ⟨rfl, t', rfl⟩ := hq
    exact ⟨_, _, _, rfl, fun b o e => Heap.get?_push_of_some _ (kp b o e), rfl, Heap.get?_push_size _ rfl⟩
end
end Bx
namespace Bx
open PySem L2 PySem.Spec PyProof.Rows PySem.W PySem.Calls
section
variable {prog : Program} {w : World} {A : Around} {E : Value → Shared → Prop} {s : Shared}
theorem each_at {R : Value → Str → Prop} : ∀ {vs : List Value} {ks : List Str}, vs.length = ks.length → (∀ (j : Nat) (v : Value) (x : Str), vs[j]? = some v → ks[j]? = some x → R v x) → EachIs R vs ks
  | [], [], _, _ => EachIs.nil
  | [], _ :: _, h, _ => by simp at h
  | _ :: _, [], h, _ => by simp at h
  | v :: vs, x :: ks, h, r => EachIs.cons (r 0 v x rfl rfl) (each_at (by simpa using h) fun j u y e1 e2 => r (j + 1) u y (by simpa using e1) (by simpa using e2))
theorem sorted_dict_kw {kw : List (Str × Value)} {a : Addr} {vs : List (L2.Key × Value)} {ks : List Str} {f : Value} {Q : Value → Shared → Prop} (k : Str → PyData) (ha1 : argsOk "sorted" ⟨[.ref a], kw⟩) (ha2 : ∀ x, argsOk "list.sort" ⟨[.ref x], kw⟩) (ht : ∀ x, Builtin.«list.sort» ⟨[.ref x], kw⟩ = ksk_tree x f false) (hh : A.handled = none) (lo : (a == sysModules) = false) (dd : s.heap.DictOf (mixKind prog w) a vs) (hkeys : vs.map (·.1) = ks.map Sum.inr) (h64 : ks.length < 64)
    (hal : AllAlike (ks.map k)) (hsk : Sortable (ks.map k)) (hu : ∀ x, x ∈ ks → A.units + 2 + (k x).depth < cLine)
    (turn : ∀ (v : Value) (x : Str), v.isStrOf x = true → x ∈ ks → ∀ (h : Heap) (tk : Nat), (∀ b o, s.heap.get? b = some o → h.get? b = some o) →
      wpAny (model prog w) A.in1.in1 (call f [v]) (KeyPure (k x) { s with heap := h, toks := tk }) (fun _ _ => False) { s with heap := h, toks := tk })
    (h : ∀ (p : Addr) (h0 : Heap) (out : List Value) (c : Nat) (h' : Heap) (tk : Nat), (∀ b o, s.heap.get? b = some o → h0.get? b = some o) → h0.objs.size ≤ p → (∀ b o, h0.get? b = some o → h'.get? b = some o) → h'.get? p = some (seqObj "list" (List.toArray out) c) → out.length = ks.length → EachIs (fun (v : Value) (x : Str) => v.isStrOf x = true) out (ks.mergeSort (dataLe false k)) →
      Q (.ref p) { s with heap := h', toks := tk }) :
    wpAny (model prog w) A (call (.builtin "sorted") [.ref a] kw) Q E s := by
  obtain ⟨ep, hat⟩ := dd.dictAt
  have hl : vs.length = ks.length := by
    have e := congrArg List.length hkeys
    rwa [List.length_map, List.length_map] at e
  have h16 : vs.length ≤ sizeLine := by rw [hl, sizeLine_eq]; omega
  refine call_function_entry_kw kind_sorted plain_sorted entry_sorted ha1 ?_
  unfold Builtin.«sorted»
  refine wpAny_bind (m := checkCount "sorted" 1 1 _) (wpAny_pure ?_)
  refine wpAny_bind (kdu_collect (A := A.in1) (kdl_dict (knd := mixKind prog w) (kvs := vs) (ep := ep) lo) hh hat h16 fun h' tk acc hk hacc => ?_)
  have hacl : acc.toList.length = ks.length := by rw [Array.length_toList, hacc.1, hl]
  have hS : EachIs (fun (v : Value) (x : Str) => v.isStrOf x = true) acc.toList ks := each_at hacl fun j v y e ey => by
    obtain ⟨q, x, e1, e2⟩ := hacc.2 j v (by rw [← Array.getElem?_toList]; exact e)
    have e3 : (vs.map (·.1))[j]? = some q := by rw [List.getElem?_map, e1]; all_goals rfl
    rw [hkeys, List.getElem?_map, ey] at e3
    have e5 : Sum.inr y = q := Option.some.inj e3
    subst e5
    exact e2
  refine wpAny_bind (wpAny_newList ?_ (by rw [hacl, sizeLine_eq]; omega))
  have hoL : (h'.push (seqObj "list" acc.toList.toArray 0)).get? h'.objs.size = some (seqObj "list" acc.toList.toArray 0) := Heap.get?_push_size _ rfl
  have up : ∀ {g : Heap}, KeepsBut h'.objs.size (h'.push (seqObj "list" acc.toList.toArray 0)) g → ∀ b o, s.heap.get? b = some o → g.get? b = some o := fun {g} kp b o q =>
    kp b o (Nat.ne_of_lt (Heap.lt_size (hk b o q))) (Heap.get?_push_of_some _ (hk b o q))
  show wpAny _ _ _ _ _ { s with heap := h'.push (seqObj "list" acc.toList.toArray 0), toks := tk }
  refine wpAny_bind (wpAny_holding (wpAny_call_entry_kw slot_list_sort ⟨_, hoL, rfl⟩ entry_list_sort ?body (ha2 _)))
  case body =>
    show wpAny (model prog w) A.in1.in1 (Builtin.«list.sort» ⟨[.ref h'.objs.size], kw⟩) _ _ _
    rw [ht]
    refine keyH_tree (kz := ks.map k) (b := false) (s := { s with heap := h'.push (seqObj "list" acc.toList.toArray 0), toks := tk }) hoL (by rw [List.length_map]; exact hacl.symm) (by rw [hacl, sizeLine_eq]; omega) hal hsk (bound_map (A := A.in1.in1) hu)
      (keyH_turns (s := { s with heap := h'.push (seqObj "list" acc.toList.toArray 0), toks := tk }) hS fun v x hR hx g t kp => turn v x hR hx g t (up kp)) fun g t out c kp hD ko => ⟨_, rfl, ?_⟩
    refine wpAny_pure ?_
    refine ⟨_, rfl, ?_⟩
    exact h h'.objs.size h' out c g t hk (Nat.le_refl _) (fun b o q => kp b o (Nat.ne_of_lt (Heap.lt_size q)) (Heap.get?_push_of_some _ q)) hD ((ko.length (by rw [List.length_map]; exact hacl.symm)).trans hacl) (keyedOut_each k ko hS)
end
end Bx
namespace Bx
open PySem L2 PySem.Spec PyProof.Rows
section
variable {X : Cx} {pins : List (Addr × Obj)} {σ : L2.St} {H : Hp} {s : Shared} {E : Value → Shared → Prop} {Q : Value → Shared → Prop}
/-- what the table tt tells are code objects of this name -/
def Tells (H : Hp) (q : Str) (tt : Array Value) : Prop := TriplesOk tt.toList ∧ ∀ (p : Pos) (k : Value), codeAmong p tt.toList = some k → ∃ a : Addr, k = .ref a ∧ Rd H a (LamX.CodeO a q)
abbrev lamO (X : Cx) (pa : Arguments) (e : Expr) (sc : Scope) (m : Value) (a : Addr) (z : Value) : Obj := PySem.W.kla_obj "<lambda>" (X.env.qual ++ "<lambda>") pa e sc (cloFrom X.env.cells sc.names []) m a z
theorem code_rec {a : Addr} {q : Str} {h : Heap} (ok : HOk X.prog X.w H h) (r : Rd H a (LamX.CodeO a q)) : h.CodeRec (.ref a) q := by
  obtain ⟨⟨o, vs, t, e1, e2, e3⟩, _, _⟩ := r.ok ok
  exact ⟨a, o, vs, t, rfl, e1, e2, e3⟩
/-- lambda .. : at most the table is written and one code object is new -/
theorem lam_new {a b : Addr} {pa : Arguments} {e : Expr} {sc : Scope} {ps : Pos} {tt : Array Value} (I : Inv X pins σ H s) (T : LamX.TabB X.base X.mg a b) (ec : X.env.code = .ref a) (at_ : H b = some (.tbl tt)) (tl : Tells H (X.env.qual ++ "<lambda>") tt)
    (nd : defaultsOf pa X.env = ([], [])) (fr : ∀ y ∈ sc.names, y.2 = .free → ∃ k, X.env.cells.lookup y.1 = some k)
    (old : ∀ (f k : Addr) (m z : Value) (s' : Shared), Inv X pins σ H s' → s'.heap.get? f = some (lamO X pa e sc m k z) → s'.heap.CodeRec (.ref k) (X.env.qual ++ "<lambda>") → Q (.ref f) s')
    (new : ∀ (f k : Addr) (m z : Value) (tt' : Array Value) (s' : Shared), H k = none → TriplesOk tt'.toList → (∀ (p : Pos) (v : Value), codeAmong p tt'.toList = some v → codeAmong p tt.toList = some v ∨ v = .ref k) →
      Inv X pins σ (upd (upd H b (.tbl tt')) k (LamX.CodeO k (X.env.qual ++ "<lambda>"))) s' → s'.heap.get? f = some (lamO X pa e sc m k z) → s'.heap.CodeRec (.ref k) (X.env.qual ++ "<lambda>") → Q (.ref f) s') :
    wpAny (model X.prog X.w) X.A (eval (.Lambda pa e sc ps) X.env) Q E s := by
  have ub : s.heap.BuiltinsAt X.mg b := T.bm.keeps I.bk
  have gb : s.heap.get? b = some { cls := .none, data := .fields tt } := I.hok b _ at_
  refine PySem.W.kla_eval nd ?_
  rcases hk : codeAmong ps tt.toList with _ | k0
  · refine PySem.W.kla_makeFunction (c := a) (P := b) (ps := tt) (mg := X.mg) (closure_ok fr) I.ok.glob (I.mod.glob.keeps I.bk) ec (T.code.keeps I.bk) gb tl.1 hk T.gP ub fun k z h' t' up ge lt rc tb => ?_
    obtain ⟨k2, o, vs, t, e2, ho, hd, hv⟩ := rc
    injection e2 with e3
    subst e3
    have J := LamX.inv_table (P := b) (c := k) (q := X.env.qual ++ "<lambda>") (ps := tt) (t' := t') (more := #[rawInt ps.line, rawInt ps.col, .ref k]) (h' := h'.push (lamO X pa e sc ((X.mg "__name__").getD .none) k z)) I at_
      (fun x u n g => Heap.get?_push_of_some _ (up x u n g)) (Heap.get?_push_of_some _ tb) ge ⟨o, vs, t, Heap.get?_push_of_some _ ho, hd, hv⟩
    have el : (tt ++ #[rawInt ps.line, rawInt ps.col, Value.ref k]).toList = tt.toList ++ [rawInt ps.line, rawInt ps.col, .ref k] := by simp
    refine new h'.objs.size k _ z _ _ (I.hok.fresh ge) ?_ (fun p v g => ?_) J (Heap.get?_push_size _ rfl) ⟨k, o, vs, t, rfl, Heap.get?_push_of_some _ ho, hd, hv⟩
    · rw [el]
      exact TriplesOk_snoc _ _ _ _ tl.1
    · rw [el] at g
      exact LamX.among_app _ tl.1 g
  · obtain ⟨k, rfl, r⟩ := tl.2 ps k0 hk
    refine PySem.W.kla_makeFunctionHit (c := a) (P := b) (ps := tt) (mg := X.mg) (closure_ok fr) I.ok.glob (I.mod.glob.keeps I.bk) ec (T.code.keeps I.bk) gb tl.1 hk ub fun z h' t' up ge => ?_
    have J : Inv X pins σ H { s with heap := h'.push (lamO X pa e sc ((X.mg "__name__").getD .none) k z), toks := t' } := I.kept fun x u g => Heap.get?_push_of_some _ (up x u g)
    exact old h'.objs.size k _ z _ J (Heap.get?_push_size _ rfl) (code_rec J.hok r)
end
end Bx
namespace Bx
open PySem L2 PySem.Spec PyProof.Rows PySem.W PySem.Calls
abbrev lamK (rows : List (Str × Int)) (x : Str) : PyData := .tuple [.int ((rows.lookup x).getD 0), .str x]
def lamOut (rows : List (Str × Int)) : List Str := (rows.map (·.1)).mergeSort (dataLe false (lamK rows))
/-- the lambda's names: one of its own, one captured -/
structure LamC (sc scope : Scope) (rn cn : Str) : Prop where
  kind : scope.kind = .function
  co : scope.isCoroutine = false
  gen : scope.isGenerator = false
  nc : ∀ y ∈ scope.names, y.2 ≠ .cell
  kc : scope.names.lookup cn = some .local
  kr : scope.names.lookup rn = some .free
  fr : ∀ y ∈ scope.names, y.2 = .free → y.1 = rn
  up : sc.names.lookup rn = some .cell
def lamCB (sc scope : Scope) (rn cn : Str) : Bool :=
  decide (scope.kind = .function) && (!scope.isCoroutine && (!scope.isGenerator && ((scope.names.all fun y => !decide (y.2 = .cell)) && (decide (scope.names.lookup cn = some .local) && (decide (scope.names.lookup rn = some .free) && ((scope.names.all fun y => !decide (y.2 = .free) || decide (y.1 = rn)) && decide (sc.names.lookup rn = some .cell)))))))
theorem lamC_by {sc scope : Scope} {rn cn : Str} (h : lamCB sc scope rn cn = true) : LamC sc scope rn cn := by
  unfold lamCB at h
  simp only [Bool.and_eq_true, Bool.or_eq_true, Bool.not_eq_true', decide_eq_true_eq, decide_eq_false_iff_not, List.all_eq_true] at h
  obtain ⟨h1, h2, h3, h4, h5, h6, h7, h8⟩ := h
  exact ⟨h1, h2, h3, h4, h5, h6, fun y hy e => (h7 y hy).resolve_left fun z => z e, h8⟩
/-- the dict's rows: the keys are texts, the values pairs, their second an int -/
def RowsAt (K : PySem.W.Frag) (H : Hp) (kvs : List (L2.Key × V)) (rows : List (Str × Int)) : Prop :=
  kvs.map (·.1) = rows.map (fun r => (Sum.inr r.1 : L2.Key)) ∧ ∀ x i, rows.lookup x = some i → ∃ t lo, valV kvs (Sum.inr x) = some (.ref t) ∧ SqT K H t [lo, .int i]
theorem lookup_in {x : Str} : ∀ {rows : List (Str × Int)}, x ∈ rows.map (·.1) → ∃ i, rows.lookup x = some i
  | [], h => by simp at h
  | (y, i) :: r, h => by
    rw [List.lookup_cons]
    cases e : x == y with
    | true => exact ⟨i, rfl⟩
    | false =>
      have ne : x ≠ y := by simpa using e
      exact lookup_in (by simpa [ne] using h)
theorem vals_str_each : ∀ {vs : List Value} {xs : List Str}, EachIs (fun (v : Value) (x : Str) => v.isStrOf x = true) vs xs → Vals (xs.map V.str) vs
  | _, _, .nil => .nil
  | v :: vs, x :: xs, .cons h r => by
    refine .cons ?_ (vals_str_each r)
    cases v <;> first | (cases h; done) | skip
    rename_i y t
    have e : y = x := by simpa [Value.isStrOf] using h
    exact ⟨t, by rw [e]⟩
section
variable {X : Cx} {pins : List (Addr × Obj)} {σ : L2.St} {H : Hp} {s : Shared}
theorem sort_core {pa : Arguments} {sc : Scope} {rn cn : Str} {p1 p2 p3 p4 p5 p6 p7 : Pos} {j k : Nat} {f cc c d : Addr} {m z : Value} {kvs : List (L2.Key × V)} {rows : List (Str × Int)} {QQ : VK} (I : Inv X pins σ H s) (hc : X.calm = true) (hu : X.A.units + 64 < cLine) (hdp : X.A.depth + 5 < recursionLimit)
    (gf : s.heap.get? f = some (lamO X pa (keyBody rn cn p1 p2 p3 p4 p5 p6 p7 j k) sc m c z)) (rc : s.heap.CodeRec (.ref c) (X.env.qual ++ "<lambda>")) (hd : Rd H d (.dK kvs)) (hr : RowsAt X.K H kvs rows) (hl : rows.length < 64) (L : LamC X.env.scope sc rn cn)
    (clo : (cloFrom X.env.cells sc.names []).lookup rn = some cc) (cell : s.heap.IsCell cc (some (.ref d)))
    (hbind : ∀ (cl : List (Str × Addr)) (pm cv ctv u : Value), bindArgs (kla_fn "<lambda>" (X.env.qual ++ "<lambda>") pa (keyBody rn cn p1 p2 p3 p4 p5 p6 p7 j k) sc cl pm cv ctv) ⟨[u], []⟩ = pure [(cn, u)])
    (d1 : (rn == ("__debug__" : Str)) = false) (d2 : (cn == ("__debug__" : Str)) = false) (d3 : (rn == ("__classdict__" : Str)) = false)
    (q : ∀ p, H p = none → QQ (.ref p) (upd H p (.lst ((lamOut rows).map V.str)))) :
    wpAny (model X.prog X.w) X.A (call (.builtin "sorted") [.ref d] [(Str.ofString "key", .ref f)]) (EP X pins σ QQ) X.xe s := by
  obtain ⟨hsl, lo, vs, kv, dd⟩ := dk_rd I.hok hd
  have hk1 : vs.map (·.1) = (rows.map (·.1)).map Sum.inr := by rw [← kv.keys, hr.1, List.map_map]; rfl
  refine sorted_dict_kw (ks := rows.map (·.1)) (lamK rows) (ksk_s1 _ _) (fun _ => ksk_l1 _ _) (fun _ => ksk_t1 _ _) (I.ok.hd hc) lo dd hk1 (by simpa using hl) (AllAlike.of fun _ _ => by simp [alike, alikeAll]) (Sortable.tuples fun _ => ⟨_, _, rfl⟩) (fun x _ => ?_) (fun v x hx hm h t up => ?_)
    fun p h0 out e h' t up0 hp up1 gp hlen each => ?_
  · have e : (lamK rows x).depth = 1 := by simp [PyData.depth, PyData.depthAll]
    omega
  · obtain ⟨i, e0⟩ := lookup_in hm
    obtain ⟨tp, lo', e1, e2⟩ := hr.2 x i e0
    have rl := kv.val (Sum.inr x)
    rw [e1] at rl
    obtain ⟨y, e3, ry⟩ : ∃ y, valueAt vs (Sum.inr x) = some y ∧ RelV (.ref tp) y := by
      cases e : valueAt vs (Sum.inr x) with
      | none => rw [e] at rl; exact rl.elim
      | some y => rw [e] at rl; exact ⟨y, rfl, rl⟩
    cases ry
    obtain ⟨its, rv, pl, _⟩ := I.tuple e2
    obtain ⟨u0, tk2, rfl⟩ : ∃ u0 tk2, its = [u0, Value.int i tk2] := by
      cases rv with
      | cons ra rb =>
        cases rb with
        | cons rb rz =>
          cases rz
          obtain ⟨tk2, rfl⟩ := rb
          exact ⟨_, tk2, rfl⟩
    refine wpAny_mono (lam_call (s := { s with heap := h, toks := t }) (x := Sum.inr x) (vs := vs) (d := d) (tp := tp) (c := cc) ?_ (up _ _ gf) (rc.keeps up) (I.nolimit.keeps up) (hbind _ _ _ _ _) L.kind L.co L.gen L.nc L.kc L.kr clo ?_ (dd.keep up) hx e3 ?_ (its := #[u0, Value.int i tk2]) (y := Value.int i tk2) rfl rfl d1 d2 d3) (fun v' s' hq => ?_) fun _ _ g => g.elim
    · show X.A.depth < recursionLimit
      omega
    · obtain ⟨o, ho, g⟩ := cell
      exact ⟨o, up _ _ ho, g⟩
    · obtain ⟨o, ho, g⟩ := pl
      exact ⟨o, up _ _ ho, g⟩
    · obtain ⟨h2, t2, a, rfl, up2, rfl, ga⟩ := hq
      refine ⟨h2, t2, rfl, up2, ?_⟩
      obtain ⟨t3, rfl⟩ : ∃ t3, v = .str x t3 := by
        cases v <;> first | (cases hx; done) | skip
        rename_i y t3
        have e : y = x := by simpa [Value.isStrOf] using hx
        exact ⟨t3, by rw [e]⟩
      show Reads h2 (.ref a) (.tuple [.int ((rows.lookup x).getD 0), .str x]) []
      rw [e0]
      exact Reads.tuple (as := []) ga rfl rfl (ReadsAll.cons (as := []) (bs := []) (Reads.int _ _) (ReadsAll.cons (as := []) (bs := []) (Reads.str _ _) ReadsAll.nil))
  · have hn : H p = none := (I.hok.kept up0).fresh hp
    have hn2 : s.heap.get? p = none := by
      cases e : s.heap.get? p with
      | none => rfl
      | some o => exact absurd (Nat.lt_of_lt_of_le (Heap.lt_size (up0 _ _ e)) hp) (Nat.lt_irrefl _)
    have el : (lamOut rows).length = rows.length := by unfold lamOut; rw [List.length_mergeSort, List.length_map]
    have J : Inv X pins σ (upd H p (.lst ((lamOut rows).map V.str))) { s with heap := h', toks := t } := I.laidN (fun b o g => up1 _ _ (up0 b o g)) hn2 hn ⟨by rw [List.length_map, el, sizeLine_eq]; omega, out, e, vals_str_each each, gp⟩
    exact ⟨.ref p, _, J, rfl, q p hn⟩
end
end Bx
namespace Bx
open PySem L2 PySem.Spec PyProof.Rows PySem.W PySem.Calls
section
variable {X : Cx} {W : WX} {K : KK} {F F' H H' : Hp} {adr adr' : List Addr} {s s' : S} {σ σ' : L2.St}
abbrev lamQ (X : Cx) : Str := X.env.qual ++ "<lambda>"
theorem rd_wr {H : Hp} {a p : Addr} {u o : HO} (n : H p = none ∨ ∃ tt, H p = some (.tbl tt)) (nu : ∀ tt, u ≠ .tbl tt) (h : Rd H a u) : Rd (upd H p o) a u := by
  have ne : a ≠ p := fun e => by
    subst e
    rcases h with h | ⟨z, h⟩
    · rcases n with n | ⟨tt, n⟩
      · rw [n] at h; cases h
      · rw [n] at h; cases h; exact nu tt rfl
    · rcases n with n | ⟨tt, n⟩ <;> (rw [n] at h; cases h)
  rcases h with h | ⟨z, h⟩
  · exact .inl (by rw [upd_ne ne]; exact h)
  · exact .inr ⟨z, by rw [upd_ne ne]; exact h⟩
theorem sqt_wr {K : PySem.W.Frag} {H : Hp} {a p : Addr} {o : HO} {xs : List V} (n : H p = none ∨ ∃ tt, H p = some (.tbl tt)) (h : SqT K H a xs) : SqT K (upd H p o) a xs := by
  rcases h with h | h
  · exact .inl (rd_wr n (fun _ z => by cases z) h)
  · exact .inr h
theorem RowsAt.wr {K : PySem.W.Frag} {H : Hp} {p : Addr} {o : HO} {kvs : List (L2.Key × V)} {rows : List (Str × Int)} (n : H p = none ∨ ∃ tt, H p = some (.tbl tt)) (h : RowsAt K H kvs rows) : RowsAt K (upd H p o) kvs rows :=
  ⟨h.1, fun x i e => by
    obtain ⟨t, lo, e1, e2⟩ := h.2 x i e
    exact ⟨t, lo, e1, sqt_wr n e2⟩⟩
theorem pe_sortlam {a b : Addr} {i : Nat} {pa : Arguments} {sc : Scope} {rn cn : Str} {p0 pr p1 p2 p3 p4 p5 p6 p7 lp kp pos : Pos} {j k : Nat} (hc : X.calm = true) (hu : X.A.units + 64 < cLine) (hdp : X.A.depth + 5 < recursionLimit) (hg : Gl X "sorted") (hm : X.mg "sorted" = none)
    (T : LamX.TabB X.base X.mg a b) (ec : X.env.code = .ref a) (hN : X.N[i]? = some rn) (L : LamC X.env.scope sc rn cn) (nd : defaultsOf pa X.env = ([], []))
    (hbind : ∀ (cl : List (Str × Addr)) (pm cv ctv u : Value), bindArgs (kla_fn "<lambda>" (X.env.qual ++ "<lambda>") pa (keyBody rn cn p1 p2 p3 p4 p5 p6 p7 j k) sc cl pm cv ctv) ⟨[u], []⟩ = pure [(cn, u)])
    (d1 : (rn == ("__debug__" : Str)) = false) (d2 : (cn == ("__debug__" : Str)) = false) (d3 : (rn == ("__classdict__" : Str)) = false) :
    PE X (.Call (.Name "sorted" p0) [.Name rn pr] [⟨some "key", .Lambda pa (keyBody rn cn p1 p2 p3 p4 p5 p6 p7 j k) sc lp, kp⟩] pos) (fun σ H Q => ∃ d kvs rows tt, σ[i]? = some (some (.ref d)) ∧ Rd H d (.dK kvs) ∧ RowsAt X.K H kvs rows ∧ rows.length < 64 ∧ H b = some (.tbl tt) ∧ Tells H (lamQ X) tt ∧
      (∀ p, H p = none → Q (.ref p) (upd H p (.lst ((lamOut rows).map V.str)))) ∧
      ∀ c tt' p, H c = none → TriplesOk tt'.toList → (∀ (p : Pos) (v : Value), codeAmong p tt'.toList = some v → codeAmong p tt.toList = some v ∨ v = .ref c) → upd (upd H b (.tbl tt')) c (LamX.CodeO c (lamQ X)) p = none →
        Q (.ref p) (upd (upd (upd H b (.tbl tt')) c (LamX.CodeO c (lamQ X))) p (.lst ((lamOut rows).map V.str)))) := by
  refine ⟨fun pins s σ H Q I h => ?_⟩
  obtain ⟨d, kvs, rows, tt, e1, e2, e3, e4, e5, e6, q1, q2⟩ := h
  obtain ⟨cc, ecc⟩ := I.ok.has rn (.inl L.up)
  have clo : (cloFrom X.env.cells sc.names []).lookup rn = some cc := by
    obtain ⟨c1, z⟩ := mem_lookup (cloFrom_has (cells := X.env.cells) (acc := []) (PySem.mem_of_lookup L.kr))
    rcases cloFrom_mem (PySem.mem_of_lookup z) with y | ⟨_, y⟩
    · cases y
    · rw [z, y, ecc] <;> rfl
  have cellAt : ∀ {H' : Hp} {s' : Shared}, Inv X pins σ H' s' → s'.heap.IsCell cc (some (.ref d)) := fun {H' s'} J => by
    obtain ⟨m, _, hl⟩ := J.loc
    obtain ⟨u, r, g⟩ := hl i rn _ hN e1 (.inr (.inl L.up))
    cases r
    rcases g with ⟨g, _⟩ | ⟨_, c2, g1, g2⟩
    · have g : X.env.scope.names.lookup rn = some .local := g
      rw [L.up] at g
      cases g
    · rw [ecc] at g1
      cases g1
      exact g2
  have fr : ∀ y ∈ sc.names, y.2 = .free → ∃ k, X.env.cells.lookup y.1 = some k := fun y hy e => by
    rw [L.fr y hy e]
    exact ⟨cc, ecc⟩
  refine wpAny_Call_Name_kw (ld_blt I hg hm (show bootBuiltins "sorted" = some (.builtin "sorted") by decide +kernel) ?_)
  refine PyProof.Rows.callWith_kw (Calls.spliced_cons (thn ((pe_var (pos := pr) (i := i) hN (.inr (.inl L.up)) d1 d3).run pins s σ H (fun v H1 => v = .ref d ∧ H1 = H) I ⟨.ref d, e1, rfl, rfl⟩) fun u s1 ⟨v, H1, I1, r1, q⟩ => Calls.spliced_nil ?_))
  obtain ⟨ev, eH⟩ := q
  subst ev
  subst eH
  obtain rfl : u = Value.ref d := r1
  refine kws_cons (lam_new I1 T ec e5 e6 nd fr (fun f c m z s' J gf rc => kws_nil ?_) fun f c m z tt' s' nc t1 t2 J gf rc => kws_nil ?_)
  · exact sort_core J hc hu hdp gf rc e2 e3 e4 L clo (cellAt J) hbind d1 d2 d3 q1
  · have w1 : H1 b = none ∨ ∃ tt, H1 b = some (.tbl tt) := .inr ⟨_, e5⟩
    have nb : c ≠ b := (ne_of_none e5 nc).symm
    have w2 : upd H1 b (.tbl tt') c = none ∨ ∃ t, upd H1 b (.tbl tt') c = some (.tbl t) := .inl (by rw [upd_ne nb]; exact nc)
    exact sort_core J hc hu hdp gf rc (rd_wr w2 (fun _ z => by cases z) (rd_wr w1 (fun _ z => by cases z) e2)) ((e3.wr w1).wr w2) e4 L clo (cellAt J) hbind d1 d2 d3 fun p hp => q2 c tt' p nc t1 t2 hp
end
end Bx
namespace Bx
open PySem L2 PySem.Spec PyProof.Rows PySem.W PySem.Calls
section
variable {X : Cx} {W : WX} {K : KK} {F F' H H' : Hp} {adr adr' : List Addr} {s s' : S} {σ σ' : L2.St}
def lamRows : List (L2.Key × D) → Option (List (Str × Int))
  | [] => some []
  | (.inr x, .tup [_, .int i]) :: r => (lamRows r).map ((x, i) :: ·)
  | _ => none
def lamDct (s : S) (i : Nat) : Option (List (L2.Key × D)) := match s.ρ[i]? with
  | some (.own (.dct k)) => some k
  | some (.val d) => match rsl s d with
    | .dct k => some k
    | _ => none
  | _ => none
/-- t: where the table lies in the store; i: the dict's slot -/
def sortLam (p : He.Defn) (t i : Nat) : M D := fun s => match s.μ[t]? with
  | some (.tab q) => if q = p then match lamDct s i with
    | some kds => match lamRows kds with
      | some rows => if rows.length < 64 then .ok (.lst ((lamOut rows).map .str)) s else .bad
      | none => .bad
    | none => .bad
    else .bad
  | _ => .bad
theorem rows_at : ∀ {kds : List (L2.Key × D)} {kvs : List (L2.Key × V)} {rows : List (Str × Int)}, lamRows kds = some rows → RpK K F adr kds kvs → RowsAt K.K F kvs rows
  | [], kvs, rows, h, r => by
    cases h
    have e : kvs = [] := r
    subst e
    exact ⟨rfl, fun x i z => by cases z⟩
  | (k, d) :: ds, kvs, rows, h, r => by
    obtain ⟨v, vs, rfl, h1, h2⟩ := r
    unfold lamRows at h
    split at h
    · rename_i e; cases e
    · rename_i x lo i r' e
      cases e
      obtain ⟨rows', e1, rfl⟩ := Option.map_eq_some_iff.mp h
      obtain ⟨g1, g2⟩ := rows_at e1 h2
      obtain ⟨a, ws, rfl, q1, q2⟩ := h1
      obtain ⟨v0, r0, rfl, _, q3⟩ := q2
      obtain ⟨v1, r1, rfl, q4, q5⟩ := q3
      have q4 : v1 = .int i := q4
      have q5 : r1 = [] := q5
      subst q4 q5
      refine ⟨by simp [g1], fun y j z => ?_⟩
      rw [List.lookup_cons] at z
      by_cases hy : y = x
      · subst hy
        simp at z
        subst z
        exact ⟨a, v0, valV_pos rfl, q1.t⟩
      · have : (y == x) = false := by simpa using hy
        rw [this] at z
        obtain ⟨t, lo', y1, y2⟩ := g2 y j z
        exact ⟨t, lo', (valV_neg (fun z => hy (Sum.inr.inj z).symm)).trans y1, y2⟩
    · cases h
theorem RowsAt.ex {K : PySem.W.Frag} {kvs : List (L2.Key × V)} {rows : List (Str × Int)} (e : Ex F H) (h : RowsAt K F kvs rows) : RowsAt K H kvs rows := ⟨h.1, fun x i z => by
  obtain ⟨t, lo, y1, y2⟩ := h.2 x i z
  exact ⟨t, lo, y1, ex_t e y2⟩⟩
theorem lamDct_ok {kds : List (L2.Key × D)} {i : Nat} (ab : Abs K F adr s σ H) (h : lamDct s i = some kds) : ∃ d kvs, σ[i]? = some (some (.ref d)) ∧ Rd H d (.dK kvs) ∧ RpK K F adr kds kvs := by
  unfold lamDct at h
  split at h
  · rename_i k e
    cases h
    obtain ⟨l, o, q1, q2, q3, q4, q5⟩ := ab.slo i _ e
    obtain ⟨kvs, rfl, r⟩ := q5
    exact ⟨l, kvs, q1, .inl q4, r⟩
  · rename_i d e
    split at h
    · rename_i k e2
      cases h
      obtain ⟨v, q1, q2⟩ := ab.slv i d e
      obtain ⟨p, kvs, rfl, h1, h2⟩ := dct_at ab (RpV.of q2) e2
      exact ⟨p, kvs, q1, h1.rd, h2⟩
    · cases h
  · cases h
theorem upd_comm {H : Hp} {a b : Addr} {u v : HO} (n : a ≠ b) : upd (upd H a u) b v = upd (upd H b v) a u := by
  funext x
  by_cases h1 : x = a
  · subst h1
    rw [upd_ne n, upd_same, upd_same]
  · by_cases h2 : x = b
    · subst h2
      rw [upd_same, upd_ne h1, upd_same]
    · rw [upd_ne h2, upd_ne h1, upd_ne h1, upd_ne h2]
theorem se_sortlam {p : He.Defn} {t : Nat} {a b : Addr} {i : Nat} {pa : Arguments} {sc : Scope} {rn cn : Str} {p0 pr p1 p2 p3 p4 p5 p6 p7 lp kp pos : Pos} {j k : Nat} (hc : X.calm = true) (hu : X.A.units + 64 < cLine) (hdp : X.A.depth + 5 < recursionLimit) (hg : Gl X "sorted") (hm : X.mg "sorted" = none)
    (T : LamX.TabB X.base X.mg a b) (eb : b = (He.cT X.K p).2) (eq : lamQ X = tabQ p) (ec : X.env.code = .ref a) (hN : X.N[i]? = some rn) (L : LamC X.env.scope sc rn cn) (nd : defaultsOf pa X.env = ([], []))
    (hbind : ∀ (cl : List (Str × Addr)) (pm cv ctv u : Value), bindArgs (kla_fn "<lambda>" (X.env.qual ++ "<lambda>") pa (keyBody rn cn p1 p2 p3 p4 p5 p6 p7 j k) sc cl pm cv ctv) ⟨[u], []⟩ = pure [(cn, u)])
    (d1 : (rn == ("__debug__" : Str)) = false := by decide) (d2 : (cn == ("__debug__" : Str)) = false := by decide) (d3 : (rn == ("__classdict__" : Str)) = false := by decide) :
    SE X W (.Call (.Name "sorted" p0) [.Name rn pr] [⟨some "key", .Lambda pa (keyBody rn cn p1 p2 p3 p4 p5 p6 p7 j k) sc lp, kp⟩] pos) (sortLam p t i) := PE.imp (pe_sortlam hc hu hdp hg hm T ec hN L nd hbind d1 d2 d3) fun σ H Q z => by
  obtain ⟨F, adr, s, ab, po⟩ := z
  unfold sortLam at po
  split at po <;> try (exact po.elim)
  rename_i q em
  by_cases hq : q = p
  · rw [if_pos hq] at po
    subst hq
    cases e1 : lamDct s i with
    | none => rw [e1] at po; exact po.elim
    | some kds =>
      rw [e1] at po
      simp only at po
      cases e2 : lamRows kds with
      | none => rw [e2] at po; exact po.elim
      | some rows =>
        rw [e2] at po
        simp only at po
        by_cases hl : rows.length < 64
        · rw [if_pos hl] at po
          obtain ⟨d, kvs, g1, g2, g3⟩ := lamDct_ok ab e1
          have hlt : t < adr.length := by
            rw [ab.len]
            exact (List.getElem?_eq_some_iff.mp em).1
          obtain ⟨ad, ea⟩ : ∃ ad, adr[t]? = some ad := ⟨_, List.getElem?_eq_getElem hlt⟩
          obtain ⟨f0, o, ho, rt⟩ := ab.sto t ad _ ea em
          obtain ⟨e3, tt, rfl, t1, t2⟩ := rt
          have e4 : ad = b := e3.trans eb.symm
          subst e4
          refine ⟨d, kvs, rows, tt, g1, g2, (rows_at e2 g3).ex ab.sub, hl, ho, ⟨t1, fun p v z => ?_⟩, fun p hp => Post.new ab po hp ⟨p, _, rfl, upd_same, rpl_strs' _⟩, fun c tt' p nc y1 y2 hp => ?_⟩
          · obtain ⟨c, z1, z2⟩ := t2 p v z
            rw [eq]
            exact ⟨c, z1, (ab.sub _ _ z2).rd⟩
          · have nb : ad ≠ c := ne_of_none ho nc
            obtain ⟨st1, ab1⟩ := ab.alloc (o := LamX.CodeO c (lamQ X)) nc
            obtain ⟨a2, o2, z1, z2, z3, z4⟩ := ab1.mut (d := .ref t) (v := .ref ad) ⟨ad, ea, rfl⟩ em
            cases z1
            obtain ⟨st2, ab2⟩ := z4 (.tab q) (.tbl tt') ⟨e3, tt', rfl, y1, fun pp v z => by
              rcases y2 pp v z with z | z
              · obtain ⟨c', x1, x2⟩ := t2 pp v z
                exact ⟨c', x1, (Ex.new (ab.fnone nc)) _ _ x2⟩
              · refine ⟨c, z, .inl ?_⟩
                rw [upd_same, eq]⟩
            have es : s.mut (.ref t) (.tab q) = s := by
              show (⟨s.ρ, s.μ.set t (.tab q)⟩ : S) = s
              have : s.μ.set t (.tab q) = s.μ := by
                apply List.ext_getElem?
                intro n
                by_cases hn : t = n
                · subst hn
                  rw [List.getElem?_set_self (List.getElem?_eq_some_iff.mp em).1, em]
                · rw [List.getElem?_set_ne hn]
              rw [this]
            rw [es] at st2 ab2
            rw [upd_comm nb] at hp ⊢
            exact Post.new ab2 (PostG.from (st1.trans st2) po) hp ⟨p, _, rfl, upd_same, rpl_strs' _⟩
        · rw [if_neg hl] at po; exact po.elim
  · rw [if_neg hq] at po; exact po.elim
end
end Bx
namespace Bx
open PySem L2 PySem.Spec PyProof.Rows
theorem fnG_ofC {P : Program} {w : World} {K : PySem.W.Frag} {mg : Str → Option Value} {base : Heap} {k : Nat} {f : Addr} {x qual : Str} {params : Arguments} {body : List Stmt} {scope : Scope} {dvs : List V} {kws : List (Str × V)} {fd : FuncData}
    {N ps : List Str} {sp : Sp} (D : FunD K x qual params body scope dvs kws f fd) (S : FnScope N ps scope) (len : ∀ vs H Q E, sp vs H Q E → vs.length = ps.length)
    (hbody : ∀ (cdv : Value), fd.code = cdv → ∀ (A : Around) (outer : List Env) (s : Shared) (H : Hp) (vs : List V) (Q : VK) (E : XK), Room k (A.deeper (envOfC qual scope s.heap.objs.size f cdv)) → A.guards = some [] → sp vs H Q E →
      ∃ t, PSs (cxOf (L2.CX P w) P w K mg base N qual scope f cdv A outer s H E) body t ∧ t { nx := fun _ H' => Q .non H', rt := Q } (start N vs) H) :
    FnG P w K mg base (k + 1) f fd ps sp := by
  obtain ⟨oc, od, dV, kV, doc, pm, an, cdv, ct, osl, rfl, lk, hcd, _, _⟩ := D.ex
  refine ⟨len, fun A outer s H args us vs Q E hr hgd e0 hb rv hsp => ?_⟩
  have kin : K.In s.heap := e0.mod.kin.keeps fun b o e => (e0.bs b o e).1
  have kinds : ∀ y ∈ ps.zip us, scope.names.lookup y.1 = some .local ∨ (scope.names.lookup y.1 = some .cell ∧ ((cellsFrom (s.heap.objs.size + 1) scope.names []).lookup y.1).isSome = true) := by
    rintro ⟨n, v⟩ hy
    rcases S.par n (List.of_mem_zip hy).1 with q | q
    · exact .inl q
    · exact .inr ⟨q, PySem.W.cellsFrom_some _ _ _ (.inl q)⟩
  refine codeAny_call_function hr.depth (kin _ _ lk) rfl S.co S.gen rfl (PySem.W.codeRec_of kin hcd) (hb _ _ _ _ ?_)
  refine wpAny_newFunctionEnv_cells S.kind kinds fun env he s1 ic => ?_
  subst he
  refine ⟨(e0.mod.nolimit.keeps fun b o e => (e0.bs b o e).1).keeps ic.toInCall.keep, codeAny_func ?_⟩
  obtain ⟨t, ht, hq⟩ := hbody cdv rfl A outer s H vs Q E (hr.deeper _) hgd hsp
  have inv := inv_start (CX := L2.CX P w) (w := w) (N := N) (E := E) S hr.hd e0 (len _ _ _ _ hsp) rv ic
  refine wpAny_mono (ht.run [] s1 (start N vs) H _ inv hq) (fun fl s' hs => ?_) fun e s' hs => hs
  cases fl with
  | ret u => obtain ⟨v, σ', H', J, r1, q⟩ := hs; exact ⟨v, H', J.os, J.bare, J.base, J.hok, r1, q⟩
  | next => obtain ⟨σ', H', J, q⟩ := hs; exact ⟨V.non, H', J.os, J.bare, J.base, J.hok, rfl, q⟩
  | brk => obtain ⟨_, _, _, q⟩ := hs; exact q.elim
  | cont => obtain ⟨_, _, _, q⟩ := hs; exact q.elim
theorem fnG_bodyC {P : Program} {w : World} {K : PySem.W.Frag} {mg : Str → Option Value} {base : Heap} {k : Nat} {dn : He.Defn} {x qual : Str} {params : Arguments} {body : List Stmt} {scope : Scope} {dvs : List V} {kws : List (Str × V)} {fd : FuncData}
    {N ps : List Str} {b : MS} (D : FunD K x qual params body scope dvs kws (He.fAd K dn) fd) (S : FnScope N ps scope)
    (hb : ∀ (cdv : Value) (A : Around) (outer : List Env) (s : Shared) (H : Hp) (E : XK), cdv = .ref (He.codeOf K dn) → Room k (cxOf (L2.CX P w) P w K mg base N qual scope (He.fAd K dn) cdv A outer s H E).A → (cxOf (L2.CX P w) P w K mg base N qual scope (He.fAd K dn) cdv A outer s H E).A.guards = some [] →
      Takes (cxOf (L2.CX P w) P w K mg base N qual scope (He.fAd K dn) cdv A outer s H E) (fun cls d _ H => E cls d H) →
      SB (cxOf (L2.CX P w) P w K mg base N qual scope (He.fAd K dn) cdv A outer s H E) (fun cls d _ H => E cls d H) body b) :
    FnG P w K mg base (k + 1) (He.fAd K dn) fd ps (spD ⟨K, P, w⟩ ps.length (runB N.length b)) := by
  have hcode : ∀ cdv : Value, fd.code = cdv → cdv = .ref (He.codeOf K dn) := fun cdv e => by
    obtain ⟨oc, od, dV, kV, doc, pm, an, cdv0, ct, osl, e1, lk, hcd, _, _⟩ := D.ex
    obtain ⟨c0, rfl⟩ := He.codeIn_ref hcd
    have e2 : fd.code = .ref c0 := by rw [e1]
    rw [He.codeOf_eq lk e2, ← e, e2]
  refine fnG_ofC D S (fun vs H Q E ⟨_, _, _, _, _, _, h, _⟩ => h) fun cdv ec A outer s H vs Q E hr hgd ⟨F, adr, μ, ds, ah, rl, hl, po⟩ => ⟨_, hb cdv A outer s H E (hcode cdv ec) hr hgd (takes_of rfl rfl rfl rfl), F, adr, ⟨frame N.length ds, μ⟩, Abs.begin ah rl, ?_⟩
  unfold runB at po
  cases e : b ⟨frame N.length ds, μ⟩ with
  | nx s' => rw [e] at po; exact fun σ' F' adr' H' st ab => po .non F' adr' H' st.bare ab.toAbsH rfl
  | rt d s' => rw [e] at po; exact fun σ' v F' adr' H' st ab rp => po v F' adr' H' st.bare ab.toAbsH rp
  | exc x s' => rw [e] at po; exact fun cls dd σ' F' adr' H' st ab rp => po cls dd F' adr' H' st.bare ab.toAbsH rp
  | bk s' => rw [e] at po; exact po.elim
  | ct s' => rw [e] at po; exact po.elim
  | bad => rw [e] at po; exact po.elim
end Bx
namespace Bx
open PySem L2 PySem.Spec PyProof.Rows
section
variable {P : Program} {w : World} {K : PySem.W.Frag} {mg mb : Str → Option Value} {k : Nat} {fa a c t : Addr} {fd : FuncData} {x : Str} {sp : Sp} {sh : Shared} {vs : List Value} {ns : List Int}
theorem law_endT (KX : K.In sh.heap) (hns : sh.heap.Ns mainGlobals mg) (hb : sh.heap.Ns builtinsNs mb) (hbb : ∀ x : Str, x ≠ "__name__" → mb x = bootBuiltins x) (hlim : sh.heap.NoLimit) (hg : sh.gens = #[])
    (hbm : ∃ (m : Addr) (o : Obj), mg "__builtins__" = some (.ref m) ∧ m ≠ builtinsNs ∧ sh.heap.get? m = some o ∧ o.cls = .type "module" ∧ o.dict = some builtinsNs ∧ o.data = .plain)
    (tt : sh.heap.get? t = some { cls := .none, data := .fields #[] }) (tn : K.lookup t = none) (tc : PySem.W.codeHdIn K c t = true)
    (ha : sh.heap.get? a = some { cls := .type "list", data := .seq vs.toArray }) (hi : IntsAre vs ns) (hl : ns.length ≤ sizeLine)
    (hr : Room k callerA) (G : ∀ base : Heap, K.In base → base.Ns mainGlobals mg → LamX.TabB base mg c t → FnG P w K mg base k fa fd [x] sp) (hbind : ∀ (s : Shared) (u : Value), BindsTo s fd ⟨[u], []⟩ [(x, u)])
    (hsp : ∀ H : Hp, H t = some (.tbl #[]) → SqL K H a (ns.map V.int) → (∀ b, b ≠ t → ∀ u, H b = some u → ∃ o xs, u = .frz o (.lst xs)) → sp [.ref a] H (fun v _ => v = .bl true) fun _ _ _ => False)
    (hCX : ∀ H e s', L2.CX P w [] H sh (fun _ _ _ => False) e s' → False) :
    codeAny (model P w) callerA (.call (.ref fa) ⟨[.ref a], []⟩) (fun r s' => r = .ok (.ret (.bool true)) ∧ OldK sh.heap s'.heap ∧ s'.os = sh.os ∧ AllBare s'.gens) sh := by
  have rv := vals_ints hi
  have nat : a ≠ t := fun z => by
    rw [z, tt] at ha
    cases ha
  have main : ∀ H : Hp, H t = some (.tbl #[]) → (∀ b, b ≠ t → ∀ u, H b = some u → b = a ∧ ∃ o xs, u = .frz o (.lst xs)) → SqL K H a (ns.map V.int) → HOk P w H sh.heap → (H a ≠ none → K.lookup a = none) →
      codeAny (model P w) callerA (.call (.ref fa) ⟨[.ref a], []⟩) (fun r s' => r = .ok (.ret (.bool true)) ∧ OldK sh.heap s'.heap ∧ s'.os = sh.os ∧ AllBare s'.gens) sh := by
    intro H ht only sq ok outK
    -- what is neither a list nor the table is not tracked
    have free : ∀ {b : Addr} {ob : Obj}, sh.heap.get? b = some ob → (∀ l n, ob.data ≠ .seq l n) → (∀ l, ob.data ≠ .fields l) → H b = none := fun {b ob} q1 q2 q3 => by
      cases q : H b with
      | none => rfl
      | some u =>
        by_cases hbt : b = t
        · rw [hbt, tt] at q1
          cases q1
          exact absurd rfl (q3 #[])
        · obtain ⟨z, _⟩ := only b hbt u q
          rw [z, ha] at q1
          cases q1
          exact absurd rfl (q2 _ _)
    have ns' : ∀ {b : Addr} {m : Str → Option Value}, sh.heap.Ns b m → (hidT sh.heap H).Ns b m := fun {b m} ⟨o, es, ep, q1, q2, q3⟩ => ⟨o, es, ep, hidT_get q1 (free q1 (fun l n z => by rw [q2] at z; cases z) fun l z => by rw [q2] at z; cases z), q2, q3⟩
    have inK : K.In (hidT sh.heap H) := fun b ob q => hidT_get (KX b ob q) (by
      cases z : H b with
      | none => rfl
      | some u =>
        by_cases hbt : b = t
        · rw [hbt, tn] at q
          cases q
        · obtain ⟨y, _⟩ := only b hbt u z
          rw [y] at q z
          rw [outK (by rw [z]; simp)] at q
          cases q)
    have md : Mod K mg (hidT sh.heap H) := ⟨inK, ns' hns, ⟨mb, ns' hb, hbb⟩, let ⟨mc, h1, h2⟩ := hlim; ⟨mc, ns' h1, h2⟩⟩
    have tb : LamX.TabB (hidT sh.heap H) mg c t := by
      obtain ⟨gO, gE, gN, g1, g2, _⟩ := id hns
      obtain ⟨m, o, m1, m2, m3, m4, m5, m6⟩ := hbm
      refine ⟨PySem.W.codeHd_of_K inK tc, ⟨m, o, m1, m2, fun z => ?_, fun z => ?_, hidT_get m3 (free m3 (fun l n z => by rw [m6] at z; cases z) fun l z => by rw [m6] at z; cases z), m4, m5, m6⟩, fun z => ?_⟩
      · rw [z, g1] at m3
        cases m3
        rw [g2] at m6
        cases m6
      · rw [z, tt] at m3
        cases m3
        cases m6
      · rw [z, tt] at g1
        cases g1
        cases g2
    have e0 : Env0 P w K mg (hidT sh.heap H) callerA [] sh H := ⟨rfl, md, fun _ _ q => of_hidT q, Nat.le_of_eq (hidT_size _ _), trivial, fun _ z => absurd z (List.not_mem_nil), ok, .of_eq hg⟩
    refine codeAny_mono ((G _ inK (ns' hns) tb).run callerA [] sh H ⟨[.ref a], []⟩ [.ref a] [.ref a] _ _ hr rfl e0 (hbind sh (.ref a)) (.cons (show RelV (V.ref a) (Value.ref a) from rfl) .nil) (hsp H ht sq fun b hbt u z => (only b hbt u z).2)) fun r s' h => ?_
    cases r with
    | error er => exact (hCX H er s' h).elim
    | ok fl =>
      cases fl <;> try (exact False.elim h)
      case ret u =>
        obtain ⟨v, H', os, bare, un, ok', rel, q⟩ := h
        have q' : v = .bl true := q
        subst q'
        obtain rfl : u = Value.bool true := rel
        obtain ⟨more, gm⟩ : ∃ l : Array Value, s'.heap.get? t = some { cls := .none, data := .fields l } := by
          obtain ⟨more, z⟩ := un.tbls t #[] ht
          exact ⟨_, ok' t _ z⟩
        have key : ∀ b o, b ≠ t → sh.heap.get? b = some o → s'.heap.get? b = some o := fun b ob hbt eb => by
          cases z : H b with
          | none => exact un.keep b ob eb z (fun y => absurd y (List.not_mem_nil)) (List.not_mem_nil)
          | some u =>
            obtain ⟨_, o2, xs, y⟩ := only b hbt u z
            rw [y] at z
            obtain ⟨g1, _⟩ := ok b _ z
            obtain ⟨g2, _⟩ := ok' b _ (un.frzs b o2 _ z)
            rw [eb] at g1
            cases g1
            exact g2
        refine ⟨rfl, ⟨fun b o e => ?_, fun b o e => ?_⟩, os, bare⟩
        · by_cases hbt : b = t
          · subst hbt
            rw [tt] at e
            cases e
            exact .inr (.inl ⟨((PySem.W.codeHd_of_K KX tc).tab tt).isCodeTable, rfl, #[], more, rfl, by rw [Array.empty_append]; exact gm⟩)
          · exact .inl (key b o hbt e)
        · by_cases hbt : b = t
          · subst hbt
            exact ⟨_, gm⟩
          · exact ⟨o, key b o hbt e⟩
  cases hk : K.lookup a with
  | some o =>
    have e := KX a o hk
    rw [ha] at e
    cases e
    have off : ∀ b, b ≠ t → upd (fun _ => none) t (HO.tbl #[]) b = none := fun b n => upd_ne n
    refine main (upd (fun _ => none) t (.tbl #[])) upd_same (fun b n u z => by rw [off b n] at z; cases z) (.inr ⟨_, vs.toArray, _, hk, rfl, rfl, rfl, by rw [List.size_toArray, hi.length]; exact hl, by simpa using rv⟩) (fun b u z => ?_) fun z => absurd (off a nat) z
    by_cases hb : b = t
    · subst hb
      rw [upd_same] at z
      cases z
      exact tt
    · rw [off b hb] at z
      cases z
  | none =>
    let O : Obj := { cls := .type "list", data := .seq vs.toArray }
    refine main (upd (upd (fun _ => none) t (.tbl #[])) a (.frz O (.lst (ns.map V.int)))) (by rw [upd_ne (Ne.symm nat), upd_same]) (fun b n u z => ?_) (.inl (.inr ⟨O, upd_same⟩)) (fun b u z => ?_) fun _ => hk
    · by_cases hb : b = a
      · subst hb; rw [upd_same] at z; cases z; exact ⟨rfl, _, _, rfl⟩
      · rw [upd_ne hb, upd_ne n] at z; cases z
    · by_cases hb : b = a
      · subst hb; rw [upd_same] at z; cases z; exact ⟨ha, by rw [List.length_map]; exact hl, vs, _, rv, ha⟩
      · rw [upd_ne hb] at z
        by_cases hb2 : b = t
        · subst hb2
          rw [upd_same] at z
          cases z
          exact tt
        · rw [upd_ne hb2] at z
          cases z
end
/-- a law over a head by facts; the store begins with the table of p's lambdas -/
theorem walk_endT {l : PySem.W.OpenLaw} {n k : Nat} {q : Program} {loose : List Str} {XP : (Str → Option Value) → Heap → Prop} {YP : World → Heap → Prop} {d : DefRec} {x : Str} (p : He.Defn) (hn : l.most = some n) (hn2 : n ≤ sizeLine) (hdf : d.params.defaults = []) (hr : Room k callerA)
    (F : ∀ (w : World) (mg : Str → Option Value) (fa : Addr) (h : Heap), YP w h → h.Ns mainGlobals mg → mg d.name = some (.ref fa) →
      ∃ (K : PySem.W.Frag) (fd : FuncData) (den : Den), K.In h ∧ h.get? (He.cT K p).2 = some { cls := .none, data := .fields #[] } ∧ K.lookup (He.cT K p).2 = none ∧ PySem.W.codeHdIn K (He.cT K p).1 (He.cT K p).2 = true ∧
        (∀ (s : Shared) (u : Value), BindsTo s fd ⟨[u], []⟩ [(x, u)]) ∧ (∀ (ns : List Int), ns.length ≤ n → ∃ μ, den [.scr ns] [.tab p] = .ok (.bl true) μ) ∧
        ∀ base : Heap, K.In base → base.Ns mainGlobals mg → LamX.TabB base mg (He.cT K p).1 (He.cT K p).2 → FnG l.prog w K mg base k fa fd [x] (spD ⟨K, l.prog, w⟩ 1 den)) :
    PySem.W.WalkO q loose XP YP l.row.toRowW d [] (fun f vs => PySem.call f vs) := by
  refine Att.attach_call hn hdf fun w s₀ s₁ mg mb fa o pm cd doc a vs ns G Y ho hd hcd hmg hobj hints hlen hg => ?_
  obtain ⟨K, fd, den, KX, h1, h2, h3, hb, hsp, hF⟩ := F w mg fa _ Y G.T.g hmg
  refine law_endT KX G.T.g G.T.b G.T.builtins G.T.nolimit hg G.T.bmain h1 h2 h3 hobj hints (Nat.le_trans hlen hn2) hr hF hb (fun H ht hS hO => ?_) fun H e s' z => ?_
  · obtain ⟨μ, e⟩ := hsp ns hlen
    have nF : SqL K (fun b => if b = (He.cT K p).2 then none else H b) a (ns.map V.int) := by
      have ne : ∀ u, (∀ z, u ≠ .tbl z) → H a = some u → a ≠ (He.cT K p).2 := fun u hu z y => by
        rw [y, ht] at z
        cases z
        exact hu _ rfl
      rcases hS with (z | ⟨o, z⟩) | z
      · exact .inl (.inl ((if_neg (ne _ (fun _ y => by cases y) z)).trans z))
      · exact .inl (.inr ⟨o, (if_neg (ne _ (fun _ y => by cases y) z)).trans z⟩)
      · exact .inr z
    refine ⟨fun b => if b = (He.cT K p).2 then none else H b, [(He.cT K p).2], [.tab p], [.scr ns], ⟨fun b u z => ?_, rfl, by simp, fun i b m z1 z2 => ?_⟩, .one (show Rp ⟨K, l.prog, w⟩ _ _ (.scr ns) (.ref a) from ⟨a, rfl, nF⟩), rfl, ?_⟩
    · by_cases hb : b = (He.cT K p).2
      · rcases z with z | ⟨_, _, z⟩
        · have z := (if_pos hb).symm.trans z
          cases z
        · have z := (if_pos hb).symm.trans z
          cases z
      · rcases z with z | ⟨y, o, z⟩
        · exact .inl ((if_neg hb).symm.trans z)
        · exact .inr ⟨y, o, (if_neg hb).symm.trans z⟩
    · cases i with
      | zero =>
        cases z1
        cases z2
        exact ⟨if_pos rfl, _, ht, rfl, #[], rfl, True.intro, fun pos cv y => by
          have y : codeAmong pos [] = some cv := y
          simp [codeAmong] at y⟩
      | succ i => simp at z1
    · rw [e]
      exact fun v F' adr' H' _ _ rp => rp
  · obtain ⟨_, _, _, _, _, _, _, _, _, _, _, _, f⟩ := z
    exact f
end Bx
namespace Bx
open PySem PySem.W L2 HandSHeadRun
def obsC (n : Nat) (fa : List He.Fa) (fn : List He.DefD) (ex : PySem.W.Frag → Bool) (tf : List He.Defn) (g : Addr → Option Obj) : AlB := (He.obsD fa fn (frB n g), ex (frB n g) && He.tabsB g tf (frB n g))
structure SaysC (fa : List He.Fa) (fn : List He.DefD) (ex : PySem.W.Frag → Bool) (tf : List He.Defn) (h : Heap) (K : PySem.W.Frag) : Prop where
  d : He.SaysD fa fn K
  ex : ex K = true
  hd : ∀ p ∈ tf, PySem.W.codeHdIn K (He.cT K p).1 (He.cT K p).2 = true
  out : ∀ p ∈ tf, K.lookup (He.cT K p).2 = none
  empty : ∀ p ∈ tf, h.get? (He.cT K p).2 = some { cls := .none, data := .fields #[] }
theorem tabs_of {tf : List He.Defn} {g : Addr → Option Obj} {as : List Addr} (h : He.tabsB g tf (He.frT g as) = true) : ∀ p ∈ tf, PySem.W.codeHdIn (He.frT g as) (He.cT (He.frT g as) p).1 (He.cT (He.frT g as) p).2 = true ∧ (He.frT g as).lookup (He.cT (He.frT g as) p).2 = none ∧ g (He.cT (He.frT g as) p).2 = some { cls := .none, data := .fields #[] } := fun p hp => by
  have z := List.all_eq_true.mp h p hp
  obtain ⟨z1, z2⟩ := Bool.and_eq_true_iff.mp z
  refine ⟨z1, ?_⟩
  cases e : g (He.cT (He.frT g as) p).2 with
  | none => rw [e] at z2; cases z2
  | some o =>
    rw [e] at z2
    exact ⟨He.frT_none e z2, by rw [He.emptyTab_eq z2]⟩
def hookC (n : Nat) (fa : List He.Fa) (fn : List He.DefD) (ex : PySem.W.Frag → Bool) (tf : List He.Defn) : PySem.W.Hook where
  α := AlB
  obs := fun s => obsC n fa fn ex tf s.heap.get?
  val := fun _ => (He.valD fn, true)
  says := fun _ h => ∃ K : PySem.W.Frag, K.In h ∧ SaysC fa fn ex tf h K
  of := fun w s e => by
    have e1 : He.obsD fa fn (frB n s.heap.get?) = He.valD fn := congrArg (fun z : AlB => z.1) e
    have e2 : (ex (frB n s.heap.get?) && He.tabsB s.heap.get? tf (frB n s.heap.get?)) = true := congrArg (fun z : AlB => z.2) e
    obtain ⟨e3, e4⟩ := Bool.and_eq_true_iff.mp e2
    have t := tabs_of (as := cStatics :: sysModules :: He.asD s.heap.get? n) e4
    exact ⟨frB n s.heap.get?, He.frT_in, e1, e3, fun p hp => (t p hp).1, fun p hp => (t p hp).2.1, fun p hp => (t p hp).2.2⟩
  keeps := fun _ _ _ ⟨K, hK, c⟩ k => ⟨K, PySem.W.Frag.In.keeps hK k, c.d, c.ex, c.hd, c.out, fun p hp => k _ _ (c.empty p hp)⟩
theorem obsC_eq {n : Nat} {fa : List He.Fa} {fn : List He.DefD} {ex : PySem.W.Frag → Bool} {tf : List He.Defn} {g : Addr → Option Obj} {s : Shared} (h : ∀ a, g a = s.heap.get? a) : obsC n fa fn ex tf g = (hookC n fa fn ex tf).obs s := by
  have e : g = s.heap.get? := funext h
  rw [e]
  rfl
def RunT (r : PySem.W.OpenRow) (M n : Nat) (tf : List He.Defn) (w : World) : Prop :=
  ∀ os : OsState, (endF (stepQ (denQ HandSHeadRun.tabQ) r.prog w) M r.prog w os).map (fun s => He.tabsB (getT s) tf (frB n (getT s))) = some true
theorem run_ofT {r : PySem.W.OpenRow} {q : Program} {M n : Nat} {loose : List PySem.Str} {w : World} {fa : List He.Fa} {fn : List He.DefD} {ex : PySem.W.Frag → Bool} {tf : List He.Defn}
    (h1 : RunEq r q (hookB n fa fn ex) (fun s => obsB n fa fn ex (getT s)) M loose w) (h2 : RunT r M n tf w) : RunEq r q (hookC n fa fn ex tf) (fun s => obsC n fa fn ex tf (getT s)) M loose w := fun os => by
  obtain ⟨s, hs, hv⟩ := Option.map_eq_some_iff.mp (h1 os)
  have hv : (looksF r.prog (boot_heap w.params) s.abs, seenQ q loose (importedModules r.prog.main.body) (fun s => xlAt q [] s && recOk r.toRowW.records s) s.abs, obsB n fa fn ex (getT s)) = (true, openGood q loose, (He.valD fn, true)) := hv
  obtain ⟨l1, l2, l3⟩ : _ ∧ _ ∧ _ := by simpa only [Prod.mk.injEq] using hv
  have b2 := h2 os
  rw [hs] at b2
  have b2 : He.tabsB (getT s) tf (frB n (getT s)) = true := Option.some.inj b2
  have a1 : He.obsD fa fn (frB n (getT s)) = He.valD fn := congrArg (fun z : AlB => z.1) l3
  have a2 : ex (frB n (getT s)) = true := congrArg (fun z : AlB => z.2) l3
  have l4 : obsC n fa fn ex tf (getT s) = (He.valD fn, true) := by unfold obsC; rw [a1, a2, b2]; rfl
  rw [hs]
  show some (looksF r.prog (boot_heap w.params) s.abs, seenQ q loose (importedModules r.prog.main.body) (fun s => xlAt q [] s && recOk r.toRowW.records s) s.abs, obsC n fa fn ex tf (getT s)) = some (true, openGood q loose, (He.valD fn, true))
  rw [l1, l2, l4]
end Bx
namespace Bx
open PySem L2 PySem.Spec PyProof.Rows
end Bx
namespace Bx
open PySem L2 PySem.Spec PyProof.Rows
end Bx
namespace Bx
open PySem L2 PySem.Spec PyProof.Rows PySem.SeqAt
open PySem.AutoSeq1 (wpAny_loadPart')
open PySem.MeetsSeq PySem.MeetsSeq2 PySem.MeetsSeq3
def spN (n a : Nat) : Nat := if a < n then (n - a - 1) / 5 + 1 else 0
def spJ (n : Nat) (i : Int) : List Nat := (List.range (spN n (HT.sIx n 0 (some i)))).map fun m => HT.sIx n 0 (some i) + m * 5
def pickL {α : Type} (xs : List α) (js : List Nat) : List α := js.filterMap fun j => xs[j]?
def stp5 {α : Type} (xs : List α) (i : Int) : List α := pickL xs (spJ xs.length i)
theorem pickL_mem {α : Type} {xs : List α} {js : List Nat} {x : α} (h : x ∈ pickL xs js) : x ∈ xs := by
  obtain ⟨j, _, h2⟩ := List.mem_filterMap.mp h
  exact List.mem_iff_getElem?.mpr ⟨j, h2⟩
theorem pickL_map {α β : Type} (f : α → β) {xs : List α} : ∀ js : List Nat, pickL (xs.map f) js = (pickL xs js).map f
  | [] => rfl
  | j :: r => by
    have ih := pickL_map f (xs := xs) r
    unfold pickL at ih ⊢
    rw [List.filterMap_cons, List.filterMap_cons, List.getElem?_map, ih]
    cases xs[j]? <;> rfl
theorem stp5_map {α β : Type} (f : α → β) {xs : List α} {i : Int} : stp5 (xs.map f) i = (stp5 xs i).map f := by
  unfold stp5
  rw [pickL_map, List.length_map]
theorem stp5_len {α : Type} {xs : List α} {i : Int} : (stp5 xs i).length ≤ xs.length := by
  unfold stp5 pickL
  refine Nat.le_trans (List.length_filterMap_le _ _) ?_
  unfold spJ spN
  rw [List.length_map, List.length_range]
  split <;> omega
theorem vals_pickL {xs : List V} {us : List Value} (r : Vals xs us) : ∀ js : List Nat, Vals (pickL xs js) (pickL us js)
  | [] => .nil
  | j :: js => by
    have ih := vals_pickL r js
    unfold pickL at ih ⊢
    rw [List.filterMap_cons, List.filterMap_cons]
    cases h : xs[j]? with
    | none =>
      rw [r.none_of h]
      exact ih
    | some x =>
      obtain ⟨u, h1, h2⟩ := r.get h
      rw [h1]
      exact .cons h2 ih
theorem RpL.pick {K : KK} {F : Hp} {adr : List Addr} {ds : List D} {vs : List V} (r : RpL K F adr ds vs) : ∀ js : List Nat, RpL K F adr (pickL ds js) (pickL vs js)
  | [] => .nil
  | j :: js => by
    have ih := RpL.pick r js
    unfold pickL at ih ⊢
    rw [List.filterMap_cons, List.filterMap_cons]
    cases h : ds[j]? with
    | none =>
      have : vs[j]? = none := by
        rw [List.getElem?_eq_none_iff] at h ⊢
        rw [r.length]
        exact h
      rw [this]
      exact ih
    | some x =>
      obtain ⟨u, h1, h2⟩ := r.get h
      rw [h1]
      exact .cons h2 ih
section
variable {prog : Program} {w : World} {A : Around} {E : Value → Shared → Prop} {s : Shared}
theorem adjust5 (i : Int) (n : Nat) : Builtin.Slice.sliceAdjust (some i) none 5 (n : Int) = (((HT.sIx n 0 (some i) : Nat) : Int), (n : Int)) := by
  have h1 : ¬ ((5 : Int) < 0) := by omega
  unfold Builtin.Slice.sliceAdjust
  simp only [h1, if_false]
  exact Prod.ext (HT.clip_eq i n 0) rfl
theorem places5 (a n : Nat) : Builtin.Slice.slicePlaces (a : Int) (n : Int) 5 = spN n a := by
  unfold Builtin.Slice.slicePlaces spN
  have h1 : (5 : Int) > 0 := by omega
  simp only [h1, if_true]
  split <;> split <;> omega
theorem applied5 {sl : Addr} {vl : Value} {i : Int} {n : Nat} {t : Tok} {Q : Int × Int × Nat → Shared → Prop} (hs : s.heap.IsSliceOf sl vl .none (.int 5 t)) (pl : IsPart vl (some i))
    (h : Q (((HT.sIx n 0 (some i) : Nat) : Int), 5, spN n (HT.sIx n 0 (some i))) s) : wpAny (model prog w) A (Builtin.Slice.sliceApplied (.ref sl) (pure (n : Int))) Q E s := by
  obtain ⟨os, hos, hcs, hds⟩ := id hs
  unfold Builtin.Slice.sliceApplied Builtin.Slice.sliceFields
  refine wpAny_bind (wpAny_bind (wpAny_field hos hds (x := vl) rfl (wpAny_bind (wpAny_field hos hds (x := .none) rfl (wpAny_bind (wpAny_field hos hds (x := .int 5 t) rfl (wpAny_pure ?_)))))))
  refine wpAny_bind (HT.slicePart_ (.int 5 t) ?_)
  show wpAny _ _ (if ((5 : Int) == 0) = true then _ else _) _ _ s
  rw [if_neg (by decide)]
  refine wpAny_bind (HT.slicePart_ pl (wpAny_bind (HT.slicePart_ .none (wpAny_bind (wpAny_pure ?_)))))
  show wpAny _ _ (match Builtin.Slice.sliceAdjust (some i) none 5 (n : Int) with | (lo, hi) => pure (lo, (5 : Int), Builtin.Slice.slicePlaces lo hi 5)) _ _ s
  rw [adjust5 i n]
  show wpAny _ _ (pure (((HT.sIx n 0 (some i) : Nat) : Int), (5 : Int), Builtin.Slice.slicePlaces ((HT.sIx n 0 (some i) : Nat) : Int) (n : Int) 5)) _ _ s
  rw [places5]
  exact wpAny_pure h
theorem pick5 (xs : Array Value) (a k : Nat) : ((List.range k).filterMap fun (m : Nat) => xs[((a : Int) + (m : Int) * 5).toNat]?).toArray = (pickL xs.toList ((List.range k).map fun m => a + m * 5)).toArray := by
  unfold pickL
  rw [List.filterMap_map]
  congr 1
  congr 1
  funext m
  have : ((a : Int) + (m : Int) * 5).toNat = a + m * 5 := by omega
  show xs[((a : Int) + (m : Int) * 5).toNat]? = xs.toList[a + m * 5]?
  rw [this, Array.getElem?_toList]
theorem getItem_stp {t sl : Addr} {items : Array Value} {vl : Value} {i : Int} {t5 : Tok} {Q : Value → Shared → Prop} (ht : IsTup s.heap t items) (hs : s.heap.IsSliceOf sl vl .none (.int 5 t5)) (pl : IsPart vl (some i))
    (h : Q (.ref s.heap.objs.size) { s with heap := s.heap.push { cls := .type "tuple", data := .seq (stp5 items.toList i).toArray } })
    (hsz : items.size ≤ sizeLine) : wpAny (model prog w) A (getItem (.ref t) (.ref sl)) Q E s := by
  have hq : (pickL items.toList ((List.range (spN items.size (HT.sIx items.size 0 (some i)))).map fun m => HT.sIx items.size 0 (some i) + m * 5)) = stp5 items.toList i := by
    unfold stp5 spJ
    rw [Array.length_toList]
  have htake : sizeOk (.seq (stp5 items.toList i).toArray) := by
    show (stp5 items.toList i).toArray.size ≤ sizeLine
    rw [List.size_toArray]
    exact Nat.le_trans stp5_len (by rw [Array.length_toList]; exact hsz)
  obtain ⟨os, hos, hcs, hds⟩ := id hs
  have hTs : s.TypeIs (.ref sl) "slice" := ⟨os, hos, hcs⟩
  unfold getItem
  try with_reducible refine wpAny_holding ?_
  first | refine wpAny_bind (wpAny_pure ?_) | skip
  refine wpAny_bind (wpAny_sequenceKey ht.typeIs (by decide) ?_)
  refine wpAny_bind (wpAny_callSpecial?_slot (name := Str.ofString "__getitem__") ht.typeIs PyProof.Rows.slot_tuple_getitem
    (wpAny_call_entry PyProof.Rows.slot_tuple_getitem ht.typeIs entry_tuple_getitem ?_ (args_tuple_getitem _ _)))
  show wpAny _ _ (Builtin.Tuple.tupleItemsOf (.ref t) >>= _) _ _ s
  refine wpAny_bind (tupleItemsOf_ ht ?_)
  refine wpAny_bind (wpAny_typeOf hTs ?_)
  rw [if_pos (by decide)]
  refine wpAny_bind (applied5 hs pl ?_)
  have hno : ¬ ((((HT.sIx items.size 0 (some i) : Nat) : Int) == 0 && (5 : Int) == 1 && spN items.size (HT.sIx items.size 0 (some i)) == items.size) = true) := by
    intro q
    rw [Bool.and_eq_true, Bool.and_eq_true] at q
    exact absurd q.1.2 (by decide)
  show wpAny _ _ (if (((HT.sIx items.size 0 (some i) : Nat) : Int) == 0 && (5 : Int) == 1 && spN items.size (HT.sIx items.size 0 (some i)) == items.size) = true then _ else _) _ _ s
  rw [if_neg hno, pick5, hq]
  first
    | exact wpAny_bind (m := Builtin.Tuple.tupleExact _) (wpAny_newObj_type (wpAny_pure ⟨_, rfl, wpAny_pure h⟩) htake)
    | exact wpAny_bind (m := Builtin.Tuple.tupleExact _) (wpAny_newObj_type (wpAny_bind (wpAny_pure (wpAny_pure ⟨_, rfl, wpAny_pure h⟩))) htake)
    | exact wpAny_bind (wpAny_bind (m := Builtin.Tuple.tupleExact _) (wpAny_newObj_type (wpAny_pure (wpAny_pure ⟨_, rfl, wpAny_pure h⟩)) htake))
    | exact wpAny_bind (wpAny_bind (m := Builtin.Tuple.tupleExact _) (wpAny_newObj_type (wpAny_pure ⟨_, rfl, wpAny_pure h⟩) htake))
end
section
variable {X : Cx} {W : WX} {a l : Expr} {ma ml : M D} {pos : Pos} {te tl : TE}
/-- by values -/
def tStp (K : PySem.W.Frag) (te tl : TE) : TE := fun σ H Q => te σ H fun x H1 => tPart tl σ H1 fun y H2 => ∃ a xs i, x = .ref a ∧ y = some i ∧ SqT K H2 a xs ∧ ∀ p o, o.dict = none → H2 p = none → Q (.ref p) (upd H2 p (.frz o (.tup (stp5 xs i))))
theorem pe_stp5 {k : Nat} {p1 p3 : Pos} (he : PE X a te) (hl : PE X l tl) : PE X (.Subscript a (.Slice (some l) none (some (.Constant (.int 5) k p1)) p3) pos) (tStp X.K te tl) := by
  refine ⟨fun pins s σ H Q I h => ?_⟩
  refine Subscript_ (thn (he.run pins s σ H _ I h) fun v s1 ⟨x, H1, I1, r1, q1⟩ => ?_)
  have hL : PO X (some l) (tPart tl) := po_some hl
  have hst : PO X (some (.Constant (.int 5) k p1)) (tPart (tC (.int 5))) := po_some pe_int
  refine wpAny_Slice (thn (hL.run pins s1 σ H1 _ I1 q1) fun vl s2 ⟨lo, H2, I2, pl, q2⟩ => ?_)
  obtain ⟨b, xs, i, rfl, rfl, hx, q⟩ := q2
  cases r1
  refine thn (po_none.run pins s2 σ H2 (fun o H3 => o = none ∧ H3 = H2) I2 ⟨rfl, rfl⟩) fun vu s3 ⟨u, H3, I3, pu, eu, e3⟩ => ?_
  subst eu e3
  cases pu
  refine thn (hst.run pins s3 σ H3 (fun o H4 => o = some 5 ∧ H4 = H3) I3 ⟨5, rfl, rfl, rfl⟩) fun vs s4 ⟨o, H4, I4, ps, eo, e4⟩ => ?_
  subst eo e4
  cases ps with
  | int _ t5 =>
  have I5 : Inv X pins σ H4 { s4 with heap := s4.heap.push { cls := .type "slice", data := .fields #[vl, .none, .int 5 t5] } } := I4.kept (t' := s4.toks) fun b ob q => Heap.get?_push_of_some _ q
  obtain ⟨its, r, ht, hz⟩ := I5.tuple hx
  have hlen := r.length
  show wpAny (model X.prog X.w) X.A (subscriptTail a (.Slice (some l) none (some (.Constant (.int 5) k p1)) p3) (.ref b) (.ref s4.heap.objs.size)) (EP X pins σ Q) X.xe { s4 with heap := s4.heap.push { cls := .type "slice", data := .fields #[vl, .none, .int 5 t5] } }
  refine tail_any (ops := [.ref b, .ref s4.heap.objs.size]) ht.typeIs PyProof.Rows.slot_tuple_getitem.lookup ?_ (by with_unfolding_all rfl)
  refine getItem_stp ht (Heap.IsSliceOf.new _ vl .none (.int 5 t5)) pl ?_ (by rw [List.size_toArray]; omega)
  refine ⟨.ref _, _, I5.laid (t' := s4.toks) (o := .frz _ (.tup (stp5 xs i))) (fun b ob q => Heap.get?_push_of_some _ q) (Nat.le_refl _) ⟨Heap.get?_push_size _ rfl, ?_⟩, rfl, q _ _ rfl (I5.hok.fresh (Nat.le_refl _))⟩
  refine ⟨Nat.le_trans stp5_len hz, _, ?_, IsTup.new _ _⟩
  unfold stp5
  rw [hlen]
  exact vals_pickL r _
def stpD (d l : D) : M D := fun s => match rsl s d, l with
  | .tup ds, .int i => .ok (.tup (stp5 ds i)) s
  | _, _ => .bad
theorem se_stp5 {k : Nat} {p1 p3 : Pos} (ha : SE X W a ma) (hl : SE X W l ml) : SE X W (.Subscript a (.Slice (some l) none (some (.Constant (.int 5) k p1)) p3) pos) (bin stpD ma ml) := PE.imp (pe_stp5 ha hl) fun σ H Q t => by
  obtain ⟨F, adr, s, ab, po⟩ := t
  refine ⟨F, adr, s, ab, (PostG.bind po).imp ?_⟩
  rintro x H1 ⟨F1, adr1, d1, s1, st1, ab1, rp1, po1⟩
  refine ⟨F1, adr1, s1, ab1, (PostG.bind po1).imp ?_⟩
  rintro y H2 ⟨F2, adr2, d2, s2, st2, ab2, rp2, po2⟩
  have t := ab2.t (rp1.mono st2.ex st2.pre)
  unfold stpD at po2
  generalize rsl s2 d1 = e1 at *
  cases e1 <;> try (exact po2.elim)
  case tup ds =>
    cases d2 <;> try (exact po2.elim)
    case int i =>
      obtain ⟨b, vs, rfl, h1, h2⟩ := t
      have ey : y = .int i := rp2
      subst ey
      refine ⟨i, rfl, b, vs, i, rfl, rfl, ex_t ab2.sub h1.t, fun p ob hd hp => Post.new ab2 po2 hp ⟨p, _, rfl, .of upd_same hd, ?_⟩⟩
      unfold stp5
      rw [h2.length]
      exact (h2.pick _).mono (Ex.new (ab2.fnone hp)) (List.prefix_refl _)
end
end Bx
namespace Bx
open PySem L2 PySem.Spec PyProof.Rows
section
variable {X : Cx}
theorem stored_all {K : Type} [DecidableEq K] : ∀ (ps acc : List (K × Addr × Value)), ((acc ++ ps).map (·.1)).Nodup → storedAllH acc ps = acc ++ ps
  | [], acc, _ => by simp [storedAllH]
  | p :: ps, acc, nd => by
    have h1 : p.1 ∉ acc.map (·.1) := fun z => by
      rw [List.map_append, List.nodup_append] at nd
      exact nd.2.2 _ z _ (List.mem_cons_self ..) rfl
    have hnone : atKey acc p.1 = none := by
      unfold atKey
      rw [Option.map_eq_none_iff, List.find?_eq_none]
      intro x hx
      simp only [decide_eq_true_eq]
      exact fun e => h1 (List.mem_map.mpr ⟨x, hx, e⟩)
    have e : storedAllH acc (p :: ps) = storedAllH (storedH acc p.1 p.2.1 p.2.2) ps := rfl
    rw [e, storedH_new hnone, stored_all ps _ (by simpa using nd)]
    simp
theorem rows_of {pins : List (Addr × Obj)} {σ : L2.St} {H : Hp} {s : Shared} (I : Inv X pins σ H s) : ∀ {ps : List Addr} {rows : List NRow}, Paired (fun p row => SqT X.K H p [.ref row.2.1, row.2.2]) ps rows →
    ∃ prs : List (NestedKey × Addr × Value), NT rows prs ∧ prs.length = ps.length ∧ ∀ (j : Nat) (q : NestedKey × Addr × Value), prs[j]? = some q → ∃ b : Addr, ps[j]? = some b ∧ IsTup s.heap b #[.ref q.2.1, q.2.2]
  | _, _, .nil => ⟨[], .nil, rfl, fun j q e => by simp at e⟩
  | _, _, .cons (a := p) (b := row) h t => by
    obtain ⟨prs, r, hl, hp⟩ := rows_of I t
    obtain ⟨its, rv, ht, _⟩ := I.tuple h
    obtain ⟨u, y, ei, ru, ry⟩ := vals2 rv
    subst ei
    cases (show u = Value.ref row.2.1 from ru)
    refine ⟨(row.1, row.2.1, y) :: prs, .cons ⟨rfl, rfl, ry⟩ r, by rw [List.length_cons, List.length_cons, hl], fun j q e => ?_⟩
    cases j with
    | zero =>
      have e' : (row.1, row.2.1, y) = q := Option.some.inj e
      subst e'
      exact ⟨p, rfl, ht⟩
    | succ j =>
      obtain ⟨b, e1, e2⟩ := hp j q (by simpa using e)
      exact ⟨b, by simpa using e1, e2⟩
theorem call_dictN (hcalm : X.calm = true) (hu : X.A.units + 64 < cLine) : CallR X (.type "dict") (fun xs H Q => ∃ (a : Addr) (ps : List Addr) (rows : List NRow), xs = [.ref a] ∧ SqL X.K H a (ps.map V.ref) ∧ Paired (fun p row => SqT X.K H p [.ref row.2.1, row.2.2]) ps rows ∧ KeyedR X.K H rows ∧ (rows.map (·.1)).Nodup ∧
    ∀ p, H p = none → Q (.ref p) (upd H p (DictN X.prog X.w p rows))) := by
  intro pins s σ H xs us Q I r q
  obtain ⟨a, ps, rows, ex, hq, hp, hk, nd, q⟩ := q
  subst ex
  obtain ⟨u, eu, rx⟩ := vals1 r
  subst eu
  cases rx
  obtain ⟨its, rv, pl, hz⟩ := I.list hq
  have ei := refs_at rv
  subst ei
  rw [List.length_map] at hz
  obtain ⟨prs, rel, hl, hpr⟩ := rows_of I hp
  obtain ⟨o, n, ho, hc, hd, hdat⟩ := pl
  have hkeys : prs.map (·.1) = rows.map (·.1) := rel.keys
  have hrl : rows.length = prs.length := Paired.length rel
  have isA : ∀ {l : List NRow} {m : List (NestedKey × Addr × Value)}, NT l m → KeyedR X.K H l → ∀ x ∈ m, (nestedKind X.prog X.w).is s.heap x.1 x.2.1 := by
    intro l m q
    unfold NT at q
    induction q with
    | nil => intro _ x hx; exact nomatch hx
    | @cons p q ps qs hq t ih =>
      intro hk x hx
      rcases List.mem_cons.mp hx with e | hx
      · subst e
        have := hk p (by simp)
        rw [hq.1, hq.2.1] at this
        exact ⟨nk_is I _ _ _ this.1 rfl, this.2⟩
      · exact ih (fun r hr => hk r (by simp [hr])) x hx
  have P := PairArg.list (prog := X.prog) (w := X.w) a (ps.map Value.ref).toArray (fun j => ps.getD j 0) (prs.map fun x => (Value.ref x.2.1, x.2.2))
  refine call_dict_pairsH (knd := nestedKind X.prog X.w) (ps := prs) P (I.ok.hd hcalm) (by show X.A.in1.in1.units + 8 < cLine; have : X.A.in1.in1.units ≤ X.A.units + 2 := Nat.le_refl _; omega)
    ⟨⟨o, n, ho, hc, hd, hdat⟩, by simp [hl], fun j k v e => ?_⟩ ⟨by simp, fun i key v e => ?_⟩ (fun h' hk' x hx => ?_) (by rw [List.length_map, hl]; exact hz) fun h' tk hd' k => ?_
  · rw [List.getElem?_map, Option.map_eq_some_iff] at e
    obtain ⟨x, e1, e2⟩ := e
    obtain ⟨b, g1, g2⟩ := hpr j x e1
    cases e2
    refine ⟨by simp [g1, List.getD], .inl ?_⟩
    have : ps.getD j 0 = b := by simp [List.getD, g1]
    show s.heap.IsTuple (ps.getD j 0) _
    rw [this]
    obtain ⟨o2, w1, w2, n2, w3⟩ := g2
    exact ⟨o2, w1, w2, n2, w3⟩
  · have e : (prs.map fun x => (Value.ref x.2.1, x.2.2))[i]? = some (key, v) := e
    rw [List.getElem?_map, Option.map_eq_some_iff] at e
    obtain ⟨x, e1, e2⟩ := e
    cases e2
    exact ⟨x.1, x.2.1, e1, rfl⟩
  · exact nestedKind_stays.stays (fun b o vs n hb _ => hk' b o (Nat.ne_of_lt (Heap.lt_size hb)) List.not_mem_nil hb) (isA rel hk x hx)
  · rw [stored_all prs [] (by rw [List.nil_append, hkeys]; exact nd), List.nil_append] at hd'
    have hm : (s.heap.objs.size == sysModules) = false := beq_eq_false_iff_ne.mpr (Nat.ne_of_gt I.big)
    obtain ⟨q0, es, ep, hq0, g2, g3, g4, _, g5⟩ := hd'
    exact ⟨.ref s.heap.objs.size, upd H s.heap.objs.size (DictN X.prog X.w s.heap.objs.size rows), I.laid (t' := tk) (fun b o e => k b o List.not_mem_nil e) (Nat.le_refl _) (dictN_new ⟨by rw [hrl, hl]; exact hz, hm, prs, rel, q0, es, ep, hq0, g2, g3, g4, g5⟩), rfl, q _ (I.hok.fresh (Nat.le_refl _))⟩
def pairsN : List D → Option (List (NestedKey × D))
  | [] => some []
  | .tup [k, d] :: r => match keyT k, pairsN r with
    | some k, some l => if k.depth ≤ 8 then some ((k, d) :: l) else none
    | _, _ => none
  | _ => none
def dictN (d : D) : M D := fun s => match rsl s d with
  | .lst ds => match pairsN ds with
    | some kds => if (kds.map (·.1)).Nodup then .ok (.dcn kds) s else .bad
    | none => .bad
  | _ => .bad
end
section
variable {X : Cx} {W : WX} {K : KK} {F F' H H' : Hp} {adr adr' : List Addr} {s s' : S} {σ σ' : L2.St}
theorem pairsN_at (e : Ex F H) : ∀ {ds : List D} {kds : List (NestedKey × D)} {vs : List V}, pairsN ds = some kds → RpL K F adr ds vs → ∃ ps rows, vs = ps.map V.ref ∧ Paired (fun p row => SqT K.K H p [.ref row.2.1, row.2.2]) ps rows ∧ RpN K F adr kds rows
  | [], _, _, h, r => by cases h; cases r; exact ⟨[], [], rfl, .nil, rfl⟩
  | d :: ds, kds, _, h, ⟨v, r, q, h1, h2⟩ => by
    subst q
    match d, h, h1 with
    | .tup [k, x], h, h1 =>
      simp only [pairsN] at h
      cases e1 : keyT k with
      | none => rw [e1] at h; cases h
      | some k' =>
        cases e2 : pairsN ds with
        | none => rw [e1, e2] at h; cases h
        | some l =>
          rw [e1, e2] at h
          by_cases hd : k'.depth ≤ 8
          · simp only [hd, if_true] at h
            cases h
            obtain ⟨a, ws, rfl, s1, u, r1, q1, g1, w, r2, q2, g2, g3⟩ := h1
            have g3 : r2 = [] := g3
            subst q1 q2 g3
            obtain ⟨ps, rows, q3, g4, g5⟩ := pairsN_at e e2 h2
            subst q3
            obtain ⟨b, rfl, hkx⟩ := keyT_ok (σ := []) e1 (.of g1)
            exact ⟨a :: ps, (k', b, w) :: rows, rfl, .cons (ex_t e s1.t) g4, b, w, _, rfl, hkx, hd, g2, g5⟩
          · simp only [hd, if_false] at h
            cases h
theorem cr_dictN (hc : X.calm = true) (hu : X.A.units + 64 < cLine) : CallR X (.type "dict") (rCI (kk X) W (f1 dictN)) := CallR.imp (call_dictN hc hu) fun xs H Q h => by
  obtain ⟨x, rfl, F, adr, s, σ, d, ab, r, po⟩ := f1_of h
  have t := ab.t r
  unfold dictN at po
  generalize rsl s d = e1 at *
  cases e1 <;> try (exact po.elim)
  case lst ds =>
    obtain ⟨a, vs, rfl, h1, h2⟩ := t
    cases e2 : pairsN ds with
    | none => simp only [e2] at po; exact po.elim
    | some kds =>
      simp only [e2] at po
      by_cases nd : (kds.map (·.1)).Nodup
      · simp only [nd, if_true] at po
        obtain ⟨ps, rows, rfl, g1, g2⟩ := pairsN_at ab.sub e2 h2
        refine ⟨a, ps, rows, rfl, SqL.of h1, g1, RpN.keyed ab.sub g2, by rw [g2.keys]; exact nd, fun p hp => ?_⟩
        exact Post.new ab po hp ⟨p, _, rfl, .inl upd_same, RpN.mono (Ex.new (ab.fnone hp)) (List.prefix_refl _) _ _ g2⟩
      · simp only [nd, if_false] at po
        exact po.elim
end
end Bx
namespace Bx
open PySem
section
variable {α β : Type} {s : S} {f : α → M β} {g : α → MS} {m : M α} {a : α} {x : Xc}
@[simp] theorem bind_ok : (R.ok a s).bind f = f a s := rfl
@[simp] theorem bind_exc : (R.exc x s : R α).bind f = .exc x s := rfl
@[simp] theorem bind_bad : (R.bad : R α).bind f = .bad := rfl
@[simp] theorem toS_ok : (R.ok a s).toS g = g a s := rfl
@[simp] theorem toS_exc : (R.exc x s : R α).toS g = .exc x s := rfl
@[simp] theorem toS_bad : (R.bad : R α).toS g = .bad := rfl
@[simp] theorem bnd_ap : bnd m f s = (m s).bind f := rfl
@[simp] theorem pur_ap : (pur a : M α) s = .ok a s := rfl
@[simp] theorem con_ap {d : D} : con d s = .ok d s := rfl
@[simp] theorem yes_ap : yes s = .ok true s := rfl
@[simp] theorem skip_ap : skip s = .nx s := rfl
@[simp] theorem bin_ap {h : D → D → M D} {p q : M D} : Bx.bin h p q s = (p s).bind fun x => bnd q fun y => h x y := rfl
@[simp] theorem stl_ap {p : M D} : stl p s = (p s).bind Bx.settle := rfl
@[simp] theorem sset_ap {j : Nat} {p : M D} : sset j p s = (stl p s).toS fun d s => .nx (s.put j (.val d)) := rfl
@[simp] theorem sret_ap {p : M D} : sret p s = (stl p s).toS fun d s => .rt d s := rfl
@[simp] theorem sexpr_ap {p : M D} : sexpr p s = (p s).toS fun _ => skip := rfl
@[simp] theorem sif_ap {t : M Bool} {p q : MS} : sif t p q s = (t s).toS fun b => if b then p else q := rfl
@[simp] theorem ssub_ap {p o i : M D} : ssub p o i s = (stl p s).toS fun x s => (o s).toS fun d s => (i s).toS fun k s => setD d k x s := rfl
@[simp] theorem sasg_ap {h : D → MS} {p : M D} : sasg h p s = (stl p s).toS h := rfl
@[simp] theorem sfor_ap {it : M (List D)} {h : D → MS} {p : MS} : sfor it h p s = (it s).toS (floop h p) := rfl
@[simp] theorem gset_ap {j : Nat} {d : D} : gset j d s = .nx (s.put j (.val d)) := rfl
@[simp] theorem gsub_ap {o i : M D} {d : D} : gsub o i d s = (o s).toS fun e s => (i s).toS fun k s => setD e k d s := rfl
@[simp] theorem margs_nil : margs [] s = .ok [] s := rfl
@[simp] theorem margs_cons {p : M D} {ps : List (M D)} : margs (p :: ps) s = (p s).bind fun d => bnd (margs ps) fun ds => pur (d :: ds) := rfl
@[simp] theorem mal_nil : mal [] s = .ok [] s := rfl
@[simp] theorem mal_cons {p : M D} {ps : List (M D)} : mal (p :: ps) s = (p s).bind fun d => bnd (Bx.settle d) fun d => bnd (mal ps) fun ds => pur (d :: ds) := rfl
@[simp] theorem mtup_ap {ps : List (M D)} : mtup ps s = (mal ps s).bind fun ds => pur (.tup ds) := rfl
@[simp] theorem mlst_ap {ps : List (M D)} : mlst ps s = (mal ps s).bind fun ds => pur (.lst ds) := rfl
@[simp] theorem callK_ap {den : Den} {ix : List Nat} {dds : List D} {p k : M (List D)} : callK den ix dds p k s = (p s).bind fun ds => bnd k fun es => callD den (pick .non ix (ds ++ es ++ dds)) := rfl
@[simp] theorem f1_ap {h : D → M D} {d : D} : f1 h [d] = h d := rfl
@[simp] theorem f2_ap {h : D → D → M D} {d e : D} : f2 h [d, e] = h d e := rfl
@[simp] theorem tru_bl {p : M D} {b : Bool} {s' : S} (h : p s = .ok (.bl b) s') : tru p s = .ok b s' := by unfold tru; simp [h]
end
section
variable {s s' : S} {i j : Int} {d e : D} {xs ys : List D} {b : Bool} {x y : Str}
@[simp] theorem add_int : addD (.int i) (.int j) s = .ok (.int (i + j)) s := rfl
@[simp] theorem sub_int : subD (.int i) (.int j) s = .ok (.int (i - j)) s := rfl
@[simp] theorem lt_int : ltD (.int i) (.int j) s = .ok (.bl (decide (i < j))) s := rfl
@[simp] theorem le_int : leD (.int i) (.int j) s = .ok (.bl (decide (i ≤ j))) s := rfl
@[simp] theorem gt_int : gtD (.int i) (.int j) s = .ok (.bl (decide (j < i))) s := rfl
@[simp] theorem ge_int : geD (.int i) (.int j) s = .ok (.bl (decide (j ≤ i))) s := rfl
@[simp] theorem mod_int (h0 : 0 < j) : modD (.int i) (.int j) s = .ok (.int (i % j)) s := by
  unfold modD iic
  simp [rsl, h0]
@[simp] theorem fdiv_int (h0 : 0 < j) (h1 : j < 1073741824) : fdivD (.int i) (.int j) s = .ok (.int (i / j)) s := by
  unfold fdivD iic
  simp [rsl, h0, h1]
@[simp] theorem div_int (h0 : 0 < j) (h1 : j < 1073741824) : divD (.int i) (.int j) s = .ok (.twk [.int (i / j), .int (i % j)]) s := by
  unfold divD
  simp [rsl, h0, h1]
@[simp] theorem mul_int : mulD (.int i) (.int j) s = if mulOk i j then .ok (.int (i * j)) s else .bad := rfl
@[simp] theorem abs_int : absD (.int i) s = .ok (.int i.natAbs) s := by
  unfold absD
  simp [rsl]
  try omega
@[simp] theorem settle_int : Bx.settle (.int i) s = .ok (.int i) s := rfl
@[simp] theorem settle_bl : Bx.settle (.bl b) s = .ok (.bl b) s := rfl
@[simp] theorem settle_str : Bx.settle (.str x) s = .ok (.str x) s := rfl
@[simp] theorem settle_non : Bx.settle .non s = .ok .non s := rfl
@[simp] theorem settle_tup : Bx.settle (.tup xs) s = .ok (.tup xs) s := rfl
@[simp] theorem settle_twk : Bx.settle (.twk xs) s = .ok (.twk xs) s := rfl
@[simp] theorem settle_lst : Bx.settle (.lst xs) s = .ok (.lst xs) s := rfl
@[simp] theorem settle_ref {k : Nat} : Bx.settle (.ref k) s = .ok (.ref k) s := rfl
@[simp] theorem settle_scr {ns : List Int} : Bx.settle (.scr ns) s = .ok (.scr ns) s := rfl
@[simp] theorem settle_obj {c : Str} {fs : List (Str × D)} : Bx.settle (.obj c fs) s = .ok (.obj c fs) s := rfl
end
def RS.thn (r : RS) (b : MS) : RS := match r with
  | .nx s => b s
  | r => r
def RS.fin (r : RS) : RF := match r with
  | .nx s => .ok .non s.μ
  | .rt d s => .ok d s.μ
  | .exc x s => .exc x s.μ
  | _ => .bad
section
variable {s : S} {a b : MS} {d : D} {x : Xc} {n : Nat} {ds : List D} {μ : List MO}
@[simp] theorem sq_ap : sq a b s = (a s).thn b := by
  unfold sq
  cases a s <;> rfl
@[simp] theorem thn_nx : (RS.nx s).thn b = b s := rfl
@[simp] theorem thn_rt : (RS.rt d s).thn b = .rt d s := rfl
@[simp] theorem thn_bk : (RS.bk s).thn b = .bk s := rfl
@[simp] theorem thn_ct : (RS.ct s).thn b = .ct s := rfl
@[simp] theorem thn_exc : (RS.exc x s).thn b = .exc x s := rfl
@[simp] theorem thn_bad : RS.bad.thn b = .bad := rfl
theorem runB_ap : runB n a ds μ = (a ⟨frame n ds, μ⟩).fin := by
  unfold runB
  cases a ⟨frame n ds, μ⟩ <;> rfl
@[simp] theorem fin_nx : (RS.nx s).fin = .ok .non s.μ := rfl
@[simp] theorem fin_rt : (RS.rt d s).fin = .ok d s.μ := rfl
@[simp] theorem fin_exc : (RS.exc x s).fin = .exc x s.μ := rfl
end
theorem atI_ok {α : Type} {xs : List α} {k : Int} (h0 : 0 ≤ k) (h1 : k < xs.length) : L2.atI xs k = some (xs[k.toNat]'(by omega)) := by
  unfold L2.atI L2.ixN
  rw [if_pos h0, if_pos h1]
  simp
section
variable {s : S} {i j : Int} {d e : D}
@[simp] theorem mrange1_ap {ps : List (M D)} : mrange1 ps s = (margs ps s).bind (on1 rg1) := rfl
@[simp] theorem mrange2_ap {ps : List (M D)} : mrange2 ps s = (margs ps s).bind (on2 rg2) := rfl
@[simp] theorem on1_ap {α : Type} {f : D → M α} : on1 f [d] = f d := rfl
@[simp] theorem on2_ap {α : Type} {f : D → D → M α} : on2 f [d, e] = f d e := rfl
@[simp] theorem rg1_int (h0 : inRg j = true) : rg1 (.int j) s = .ok (rangeI 0 j.toNat) s := by simp [rg1, h0]
@[simp] theorem rg2_int (h0 : inRg i = true) (h1 : inRg j = true) : rg2 (.int i) (.int j) s = .ok (rangeI i (j - i).toNat) s := by simp [rg2, h0, h1]
theorem inRg_of (h0 : -1000000 ≤ j) (h1 : j ≤ 1000000) : inRg j = true := by
  unfold inRg
  rw [Bool.and_eq_true]
  exact ⟨decide_eq_true (by omega), decide_eq_true (by omega)⟩
@[simp] theorem mcomp_ap {vs : List Nat} {it : M (List D)} {asg : D → MS} {t : M Bool} {el : M D} : mcomp vs it asg t el s = (it s).bind fun items s => cloop vs asg t el items [] (wipeS vs s) := rfl
@[simp] theorem mits_ap {m : M D} : mits m s = (m s).bind fun d => bnd (Bx.settle d) itemsD := rfl
@[simp] theorem items_lst {xs : List D} : itemsD (.lst xs) s = .ok xs s := rfl
@[simp] theorem items_tup {xs : List D} : itemsD (.tup xs) s = .ok xs s := rfl
@[simp] theorem items_str {x : Str} : itemsD (.str x) s = .ok (x.cps.toList.map fun c => .str ⟨#[c]⟩) s := rfl
theorem callD_ok {den : Den} {ds : List D} {r : D} {μ' : List MO} (h : den ds s.μ = .ok r μ') : callD den ds s = .ok r { s with μ := μ' } := by simp [callD, h]
end
theorem floop_nil {asg : D → MS} {b : MS} {s : S} : floop asg b [] s = .nx s := rfl
theorem floop_cons {asg : D → MS} {b : MS} {d : D} {r : List D} {s s1 s2 : S} (h1 : asg d s = .nx s1) (h2 : b s1 = .nx s2) : floop asg b (d :: r) s = floop asg b r s2 := by simp [floop, h1, h2]
/-- a comprehension that changes nothing -/
theorem cloop_pure {vs : List Nat} {asg : D → MS} {t : M Bool} {el : M D} {s0 : S} (p : D → Bool) (h : D → D) : ∀ (items acc : List D), acc.length + items.length ≤ 100000 →
    (∀ d ∈ items, ∃ s1 s2, asg d s0 = .nx s1 ∧ t s1 = .ok (p d) s2 ∧ (p d = false → wipeS vs s2 = s0) ∧ (p d = true → ∃ s3, stl el s2 = .ok (h d) s3 ∧ wipeS vs s3 = s0)) →
    cloop vs asg t el items acc s0 = .ok (.lst (acc ++ (items.filter p).map h)) (wipeS vs s0)
  | [], acc, _, _ => by simp [cloop]
  | d :: r, acc, hl, hd => by
    obtain ⟨s1, s2, e1, e2, e3, e4⟩ := hd d (List.mem_cons_self ..)
    have hr : ∀ d ∈ r, _ := fun d hm => hd d (List.mem_cons_of_mem _ hm)
    rw [List.length_cons] at hl
    cases hp : p d with
    | false =>
      rw [hp] at e2
      rw [cloop]
      simp only [e1, e2, e3 hp]
      rw [cloop_pure p h r acc (by omega) hr, List.filter_cons_of_neg (by simp [hp])]
    | true =>
      rw [hp] at e2
      obtain ⟨s3, e5, e6⟩ := e4 hp
      rw [cloop]
      simp only [e1, e2, e5, e6]
      rw [if_pos (by omega), cloop_pure p h r (acc ++ [h d]) (by rw [List.length_append, List.length_singleton]; omega) hr, List.filter_cons_of_pos hp, List.map_cons, List.append_assoc]
      rfl
def T (l : List Nat) : Str := ⟨l.toArray⟩
@[simp] theorem T_len {l : List Nat} : (T l).length = l.length := by simp [T, Str.length]
theorem T_inj {l m : List Nat} (h : T l = T m) : l = m := by simpa [T] using h
@[simp] theorem T_cps {l : List Nat} : (T l).cps.toList = l := rfl
theorem T_append {l m : List Nat} : T l ++ T m = T (l ++ m) := by
  show Str.append (T l) (T m) = _
  simp [T, Str.append]
theorem ix_str {s : S} {l : List Nat} {k : Int} (h0 : 0 ≤ k) (h1 : k < l.length) (hz : l.length ≤ 100000) : ixD (.str (T l)) (.int k) s = .ok (.str (T [l[k.toNat]'(by omega)])) s := by
  have e : L2.atI (T l).cps.toList k = some (l[k.toNat]'(by omega)) := atI_ok h0 h1
  unfold ixD
  simp only [rsl, e]
  rw [if_pos (by simpa using hz)]
  rfl
theorem ix_lst {s : S} {l : List D} {k : Int} (h0 : 0 ≤ k) (h1 : k < l.length) : ixD (.lst l) (.int k) s = .ok (l[k.toNat]'(by omega)) s := by
  unfold ixD
  simp only [rsl, atI_ok h0 h1]
theorem ix_tup {s : S} {l : List D} {k : Int} (h0 : 0 ≤ k) (h1 : k < l.length) : ixD (.tup l) (.int k) s = .ok (l[k.toNat]'(by omega)) s := by
  unfold ixD
  simp only [rsl, atI_ok h0 h1]
theorem mulOk_l {i j : Int} (h0 : -(2 ^ 64) < i) (h1 : i < 2 ^ 64) : mulOk i j = true := by
  unfold mulOk
  simp only [decide_eq_true h0, decide_eq_true h1, Bool.and_self, Bool.true_or]
theorem mulOk_r {i j : Int} (h0 : -(2 ^ 64) < j) (h1 : j < 2 ^ 64) : mulOk i j = true := by
  unfold mulOk
  simp only [decide_eq_true h0, decide_eq_true h1, Bool.and_self, Bool.or_true]
end Bx
namespace Bx
open PySem
def wE {α : Type} (m : M α) (s : S) (Q : R α → Prop) : Prop := Q (m s)
def wS (m : MS) (s : S) (Q : RS → Prop) : Prop := Q (m s)
def wD (den : Den) (ds : List D) (μ : List MO) (Q : RF → Prop) : Prop := Q (den ds μ)
def kB {α β : Type} (f : α → M β) (Q : R β → Prop) : R α → Prop := fun r => Q (r.bind f)
def kS {α : Type} (f : α → MS) (Q : RS → Prop) : R α → Prop := fun r => Q (r.toS f)
def kN (b : MS) (Q : RS → Prop) : RS → Prop := fun r => Q (r.thn b)
def kF (Q : RF → Prop) : RS → Prop := fun r => Q r.fin
def kC (ρ : List Sl) (Q : R D → Prop) : RF → Prop := fun r => match r with
  | .ok d μ => Q (.ok d ⟨ρ, μ⟩)
  | .exc x μ => Q (.exc x ⟨ρ, μ⟩)
  | .bad => Q .bad
/-- of a turn of a loop: I holds of what goes on -/
def kL (I : S → Prop) (Q : RS → Prop) : RS → Prop := fun r => match r with
  | .nx s => I s
  | .ct s => I s
  | .bk s => Q (.nx s)
  | .rt d s => Q (.rt d s)
  | .exc x s => Q (.exc x s)
  | .bad => False
/-- it is a value -/
def kV {α : Type} (P : α → S → Prop) : R α → Prop := fun r => match r with
  | .ok a s => P a s
  | _ => False
section
variable {α β : Type} {s : S} {f : α → M β} {g : α → MS} {m : M α} {a : α} {x : Xc} {b c : MS} {d : D} {ρ : List Sl} {μ : List MO} {P : α → S → Prop} {I : S → Prop}
section
variable {Q : R β → Prop}
@[simp] theorem kB_ok : kB f Q (.ok a s) = wE (f a) s Q := id rfl
@[simp] theorem kB_exc : kB f Q (.exc x s) = Q (.exc x s) := id rfl
@[simp] theorem kB_bad : kB f Q .bad = Q .bad := id rfl
@[simp] theorem wE_bnd : wE (bnd m f) s Q = wE m s (kB f Q) := id rfl
end
section
variable {Q : RS → Prop}
@[simp] theorem kS_ok : kS g Q (.ok a s) = wS (g a) s Q := id rfl
@[simp] theorem kS_exc : kS g Q (.exc x s) = Q (.exc x s) := id rfl
@[simp] theorem kS_bad : kS g Q (R.bad : R α) = Q .bad := id rfl
@[simp] theorem kN_nx : kN b Q (.nx s) = wS b s Q := id rfl
@[simp] theorem kN_rt : kN b Q (.rt d s) = Q (.rt d s) := id rfl
@[simp] theorem kN_bk : kN b Q (.bk s) = Q (.bk s) := id rfl
@[simp] theorem kN_ct : kN b Q (.ct s) = Q (.ct s) := id rfl
@[simp] theorem kN_exc : kN b Q (.exc x s) = Q (.exc x s) := id rfl
@[simp] theorem kN_bad : kN b Q .bad = Q .bad := id rfl
@[simp] theorem kL_nx : kL I Q (.nx s) = I s := id rfl
@[simp] theorem kL_ct : kL I Q (.ct s) = I s := id rfl
@[simp] theorem kL_bk : kL I Q (.bk s) = Q (.nx s) := id rfl
@[simp] theorem kL_rt : kL I Q (.rt d s) = Q (.rt d s) := id rfl
@[simp] theorem kL_exc : kL I Q (.exc x s) = Q (.exc x s) := id rfl
end
section
variable {Q : RF → Prop}
@[simp] theorem kF_nx : kF Q (.nx s) = Q (.ok .non s.μ) := id rfl
@[simp] theorem kF_rt : kF Q (.rt d s) = Q (.ok d s.μ) := id rfl
@[simp] theorem kF_exc : kF Q (.exc x s) = Q (.exc x s.μ) := id rfl
end
@[simp] theorem kV_ok : kV P (.ok a s) = P a s := id rfl
section
variable {Q : R D → Prop}
@[simp] theorem kC_ok : kC ρ Q (.ok d μ) = Q (.ok d ⟨ρ, μ⟩) := id rfl
@[simp] theorem kC_exc : kC ρ Q (.exc x μ) = Q (.exc x ⟨ρ, μ⟩) := id rfl
@[simp] theorem wE_call {den : Den} {ds : List D} : wE (callD den ds) ⟨ρ, μ⟩ Q = wD den ds μ (kC ρ Q) := by
  unfold wE wD callD kC
  cases h : den ds μ <;> rfl
end
end
section
variable {s : S} {Q : R D → Prop} {p q : M D} {ps : List (M D)} {d : D} {ρ : List Sl} {μ : List MO} {j : Nat} {t : M Bool}
@[simp] theorem wE_pur {α : Type} {a : α} {Q : R α → Prop} : wE (pur a) s Q = Q (.ok a s) := id rfl
@[simp] theorem wE_con : wE (con d) s Q = Q (.ok d s) := id rfl
@[simp] theorem wE_yes {Q : R Bool → Prop} : wE yes s Q = Q (.ok true s) := id rfl
@[simp] theorem wE_bin {h : D → D → M D} : wE (Bx.bin h p q) s Q = wE p s (kB (fun x => bnd q fun y => h x y) Q) := id rfl
@[simp] theorem wE_stl : wE (stl p) s Q = wE p s (kB Bx.settle Q) := id rfl
@[simp] theorem wE_margs0 {Q : R (List D) → Prop} : wE (margs []) s Q = Q (.ok [] s) := id rfl
@[simp] theorem wE_margs {Q : R (List D) → Prop} : wE (margs (p :: ps)) s Q = wE p s (kB (fun d => bnd (margs ps) fun ds => pur (d :: ds)) Q) := id rfl
@[simp] theorem wE_mal0 {Q : R (List D) → Prop} : wE (mal []) s Q = Q (.ok [] s) := id rfl
@[simp] theorem wE_mal {Q : R (List D) → Prop} : wE (mal (p :: ps)) s Q = wE p s (kB (fun d => bnd (Bx.settle d) fun d => bnd (mal ps) fun ds => pur (d :: ds)) Q) := id rfl
@[simp] theorem wE_mtup : wE (mtup ps) s Q = wE (mal ps) s (kB (fun ds => pur (.tup ds)) Q) := id rfl
@[simp] theorem wE_mlst : wE (mlst ps) s Q = wE (mal ps) s (kB (fun ds => pur (.lst ds)) Q) := id rfl
@[simp] theorem wE_nlst {Q : R MO → Prop} : wE (nlst ps) s Q = wE (mal ps) s (kB (fun ds => pur (.lst ds)) Q) := id rfl
@[simp] theorem wE_callK {den : Den} {ix : List Nat} {dds : List D} {p k : M (List D)} : wE (callK den ix dds p k) s Q = wE p s (kB (fun ds => bnd k fun es => callD den (pick .non ix (ds ++ es ++ dds))) Q) := id rfl
@[simp] theorem wE_mkK {cn : Str} {den : DenI} {ix : List Nat} {dds : List D} {p k : M (List D)} : wE (mkK cn den ix dds p k) s Q = wE p s (kB (fun ds => bnd k fun es => makeD cn den (pick .non ix (ds ++ es ++ dds))) Q) := id rfl
@[simp] theorem wE_methK {cn mn : Str} {den : Den} {ix : List Nat} {dds : List D} {o : M D} {p k : M (List D)} : wE (methK cn mn den ix dds o p k) s Q = wE o s (kB (fun d => bnd (Bx.settle d) fun d => bnd (recv cn mn d) fun d => bnd p fun ds => bnd k fun es => callD den (d :: pick .non ix (ds ++ es ++ dds))) Q) := id rfl
@[simp] theorem wE_andT {t u : M Bool} {Q : R Bool → Prop} : wE (andT t u) s Q = wE t s (kB (fun x => if x then u else pur false) Q) := id rfl
@[simp] theorem wE_orT {t u : M Bool} {Q : R Bool → Prop} : wE (orT t u) s Q = wE t s (kB (fun x => if x then pur true else u) Q) := id rfl
@[simp] theorem wE_notT {Q : R Bool → Prop} : wE (notT t) s Q = wE t s (kB (fun x => pur !x) Q) := id rfl
@[simp] theorem wE_ifD : wE (ifD t p q) s Q = wE t s (kB (fun x => if x then p else q) Q) := id rfl
def truK : D → M Bool := fun d => match d with
  | .bl b => pur b
  | _ => fun _ => .bad
theorem tru_def (p : M D) : tru p = bnd p truK := by
  rfl
@[simp] theorem wE_tru {Q : R Bool → Prop} : wE (tru p) s Q = wE p s (kB truK Q) := by rw [tru_def]; rfl
@[simp] theorem truK_bl {b : Bool} {Q : R Bool → Prop} : wE (truK (.bl b)) s Q = Q (.ok b s) := id rfl
def trthK : D → M Bool := fun d s => match truthD s d with
  | some b => .ok b s
  | none => .bad
theorem truth_def (p : M D) : truth p = bnd p trthK := rfl
@[simp] theorem wE_truth {Q : R Bool → Prop} : wE (truth p) s Q = wE p s (kB trthK Q) := by rw [truth_def]; rfl
@[simp] theorem trthK_bl {b : Bool} {Q : R Bool → Prop} : wE (trthK (.bl b)) s Q = Q (.ok b s) := id rfl
@[simp] theorem wE_mits {Q : R (List D) → Prop} : wE (mits p) s Q = wE p s (kB (fun d => bnd (Bx.settle d) itemsD) Q) := id rfl
@[simp] theorem wE_range1 {Q : R (List D) → Prop} : wE (mrange1 ps) s Q = wE (margs ps) s (kB (on1 rg1) Q) := id rfl
@[simp] theorem wE_range2 {Q : R (List D) → Prop} : wE (mrange2 ps) s Q = wE (margs ps) s (kB (on2 rg2) Q) := id rfl
def cmpK (vs : List Nat) (asg : D → MS) (t : M Bool) (el : M D) : List D → M D := fun items s => cloop vs asg t el items [] (wipeS vs s)
@[simp] theorem wE_mcomp {vs : List Nat} {it : M (List D)} {asg : D → MS} {t : M Bool} {el : M D} : wE (mcomp vs it asg t el) s Q = wE it s (kB (cmpK vs asg t el) Q) := id rfl
@[simp] theorem wE_cmpK {vs : List Nat} {items : List D} {asg : D → MS} {t : M Bool} {el : M D} : wE (cmpK vs asg t el items) s Q = wE (cloop vs asg t el items []) (wipeS vs s) Q := id rfl
@[simp] theorem wipeS_mk {vs : List Nat} : wipeS vs ⟨ρ, μ⟩ = ⟨wipeR ρ vs, μ⟩ := id rfl
@[simp] theorem wipeR_nil : wipeR ρ [] = ρ := id rfl
@[simp] theorem wipeR_cons {vs : List Nat} : wipeR ρ (j :: vs) = (wipeR ρ vs).set j .no := id rfl
@[simp] theorem tgt_name {k : Nat} : Tgt.asg (.name k) = gset k := id rfl
@[simp] theorem tgt_tup {js : List Nat} : Tgt.asg (.tup js) = gtup js := id rfl
end
section
variable {s : S} {Q : RS → Prop} {p q : M D} {a b : MS} {d : D} {j : Nat} {t : M Bool} {h : D → MS}
@[simp] theorem wS_sq : wS (sq a b) s Q = wS a s (kN b Q) := by
  unfold wS kN
  rw [sq_ap]
@[simp] theorem wS_skip : wS skip s Q = Q (.nx s) := id rfl
@[simp] theorem wS_break : wS sbreak s Q = Q (.bk s) := id rfl
@[simp] theorem wS_cont : wS scont s Q = Q (.ct s) := id rfl
@[simp] theorem wS_sset : wS (sset j p) s Q = wE (stl p) s (kS (fun d s => .nx (s.put j (.val d))) Q) := id rfl
@[simp] theorem wS_setO {m : M MO} : wS (ssetO j m) s Q = wE m s (kS (fun mo s => .nx (s.put j (.own mo))) Q) := id rfl
@[simp] theorem wS_sret : wS (sret p) s Q = wE (stl p) s (kS (fun d s => .rt d s) Q) := id rfl
@[simp] theorem wS_sretN : wS sretN s Q = Q (.rt .non s) := id rfl
@[simp] theorem wS_sexpr : wS (sexpr p) s Q = wE p s (kS (fun _ => skip) Q) := id rfl
@[simp] theorem wS_sif : wS (sif t a b) s Q = wE t s (kS (fun x => if x then a else b) Q) := id rfl
@[simp] theorem wS_sasg : wS (sasg h p) s Q = wE (stl p) s (kS h Q) := id rfl
@[simp] theorem wS_sfor {it : M (List D)} : wS (sfor it h a) s Q = wE it s (kS (floop h a) Q) := id rfl
@[simp] theorem wS_gset : wS (gset j d) s Q = Q (.nx (s.put j (.val d))) := id rfl
@[simp] theorem wS_rt : wS (fun s => .rt d s) s Q = Q (.rt d s) := id rfl
@[simp] theorem wS_put {x : Sl} : wS (fun s => .nx (s.put j x)) s Q = Q (.nx (s.put j x)) := id rfl
@[simp] theorem wS_ite {c : Prop} [Decidable c] : wS (if c then a else b) s Q = if c then wS a s Q else wS b s Q := by split <;> rfl
@[simp] theorem wE_ite {α : Type} {c : Prop} [Decidable c] {m n : M α} {Q : R α → Prop} : wE (if c then m else n) s Q = if c then wE m s Q else wE n s Q := by split <;> rfl
@[simp] theorem put_mk {ρ : List Sl} {μ : List MO} {x : Sl} : S.put ⟨ρ, μ⟩ j x = ⟨ρ.set j x, μ⟩ := id rfl
end
section
variable {s : S} {ρ : List Sl} {μ : List MO} {d x : D} {j : Nat} {xs : List D}
@[simp] theorem wE_mmix0 {Q : R (List Sl) → Prop} : wE (mmix []) s Q = Q (.ok [] s) := id rfl
@[simp] theorem wE_mmixv {m : M D} {r : List MX} {Q : R (List Sl) → Prop} : wE (mmix (.v m :: r)) s Q = wE m s (kB (fun d => bnd (Bx.settle d) fun d => bnd (mmix r) fun xs => pur (.val d :: xs)) Q) := id rfl
@[simp] theorem wE_mmixf {m : M MO} {r : List MX} {Q : R (List Sl) → Prop} : wE (mmix (.f m :: r)) s Q = wE m s (kB (fun o => bnd (mmix r) fun xs => pur (.own o :: xs)) Q) := id rfl
@[simp] theorem wS_spar {js : List Nat} {ms : List MX} {Q : RS → Prop} : wS (spar js ms) s Q = wE (mmix ms) s (kS (fun xs s => .nx (s.puts js xs)) Q) := id rfl
@[simp] theorem wS_puts {js : List Nat} {xs : List Sl} {Q : RS → Prop} : wS (fun s => .nx (s.puts js xs)) s Q = Q (.nx (s.puts js xs)) := id rfl
@[simp] theorem puts_cons {x : Sl} {xs : List Sl} {js : List Nat} : S.puts ⟨ρ, μ⟩ (j :: js) (x :: xs) = S.puts ⟨ρ.set j x, μ⟩ js xs := id rfl
@[simp] theorem puts_nil : S.puts ⟨ρ, μ⟩ [] [] = ⟨ρ, μ⟩ := id rfl
@[simp] theorem wE_nset {Q : R MO → Prop} : wE nset s Q = Q (.ok (.set []) s) := id rfl
@[simp] theorem wE_ndct {Q : R MO → Prop} : wE ndct s Q = Q (.ok (.dct []) s) := id rfl
@[simp] theorem wE_var {Q : R D → Prop} (h : ρ[j]? = some (.val d)) : wE (var j) ⟨ρ, μ⟩ Q = Q (.ok d ⟨ρ, μ⟩) := by
  unfold wE var
  simp [h]
@[simp] theorem wE_varO {Q : R D → Prop} {m : MO} (h : ρ[j]? = some (.own m)) : wE (var j) ⟨ρ, μ⟩ Q = Q (.ok (.loc j) ⟨ρ, μ⟩) := by
  unfold wE var
  simp [h]
@[simp] theorem wE_mapp {m a : M D} {Q : R D → Prop} : wE (mapp m a) s Q = wE m s (kB (fun d => bnd (chk isL d) fun d => bnd (mal [a]) (on1 (appD d))) Q) := id rfl
@[simp] theorem wE_msadd {m a : M D} {Q : R D → Prop} : wE (msadd m a) s Q = wE m s (kB (fun d => bnd (chk isSet d) fun d => bnd (mal [a]) (on1 (sadD d))) Q) := id rfl
@[simp] theorem wE_chkL {Q : R D → Prop} (h : ρ[j]? = some (.own (.lst xs))) : wE (chk isL (.loc j)) ⟨ρ, μ⟩ Q = Q (.ok (.loc j) ⟨ρ, μ⟩) := by
  unfold wE chk isL
  simp [rsl, h]
@[simp] theorem wE_app {Q : R D → Prop} (h : ρ[j]? = some (.own (.lst xs))) (hl : xs.length < 100000) : wE (appD (.loc j) x) ⟨ρ, μ⟩ Q = Q (.ok .non ⟨ρ.set j (.own (.lst (xs ++ [x]))), μ⟩) := by
  unfold wE appD
  simp [S.mo, h, hl, S.mut, S.put]
@[simp] theorem wE_chkS {Q : R D → Prop} {ks : List L2.Key} (h : ρ[j]? = some (.own (.set ks))) : wE (chk isSet (.loc j)) ⟨ρ, μ⟩ Q = Q (.ok (.loc j) ⟨ρ, μ⟩) := by
  unfold wE chk isSet
  simp [S.mo, h]
@[simp] theorem wE_sad {Q : R D → Prop} {ks : List L2.Key} {k : L2.Key} (h : ρ[j]? = some (.own (.set ks))) (hk : keyD x = some k) (hl : ks.length < 1000) : wE (sadD (.loc j) x) ⟨ρ, μ⟩ Q = Q (.ok .non ⟨ρ.set j (.own (.set (addK ks k))), μ⟩) := by
  unfold wE sadD
  simp [S.mo, h, hk, hl, S.mut, S.put]
/-- a list of one's own that comes to stand still -/
@[simp] theorem wE_stlO {Q : R D → Prop} (h : ρ[j]? = some (.own (.lst xs))) : wE (Bx.settle (.loc j)) ⟨ρ, μ⟩ Q = Q (.ok (.lst xs) ⟨ρ.set j (.val (.lst xs)), μ⟩) := by
  unfold wE Bx.settle
  simp [h]
end
theorem wE_of {α : Type} {m : M α} {s : S} {r : R α} {Q : R α → Prop} (h : m s = r) : wE m s Q = Q r := by unfold wE; rw [h]
theorem wD_of {den : Den} {ds : List D} {μ : List MO} {r : RF} {Q : RF → Prop} (h : den ds μ = r) : wD den ds μ Q = Q r := by unfold wD; rw [h]
theorem wE_make {cn : Str} {den : DenI} {ds : List D} {ρ : List Sl} {μ μ' : List MO} {fs : List (Str × D)} {Q : R D → Prop} (h : den 0 0 ds μ = .ok fs μ') : wE (makeD cn den ds) ⟨ρ, μ⟩ Q = Q (.ok (.obj cn fs) ⟨ρ, μ'⟩) := by
  unfold wE makeD
  simp [h]
theorem of_wD {den : Den} {ds : List D} {μ : List MO} {P : RF → Prop} (h : wD den ds μ P) : P (den ds μ) := h
section
variable {s : S} {i j : Int} {d e : D} {b : Bool} {Q : R D → Prop}
@[simp] theorem wE_add : wE (addD (.int i) (.int j)) s Q = Q (.ok (.int (i + j)) s) := id rfl
@[simp] theorem wE_sub : wE (subD (.int i) (.int j)) s Q = Q (.ok (.int (i - j)) s) := id rfl
@[simp] theorem wE_lt : wE (ltD (.int i) (.int j)) s Q = Q (.ok (.bl (decide (i < j))) s) := id rfl
@[simp] theorem wE_le : wE (leD (.int i) (.int j)) s Q = Q (.ok (.bl (decide (i ≤ j))) s) := id rfl
@[simp] theorem wE_gt : wE (gtD (.int i) (.int j)) s Q = Q (.ok (.bl (decide (j < i))) s) := id rfl
@[simp] theorem wE_ge : wE (geD (.int i) (.int j)) s Q = Q (.ok (.bl (decide (j ≤ i))) s) := id rfl
theorem wE_mul (h : mulOk i j = true) : wE (mulD (.int i) (.int j)) s Q = Q (.ok (.int (i * j)) s) := wE_of (by rw [mul_int, if_pos h])
@[simp] theorem wE_eqI : wE (eqD (.int i) (.int j)) s Q = Q (.ok (.bl (i == j)) s) := id rfl
@[simp] theorem wE_neI : wE (neD (.int i) (.int j)) s Q = Q (.ok (.bl (!(i == j))) s) := id rfl
@[simp] theorem wE_max : wE (maxD (.int i) (.int j)) s Q = Q (.ok (.int (if j > i then j else i)) s) := id rfl
@[simp] theorem wE_min : wE (minD (.int i) (.int j)) s Q = Q (.ok (.int (if j < i then j else i)) s) := id rfl
@[simp] theorem wE_settle_int : wE (Bx.settle (.int i)) s Q = Q (.ok (.int i) s) := id rfl
@[simp] theorem wE_settle_bl : wE (Bx.settle (.bl b)) s Q = Q (.ok (.bl b) s) := id rfl
@[simp] theorem wE_settle_str {x : Str} : wE (Bx.settle (.str x)) s Q = Q (.ok (.str x) s) := id rfl
@[simp] theorem wE_settle_non : wE (Bx.settle .non) s Q = Q (.ok .non s) := id rfl
@[simp] theorem wE_settle_tup {xs : List D} : wE (Bx.settle (.tup xs)) s Q = Q (.ok (.tup xs) s) := id rfl
@[simp] theorem wE_settle_twk {xs : List D} : wE (Bx.settle (.twk xs)) s Q = Q (.ok (.twk xs) s) := id rfl
@[simp] theorem wE_settle_lst {xs : List D} : wE (Bx.settle (.lst xs)) s Q = Q (.ok (.lst xs) s) := id rfl
@[simp] theorem wE_settle_ref {k : Nat} : wE (Bx.settle (.ref k)) s Q = Q (.ok (.ref k) s) := id rfl
@[simp] theorem wE_settle_scr {ns : List Int} : wE (Bx.settle (.scr ns)) s Q = Q (.ok (.scr ns) s) := id rfl
@[simp] theorem wE_settle_obj {c : Str} {fs : List (Str × D)} : wE (Bx.settle (.obj c fs)) s Q = Q (.ok (.obj c fs) s) := id rfl
@[simp] theorem wE_settle_dct {fs : List (L2.Key × D)} : wE (Bx.settle (.dct fs)) s Q = Q (.ok (.dct fs) s) := id rfl
@[simp] theorem wE_f1 {h : D → M D} : wE (f1 h [d]) s Q = wE (h d) s Q := id rfl
@[simp] theorem wE_f2 {h : D → D → M D} : wE (f2 h [d, e]) s Q = wE (h d e) s Q := id rfl
@[simp] theorem wE_on1 {α : Type} {h : D → M α} {Q : R α → Prop} : wE (on1 h [d]) s Q = wE (h d) s Q := id rfl
@[simp] theorem wE_on2 {α : Type} {h : D → D → M α} {Q : R α → Prop} : wE (on2 h [d, e]) s Q = wE (h d e) s Q := id rfl
@[simp] theorem wE_items_lst {xs : List D} {Q : R (List D) → Prop} : wE (itemsD (.lst xs)) s Q = Q (.ok xs s) := id rfl
@[simp] theorem wE_items_tup {xs : List D} {Q : R (List D) → Prop} : wE (itemsD (.tup xs)) s Q = Q (.ok xs s) := id rfl
@[simp] theorem wE_items_str {x : Str} {Q : R (List D) → Prop} : wE (itemsD (.str x)) s Q = Q (.ok (x.cps.toList.map fun c => .str ⟨#[c]⟩) s) := id rfl
theorem wE_rg1 {Q : R (List D) → Prop} (h0 : -1000000 ≤ j) (h1 : j ≤ 1000000) : wE (rg1 (.int j)) s Q = Q (.ok (rangeI 0 j.toNat) s) := wE_of (rg1_int (inRg_of h0 h1))
theorem wE_rg2 {Q : R (List D) → Prop} (h0 : -1000000 ≤ i) (h1 : i ≤ 1000000) (h2 : -1000000 ≤ j) (h3 : j ≤ 1000000) : wE (rg2 (.int i) (.int j)) s Q = Q (.ok (rangeI i (j - i).toNat) s) := wE_of (rg2_int (inRg_of h0 h1) (inRg_of h2 h3))
def chnK (g : D → D → M D) (y : D) (c : M D) : D → M D := fun z => match z with
  | .bl true => bnd c fun w => g y w
  | .bl false => pur (.bl false)
  | _ => fun _ => .bad
@[simp] theorem wE_chain {f g : D → D → M D} {a b c : M D} : wE (chain f g a b c) s Q = wE a s (kB (fun x => bnd b fun y => bnd (f x y) (chnK g y c)) Q) := id rfl
@[simp] theorem chnK_bl {g : D → D → M D} {c : M D} : wE (chnK g d c (.bl b)) s Q = if b = true then wE c s (kB (fun w => g d w) Q) else Q (.ok (.bl false) s) := by cases b <;> rfl
def andK (c : M D) : D → M D := fun z => match z with
  | .bl true => c
  | .bl false => pur (.bl false)
  | _ => fun _ => .bad
def orK (c : M D) : D → M D := fun z => match z with
  | .bl false => c
  | .bl true => pur (.bl true)
  | _ => fun _ => .bad
def notK : D → M D := fun z => match z with
  | .bl b => pur (.bl !b)
  | _ => fun _ => .bad
@[simp] theorem wE_andD {a c : M D} : wE (andD a c) s Q = wE a s (kB (andK c) Q) := id rfl
@[simp] theorem andK_bl {c : M D} : wE (andK c (.bl b)) s Q = if b = true then wE c s Q else Q (.ok (.bl false) s) := by cases b <;> rfl
@[simp] theorem wE_orD {a c : M D} : wE (orD a c) s Q = wE a s (kB (orK c) Q) := id rfl
@[simp] theorem orK_bl {c : M D} : wE (orK c (.bl b)) s Q = if b = true then Q (.ok (.bl true) s) else wE c s Q := by cases b <;> rfl
@[simp] theorem wE_notD {a : M D} : wE (notD a) s Q = wE a s (kB notK Q) := id rfl
@[simp] theorem notK_bl : wE (notK (.bl b)) s Q = Q (.ok (.bl !b) s) := id rfl
@[simp] theorem wE_tupleL {xs : List D} : wE (tupleD (.lst xs)) s Q = Q (.ok (.tup xs) s) := id rfl
@[simp] theorem wE_tupleT {xs : List D} : wE (tupleD (.tup xs)) s Q = Q (.ok (.tup xs) s) := id rfl
@[simp] theorem wE_lenL {xs : List D} : wE (lenD (.lst xs)) s Q = Q (.ok (.int xs.length) s) := id rfl
@[simp] theorem wE_lenT {xs : List D} : wE (lenD (.tup xs)) s Q = Q (.ok (.int xs.length) s) := id rfl
@[simp] theorem wE_lenS {x : Str} (h : x.length ≤ 100000) : wE (lenD (.str x)) s Q = Q (.ok (.int x.length) s) := by
  unfold wE lenD
  simp [rsl, h]
@[simp] theorem wE_lenR {ns : List Int} : wE (lenD (.scr ns)) s Q = Q (.ok (.int ns.length) s) := id rfl
@[simp] theorem wE_lenO {ρ : List Sl} {μ : List MO} {k : Nat} {xs : List D} (h : ρ[k]? = some (.own (.lst xs))) : wE (lenD (.loc k)) ⟨ρ, μ⟩ Q = Q (.ok (.int xs.length) ⟨ρ, μ⟩) := by
  unfold wE lenD
  simp [rsl, h]
@[simp] theorem wE_tupleO {ρ : List Sl} {μ : List MO} {k : Nat} {xs : List D} (h : ρ[k]? = some (.own (.lst xs))) : wE (tupleD (.loc k)) ⟨ρ, μ⟩ Q = Q (.ok (.tup xs) ⟨ρ, μ⟩) := by
  unfold wE tupleD
  simp [rsl, h]
end
theorem wD_runB {n : Nat} {b : MS} {ds : List D} {μ : List MO} {Q : RF → Prop} : wD (runB n b) ds μ Q = wS b ⟨frame n ds, μ⟩ (kF Q) := by
  unfold wD wS kF
  rw [runB_ap]
/-- a target is set, then the body -/
def kA (body : MS) (I : S → Prop) (Q : RS → Prop) : RS → Prop := fun r => match r with
  | .nx s => wS body s (kL I Q)
  | _ => False
@[simp] theorem kA_nx {body : MS} {I : S → Prop} {Q : RS → Prop} {s : S} : kA body I Q (.nx s) = wS body s (kL I Q) := id rfl
section
variable {asg : D → MS} {body : MS} {Q : RS → Prop}
/-- over a list: I done rest -/
theorem wfor {α : Type} {s : S} (f : α → D) (xs : List α) (I : List α → List α → S → Prop) (h0 : I [] xs s) (hI : ∀ l x r s, l ++ x :: r = xs → I l (x :: r) s → wS (asg (f x)) s (kA body (I (l ++ [x]) r) Q)) (hE : ∀ s, I xs [] s → Q (.nx s)) : wS (floop asg body (xs.map f)) s Q := by
  have go : ∀ (r l : List α) (s : S), l ++ r = xs → I l r s → wS (floop asg body (r.map f)) s Q := by
    intro r
    induction r with
    | nil => intro l s e h; rw [List.append_nil] at e; subst e; exact hE s h
    | cons x r ih =>
      intro l s e h
      have h1 : kA body (I (l ++ [x]) r) Q (asg (f x) s) := hI l x r s e h
      have ih' := fun s => ih (l ++ [x]) s (by rw [List.append_assoc]; exact e)
      show Q (floop asg body (f x :: r.map f) s)
      rw [floop]
      cases e : asg (f x) s with
      | nx s1 =>
        rw [e] at h1
        have h2 : kL (I (l ++ [x]) r) Q (body s1) := h1
        simp only
        cases e2 : body s1 with
        | nx s2 => rw [e2] at h2; exact ih' s2 h2
        | ct s2 => rw [e2] at h2; exact ih' s2 h2
        | bk s2 => rw [e2] at h2; exact h2
        | rt d2 s2 => rw [e2] at h2; exact h2
        | exc x s2 => rw [e2] at h2; exact h2
        | bad => rw [e2] at h2; exact h2.elim
      | _ => rw [e] at h1; exact h1.elim
  exact go xs [] s rfl h0
/-- over a range -/
theorem wforR {s : S} {lo : Int} {n : Nat} (I : Nat → S → Prop) (h0 : I 0 s) (hI : ∀ k s, k < n → I k s → wS (asg (.int (lo + k))) s (kA body (I (k + 1)) Q)) (hE : ∀ s, I n s → Q (.nx s)) : wS (floop asg body (rangeI lo n)) s Q := by
  unfold rangeI
  refine wfor (fun (i : Nat) => D.int (lo + i)) (List.range n) (fun l _ s => I l.length s) h0 (fun l x r s e h => ?_) (fun s h => hE s (by rwa [List.length_range] at h))
  have hx : x = l.length := by
    have h1 := congrArg (fun z => z[l.length]?) e
    simp only [List.getElem?_append_right (Nat.le_refl _), Nat.sub_self, List.getElem?_cons_zero] at h1
    rw [List.getElem?_eq_some_iff.mpr ⟨by rw [← e]; simp, rfl⟩] at h1
    simpa using h1
  have hl : l.length < n := by
    have h1 := congrArg List.length e
    simp at h1
    omega
  subst hx
  rw [List.length_append, List.length_singleton]
  exact hI l.length s hl h
end
/-- a while: a measure below the fuel -/
theorem wwhile {t : M Bool} {body : MS} {Q : RS → Prop} (I : Nat → S → Prop) (hI : ∀ n s, I n s → wE t s (kV fun b s1 => if b then wS body s1 (kL (fun s2 => ∃ m, m < n ∧ I m s2) Q) else Q (.nx s1))) : ∀ (k n : Nat) (s : S), n < k → I n s → wS (wloop t body k) s Q
  | 0, n, s, hk, _ => absurd hk (Nat.not_lt_zero _)
  | k + 1, n, s, hk, h => by
    have h1 := hI n s h
    show Q (wloop t body (k + 1) s)
    rw [wloop]
    unfold wE at h1
    cases e : t s with
    | ok b s1 =>
      rw [e] at h1
      have h2 : if b then wS body s1 (kL (fun s2 => ∃ m, m < n ∧ I m s2) Q) else Q (.nx s1) := h1
      rw [toS_ok]
      cases b with
      | false => exact h2
      | true =>
        have h3 : kL (fun s2 => ∃ m, m < n ∧ I m s2) Q (body s1) := h2
        simp only [if_true]
        cases e2 : body s1 with
        | nx s2 => rw [e2] at h3; obtain ⟨m, h4, h5⟩ := h3; exact wwhile I hI k m s2 (by omega) h5
        | ct s2 => rw [e2] at h3; obtain ⟨m, h4, h5⟩ := h3; exact wwhile I hI k m s2 (by omega) h5
        | bk s2 => rw [e2] at h3; exact h3
        | rt d2 s2 => rw [e2] at h3; exact h3
        | exc x s2 => rw [e2] at h3; exact h3
        | bad => rw [e2] at h3; exact h3.elim
    | exc x s1 => rw [e] at h1; exact h1.elim
    | bad => rw [e] at h1; exact h1.elim
/-- a turn of a comprehension: what is yielded, or that nothing is -/
def kY (vs : List Nat) (t : M Bool) (el : M D) (P : Option D → S → Prop) : RS → Prop := fun r => match r with
  | .nx s1 => wE t s1 (kV fun b s2 => if b then wE (stl el) s2 (kV fun d s3 => P (some d) (wipeS vs s3)) else P none (wipeS vs s2))
  | _ => False
@[simp] theorem kY_nx {vs : List Nat} {t : M Bool} {el : M D} {P : Option D → S → Prop} {s1 : S} : kY vs t el P (.nx s1) = wE t s1 (kV fun b s2 => if b then wE (stl el) s2 (kV fun d s3 => P (some d) (wipeS vs s3)) else P none (wipeS vs s2)) := id rfl
section
variable {vs : List Nat} {asg : D → MS} {t : M Bool} {el : M D} {Q : R D → Prop}
/-- I done acc -/
theorem wcomp_go {α : Type} (f : α → D) (I : List α → List D → S → Prop) {N : Nat} (hN : N ≤ 100000) (hA : ∀ r acc s, I r acc s → acc.length + r.length ≤ N)
    (hI : ∀ x r acc s, I (x :: r) acc s → wS (asg (f x)) s (kY vs t el fun o s' => I r (acc ++ o.toList) s')) (hE : ∀ acc s, I [] acc s → Q (.ok (.lst acc) (wipeS vs s))) : ∀ (r : List α) (acc : List D) (s : S), I r acc s → wE (cloop vs asg t el (r.map f) acc) s Q
  | [], acc, s, h => hE acc s h
  | x :: r, acc, s, h => by
    have h1 : kY vs t el (fun o s' => I r (acc ++ o.toList) s') (asg (f x) s) := hI x r acc s h
    have hl := hA _ _ _ h
    rw [List.length_cons] at hl
    show Q (cloop vs asg t el (f x :: r.map f) acc s)
    rw [cloop]
    cases e : asg (f x) s with
    | nx s1 =>
      rw [e] at h1
      have h2 : kV _ (t s1) := h1
      simp only
      cases e2 : t s1 with
      | ok b s2 =>
        rw [e2] at h2
        cases b with
        | false =>
          have h3 : I r (acc ++ []) (wipeS vs s2) := h2
          rw [List.append_nil] at h3
          exact wcomp_go f I hN hA hI hE r acc _ h3
        | true =>
          have h3 : kV (fun d s3 => I r (acc ++ (some d).toList) (wipeS vs s3)) (stl el s2) := h2
          simp only
          cases e3 : stl el s2 with
          | ok y s3 =>
            rw [e3] at h3
            simp only
            rw [if_pos (by omega)]
            exact wcomp_go f I hN hA hI hE r _ _ h3
          | exc x s3 => rw [e3] at h3; exact h3.elim
          | bad => rw [e3] at h3; exact h3.elim
      | exc x s2 => rw [e2] at h2; exact h2.elim
      | bad => rw [e2] at h2; exact h2.elim
    | _ => rw [e] at h1; exact h1.elim
/-- nothing else changes -/
theorem wcomp {α : Type} {s : S} (f : α → D) (xs : List α) (p : α → Bool) (h : α → D) (hw : wipeS vs s = s) (hl : xs.length ≤ 100000) (hI : ∀ x, x ∈ xs → wS (asg (f x)) s (kY vs t el fun o s' => o = (if p x then some (h x) else none) ∧ s' = s)) (hE : Q (.ok (.lst ((xs.filter p).map h)) s)) : wE (cloop vs asg t el (xs.map f) []) s Q := by
  refine wcomp_go (N := xs.length) f (fun r acc s' => s' = s ∧ ∃ l, l ++ r = xs ∧ acc = (l.filter p).map h) hl (fun r acc s' h1 => ?_) (fun x r acc s' h1 => ?_) (fun acc s' h1 => ?_) xs [] s ⟨rfl, [], rfl, rfl⟩
  · obtain ⟨_, l, e, rfl⟩ := h1
    have := List.length_filter_le p l
    rw [← e, List.length_map, List.length_append]
    omega
  · obtain ⟨rfl, l, e, rfl⟩ := h1
    have h2 : kY vs t el (fun o s'' => o = (if p x then some (h x) else none) ∧ s'' = s') (asg (f x) s') := hI x (by rw [← e]; simp)
    show kY vs t el _ (asg (f x) s')
    cases e : asg (f x) s' with
    | nx s1 =>
      rw [e] at h2
      have h2' : kV _ (t s1) := h2
      show kV _ (t s1)
      cases e2 : t s1 with
      | ok b s2 =>
        rw [e2] at h2'
        cases b with
        | false =>
          obtain ⟨h3, h4⟩ : none = (if p x then some (h x) else none) ∧ wipeS vs s2 = s' := h2'
          refine ⟨h4, l ++ [x], by simpa using ‹l ++ x :: r = xs›, ?_⟩
          cases hp : p x with
          | false => simp [hp]
          | true => rw [hp] at h3; cases h3
        | true =>
          have h2'' : kV (fun d s3 => some d = (if p x then some (h x) else none) ∧ wipeS vs s3 = s') (stl el s2) := h2'
          show kV _ (stl el s2)
          cases e3 : stl el s2 with
          | ok y s3 =>
            rw [e3] at h2''
            obtain ⟨h3, h4⟩ := h2''
            refine ⟨h4, l ++ [x], by simpa using ‹l ++ x :: r = xs›, ?_⟩
            cases hp : p x with
            | false => rw [hp] at h3; cases h3
            | true => rw [hp] at h3; cases h3; simp [hp]
          | exc x s3 => rw [e3] at h2''; exact h2''.elim
          | bad => rw [e3] at h2''; exact h2''.elim
      | exc x s2 => rw [e2] at h2'; exact h2'.elim
      | bad => rw [e2] at h2'; exact h2'.elim
    | _ => rw [e] at h2; exact h2.elim
  · obtain ⟨rfl, l, e, rfl⟩ := h1
    rw [List.append_nil] at e
    subst e
    rw [hw]
    exact hE
end
theorem wcompY {α : Type} {vs : List Nat} {asg : D → MS} {t : M Bool} {el : M D} {Q : R D → Prop} {s : S} (f : α → D) (xs : List α) (h : α → D) (hw : wipeS vs s = s) (hl : xs.length ≤ 100000) (hI : ∀ x, x ∈ xs → wS (asg (f x)) s (kY vs t el fun o s' => o = some (h x) ∧ s' = s)) (hE : Q (.ok (.lst (xs.map h)) s)) : wE (cloop vs asg t el (xs.map f) []) s Q := by
  refine wcomp f xs (fun _ => true) h hw hl (fun x hx => ?_) ?_
  · simpa using hI x hx
  · rwa [List.filter_eq_self.mpr (fun _ _ => rfl)]
theorem wE_cut {α : Type} {m : M α} {s : S} {Q : R α → Prop} (P : α → Prop) (h : wE m s fun r => ∃ d, r = .ok d s ∧ P d) (q : ∀ d, P d → Q (.ok d s)) : wE m s Q := by
  obtain ⟨d, h1, h2⟩ := h
  unfold wE
  rw [h1]
  exact q d h2
def kX (P : S → Prop) : RS → Prop := fun r => match r with
  | .nx s => P s
  | _ => False
@[simp] theorem kX_nx {P : S → Prop} {s : S} : kX P (.nx s) = P s := id rfl
theorem wS_cut {a b : MS} {s : S} {Q : RS → Prop} (P : S → Prop) (h : wS a s (kX P)) (q : ∀ s', P s' → wS b s' Q) : wS (sq a b) s Q := by
  rw [wS_sq]
  unfold wS at *
  cases e : a s with
  | nx s' => rw [e] at h; exact q s' h
  | _ => rw [e] at h; exact h.elim
theorem wS_cutN {a b : MS} {s : S} {Q : RS → Prop} (P : S → Prop) (h : wS a s (kX P)) (q : ∀ s', P s' → wS b s' Q) : wS a s (kN b Q) := by
  rw [← wS_sq]
  exact wS_cut P h q
end Bx
namespace Bx
open PySem
def asc (x : Str) : Bool := x.cps.toList.all (· < 128)
mutual
def okS : D → Bool
  | .non => true
  | .bl _ => true
  | .int i => decide (-10000000000000000000000000000000000000000 < i) && decide (i < 10000000000000000000000000000000000000000)
  | .str x => asc x
  | .tup ds => okSL ds
  | .lst ds => okSL ds
  | _ => false
def okSL : List D → Bool
  | [] => true
  | d :: r => okS d && okSL r
end
mutual
def wt : D → Nat
  | .str x => 4 * x.length + 2
  | .tup ds => wtL ds + 3
  | .lst ds => wtL ds + 3
  | _ => 45
def wtL : List D → Nat
  | [] => 0
  | d :: r => wt d + 2 + wtL r
end
mutual
def dpt : D → Nat
  | .tup ds => dptL ds + 1
  | .lst ds => dptL ds + 1
  | _ => 0
def dptL : List D → Nat
  | [] => 0
  | d :: r => max (dpt d) (dptL r)
end
theorem int_text (i : Int) : (PyData.int i).shown = Str.ofString (toString i) := rfl
theorem cps_ofString (x : String) : (Str.ofString x).cps.toList = x.toList.map Char.toNat := PyProof.Rows.signs_ofString x
theorem int_signs (i : Int) : ∃ l : List Char, ((PyData.int i).shown.cps.toList = l.map Char.toNat ∨ (PyData.int i).shown.cps.toList = 45 :: l.map Char.toNat) ∧ l = Nat.toDigits 10 i.natAbs := by
  refine ⟨_, ?_, rfl⟩
  rw [int_text, cps_ofString]
  cases i with
  | ofNat n =>
    refine .inl ?_
    show (Nat.repr n).toList.map Char.toNat = _
    rw [Nat.toList_repr]
    rfl
  | negSucc n =>
    refine .inr ?_
    show (String.append "-" (Nat.repr (n + 1))).toList.map Char.toNat = _
    have : (String.append "-" (Nat.repr (n + 1))).toList = '-' :: (Nat.repr (n + 1)).toList := by
      show ("-" ++ Nat.repr (n + 1)).toList = _
      rw [String.toList_append]
      rfl
    rw [this, Nat.toList_repr]
    rfl
theorem show_int : ∀ i : Int, -10000000000000000000000000000000000000000 < i → i < 10000000000000000000000000000000000000000 → ((PyData.int i).shown).length ≤ 45 := by
  intro i h0 h1
  obtain ⟨l, h, rfl⟩ := int_signs i
  have h2 : (Nat.toDigits 10 i.natAbs).length ≤ 40 := PyProof.Rows.digits10_le (by omega) (by omega)
  show (PyData.int i).shown.cps.size ≤ 45
  rw [← Array.length_toList]
  rcases h with h | h <;> rw [h] <;> simp <;> omega
theorem rch_len : ∀ c, c < 128 → (PySem.Builtin.Str.reprChar 34 c).length ≤ 4 ∧ (PySem.Builtin.Str.reprChar 39 c).length ≤ 4 := by decide +kernel
theorem fold_len (q : Nat) (hq : ∀ c, c < 128 → (PySem.Builtin.Str.reprChar q c).length ≤ 4) : ∀ (l : List Nat) (n : Nat), (∀ c ∈ l, c < 128) → l.foldl (fun n c => n + (PySem.Builtin.Str.reprChar q c).length) n ≤ n + 4 * l.length
  | [], n, _ => by simp
  | c :: r, n, h => by
    have h1 := hq c (h c (List.mem_cons_self ..))
    have h2 := fold_len q hq r (n + (PySem.Builtin.Str.reprChar q c).length) fun d hd => h d (List.mem_cons_of_mem _ hd)
    rw [List.foldl_cons, List.length_cons]
    omega
theorem show_str (x : Str) (h : asc x = true) : ((PyData.str x).shown).length ≤ 4 * x.length + 2 := by
  have hc : ∀ c ∈ x.cps.toList, c < 128 := fun c hc => by
    have := List.all_eq_true.mp h c hc
    simpa using this
  show (reprText x).length ≤ _
  rw [← reprLen_eq, ← Array.foldl_toList]
  have hx : x.length = x.cps.toList.length := rfl
  have hq : ∀ c, c < 128 → (PySem.Builtin.Str.reprChar (reprQuote x) c).length ≤ 4 := by
    unfold reprQuote
    intro c h
    have := rch_len c h
    split
    · exact this.1
    · exact this.2
  have := fold_len (reprQuote x) hq x.cps.toList 2 hc
  rw [hx]
  omega
theorem show_tup (ts : List Str) : (tupleText ts).length ≤ piled ts + 3 := by
  unfold tupleText
  rw [strLen_append, strLen_append]
  have e1 : ((if ts.length == 1 then ",)" else ")" : String) : Str).length ≤ 2 := by split <;> decide
  have e2 : (("(" : String) : Str).length = 1 := rfl
  by_cases h : ts = []
  · subst h
    have : (Str.join ", " []).length = 0 := rfl
    omega
  · have := join_length_add ts h
    omega
theorem show_from : ∀ (ts : List Str) (k : Nat) (acc : Str), (textFrom k acc ts).length ≤ acc.length + piled ts
  | [], k, acc => by simp [textFrom, piled_nil]
  | t :: r, k, acc => by
    rw [textFrom, piled_cons]
    have := show_from r (k + 1) (acc ++ (if k > 0 then ", " else "" : String) ++ t)
    rw [strLen_append, strLen_append] at this
    have e1 : ((if k > 0 then ", " else "" : String) : Str).length ≤ 2 := by split <;> decide
    omega
theorem show_lst (ts : List Str) : (listText ts).length ≤ piled ts + 3 := by
  unfold listText
  rw [strLen_append]
  have := show_from ts 0 "["
  have e2 : (("[" : String) : Str).length = 1 := rfl
  have e3 : (("]" : String) : Str).length = 1 := rfl
  omega
structure Shows (d : D) (p : PyData) : Prop where
  pd : pd d = some p
  can : p.canLay0 = true
  able : p.showable = true
  len : p.shown.length ≤ wt d
  dep : p.depth ≤ dpt d
structure ShowsL (d : List D) (p : List PyData) : Prop where
  pd : pdL d = some p
  can : PyData.canLayAll0 p = true
  able : PyData.showableAll p = true
  len : piled (PyData.shownAll p) ≤ wtL d
  dep : PyData.depthAll p ≤ dptL d
theorem log_small {i : Int} (h0 : -10000000000000000000000000000000000000000 < i) (h1 : i < 10000000000000000000000000000000000000000) : i.natAbs.log2 < 1920 := by
  by_cases h : i.natAbs = 0
  · rw [h]; decide
  · rw [Nat.log2_lt h]
    exact Nat.lt_of_lt_of_le (show i.natAbs < 2 ^ 140 by omega) (Nat.pow_le_pow_right (by decide) (by decide))
mutual
theorem shows_of : ∀ d : D, okS d = true → ∃ p, Shows d p
  | .non, _ => ⟨.none, rfl, rfl, rfl, by decide, by decide⟩
  | .bl b, _ => ⟨.bool b, rfl, rfl, rfl, by cases b <;> decide, Nat.le_refl _⟩
  | .int i, h => by
    have h' : -10000000000000000000000000000000000000000 < i ∧ i < 10000000000000000000000000000000000000000 := by simpa [okS] using h
    exact ⟨.int i, rfl, rfl, by simp [PyData.showable, log_small h'.1 h'.2], show_int i h'.1 h'.2, Nat.le_refl _⟩
  | .str x, h => by
    refine ⟨.str x, rfl, ?_, rfl, show_str x h, Nat.le_refl _⟩
    show PyData.strOk x = true
    unfold PyData.strOk
    rw [← Array.all_toList, List.all_eq_true]
    intro c hc
    have := List.all_eq_true.mp (show x.cps.toList.all (· < 128) = true from h) c hc
    simp at this ⊢
    omega
  | .tup ds, h => by
    obtain ⟨ps, h1⟩ := showsL_of ds h
    refine ⟨.tuple ps, by simp [pd, h1.pd], h1.can, h1.able, ?_, ?_⟩
    · have := show_tup (PyData.shownAll ps)
      have := h1.len
      show (tupleText (PyData.shownAll ps)).length ≤ wtL ds + 3
      omega
    · show PyData.depthAll ps + 1 ≤ dptL ds + 1
      have := h1.dep
      omega
  | .lst ds, h => by
    obtain ⟨ps, h1⟩ := showsL_of ds h
    refine ⟨.list ps, by simp [pd, h1.pd], h1.can, h1.able, ?_, ?_⟩
    · have := show_lst (PyData.shownAll ps)
      have := h1.len
      show (listText (PyData.shownAll ps)).length ≤ wtL ds + 3
      omega
    · show PyData.depthAll ps + 1 ≤ dptL ds + 1
      have := h1.dep
      omega
  | .dct _, h => by simp [okS] at h
  | .obj _ _, h => by simp [okS] at h
  | .ref _, h => by simp [okS] at h
  | .loc _, h => by simp [okS] at h
  | .glo _, h => by simp [okS] at h
  | .ty _, h => by simp [okS] at h
  | .scr _, h => by simp [okS] at h
theorem showsL_of : ∀ d : List D, okSL d = true → ∃ p, ShowsL d p
  | [], _ => ⟨[], rfl, rfl, rfl, by simp [PyData.shownAll, piled_nil, wtL], Nat.le_refl _⟩
  | d :: r, h => by
    have h' : okS d = true ∧ okSL r = true := by simpa [okSL] using h
    obtain ⟨p, h1⟩ := shows_of d h'.1
    obtain ⟨ps, h2⟩ := showsL_of r h'.2
    refine ⟨p :: ps, by simp [pdL, h1.pd, h2.pd], by simp [PyData.canLayAll0, h1.can, h2.can], by simp [PyData.showableAll, h1.able, h2.able], ?_, ?_⟩
    · rw [PyData.shownAll, piled_cons, wtL]
      have := h1.len
      have := h2.len
      omega
    · show max _ _ ≤ max _ _
      have := h1.dep
      have := h2.dep
      omega
end
theorem okS_rsl {d : D} (s : S) (h : okS d = true) : rsl s d = d := by cases d <;> first | rfl | (simp [okS] at h)
mutual
/-- no truths within -/
def noB : D → Bool
  | .bl _ => false
  | .tup ds => noBL ds
  | .lst ds => noBL ds
  | _ => true
def noBL : List D → Bool
  | [] => true
  | d :: r => noB d && noBL r
end
theorem two_ok {a b : D} {p q : PyData} (s : S) (ha : okS a = true) (hb : okS b = true) (hp : Shows a p) (hq : Shows b q) (da : dpt a ≤ 64) (db : dpt b ≤ 64) : eqD a b s = .ok (.bl (PyData.eqv p q)) s ∧ neD a b s = .ok (.bl (!PyData.eqv p q)) s := by
  have e1 : (okD p && okD q) = true := by
    unfold okD SeqAt.shaped
    rw [hp.can, hq.can, Bool.true_and, Bool.true_and, Bool.and_eq_true]
    have := hp.dep
    have := hq.dep
    exact ⟨decide_eq_true (by omega), decide_eq_true (by omega)⟩
  unfold eqD neD
  rw [okS_rsl s ha, okS_rsl s hb]
  cases e : twoS a b with
  | some r =>
    obtain ⟨x, y, rfl, rfl, _⟩ := twoS_ok e
    have h1 : some (decide (x = y)) = some r := e
    have h2 : some (PyData.str x) = some p := hp.pd
    have h3 : some (PyData.str y) = some q := hq.pd
    cases h1
    cases h2
    cases h3
    simp only [PyData.eqv]
    have : decide (x = y) = (x == y) := by
      by_cases h : x = y
      · subst h; simp
      · rw [decide_eq_false h]; symm; simpa using h
    rw [this]
    exact ⟨rfl, rfl⟩
  | none =>
    rw [hp.pd, hq.pd]
    simp only [e1, if_true]
    exact ⟨trivial, trivial⟩
theorem eq_self {a : D} (s : S) (ha : okS a = true) (da : dpt a ≤ 64) : eqD a a s = .ok (.bl true) s := by
  obtain ⟨p, hp⟩ := shows_of a ha
  rw [(two_ok s ha ha hp hp da da).1, SeqAt.eqv_refl p hp.can]
theorem ne_self {a : D} (s : S) (ha : okS a = true) (da : dpt a ≤ 64) : neD a a s = .ok (.bl false) s := by
  obtain ⟨p, hp⟩ := shows_of a ha
  rw [(two_ok s ha ha hp hp da da).2, SeqAt.eqv_refl p hp.can]
  rfl
mutual
theorem eqv_iff : ∀ (a b : D) (p q : PyData), pd a = some p → pd b = some q → noB a = true → noB b = true → (PyData.eqv p q = true ↔ a = b)
  | .non, b, p, q, hp, hq, na, nb => by
    cases hp
    cases b <;> simp only [pd, Option.map_eq_some_iff, Option.some.injEq, reduceCtorEq] at hq <;> (first | (obtain ⟨_, _, rfl⟩ := hq) | subst hq) <;> simp [PyData.eqv]
  | .bl x, b, p, q, hp, hq, na, nb => by simp [noB] at na
  | .int i, b, p, q, hp, hq, na, nb => by
    cases hp
    cases b <;> simp only [pd, Option.map_eq_some_iff, Option.some.injEq, reduceCtorEq] at hq <;> (first | (obtain ⟨_, _, rfl⟩ := hq) | subst hq) <;> first | (simp [noB] at nb; done) | simp [PyData.eqv]
  | .str i, b, p, q, hp, hq, na, nb => by
    cases hp
    cases b <;> simp only [pd, Option.map_eq_some_iff, Option.some.injEq, reduceCtorEq] at hq <;> (first | (obtain ⟨_, _, rfl⟩ := hq) | subst hq) <;> simp [PyData.eqv]
  | .tup xs, b, p, q, hp, hq, na, nb => by
    simp only [pd, Option.map_eq_some_iff] at hp
    obtain ⟨ps, hp, rfl⟩ := hp
    cases b <;> simp only [pd, Option.map_eq_some_iff, Option.some.injEq, reduceCtorEq] at hq <;> (first | (obtain ⟨qs, hq, rfl⟩ := hq) | subst hq) <;> first | (simp [PyData.eqv]; done) | skip
    case tup ys => simp only [PyData.eqv, D.tup.injEq]; exact eqvL_iff xs ys ps qs hp hq na nb
  | .lst xs, b, p, q, hp, hq, na, nb => by
    simp only [pd, Option.map_eq_some_iff] at hp
    obtain ⟨ps, hp, rfl⟩ := hp
    cases b <;> simp only [pd, Option.map_eq_some_iff, Option.some.injEq, reduceCtorEq] at hq <;> (first | (obtain ⟨qs, hq, rfl⟩ := hq) | subst hq) <;> first | (simp [PyData.eqv]; done) | skip
    case lst ys => simp only [PyData.eqv, D.lst.injEq]; exact eqvL_iff xs ys ps qs hp hq na nb
  | .dct _, b, p, q, hp, hq, na, nb => by cases hp
  | .obj _ _, b, p, q, hp, hq, na, nb => by cases hp
  | .ref _, b, p, q, hp, hq, na, nb => by cases hp
  | .loc _, b, p, q, hp, hq, na, nb => by cases hp
  | .glo _, b, p, q, hp, hq, na, nb => by cases hp
  | .ty _, b, p, q, hp, hq, na, nb => by cases hp
  | .scr _, b, p, q, hp, hq, na, nb => by cases hp
theorem eqvL_iff : ∀ (a b : List D) (p q : List PyData), pdL a = some p → pdL b = some q → noBL a = true → noBL b = true → (PyData.eqvAll p q = true ↔ a = b)
  | [], [], p, q, hp, hq, na, nb => by cases hp; cases hq; simp [PyData.eqvAll]
  | [], y :: ys, p, q, hp, hq, na, nb => by
    cases hp
    rw [pdL] at hq
    cases h1 : pd y <;> cases h2 : pdL ys <;> rw [h1, h2] at hq <;> cases hq
    simp [PyData.eqvAll]
  | x :: xs, [], p, q, hp, hq, na, nb => by
    cases hq
    rw [pdL] at hp
    cases h1 : pd x <;> cases h2 : pdL xs <;> rw [h1, h2] at hp <;> cases hp
    simp [PyData.eqvAll]
  | x :: xs, y :: ys, p, q, hp, hq, na, nb => by
    rw [pdL] at hp hq
    cases h1 : pd x <;> cases h2 : pdL xs <;> rw [h1, h2] at hp <;> cases hp
    cases h3 : pd y <;> cases h4 : pdL ys <;> rw [h3, h4] at hq <;> cases hq
    rw [noBL, Bool.and_eq_true] at na nb
    rw [PyData.eqvAll, Bool.and_eq_true, eqv_iff x y _ _ h1 h3 na.1 nb.1, eqvL_iff xs ys _ _ h2 h4 na.2 nb.2, List.cons.injEq]
end
theorem okSL_all {ds : List D} : okSL ds = true ↔ ∀ d ∈ ds, okS d = true := by
  induction ds with
  | nil => simp [okSL]
  | cons d r ih => simp [okSL, ih]
theorem dptL_le {n : Nat} : ∀ {ds : List D}, (∀ d ∈ ds, dpt d ≤ n) → dptL ds ≤ n
  | [], _ => by simp [dptL]
  | d :: r, h => by
    have h1 := h d (List.mem_cons_self ..)
    have h2 := dptL_le (ds := r) fun e he => h e (List.mem_cons_of_mem _ he)
    rw [dptL]
    omega
end Bx
namespace Bx
open PySem
section
variable {s : S} {ρ : List Sl} {μ : List MO} {d x y : D} {j : Nat} {xs ys : List D} {Q : R D → Prop} {i : Int} {b : Bool}
@[simp] theorem wE_mext {m a : M D} : wE (mext m a) s Q = wE m s (kB (fun d => bnd (chk isL d) fun d => bnd (mal [a]) (on1 (extD d))) Q) := id rfl
@[simp] theorem wE_ext (h : ρ[j]? = some (.own (.lst xs))) (hl : xs.length + ys.length ≤ 100000) : wE (extD (.loc j) (.lst ys)) ⟨ρ, μ⟩ Q = Q (.ok .non ⟨ρ.set j (.own (.lst (xs ++ ys))), μ⟩) := by
  unfold wE extD
  simp [S.mo, h, hl, S.mut, S.put]
@[simp] theorem wE_strS {z : Str} : wE (strD (.str z)) s Q = Q (.ok (.str z) s) := id rfl
@[simp] theorem wE_strN : wE (strD .non) s Q = Q (.ok (.str "None") s) := id rfl
@[simp] theorem wE_intB : wE (intD (.bl b)) s Q = Q (.ok (.int (if b = true then 1 else 0)) s) := by cases b <;> exact id rfl
@[simp] theorem wE_intI : wE (intD (.int i)) s Q = Q (.ok (.int i) s) := id rfl
def dcmpK (vs : List Nat) (asg : D → MS) (t : M Bool) (ek ev : M D) : List D → M D := fun items s => dloop vs asg t ek ev items [] (wipeS vs s)
@[simp] theorem wE_mdcomp {vs : List Nat} {it : M (List D)} {asg : D → MS} {t : M Bool} {ek ev : M D} : wE (mdcomp vs it asg t ek ev) s Q = wE it s (kB (dcmpK vs asg t ek ev) Q) := id rfl
@[simp] theorem wE_dcmpK {vs : List Nat} {items : List D} {asg : D → MS} {t : M Bool} {ek ev : M D} : wE (dcmpK vs asg t ek ev items) s Q = wE (dloop vs asg t ek ev items []) (wipeS vs s) Q := id rfl
@[simp] theorem wE_menum {m : M D} {Q : R (List D) → Prop} : wE (menum m) s Q = wE (mal [m]) s (kB (fun ds => enumD (ds.headD .non)) Q) := id rfl
@[simp] theorem wE_enumT {Q : R (List D) → Prop} : wE (enumD (.tup xs)) s Q = Q (.ok (nums 0 xs) s) := id rfl
@[simp] theorem wE_enumL {Q : R (List D) → Prop} : wE (enumD (.lst xs)) s Q = Q (.ok (nums 0 xs) s) := id rfl
@[simp] theorem wE_gtup2 {a b : Nat} {Q : RS → Prop} : wS (gtup [a, b] (.tup [x, y])) ⟨ρ, μ⟩ Q = Q (.nx ⟨(ρ.set a (.val x)).set b (.val y), μ⟩) := id rfl
@[simp] theorem wE_gtup2w {a b : Nat} {Q : RS → Prop} : wS (gtup [a, b] (.twk [x, y])) ⟨ρ, μ⟩ Q = Q (.nx ⟨(ρ.set a (.val x)).set b (.val y), μ⟩) := id rfl
@[simp] theorem wE_gtup3 {a b c : Nat} {z : D} {Q : RS → Prop} : wS (gtup [a, b, c] (.tup [x, y, z])) ⟨ρ, μ⟩ Q = Q (.nx ⟨((ρ.set a (.val x)).set b (.val y)).set c (.val z), μ⟩) := id rfl
@[simp] theorem wE_addT (h : xs.length + ys.length ≤ 100000) : wE (addD (.tup xs) (.tup ys)) s Q = Q (.ok (.tup (xs ++ ys)) s) := wE_of (by simp [addD, rsl, h])
@[simp] theorem wE_addL (h : xs.length + ys.length ≤ 100000) : wE (addD (.lst xs) (.lst ys)) s Q = Q (.ok (.lst (xs ++ ys)) s) := wE_of (by simp [addD, rsl, h])
@[simp] theorem wE_addS {x y : Str} (h : x.length + y.length ≤ 100000) : wE (addD (.str x) (.str y)) s Q = Q (.ok (.str (x ++ y)) s) := wE_of (by simp [addD, rsl, h])
@[simp] theorem wE_revT : wE (revD (.tup xs)) s Q = Q (.ok (.tup xs.reverse) s) := id rfl
@[simp] theorem wE_slc {a : M D} {l h : MP} : wE (slc a l h) s Q = wE a s (kB (fun x => mpart l fun lo => mpart h fun hi => slD x lo hi) Q) := id rfl
@[simp] theorem wE_mpartN {k : Option Int → M D} : wE (mpart .no k) s Q = wE (k none) s Q := id rfl
def prtK (f : Option Int → M D) : D → M D := fun d => match d with
  | .int i => f (some i)
  | _ => fun _ => .bad
@[simp] theorem wE_mpartY {m : M D} {k : Option Int → M D} : wE (mpart (.yes m) k) s Q = wE m s (kB (prtK k) Q) := id rfl
@[simp] theorem wE_prtK {k : Option Int → M D} : wE (prtK k (.int i)) s Q = wE (k (some i)) s Q := id rfl
theorem sIx_pos {n m : Nat} {k : Int} (h : 0 ≤ k) : HT.sIx n m (some k) = min k.toNat n := by
  show (if k < 0 then (k + (n : Int)).toNat else min k.toNat n) = _
  rw [if_neg (by omega)]
theorem cutD_take {k : Int} (h : 0 ≤ k) : cutD xs none (some k) = xs.take k.toNat := by
  unfold cutD
  rw [sIx_pos h]
  show (xs.drop 0).take (min k.toNat xs.length - 0) = _
  rw [List.drop_zero, Nat.sub_zero, List.take_eq_take_iff]
  omega
theorem cutD_drop {k : Int} (h : 0 ≤ k) : cutD xs (some k) none = xs.drop k.toNat := by
  unfold cutD
  rw [sIx_pos h]
  show (xs.drop (min k.toNat xs.length)).take (xs.length - min k.toNat xs.length) = _
  by_cases hk : k.toNat ≤ xs.length
  · rw [Nat.min_eq_left hk]
    exact List.take_of_length_le (by rw [List.length_drop]; omega)
  · rw [Nat.min_eq_right (by omega), List.drop_of_length_le (Nat.le_refl _), List.drop_of_length_le (by omega)]
    simp
theorem cutD_mid {k l : Int} (h : 0 ≤ k) (hl : 0 ≤ l) : cutD xs (some k) (some l) = (xs.take l.toNat).drop k.toNat := by
  unfold cutD
  rw [sIx_pos h, sIx_pos hl, List.drop_take]
  by_cases hk : k.toNat ≤ xs.length
  · rw [Nat.min_eq_left hk, List.take_eq_take_iff, List.length_drop]
    omega
  · rw [Nat.min_eq_right (a := k.toNat) (by omega), List.drop_of_length_le (Nat.le_refl _), List.drop_of_length_le (by omega)]
    simp
@[simp] theorem wE_slT {lo hi : Option Int} : wE (slD (.tup xs) lo hi) s Q = Q (.ok (.tup (cutD xs lo hi)) s) := id rfl
@[simp] theorem wE_slL {lo hi : Option Int} : wE (slD (.lst xs) lo hi) s Q = Q (.ok (.lst (cutD xs lo hi)) s) := id rfl
/-- who sits on a seat -/
def seat : Option Str → D
  | some x => .str x
  | none => .non
@[simp] theorem wE_isN {o : Option Str} : wE (isND (seat o) .non) s Q = Q (.ok (.bl o.isNone) s) := by cases o <;> exact id rfl
@[simp] theorem wE_notN {o : Option Str} : wE (notND (seat o) .non) s Q = Q (.ok (.bl o.isSome) s) := by cases o <;> exact id rfl
@[simp] theorem wE_settle_seat {o : Option Str} : wE (Bx.settle (seat o)) s Q = Q (.ok (seat o) s) := by cases o <;> exact id rfl
@[simp] theorem wE_isNs {x : Str} : wE (isND (.str x) .non) s Q = Q (.ok (.bl false) s) := id rfl
@[simp] theorem wE_notNs {x : Str} : wE (notND (.str x) .non) s Q = Q (.ok (.bl true) s) := id rfl
@[simp] theorem wE_isNn : wE (isND .non .non) s Q = Q (.ok (.bl true) s) := id rfl
@[simp] theorem wE_notNn : wE (notND .non .non) s Q = Q (.ok (.bl false) s) := id rfl
@[simp] theorem wE_isNi : wE (isND (.int i) .non) s Q = Q (.ok (.bl false) s) := id rfl
@[simp] theorem wE_notNi : wE (notND (.int i) .non) s Q = Q (.ok (.bl true) s) := id rfl
@[simp] theorem wE_isNt : wE (isND (.tup xs) .non) s Q = Q (.ok (.bl false) s) := id rfl
@[simp] theorem wE_notNt : wE (notND (.tup xs) .non) s Q = Q (.ok (.bl true) s) := id rfl
@[simp] theorem wE_isNb : wE (isND (.bl b) .non) s Q = Q (.ok (.bl false) s) := id rfl
@[simp] theorem wE_notNb : wE (notND (.bl b) .non) s Q = Q (.ok (.bl true) s) := id rfl
theorem ixT {k : Int} (h0 : 0 ≤ k) (h1 : k < xs.length) : wE (ixD (.tup xs) (.int k)) s Q = Q (.ok (xs[k.toNat]'(by omega)) s) := wE_of (ix_tup h0 h1)
theorem ixL {k : Int} (h0 : 0 ≤ k) (h1 : k < xs.length) : wE (ixD (.lst xs) (.int k)) s Q = Q (.ok (xs[k.toNat]'(by omega)) s) := wE_of (ix_lst h0 h1)
end
theorem nums_map {α : Type} (f : α → D) : ∀ (xs : List α) (k : Nat), nums k (xs.map f) = (xs.zipIdx k).map fun p => .twk [.int (p.2 : Nat), f p.1]
  | [], _ => rfl
  | x :: r, k => by
    rw [List.map_cons, nums, nums_map f r (k + 1)]
    rfl
/-- over enumerate(xs) -/
theorem wforE {α : Type} {asg : D → MS} {body : MS} {Q : RS → Prop} {s : S} (f : α → D) (xs : List α) (I : Nat → S → Prop) (h0 : I 0 s) (hI : ∀ (k : Nat) (hk : k < xs.length) s, I k s → wS (asg (.twk [.int k, f xs[k]])) s (kA body (I (k + 1)) Q)) (hE : ∀ s, I xs.length s → Q (.nx s)) : wS (floop asg body (nums 0 (xs.map f))) s Q := by
  rw [nums_map]
  refine wfor (fun p : α × Nat => D.twk [.int (p.2 : Nat), f p.1]) xs.zipIdx (fun l _ s => I l.length s) h0 (fun l p r s e h => ?_) (fun s h => hE s (by rwa [List.length_zipIdx] at h))
  have h1 := congrArg (fun z => z[l.length]?) e
  simp only [List.getElem?_append_right (Nat.le_refl _), Nat.sub_self, List.getElem?_cons_zero, List.getElem?_zipIdx] at h1
  cases h2 : xs[l.length]? with
  | none => rw [h2] at h1; cases h1
  | some x =>
    rw [h2] at h1
    simp at h1
    obtain ⟨hk, hx⟩ := List.getElem?_eq_some_iff.mp h2
    have := hI l.length hk s h
    rw [hx] at this
    rw [List.length_append, List.length_singleton, h1]
    exact this
/-- what a turn of {k: v for ..} yields -/
def kZ (vs : List Nat) (t : M Bool) (ek ev : M D) (k : L2.Key) (d : D) (s0 : S) : RS → Prop := fun r => match r with
  | .nx s1 => wE t s1 (kV fun b s2 => b = true ∧ wE ek s2 (kV fun kd s3 => keyD kd = some k ∧ wE (stl ev) s3 (kV fun y s4 => y = d ∧ wipeS vs s4 = s0)))
  | _ => False
@[simp] theorem kZ_nx {vs : List Nat} {t : M Bool} {ek ev : M D} {k : L2.Key} {d : D} {s0 s1 : S} : kZ vs t ek ev k d s0 (.nx s1) = wE t s1 (kV fun b s2 => b = true ∧ wE ek s2 (kV fun kd s3 => keyD kd = some k ∧ wE (stl ev) s3 (kV fun y s4 => y = d ∧ wipeS vs s4 = s0))) := id rfl
theorem putKD_new {k : L2.Key} {x : D} {kds : List (L2.Key × D)} (h : k ∉ kds.map (·.1)) : putKD k x kds = kds ++ [(k, x)] := by
  unfold putKD
  rw [if_neg]
  intro z
  obtain ⟨kv, h1, h2⟩ := List.any_eq_true.mp z
  exact h (List.mem_map.mpr ⟨kv, h1, of_decide_eq_true h2⟩)
theorem wdcomp {α : Type} {vs : List Nat} {asg : D → MS} {t : M Bool} {ek ev : M D} {Q : R D → Prop} {s : S} (f : α → D) (xs : List α) (key : α → L2.Key) (h : α → D) (hw : wipeS vs s = s) (hl : xs.length ≤ 100000) (nd : (xs.map key).Nodup)
    (hI : ∀ x, x ∈ xs → wS (asg (f x)) s (kZ vs t ek ev (key x) (h x) s)) (hE : Q (.ok (.dct (xs.map fun x => (key x, h x))) s)) : wE (dloop vs asg t ek ev (xs.map f) []) s Q := by
  have go : ∀ (r l : List α), l ++ r = xs → dloop vs asg t ek ev (r.map f) (l.map fun x => (key x, h x)) s = .ok (.dct (xs.map fun x => (key x, h x))) s := by
    intro r
    induction r with
    | nil =>
      intro l e
      rw [List.append_nil] at e
      subst e
      rw [List.map_nil, dloop, hw]
    | cons x r ih =>
      intro l e
      have hx : x ∈ xs := by rw [← e]; simp
      have h1 : kZ vs t ek ev (key x) (h x) s (asg (f x) s) := hI x hx
      have hll : l.length < 100000 := by
        have := congrArg List.length e
        rw [List.length_append, List.length_cons] at this
        omega
      rw [List.map_cons, dloop]
      cases e1 : asg (f x) s with
      | nx s1 =>
        rw [e1] at h1
        have h2 : kV _ (t s1) := h1
        simp only
        cases e2 : t s1 with
        | ok b s2 =>
          rw [e2] at h2
          obtain ⟨rfl, h3⟩ := h2
          have h3 : kV _ (ek s2) := h3
          simp only
          cases e3 : ek s2 with
          | ok kd s3 =>
            rw [e3] at h3
            obtain ⟨h4, h5⟩ := h3
            simp only [h4]
            have h5 : kV _ (stl ev s3) := h5
            cases e4 : stl ev s3 with
            | ok y s4 =>
              rw [e4] at h5
              obtain ⟨rfl, h6⟩ := h5
              simp only
              rw [if_pos (by rw [List.length_map]; exact hll), h6, putKD_new]
              · have := ih (l ++ [x]) (by rw [List.append_assoc]; exact e)
                rw [List.map_append] at this
                exact this
              · rw [List.map_map]
                intro z
                obtain ⟨y, hy, e5⟩ := List.mem_map.mp z
                rw [← e, List.map_append, List.nodup_append] at nd
                exact nd.2.2 _ (List.mem_map.mpr ⟨y, hy, rfl⟩) _ (List.mem_map.mpr ⟨x, List.mem_cons_self .., rfl⟩) e5
            | exc x s3 => rw [e4] at h5; exact h5.elim
            | bad => rw [e4] at h5; exact h5.elim
          | exc x s3 => rw [e3] at h3; exact h3.elim
          | bad => rw [e3] at h3; exact h3.elim
        | exc x s2 => rw [e2] at h2; exact h2.elim
        | bad => rw [e2] at h2; exact h2.elim
      | _ => rw [e1] at h1; exact h1.elim
  have e := go xs [] rfl
  rw [List.map_nil] at e
  rw [wE_of e]
  exact hE
theorem wE_dget {k : L2.Key} {d e : D} {kds : List (L2.Key × D)} {s : S} {Q : R D → Prop} (hk : keyD e = some k) (h : lookK k kds = some d) : wE (dgetD (.dct kds) e) s Q = Q (.ok d s) := wE_of (by simp [dgetD, rsl, hk, h])
theorem wE_inK {k : L2.Key} {e : D} {kds : List (L2.Key × D)} {s : S} {Q : R D → Prop} {neg : Bool} (hk : keyD e = some k) : wE (inK neg e (.dct kds)) s Q = Q (.ok (.bl (if neg then !(lookK k kds).isSome else (lookK k kds).isSome)) s) := wE_of (by simp [inK, rsl, hk])
theorem sortD_strs {xs : List Str} (h : xs.length ≤ 100000) {s : S} {Q : R D → Prop} : wE (sortD (.lst (xs.map .str))) s Q = Q (.ok (.lst ((sortS xs).map .str)) s) := wE_of (by simp [sortD, rsl, strsD_map, h])
theorem sortD_own {xs : List Str} {ρ : List Sl} {μ : List MO} {j : Nat} (hj : ρ[j]? = some (.own (.lst (xs.map .str)))) (h : xs.length ≤ 100000) {Q : R D → Prop} : wE (sortD (.loc j)) ⟨ρ, μ⟩ Q = Q (.ok (.lst ((sortS xs).map .str)) ⟨ρ, μ⟩) := wE_of (by simp [sortD, rsl, hj, strsD_map, h])
theorem sortK_strs {kds : List (L2.Key × D)} {xs : List Str} (e : kds.map (·.1) = xs.map Sum.inr) (h : xs.length < 64) {s : S} {Q : R D → Prop} : wE (sortK (.dct kds)) s Q = Q (.ok (.lst ((sortS xs).map .str)) s) := wE_of (by
  unfold sortK
  simp only [rsl, e, txtK_map, h, if_true])
@[simp] theorem wE_neg {i : Int} {s : S} {Q : R D → Prop} : wE (negD (.int i)) s Q = Q (.ok (.int (-i)) s) := id rfl
theorem ixO {l : List D} {k : Int} {ρ : List Sl} {μ : List MO} {j : Nat} {Q : R D → Prop} (h : ρ[j]? = some (.own (.lst l))) (h0 : 0 ≤ k) (h1 : k < l.length) : wE (ixD (.loc j) (.int k)) ⟨ρ, μ⟩ Q = Q (.ok (l[k.toNat]'(by omega)) ⟨ρ, μ⟩) := wE_of (by
  unfold ixD
  simp only [rsl, h, atI_ok h0 h1])
@[simp] theorem wE_mtm {f : D → D → M D} {m a : M D} {s : S} {Q : R D → Prop} : wE (mtm f m a) s Q = wE m s (kB (fun d => bnd (Bx.settle d) fun d => bnd (chk isTup d) fun d => bnd (mal [a]) (on1 (f d))) Q) := id rfl
@[simp] theorem wE_chkT {xs : List D} {s : S} {Q : R D → Prop} : wE (chk isTup (.tup xs)) s Q = Q (.ok (.tup xs) s) := id rfl
@[simp] theorem wE_isB {a b : Bool} {s : S} {Q : R D → Prop} : wE (isBD (.bl a) (.bl b)) s Q = Q (.ok (.bl (decide (a = b))) s) := id rfl
@[simp] theorem wE_notB {a b : Bool} {s : S} {Q : R D → Prop} : wE (notBD (.bl a) (.bl b)) s Q = Q (.ok (.bl (!decide (a = b))) s) := id rfl
def kepK (vs : List Nat) (s0 : S) (Q : R D → Prop) : R D → Prop := fun r => match r with
  | .ok d s' => Q (.ok d (keepS vs s0 s'))
  | r => Q r
@[simp] theorem wE_kept {vs : List Nat} {m : M D} {s : S} {Q : R D → Prop} : wE (kept vs m) s Q = wE m s (kepK vs s Q) := by
  unfold wE kept kepK
  cases m s <;> rfl
@[simp] theorem kepK_ok {vs : List Nat} {s0 s : S} {d : D} {Q : R D → Prop} : kepK vs s0 Q (.ok d s) = Q (.ok d (keepS vs s0 s)) := id rfl
@[simp] theorem keepS_mk {vs : List Nat} {ρ0 ρ : List Sl} {μ0 μ : List MO} : keepS vs ⟨ρ0, μ0⟩ ⟨ρ, μ⟩ = ⟨keepR ρ0 vs ρ, μ⟩ := id rfl
@[simp] theorem keepR_nil {ρ0 ρ : List Sl} : keepR ρ0 [] ρ = ρ := id rfl
end Bx
namespace Bx
open PySem
section
variable {s : S} {Q : R D → Prop} {x y : Str}
@[simp] theorem wE_eqS : wE (eqD (.str x) (.str y)) s Q = Q (.ok (.bl (decide (x = y))) s) := id rfl
@[simp] theorem wE_neS : wE (neD (.str x) (.str y)) s Q = Q (.ok (.bl (!decide (x = y))) s) := id rfl
end
end Bx
namespace Bx
open PySem
section
variable {s : S} {Q : R D → Prop} {m a : M D} {ds : List D} {f : D → D → M D} {d : D}
@[simp] theorem wE_mlm : wE (mlm f m a) s Q = wE m s (kB (fun d => bnd (Bx.settle d) fun d => bnd (chk isLst d) fun d => bnd (mal [a]) (on1 (f d))) Q) := id rfl
@[simp] theorem wE_chkLst : wE (chk isLst (.lst ds)) s Q = Q (.ok (.lst ds) s) := id rfl
@[simp] theorem wE_settleX {e : EX} {fs : List (Str × D)} : wE (Bx.settle (.exv e fs)) s Q = Q (.ok (.exv e fs) s) := id rfl
@[simp] theorem wE_reprT : wE (reprA (.tup ds)) s Q = wE (reprD (.tup ds)) s Q := id rfl
@[simp] theorem wE_reprL : wE (reprA (.lst ds)) s Q = wE (reprD (.lst ds)) s Q := id rfl
@[simp] theorem wE_reprJ {j : Nat} : wE (reprA (.loc j)) s Q = wE (reprD (.loc j)) s Q := id rfl
@[simp] theorem wE_reprN : wE (reprA .non) s Q = Q (.ok (.str "None") s) := id rfl
@[simp] theorem wE_reprBL : wE (reprB (.lst ds)) s Q = wE (reprD (.lst ds)) s Q := id rfl
@[simp] theorem wE_reprBJ {j : Nat} : wE (reprB (.loc j)) s Q = wE (reprD (.loc j)) s Q := id rfl
@[simp] theorem wE_reprBN : wE (reprB .non) s Q = Q (.ok (.str "None") s) := id rfl
@[simp] theorem wE_reprBB {b : Bool} : wE (reprB (.bl b)) s Q = Q (.ok (.str (if b then "True" else "False")) s) := id rfl
end
section
variable {s : S} {Q : R MO → Prop} {m : M D} {ds : List D}
@[simp] theorem wE_nlist : wE (nlist m) s Q = wE m s (kB listM Q) := id rfl
@[simp] theorem wE_listMT : wE (listM (.tup ds)) s Q = Q (.ok (.lst ds) s) := id rfl
@[simp] theorem wE_listML : wE (listM (.lst ds)) s Q = Q (.ok (.lst ds) s) := id rfl
end
section
variable {s : S} {Q : RS → Prop} {x : Xc} {cn f : Str} {m : M D} {tbl : List (Str × Bool)} {mb ms : MS} {i : Nat} {mx : EX → MS} {d : D}
@[simp] theorem wS_raise0 : wS (sraise0 cn) s Q = Q (.exc ⟨cn, none⟩ s) := id rfl
@[simp] theorem wS_raise1 : wS (sraise1 cn f m) s Q = wE (stl m) s (kS (fun d s => .exc ⟨cn, some (f, d)⟩ s) Q) := id rfl
@[simp] theorem wS_excL : wS (fun s => RS.exc x s) s Q = Q (.exc x s) := id rfl
def kT (tbl : List (Str × Bool)) (ms : MS) (Q : RS → Prop) : RS → Prop := fun r => match r with
  | .exc x s1 => match tbl.lookup x.cls with
    | some true => Q (noX (ms s1))
    | some false => Q (.exc x s1)
    | none => Q .bad
  | r => Q r
@[simp] theorem wS_stry : wS (stry tbl mb ms) s Q = wS mb s (kT tbl ms Q) := by
  unfold wS stry kT
  cases mb s with
  | exc x s1 =>
    simp only
    cases tbl.lookup x.cls with
    | none => rfl
    | some b => cases b <;> rfl
  | _ => rfl
@[simp] theorem kT_rt : kT tbl ms Q (.rt d s) = Q (.rt d s) := id rfl
@[simp] theorem kT_nx : kT tbl ms Q (.nx s) = Q (.nx s) := id rfl
def kTE (tbl : List (Str × Bool)) (i : Nat) (mx : EX → MS) (Q : RS → Prop) : RS → Prop := fun r => match r with
  | .exc x s1 => match tbl.lookup x.cls with
    | some true => Q (hot x i mx s1)
    | some false => Q (.exc x s1)
    | none => Q .bad
  | r => Q r
@[simp] theorem wS_stryE : wS (stryE tbl i mb mx) s Q = wS mb s (kTE tbl i mx Q) := by
  unfold wS stryE kTE
  cases mb s with
  | exc x s1 =>
    simp only
    cases tbl.lookup x.cls with
    | none => rfl
    | some b => cases b <;> rfl
  | _ => rfl
@[simp] theorem kTE_rt : kTE tbl i mx Q (.rt d s) = Q (.rt d s) := id rfl
@[simp] theorem kTE_nx : kTE tbl i mx Q (.nx s) = Q (.nx s) := id rfl
theorem wS_saug {g : Int → Int → Int} {m : M D} {ρ : List Sl} {μ : List MO} {j : Nat} {n k : Int} (h : ρ[j]? = some (.val (.int n))) (hm : m ⟨ρ, μ⟩ = .ok (.int k) ⟨ρ, μ⟩) : wS (saug j g m) ⟨ρ, μ⟩ Q = Q (.nx ⟨ρ.set j (.val (.int (g n k))), μ⟩) := by
  unfold wS saug
  simp only [h, hm]
  rfl
end
end Bx
namespace Bx
open PySem
section
variable {s : S} {ρ : List Sl} {μ : List MO} {Q : RS → Prop} {p o i : M D} {x d : D} {j : Nat} {k : Int} {xs : List D}
def ssK2 (i : M D) (x d : D) : MS := fun s => (i s).toS fun k s => setD d k x s
def ssK (o i : M D) (x : D) : MS := fun s => (o s).toS fun d s => ssK2 i x d s
@[simp] theorem wS_ssub : wS (ssub p o i) s Q = wE (stl p) s (kS (ssK o i) Q) := id rfl
@[simp] theorem wS_ssK : wS (ssK o i x) s Q = wE o s (kS (ssK2 i x) Q) := id rfl
@[simp] theorem wS_ssK2 : wS (ssK2 i x d) s Q = wE i s (kS (fun k => setD d k x) Q) := id rfl
end
end Bx
namespace Bx
open PySem
end Bx
namespace Bx
open PySem
section
variable {s : S} {ρ : List Sl} {μ : List MO} {m : M D} {j : Nat} {kds : List (L2.Key × D)}
@[simp] theorem wE_mkeys {Q : R (List D) → Prop} : wE (mkeys m) s Q = wE m s (kB (fun d => bnd (Bx.settle d) keysM) Q) := id rfl
@[simp] theorem wE_keysM {Q : R (List D) → Prop} : wE (keysM (.dct kds)) s Q = Q (.ok (kds.map fun p => keyB p.1) s) := id rfl
@[simp] theorem wE_stlOd {Q : R D → Prop} (h : ρ[j]? = some (.own (.dct kds))) : wE (Bx.settle (.loc j)) ⟨ρ, μ⟩ Q = Q (.ok (.dct kds) ⟨ρ.set j (.val (.dct kds)), μ⟩) := by
  unfold wE Bx.settle
  simp [h]
def skK2 (i : M D) (x d : D) : MS := fun s => (i s).toS fun k s => setK d k x s
def skK (o i : M D) (x : D) : MS := fun s => (o s).toS fun d s => skK2 i x d s
@[simp] theorem wS_ssubK {p o i : M D} {Q : RS → Prop} : wS (ssubK p o i) s Q = wE (stl p) s (kS (skK o i) Q) := id rfl
@[simp] theorem wS_skK {o i : M D} {x : D} {Q : RS → Prop} : wS (skK o i x) s Q = wE o s (kS (skK2 i x) Q) := id rfl
@[simp] theorem wS_skK2 {i : M D} {x d : D} {Q : RS → Prop} : wS (skK2 i x d) s Q = wE i s (kS (fun k => setK d k x) Q) := id rfl
@[simp] theorem wE_ssort0 {Q : R D → Prop} : wE (ssort0 (.tup [])) s Q = Q (.ok (.lst []) s) := id rfl
@[simp] theorem wE_revL {ds : List D} {Q : R D → Prop} : wE (revL (.lst ds)) s Q = Q (.ok (.lst ds.reverse) s) := id rfl
@[simp] theorem wE_listT {ds : List D} {Q : R D → Prop} : wE (listD (.tup ds)) s Q = Q (.ok (.lst ds) s) := id rfl
@[simp] theorem wE_listL {ds : List D} {Q : R D → Prop} : wE (listD (.lst ds)) s Q = Q (.ok (.lst ds) s) := id rfl
end
end Bx
namespace Bx
open PySem
section
variable {s : S} {Q : R D → Prop} {m a : M D} {ds : List D} {f : D → D → M D} {d : D}
@[simp] theorem wE_reprML : wE (reprM (.lst ds)) s Q = wE (reprD (.lst ds)) s Q := by
  unfold wE reprM
  cases pdM (.lst ds) <;> rfl
@[simp] theorem wE_reprMJ {j : Nat} : wE (reprM (.loc j)) s Q = wE (reprD (.loc j)) s Q := id rfl
@[simp] theorem wE_reprMN : wE (reprM .non) s Q = Q (.ok (.str "None") s) := id rfl
@[simp] theorem wE_reprMB {b : Bool} : wE (reprM (.bl b)) s Q = Q (.ok (.str (if b then "True" else "False")) s) := id rfl
end
end Bx
namespace Bx
open PySem
section
variable {s : S} {ρ : List Sl} {μ : List MO} {j : Nat} {kds : List (NestedKey × D)}
def snK2 (i : M D) (x : D) (d : D) : MS := fun s => (i s).toS fun k s => setN d k x s
def snK (o i : M D) (x : D) : MS := fun s => (o s).toS fun d s => snK2 i x d s
@[simp] theorem wS_ssubN {p o i : M D} {Q : RS → Prop} : wS (ssubN p o i) s Q = wE (stl p) s (kS (snK o i) Q) := id rfl
@[simp] theorem wS_snK {o i : M D} {x : D} {Q : RS → Prop} : wS (snK o i x) s Q = wE o s (kS (snK2 i x) Q) := id rfl
@[simp] theorem wS_snK2 {i : M D} {x d : D} {Q : RS → Prop} : wS (snK2 i x d) s Q = wE i s (kS (fun k => setN d k x) Q) := id rfl
theorem wE_inNV {k : NestedKey} {i : D} {neg : Bool} {Q : R D → Prop} (hk : keyT i = some k) (hd : k.depth ≤ 8) : wE (inN neg i (.dcn kds)) s Q = Q (.ok (.bl (if neg then !hasN k kds else hasN k kds)) s) := wE_of (by
  unfold inN
  simp only [rsl, hk]
  rw [if_pos hd])
@[simp] theorem wE_mkeysN {m : M D} {Q : R (List D) → Prop} : wE (mkeysN m) s Q = wE m s (kB (fun d => bnd (Bx.settle d) keysNM) Q) := id rfl
@[simp] theorem wE_keysNM {Q : R (List D) → Prop} : wE (keysNM (.dcn kds)) s Q = Q (.ok (kds.map fun p => nkD p.1) s) := id rfl
@[simp] theorem wE_stlV {Q : R D → Prop} : wE (Bx.settle (.dcn kds)) s Q = Q (.ok (.dcn kds) s) := id rfl
@[simp] theorem wE_ndcn {Q : R MO → Prop} : wE ndcn s Q = Q (.ok (.dcn []) s) := id rfl
end
end Bx
namespace Bx
open PySem
section
variable {s : S} {ρ : List Sl} {μ : List MO} {j : Nat}
@[simp] theorem wE_mpop {m a : M D} {Q : R D → Prop} : wE (mpop m a) s Q = wE m s (kB (fun d => bnd (chk isL d) fun d => bnd (mal [a]) (on1 (popD d))) Q) := id rfl
end
end Bx
namespace Bx
open PySem
section
variable {s : S} {ρ : List Sl} {μ : List MO} {j : Nat} {xs ys : List D}
@[simp] theorem wE_naddL {a b : M D} {Q : R MO → Prop} : wE (naddL a b) s Q = wE a s (kB (fun x => bnd b fun y => naddM x y) Q) := id rfl
@[simp] theorem wE_mdpop {m a : M D} {Q : R D → Prop} : wE (mdpop m a) s Q = wE m s (kB (fun d => bnd (chk isDct d) fun d => bnd a fun i => dpopD d i) Q) := id rfl
@[simp] theorem wE_msdisc {m a : M D} {Q : R D → Prop} : wE (msdisc m a) s Q = wE m s (kB (fun d => bnd (chk isSet d) fun d => bnd (mal [a]) (on1 (discD d))) Q) := id rfl
@[simp] theorem wE_nsetK {m : M D} {Q : R MO → Prop} : wE (nsetK m) s Q = wE m s (kB (fun d => nsetM d) Q) := id rfl
def ncK (vs : List Nat) (asg : D → MS) (t : M Bool) (el : M D) : List D → M MO := fun items s => ncv (cloop vs asg t el items [] (wipeS vs s))
@[simp] theorem wE_ncomp {vs : List Nat} {it : M (List D)} {asg : D → MS} {t : M Bool} {el : M D} {Q : R MO → Prop} : wE (ncomp vs it asg t el) s Q = wE it s (kB (ncK vs asg t el) Q) := id rfl
@[simp] theorem wE_mcompO {vs : List Nat} {asg : D → MS} {t : M Bool} {el : M D} {Q : R D → Prop} (h : ρ[j]? = some (.own (.lst xs))) : wE (mcompO j vs asg t el) ⟨ρ, μ⟩ Q = wE (cloopO j vs asg t el 100001 0 []) (wipeS vs ⟨ρ, μ⟩) Q := by
  unfold mcompO
  show Q (R.bind _ _) = Q _
  have e : itsO j ⟨ρ, μ⟩ = .ok xs ⟨ρ, μ⟩ := by
    unfold itsO
    simp [h]
  rw [e]
  rfl
@[simp] theorem wE_orV {a b : M D} {Q : R D → Prop} : wE (orV a b) s Q = wE a s (kB (orVK b) Q) := id rfl
@[simp] theorem orVK_non {b : M D} {Q : R D → Prop} : wE (orVK b .non) s Q = wE b s Q := id rfl
theorem orVK_str {b : M D} {x : Str} {Q : R D → Prop} (h1 : x.length ≠ 0) (h2 : x.length ≤ 100000) : wE (orVK b (.str x)) s Q = Q (.ok (.str x) s) := wE_of (by
  have : ((x.length : Int) != 0) = true := by simp; omega
  simp [orVK, truthD, rsl, h2, this])
/-- two unlike data -/
theorem ne_diff {a b : D} (s : S) (ha : okS a = true) (hb : okS b = true) (na : noB a = true) (nb : noB b = true) (da : dpt a ≤ 64) (db : dpt b ≤ 64) (h : a ≠ b) : neD a b s = .ok (.bl true) s ∧ eqD a b s = .ok (.bl false) s := by
  obtain ⟨p, hp⟩ := shows_of a ha
  obtain ⟨q, hq⟩ := shows_of b hb
  have e : PyData.eqv p q = false := by
    cases e : PyData.eqv p q with
    | false => rfl
    | true => exact absurd ((eqv_iff a b p q hp.pd hq.pd na nb).mp e) h
  rw [(two_ok s ha hb hp hq da db).1, (two_ok s ha hb hp hq da db).2, e]
  exact ⟨rfl, rfl⟩
end
theorem sortS_nil : sortS [] = [] := List.eq_nil_of_length_eq_zero (by rw [(sortS_perm []).length_eq]; rfl)
@[simp] theorem wE_ssortT0 {s : S} {Q : R D → Prop} : wE (ssortT (.tup [])) s Q = Q (.ok (.lst []) s) := wE_of (by
  have e := ssortT_strs (xs := []) (s := s) (by decide)
  rw [show onceT [] = [] from rfl, sortS_nil] at e
  exact e)
end Bx
namespace Bx
open PySem
section
variable {s : S} {ρ : List Sl} {μ : List MO} {j : Nat} {xs ys : List D}
def kNX (Q : RS → Prop) : RS → Prop := fun r => Q (noX r)
@[simp] theorem wS_sNoX {mb : MS} {Q : RS → Prop} : wS (sNoX mb) s Q = wS mb s (kNX Q) := id rfl
@[simp] theorem kNX_rt {d : D} {Q : RS → Prop} : kNX Q (.rt d s) = Q (.rt d s) := id rfl
@[simp] theorem kNX_nx {Q : RS → Prop} : kNX Q (.nx s) = Q (.nx s) := id rfl
@[simp] theorem wE_menumK {k : Nat} {m : M D} {Q : R (List D) → Prop} : wE (menumK k m) s Q = wE m s (kB (fun d => bnd (Bx.settle d) fun d => bnd (mal []) fun ds => bnd (pur (d :: ds)) fun ds => enumK k (ds.headD .non)) Q) := by
  unfold menumK
  unfold wE kB bnd
  show Q (R.bind ((m s).bind _) _) = Q ((m s).bind _)
  cases m s with
  | ok d s1 =>
    show Q (R.bind (R.bind (Bx.settle d s1) _) _) = Q (R.bind (Bx.settle d s1) _)
    cases Bx.settle d s1 <;> rfl
  | exc x s1 => rfl
  | bad => rfl
@[simp] theorem wE_enumK {k : Nat} {Q : R (List D) → Prop} : wE (enumK k (.lst xs)) s Q = Q (.ok (nums k xs) s) := id rfl
end
end Bx
namespace Bx
open PySem
section
@[simp] theorem wE_ndcopy {m : M D} {s : S} {Q : R MO → Prop} : wE (ndcopy m) s Q = wE m s (kB dctM Q) := id rfl
@[simp] theorem wE_dctM {kds : List (L2.Key × D)} {s : S} {Q : R MO → Prop} : wE (dctM (.dct kds)) s Q = Q (.ok (.dct kds) s) := id rfl
end
end Bx
namespace Bx
open PySem
section
variable {s : S} {ρ : List Sl} {μ : List MO} {Q : R D → Prop} {m mi mf : M D} {j i : Nat} {xs : List D} {d x y z : D} {mo : MO}
@[simp] theorem wE_get2 : wE (mget2 m mi mf) s Q = wE m s (kB (fun a => bnd (chk isDc a) fun a => bnd mi fun k => bnd mf fun z => getxD a k z) Q) := id rfl
@[simp] theorem wE_chkDc {kds : List (L2.Key × D)} : wE (chk isDc (.dct kds)) s Q = Q (.ok (.dct kds) s) := id rfl
@[simp] theorem wE_range3 {ms : List (M D)} {Q : R (List D) → Prop} : wE (mrange3 ms) s Q = wE (margs ms) s (kB rg3 Q) := id rfl
@[simp] theorem wE_mpop0 : wE (mpop0 m) s Q = wE m s (kB (fun d => bnd (chk isL d) pop0D) Q) := id rfl
end
end Bx
namespace Mth
section
variable {α : Type}
def can (R : α → Int × Int) (o : Option α) (k : Nat) : Prop := ∀ x, o = some x → (R x).1 ≤ k ∧ (k : Int) ≤ (R x).2
def Sits (R : α → Int × Int) (t : List (Option α)) : Prop := ∀ (i : Nat) (h : i < t.length), can R t[i] i
/-- all seats from b to e are taken by people who keep to them -/
def Full (R : α → Int × Int) (t : List (Option α)) (b e : Nat) : Prop := ∀ i, b ≤ i → i ≤ e → ∃ x, t[i]? = some (some x) ∧ (b : Int) ≤ (R x).1 ∧ (R x).2 ≤ e
/-- no window but all seats is full -/
def Unshut (R : α → Int × Int) (t : List (Option α)) (l h : Nat) : Prop := ∀ b e, l ≤ b → b ≤ e → e ≤ h → ¬ (b = l ∧ e = h) → ¬ Full R t b e
def swp (t : List (Option α)) (k : Nat) : List (Option α) := match t[k]?, t[k + 1]? with
  | some a, some b => (t.set k b).set (k + 1) a
  | _, _ => t
/-- an exchange that may be done -/
structure May (R : α → Int × Int) (t : List (Option α)) (k : Nat) : Prop where
  lt : k + 1 < t.length
  some : t[k] ≠ none ∨ t[k + 1] ≠ none
  left : can R t[k] (k + 1)
  right : can R t[k + 1] k
def goF (t : List (Option α)) : List Nat → List (Option α)
  | [] => t
  | k :: r => goF (swp t k) r
def goes (R : α → Int × Int) (t : List (Option α)) : List Nat → Prop
  | [] => True
  | k :: r => May R t k ∧ goes R (swp t k) r
variable {R : α → Int × Int} {t : List (Option α)} {k : Nat}
theorem swp_len : (swp t k).length = t.length := by
  unfold swp
  split <;> simp
theorem swp_get (h : k + 1 < t.length) (i : Nat) : (swp t k)[i]? = t[if i = k then k + 1 else if i = k + 1 then k else i]? := by
  unfold swp
  rw [List.getElem?_eq_getElem (show k < t.length by omega), List.getElem?_eq_getElem h]
  simp only
  by_cases h1 : i = k + 1
  · subst h1
    rw [List.getElem?_set_self (by simpa using h), if_neg (by omega), if_pos rfl, List.getElem?_eq_getElem]
  · rw [List.getElem?_set_ne (fun z => h1 z.symm)]
    by_cases h2 : i = k
    · subst h2
      rw [List.getElem?_set_self (by omega), if_pos rfl, List.getElem?_eq_getElem h]
    · rw [List.getElem?_set_ne (fun z => h2 z.symm), if_neg h2, if_neg h1]
theorem swp_swp (h : k + 1 < t.length) : swp (swp t k) k = t := by
  apply List.ext_getElem?
  intro i
  rw [swp_get (by rw [swp_len]; exact h), swp_get h]
  congr 1
  split <;> split <;> (try split) <;> omega
theorem swp_split {l r : List (Option α)} {a b : Option α} : swp (l ++ a :: b :: r) l.length = l ++ b :: a :: r := by
  unfold swp
  rw [List.getElem?_append_right (Nat.le_refl _), List.getElem?_append_right (Nat.le_succ _)]
  simp
theorem row_split (h : k + 1 < t.length) : ∃ l r a b, l.length = k ∧ t = l ++ a :: b :: r := by
  refine ⟨t.take k, t.drop (k + 2), t[k], t[k + 1], by rw [List.length_take]; omega, ?_⟩
  rw [← List.drop_eq_getElem_cons h, ← List.drop_eq_getElem_cons (show k < t.length by omega), List.take_append_drop]
theorem swp_perm (h : k + 1 < t.length) : (swp t k).Perm t := by
  obtain ⟨l, r, a, b, rfl, rfl⟩ := row_split h
  rw [swp_split]
  exact List.Perm.append_left l (List.Perm.swap a b r)
theorem swp_bare (h : k + 1 < t.length) (h1 : t[k] = none) (h2 : t[k + 1] = none) : swp t k = t := by
  apply List.ext_getElem?
  intro i
  rw [swp_get h]
  by_cases e : i = k
  · subst e; rw [if_pos rfl, List.getElem?_eq_getElem h, List.getElem?_eq_getElem (by omega), h1, h2]
  · rw [if_neg e]
    by_cases e' : i = k + 1
    · subst e'; rw [if_pos rfl, List.getElem?_eq_getElem h, List.getElem?_eq_getElem (by omega), h1, h2]
    · rw [if_neg e']
theorem Sits.get (h : Sits R t) {i : Nat} {o : Option α} (e : t[i]? = some o) : can R o i := by
  obtain ⟨hl, e⟩ := List.getElem?_eq_some_iff.mp e
  have := h i hl
  rwa [e] at this
theorem sits_of (h : ∀ i o, t[i]? = some o → can R o i) : Sits R t := fun i hi => h i _ (List.getElem?_eq_getElem hi)
/-- behind an exchange all sit on their stretches -/
theorem Sits.swp (hs : Sits R t) (hk : k + 1 < t.length) (h1 : can R t[k] (k + 1)) (h2 : can R t[k + 1] k) : Sits R (swp t k) := by
  refine sits_of fun i o e => ?_
  rw [swp_get hk] at e
  by_cases h : i = k
  · subst h
    rw [if_pos rfl, List.getElem?_eq_getElem hk] at e
    cases e; exact h2
  · rw [if_neg h] at e
    by_cases h' : i = k + 1
    · subst h'
      rw [if_pos rfl, List.getElem?_eq_getElem (by omega)] at e
      cases e; exact h1
    · rw [if_neg h'] at e
      exact hs.get e
theorem May.sits (hs : Sits R t) (h : May R t k) : Sits R (swp t k) := hs.swp h.lt h.left h.right
theorem goF_append (t : List (Option α)) (a b : List Nat) : goF t (a ++ b) = goF (goF t a) b := by
  induction a generalizing t with
  | nil => rfl
  | cons k r ih => exact ih (swp t k)
theorem goes.sits : ∀ {row : List Nat} {t : List (Option α)}, Sits R t → goes R t row → Sits R (goF t row)
  | [], _, hs, _ => hs
  | k :: r, t, hs, h => goes.sits (row := r) (t := swp t k) (h.1.sits hs) h.2
theorem Full.swp (hk : k + 1 < t.length) (h1 : can R t[k] (k + 1)) (h2 : can R t[k + 1] k) {b e : Nat} (h : Full R t b e) : Full R (swp t k) b e := by
  intro i hb he
  rw [swp_get hk]
  by_cases hi : i = k
  · rw [if_pos hi]
    subst hi
    by_cases hh : i + 1 ≤ e
    · exact h _ (by omega) hh
    · obtain ⟨x, e1, e2, e3⟩ := h i hb he
      rw [List.getElem?_eq_getElem (by omega)] at e1
      have := h1 x (Option.some.inj e1)
      omega
  · rw [if_neg hi]
    by_cases hi' : i = k + 1
    · rw [if_pos hi']
      subst hi'
      by_cases hh : b ≤ k
      · exact h _ hh (by omega)
      · obtain ⟨x, e1, e2, e3⟩ := h (k + 1) hb he
        rw [List.getElem?_eq_getElem (by omega)] at e1
        have := h2 x (Option.some.inj e1)
        omega
    · rw [if_neg hi']
      exact h i hb he
theorem unswp (hs : Sits R t) (hk : k + 1 < t.length) : ∃ hk' : k + 1 < (swp t k).length, can R (swp t k)[k] (k + 1) ∧ can R (swp t k)[k + 1] k := by
  have g1 : (Mth.swp t k)[k]? = t[k + 1]? := by rw [swp_get hk, if_pos rfl]
  have g2 : (Mth.swp t k)[k + 1]? = t[k]? := by rw [swp_get hk, if_neg (by omega), if_pos rfl]
  have hl : k + 1 < (Mth.swp t k).length := by rw [swp_len]; exact hk
  rw [List.getElem?_eq_getElem (show k < (Mth.swp t k).length by omega), List.getElem?_eq_getElem hk] at g1
  rw [List.getElem?_eq_getElem hl, List.getElem?_eq_getElem (show k < t.length by omega)] at g2
  refine ⟨hl, ?_, ?_⟩
  · rw [Option.some.inj g1]; exact hs _ hk
  · rw [Option.some.inj g2]; exact hs _ (by omega)
theorem full_swp (hs : Sits R t) (hk : k + 1 < t.length) (h1 : can R t[k] (k + 1)) (h2 : can R t[k + 1] k) {b e : Nat} : Full R (swp t k) b e ↔ Full R t b e := by
  refine ⟨fun h => ?_, fun h => h.swp hk h1 h2⟩
  obtain ⟨hl, g1, g2⟩ := unswp hs hk
  have := h.swp hl g1 g2
  rwa [swp_swp hk] at this
theorem Unshut.swp (hs : Sits R t) (hk : k + 1 < t.length) (h1 : can R t[k] (k + 1)) (h2 : can R t[k + 1] k) {l h : Nat} (hu : Unshut R t l h) : Unshut R (swp t k) l h := fun b e a1 a2 a3 a4 => by
  rw [full_swp hs hk h1 h2]
  exact hu b e a1 a2 a3 a4
/-- what is on a seat may lie on another one -/
def lie (R : α → Int × Int) (o : Option α) (k : Nat) : Bool := match o with
  | none => true
  | some x => decide ((R x).1 ≤ (k : Int)) && decide ((k : Int) ≤ (R x).2)
def stepR (t : List (Option α)) (k : Nat) : List Nat := if (t[k]?.join).isNone && (t[k + 1]?.join).isNone then [] else [k]
/-- the first seat of these whose occupant may lie on a seat -/
def pick (R : α → Int × Int) (t : List (Option α)) (a : Nat) (l : List Nat) : Nat := (l.find? fun r => lie R (t[r]?.join) a).getD 0
def downTo (n g : Nat) : List Nat := (List.range (n + 1 - g)).map fun i => n - i
def upTo (n g : Nat) : List Nat := (List.range (g + 1 - n)).map fun i => n + i
/-- how a bringing goes -/
inductive BrT (R : α → Int × Int) : List (Option α) → Nat → Nat → List Nat → List (Option α) → Prop
  | here {t : List (Option α)} {a : Nat} : BrT R t a a [] t
  | down {t : List (Option α)} {a g : Nat} {p1 : List Nat} {p2 : List (Option α)} {q1 : List Nat} {q2 : List (Option α)} : g ≤ a → (∃ r, g ≤ r ∧ r ≤ a ∧ lie R (t[r]?.join) (a + 1) = true) → BrT R t (pick R t (a + 1) (downTo a g)) a p1 p2 → a + 1 < p2.length → BrT R (swp p2 a) a g q1 q2 → BrT R t (a + 1) g (p1 ++ stepR p2 a ++ q1) q2
  | up {t : List (Option α)} {a g : Nat} {p1 : List Nat} {p2 : List (Option α)} {q1 : List Nat} {q2 : List (Option α)} : a < g → (∃ r, a + 1 ≤ r ∧ r ≤ g ∧ lie R (t[r]?.join) a = true) → BrT R t (pick R t a (upTo (a + 1) g)) (a + 1) p1 p2 → a + 1 < p2.length → BrT R (swp p2 a) (a + 1) g q1 q2 → BrT R t a g (p1 ++ stepR p2 a ++ q1) q2
end
end Mth
namespace Mth
section
variable {α : Type} {R : α → Int × Int} {t : List (Option α)}
/-- a stretch cut to the seats from l to h -/
def cutR (R : α → Int × Int) (l h : Nat) : α → Int × Int := fun x => (max (l : Int) (R x).1, min (h : Int) (R x).2)
inductive Parts (R : α → Int × Int) (t : List (Option α)) : Nat → Nat → List (Nat × Nat) → Prop
  | leaf {l h : Nat} : l ≤ h → Unshut (cutR R l h) t l h → Parts R t l h [(l, h)]
  | split {l h b e : Nat} {p1 p2 p3 : List (Nat × Nat)} : l ≤ b → b ≤ e → e ≤ h → ¬ (b = l ∧ e = h) → Full (cutR R l h) t b e → (l < b → Parts R t l (b - 1) p1) → (b = l → p1 = []) → Parts R t b e p2 → (e < h → Parts R t (e + 1) h p3) → (e = h → p3 = []) → Parts R t l h (p1 ++ p2 ++ p3)
/-- seats from l to h, one lot behind the other -/
def Cover : Nat → Nat → List (Nat × Nat) → Prop
  | _, _, [] => False
  | l, h, [p] => p.1 = l ∧ p.2 = h ∧ l ≤ h
  | l, h, p :: q :: r => p.1 = l ∧ l ≤ p.2 ∧ p.2 < h ∧ Cover (p.2 + 1) h (q :: r)
theorem Cover.le : ∀ {ps : List (Nat × Nat)} {l h : Nat}, Cover l h ps → l ≤ h
  | [p], _, _, c => c.2.2
  | p :: q :: r, _, _, c => by have := c.2.1; have := c.2.2.1; omega
theorem Cover.append : ∀ {ps qs : List (Nat × Nat)} {l m h : Nat}, Cover l m ps → Cover (m + 1) h qs → Cover l h (ps ++ qs)
  | [p], qs, l, m, h, c, d => by
    obtain ⟨c1, c2, c3⟩ := c
    subst c2
    have := d.le
    cases qs with
    | nil => exact d.elim
    | cons q r => exact ⟨c1, c3, by omega, d⟩
  | p :: q :: r, qs, l, m, h, c, d => by
    obtain ⟨c1, c2, c3, c4⟩ := c
    have ih := Cover.append c4 d
    have := d.le
    exact ⟨c1, c2, by omega, ih⟩
theorem Cover.mem : ∀ {ps : List (Nat × Nat)} {l h : Nat} {p : Nat × Nat}, Cover l h ps → p ∈ ps → l ≤ p.1 ∧ p.1 ≤ p.2 ∧ p.2 ≤ h
  | [q], l, h, p, c, m => by
    obtain ⟨c1, c2, c3⟩ := c
    rw [List.mem_singleton] at m
    subst m
    omega
  | q :: s :: r, l, h, p, c, m => by
    obtain ⟨c1, c2, c3, c4⟩ := c
    rcases List.mem_cons.mp m with rfl | m
    · omega
    · have := Cover.mem c4 m
      omega
/-- each seat lies in one -/
theorem Cover.at_ : ∀ {ps : List (Nat × Nat)} {l h : Nat} {k : Nat}, Cover l h ps → l ≤ k → k ≤ h → ∃ p ∈ ps, p.1 ≤ k ∧ k ≤ p.2
  | [q], l, h, k, c, h1, h2 => ⟨q, by simp, by have := c.1; omega, by have := c.2.1; omega⟩
  | q :: s :: r, l, h, k, c, h1, h2 => by
    obtain ⟨c1, c2, c3, c4⟩ := c
    by_cases hk : k ≤ q.2
    · exact ⟨q, by simp, by omega, hk⟩
    · obtain ⟨p, hp, h3, h4⟩ := Cover.at_ (k := k) c4 (by omega) h2
      exact ⟨p, List.mem_cons_of_mem _ hp, h3, h4⟩
theorem Cover.inj : ∀ {ps : List (Nat × Nat)} {l h : Nat} {p q : Nat × Nat} {k : Nat}, Cover l h ps → p ∈ ps → q ∈ ps → p.1 ≤ k → k ≤ p.2 → q.1 ≤ k → k ≤ q.2 → p = q
  | [s], l, h, p, q, k, c, m1, m2, _, _, _, _ => by
    rw [List.mem_singleton] at m1 m2
    rw [m1, m2]
  | s :: u :: r, l, h, p, q, k, c, m1, m2, a1, a2, a3, a4 => by
    obtain ⟨c1, c2, c3, c4⟩ := c
    rcases List.mem_cons.mp m1 with e1 | m1
    · rcases List.mem_cons.mp m2 with e2 | m2
      · rw [e1, e2]
      · have := Cover.mem c4 m2
        rw [e1] at a1 a2
        omega
    · rcases List.mem_cons.mp m2 with e2 | m2
      · have := Cover.mem c4 m1
        rw [e2] at a3 a4
        omega
      · exact Cover.inj c4 m1 m2 a1 a2 a3 a4
theorem Cover.first {ps : List (Nat × Nat)} {l h : Nat} (c : Cover l h ps) : ∃ p ∈ ps, p.1 = l := by
  cases ps with
  | nil => exact c.elim
  | cons p r => cases r with
    | nil => exact ⟨p, by simp, c.1⟩
    | cons q r => exact ⟨p, by simp, c.1⟩
/-- behind one's end the next one begins -/
theorem Cover.next : ∀ {ps : List (Nat × Nat)} {l h : Nat} {p : Nat × Nat}, Cover l h ps → p ∈ ps → p.2 < h → ∃ q ∈ ps, q.1 = p.2 + 1
  | [s], l, h, p, c, m, hp => by
    rw [List.mem_singleton] at m
    subst m
    have := c.2.1
    omega
  | s :: u :: r, l, h, p, c, m, hp => by
    obtain ⟨c1, c2, c3, c4⟩ := c
    rcases List.mem_cons.mp m with rfl | m
    · obtain ⟨q, hq, e⟩ := c4.first
      exact ⟨q, List.mem_cons_of_mem _ hq, e⟩
    · obtain ⟨q, hq, e⟩ := Cover.next c4 m hp
      exact ⟨q, List.mem_cons_of_mem _ hq, e⟩
theorem Parts.cover {l h : Nat} {ps : List (Nat × Nat)} (P : Parts R t l h ps) : Cover l h ps := by
  induction P with
  | leaf hl _ => exact ⟨rfl, rfl, hl⟩
  | @split l h b e p1 p2 p3 h1 h2 h3 h4 h5 h6 h7 h8 h9 h10 i1 i2 i3 =>
    have c2 : Cover b h (p2 ++ p3) := by
      by_cases he : e = h
      · rw [h10 he, List.append_nil, ← he]; exact i2
      · exact i2.append (i3 (by omega))
    rw [List.append_assoc]
    by_cases hb : b = l
    · rw [h7 hb, List.nil_append, ← hb]; exact c2
    · have := i1 (by omega)
      exact this.append (by rw [show b - 1 + 1 = b by omega]; exact c2)
end
end Mth
namespace Mth
section
variable {α : Type} {R : α → Int × Int} {t : List (Option α)}
def seg {β : Type} (t : List β) (l h : Nat) : List β := (t.take (h + 1)).drop l
def inW (R : α → Int × Int) (b e : Nat) (o : Option α) : Bool := match o with
  | none => false
  | some x => decide ((b : Int) ≤ (R x).1) && decide ((R x).2 ≤ (e : Int))
theorem seg_mem {β : Type} {t : List β} {l h : Nat} {o : β} : o ∈ seg t l h ↔ ∃ i, l ≤ i ∧ i ≤ h ∧ t[i]? = some o := by
  unfold seg
  rw [List.mem_iff_getElem?]
  constructor
  · rintro ⟨i, e⟩
    rw [List.getElem?_drop] at e
    have hi : l + i < h + 1 := by
      have := (List.getElem?_eq_some_iff.mp e).1
      rw [List.length_take] at this
      omega
    rw [List.getElem?_take_of_lt hi] at e
    exact ⟨l + i, by omega, by omega, e⟩
  · rintro ⟨i, h1, h2, e⟩
    refine ⟨i - l, ?_⟩
    rw [List.getElem?_drop, show l + (i - l) = i by omega, List.getElem?_take_of_lt (by omega), e]
theorem seg_split {β : Type} {t : List β} {l m h : Nat} (h1 : l ≤ m) (h2 : m ≤ h + 1) : seg t l h = (t.take m).drop l ++ (t.take (h + 1)).drop m := by
  unfold seg
  have e : t.take (h + 1) = t.take m ++ (t.take (h + 1)).drop m := by
    have := List.take_append_drop m (t.take (h + 1))
    rw [List.take_take, Nat.min_eq_left h2] at this
    exact this.symm
  by_cases hm : m ≤ t.length
  · have hl : (t.take m).length = m := by rw [List.length_take]; omega
    rw [e, List.drop_append_of_le_length (by omega)]
    congr 1
    rw [List.drop_append, hl]
    simp [hl]
  · rw [List.take_of_length_le (by omega), List.take_of_length_le (by omega), List.drop_eq_nil_of_le (i := m) (by omega), List.append_nil]
theorem seg_len {β : Type} {t : List β} {l h : Nat} (hh : h < t.length) : (seg t l h).length = h + 1 - l := by
  unfold seg
  rw [List.length_drop, List.length_take]
  omega
/-- all of these seats are taken by people who keep to them just where so many do -/
theorem count_full {l h b e : Nat} (hs : ∀ i o, l ≤ i → i ≤ h → t[i]? = some o → can R o i) (h1 : l ≤ b) (h2 : b ≤ e) (h3 : e ≤ h) (hh : h < t.length) : (seg t l h).countP (inW R b e) = e + 1 - b ↔ Full R t b e := by
  have key : ∀ i o, l ≤ i → i ≤ h → t[i]? = some o → inW R b e o = true → b ≤ i ∧ i ≤ e := fun i o a1 a2 a3 a4 => by
    cases o with
    | none => cases a4
    | some x =>
      have := hs i _ a1 a2 a3 x rfl
      simp [inW] at a4
      omega
  have z1 : ((t.take b).drop l).countP (inW R b e) = 0 := by
    rw [List.countP_eq_zero]
    intro o ho hw
    have hb : b ≠ 0 := fun z => by subst z; simp at ho
    have ho' : o ∈ seg t l (b - 1) := by unfold seg; rw [show b - 1 + 1 = b by omega]; exact ho
    obtain ⟨i, i1, i2, i3⟩ := seg_mem.mp ho'
    have := key i o i1 (by omega) i3 hw
    omega
  have z3 : ((t.take (h + 1)).drop (e + 1)).countP (inW R b e) = 0 := by
    rw [List.countP_eq_zero]
    intro o ho hw
    obtain ⟨i, i1, i2, i3⟩ := seg_mem.mp (show o ∈ seg t (e + 1) h from ho)
    have := key i o (by omega) i2 i3 hw
    omega
  have e1 : seg t l h = (t.take b).drop l ++ (seg t b e ++ (t.take (h + 1)).drop (e + 1)) := by
    rw [seg_split h1 (by omega), show (t.take (h + 1)).drop b = seg t b h from rfl, seg_split (m := e + 1) (by omega) (by omega)]
    rfl
  rw [e1, List.countP_append, List.countP_append, z1, z3, Nat.zero_add, Nat.add_zero, ← seg_len (l := b) (h := e) (show e < t.length by omega), List.countP_eq_length]
  constructor
  · intro ha i a1 a2
    have hi : i < t.length := by omega
    have ei := List.getElem?_eq_getElem hi
    have := ha t[i] (seg_mem.mpr ⟨i, a1, a2, ei⟩)
    cases ex : t[i] with
    | none => rw [ex] at this; cases this
    | some x =>
      rw [ex] at this ei
      simp [inW] at this
      exact ⟨x, ei, this.1, this.2⟩
  · intro hf o ho
    obtain ⟨i, i1, i2, i3⟩ := seg_mem.mp ho
    obtain ⟨x, x1, x2, x3⟩ := hf i i1 i2
    rw [i3] at x1
    cases x1
    simp [inW, x2, x3]
theorem Sits.cut (hs : Sits R t) {l h : Nat} : ∀ i o, l ≤ i → i ≤ h → t[i]? = some o → can (cutR R l h) o i := fun i o h1 h2 e x ex => by
  have := hs.get e x ex
  simp only [cutR]
  omega
end
end Mth
namespace Mth
section
variable {α : Type} {R : α → Int × Int} {t : List (Option α)}
/-- how a settling goes -/
inductive SetT (R : α → Int × Int) (f : List (Option α) → Nat → Nat) (h : Nat) : List (Option α) → Nat → List Nat → List (Option α) → Prop
  | done {t : List (Option α)} : SetT R f h t h [] t
  | step {t : List (Option α)} {s : Nat} {p1 : List Nat} {p2 : List (Option α)} {q1 : List Nat} {q2 : List (Option α)} : s < h → Sits R t → h < t.length → s ≤ f t s → f t s ≤ h → BrT R t (f t s) s p1 p2 → SetT R f h p2 (s + 1) q1 q2 → SetT R f h t s (p1 ++ q1) q2
end
end Mth
namespace Mth
section
variable {α : Type} {R R' : α → Int × Int} {t t1 : List (Option α)} {ps : List (Nat × Nat)}
/-- in each lot the same ones -/
def Same (ps : List (Nat × Nat)) (t t1 : List (Option α)) : Prop := ∀ p ∈ ps, (seg t p.1 p.2).Perm (seg t1 p.1 p.2)
theorem segs_cover {β : Type} {t : List β} : ∀ {ps : List (Nat × Nat)} {l h : Nat}, Cover l h ps → ps.flatMap (fun v => seg t v.1 v.2) = seg t l h
  | [p], l, h, c => by
    obtain ⟨c1, c2, c3⟩ := c
    simp [c1, c2]
  | p :: q :: r, l, h, c => by
    obtain ⟨c1, c2, c3, c4⟩ := c
    rw [List.flatMap_cons, segs_cover c4, c1]
    exact (seg_split (t := t) (l := l) (m := p.2 + 1) (h := h) (by omega) (by omega)).symm
theorem Same.flat : ∀ {ps : List (Nat × Nat)}, Same ps t t1 → (ps.flatMap fun v => seg t v.1 v.2).Perm (ps.flatMap fun v => seg t1 v.1 v.2)
  | [], _ => .refl _
  | p :: r, h => by
    rw [List.flatMap_cons, List.flatMap_cons]
    exact (h p (by simp)).append (Same.flat (ps := r) fun q hq => h q (by simp [hq]))
theorem Same.seg {l h : Nat} (s : Same ps t t1) (c : Cover l h ps) : (seg t l h).Perm (seg t1 l h) := by
  rw [← segs_cover c, ← segs_cover c]
  exact s.flat
theorem Same.left {qs : List (Nat × Nat)} (s : Same (ps ++ qs) t t1) : Same ps t t1 := fun p hp => s p (List.mem_append_left _ hp)
theorem Same.right {qs : List (Nat × Nat)} (s : Same (ps ++ qs) t t1) : Same qs t t1 := fun p hp => s p (List.mem_append_right _ hp)
theorem full_perm {l h b e : Nat} (hs : Sits R t) (hs1 : Sits R t1) (hh : h < t.length) (hh1 : h < t1.length) (hp : (seg t l h).Perm (seg t1 l h)) (h1 : l ≤ b) (h2 : b ≤ e) (h3 : e ≤ h) : Full (cutR R l h) t b e ↔ Full (cutR R l h) t1 b e := by
  rw [← count_full (l := l) (h := h) hs.cut h1 h2 h3 hh, ← count_full (l := l) (h := h) hs1.cut h1 h2 h3 hh1, hp.countP_eq]
theorem Parts.same {l h : Nat} (P : Parts R t l h ps) (hs : Sits R t) (hs1 : Sits R t1) : h < t.length → h < t1.length → Same ps t t1 → Parts R t1 l h ps := by
  induction P with
  | @leaf l h hl hu =>
    intro hh hh1 sm
    have hp := sm (l, h) (by simp)
    exact .leaf hl fun b e a1 a2 a3 a4 hF => hu b e a1 a2 a3 a4 ((full_perm hs hs1 hh hh1 hp a1 a2 a3).mpr hF)
  | @split l h b e p1 p2 p3 h1 h2 h3 h4 h5 h6 h7 h8 h9 h10 i1 i2 i3 =>
    intro hh hh1 sm
    have c := (Parts.split h1 h2 h3 h4 h5 h6 h7 h8 h9 h10).cover
    have hp := sm.seg c
    refine .split h1 h2 h3 h4 ((full_perm hs hs1 hh hh1 hp h1 h2 h3).mp h5) (fun z => i1 z (by omega) (by omega) sm.left.left) h7 (i2 (by omega) (by omega) sm.left.right) (fun z => i3 z hh hh1 sm.right) h10
/-- an exchange stays in a lot -/
theorem Parts.may {l h k : Nat} (P : Parts R t l h ps) (hs : Sits R t) (M : May R t k) : l ≤ k → k + 1 ≤ h → ∃ p ∈ ps, p.1 ≤ k ∧ k + 1 ≤ p.2 := by
  have hk := M.lt
  induction P with
  | @leaf l h hl hu => exact fun a b => ⟨(l, h), by simp, a, b⟩
  | @split l h b e p1 p2 p3 h1 h2 h3 h4 h5 h6 h7 h8 h9 h10 i1 i2 i3 =>
    intro a1 a2
    by_cases c1 : k + 1 < b
    · obtain ⟨p, hp, z⟩ := i1 (by omega) a1 (by omega)
      exact ⟨p, by simp [hp], z⟩
    by_cases c2 : k + 1 = b
    · obtain ⟨x, e1, e2, e3⟩ := h5 (k + 1) (by omega) (by omega)
      rw [List.getElem?_eq_getElem hk] at e1
      have := (M.right x (Option.some.inj e1)).1
      simp only [cutR] at e2
      omega
    by_cases c3 : k + 1 ≤ e
    · obtain ⟨p, hp, z⟩ := i2 (by omega) c3
      exact ⟨p, by simp [hp], z⟩
    by_cases c4 : k = e
    · obtain ⟨x, e1, e2, e3⟩ := h5 k (by omega) (by omega)
      rw [List.getElem?_eq_getElem (show k < t.length by omega)] at e1
      have := (M.left x (Option.some.inj e1)).2
      simp only [cutR] at e3
      omega
    · obtain ⟨p, hp, z⟩ := i3 (by omega) (by omega) (by omega)
      exact ⟨p, by simp [hp], z⟩
/-- stretches cut by the lots -/
def Cuts (R : α → Int × Int) (ps : List (Nat × Nat)) (t : List (Option α)) (R' : α → Int × Int) : Prop := ∀ i x, t[i]? = some (some x) → ∃ v ∈ ps, v.1 ≤ i ∧ i ≤ v.2 ∧ R' x = cutR R v.1 v.2 x
theorem Cuts.sits (C : Cuts R ps t R') (hs : Sits R t) : Sits R' t := sits_of fun i o e x ex => by
  subst ex
  obtain ⟨v, hv, h1, h2, h3⟩ := C i x e
  have := hs.get e x rfl
  rw [h3]
  simp only [cutR]
  omega
theorem Cuts.wide (C : Cuts R ps t R') {x : α} (hx : some x ∈ t) : (R x).1 ≤ (R' x).1 ∧ (R' x).2 ≤ (R x).2 := by
  obtain ⟨i, e⟩ := List.getElem?_of_mem hx
  obtain ⟨v, hv, h1, h2, h3⟩ := C i x e
  rw [h3]
  simp only [cutR]
  omega
theorem Cuts.up (C : Cuts R ps t R') (hs : Sits R' t) : Sits R t := sits_of fun i o e x ex => by
  subst ex
  have h1 := C.wide (List.mem_of_getElem? e)
  have h2 := hs.get e x rfl
  omega
theorem swp_same {L H k : Nat} (c : Cover L H ps) {p : Nat × Nat} (hp : p ∈ ps) (h1 : p.1 ≤ k) (h2 : k + 1 ≤ p.2) (hH : H < t.length) : Same ps t (swp t k) := fun q hq => by
  have hkl : k + 1 < t.length := by have := c.mem hp; omega
  by_cases e : q = p
  · subst e
    have hql := c.mem hq
    have dec : ∀ w : List (Option α), w = w.take q.1 ++ (Mth.seg w q.1 q.2 ++ w.drop (q.2 + 1)) := fun w => by
      have z1 : w = w.take (q.2 + 1) ++ w.drop (q.2 + 1) := (List.take_append_drop _ _).symm
      have z2 : w.take (q.2 + 1) = w.take q.1 ++ Mth.seg w q.1 q.2 := by
        unfold Mth.seg
        have := (List.take_append_drop q.1 (w.take (q.2 + 1))).symm
        rwa [List.take_take, Nat.min_eq_left (by omega)] at this
      rw [← List.append_assoc, ← z2]
      exact z1
    have e1 : (swp t k).take q.1 = t.take q.1 := by
      apply List.ext_getElem?
      intro i
      rw [List.getElem?_take, List.getElem?_take]
      split
      · rw [swp_get hkl, if_neg (by omega), if_neg (by omega)]
      · rfl
    have e2 : (swp t k).drop (q.2 + 1) = t.drop (q.2 + 1) := by
      apply List.ext_getElem?
      intro i
      rw [List.getElem?_drop, List.getElem?_drop, swp_get hkl, if_neg (by omega), if_neg (by omega)]
    have hpm : (t.take q.1 ++ (Mth.seg t q.1 q.2 ++ t.drop (q.2 + 1))).Perm (t.take q.1 ++ (Mth.seg (swp t k) q.1 q.2 ++ t.drop (q.2 + 1))) := by
      rw [← dec t, ← e1, ← e2, ← dec (swp t k)]
      exact (swp_perm (t := t) hkl).symm
    exact (List.perm_append_right_iff _).mp ((List.perm_append_left_iff _).mp hpm)
  · have : Mth.seg t q.1 q.2 = Mth.seg (swp t k) q.1 q.2 := by
      unfold Mth.seg
      apply List.ext_getElem?
      intro i
      rw [List.getElem?_drop, List.getElem?_drop, List.getElem?_take, List.getElem?_take]
      split
      · rw [swp_get hkl]
        have n1 : ¬ q.1 + i = k := fun z => e (c.inj hq hp (k := k) (by omega) (by omega) h1 (by omega))
        have n2 : ¬ q.1 + i = k + 1 := fun z => e (c.inj hq hp (k := k + 1) (by omega) (by omega) (by omega) h2)
        rw [if_neg n1, if_neg n2]
      · rfl
    rw [this]
theorem Cuts.may (C : Cuts R ps t R') {L H k : Nat} (P : Parts R t L H ps) (hs : Sits R t) (hL : L = 0) (hH : H + 1 = t.length) (M : May R t k) : May R' t k ∧ Cuts R ps (swp t k) R' ∧ Parts R (swp t k) L H ps := by
  have hk := M.lt
  obtain ⟨p, hp, h1, h2⟩ := P.may hs M (by omega) (by omega)
  have hc := P.cover
  refine ⟨⟨hk, M.some, fun x ex => ?_, fun x ex => ?_⟩, fun i x e => ?_, ?_⟩
  · obtain ⟨v, hv, a1, a2, a3⟩ := C k x (by rw [List.getElem?_eq_getElem (by omega), ex])
    have ev := hc.inj hv hp a1 a2 h1 (by omega)
    subst ev
    have := M.left x ex
    have := hs.get (List.getElem?_eq_getElem (show k < t.length by omega)) x ex
    rw [a3]
    simp only [cutR]
    omega
  · obtain ⟨v, hv, a1, a2, a3⟩ := C (k + 1) x (by rw [List.getElem?_eq_getElem hk, ex])
    have ev := hc.inj hv hp a1 a2 (by omega) h2
    subst ev
    have := M.right x ex
    have := hs.get (List.getElem?_eq_getElem hk) x ex
    rw [a3]
    simp only [cutR]
    omega
  · rw [swp_get hk] at e
    by_cases c1 : i = k
    · rw [if_pos c1] at e
      obtain ⟨v, hv, a1, a2, a3⟩ := C (k + 1) x e
      have ev := hc.inj hv hp a1 a2 (by omega) h2
      subst ev
      exact ⟨v, hv, by omega, by omega, a3⟩
    · rw [if_neg c1] at e
      by_cases c2 : i = k + 1
      · rw [if_pos c2] at e
        obtain ⟨v, hv, a1, a2, a3⟩ := C k x e
        have ev := hc.inj hv hp a1 a2 h1 (by omega)
        subst ev
        exact ⟨v, hv, by omega, by omega, a3⟩
      · rw [if_neg c2] at e
        exact C i x e
  · exact P.same hs (M.sits hs) (by omega) (by rw [swp_len]; omega) (swp_same hc hp h1 h2 (by omega))
theorem Cuts.goes (C : Cuts R ps t R') {L H : Nat} (P : Parts R t L H ps) (hs : Sits R t) (hL : L = 0) (hH : H + 1 = t.length) {row : List Nat} : goes R t row → goes R' t row ∧ Cuts R ps (goF t row) R' ∧ Parts R (goF t row) L H ps := by
  induction row generalizing t with
  | nil => exact fun _ => ⟨trivial, C, P⟩
  | cons k r ih =>
    intro h
    obtain ⟨m1, m2, m3⟩ := C.may P hs hL hH h.1
    obtain ⟨n1, n2, n3⟩ := ih m2 m3 (h.1.sits hs) (by rw [swp_len]; exact hH) h.2
    exact ⟨⟨m1, n1⟩, n2, n3⟩
theorem perm_opt [DecidableEq α] {u v : List (Option α)} (hl : u.length = v.length) (h : (u.filterMap id).Perm (v.filterMap id)) : u.Perm v := by
  have cnt : ∀ w : List (Option α), w.length = (w.filterMap id).length + w.count none := fun w => by
    induction w with
    | nil => rfl
    | cons o r ih =>
      cases o with
      | none => simp [ih]; omega
      | some x => simp [ih]; omega
  have cs : ∀ (w : List (Option α)) (x : α), w.count (some x) = (w.filterMap id).count x := fun w x => by
    induction w with
    | nil => rfl
    | cons o r ih =>
      cases o with
      | none => simpa [List.count_cons] using ih
      | some y => simp [List.count_cons, ih]
  rw [List.perm_iff_count]
  intro o
  cases o with
  | none =>
    have h1 := cnt u
    have h2 := cnt v
    have := h.length_eq
    omega
  | some x => rw [cs, cs, h.count_eq]
theorem fm_mem {w : List (Option α)} {x : α} : x ∈ w.filterMap id ↔ some x ∈ w := by
  rw [List.mem_filterMap]
  constructor
  · rintro ⟨o, h1, h2⟩
    simp at h2
    rwa [← h2]
  · exact fun h => ⟨some x, h, rfl⟩
theorem nd_seg {t : List (Option α)} {l h : Nat} (nd : (t.filterMap id).Nodup) : ((Mth.seg t l h).filterMap id).Nodup := List.Nodup.sublist (List.Sublist.filterMap id ((List.drop_sublist _ _).trans (List.take_sublist _ _))) nd
theorem Cuts.same [DecidableEq α] (C : Cuts R ps t R') {L H : Nat} (P : Parts R t L H ps) (hL : L = 0) (hH : H + 1 = t.length) (nd : (t.filterMap id).Nodup) (hp : t1.Perm t) (hs1 : Sits R' t1) (hs : Sits R t) : Same ps t t1 := fun p hpm => by
  have hc := P.cover
  have hl := hp.length_eq
  have hm := hc.mem hpm
  have nd1 : (t1.filterMap id).Nodup := (hp.filterMap id).nodup_iff.mpr nd
  refine perm_opt (by rw [seg_len (by omega), seg_len (by omega)]) ((List.perm_ext_iff_of_nodup (nd_seg nd) (nd_seg nd1)).mpr fun x => ?_)
  rw [fm_mem, fm_mem, seg_mem, seg_mem]
  constructor
  · rintro ⟨i, a1, a2, a3⟩
    obtain ⟨v, hv, b1, b2, b3⟩ := C i x a3
    have ev := hc.inj hv hpm b1 b2 a1 a2
    subst ev
    obtain ⟨j, ej⟩ := List.getElem?_of_mem (hp.mem_iff.mpr (List.mem_of_getElem? a3))
    have h1 := hs1.get ej x rfl
    rw [b3] at h1
    simp only [cutR] at h1
    exact ⟨j, by omega, by omega, ej⟩
  · rintro ⟨j, a1, a2, a3⟩
    obtain ⟨i, ei⟩ := List.getElem?_of_mem (hp.mem_iff.mp (List.mem_of_getElem? a3))
    obtain ⟨v, hv, b1, b2, b3⟩ := C i x ei
    have h1 := hs1.get a3 x rfl
    rw [b3] at h1
    simp only [cutR] at h1
    have ev := hc.inj hv hpm (k := j) (by omega) (by omega) a1 a2
    subst ev
    exact ⟨i, b1, b2, ei⟩
end
end Mth
namespace Mth
open Classical
section
variable {α : Type} {R : α → Int × Int} {av : Nat → Bool} {h : Nat}
/-- all seats from s on that are free and one's own lie from x to below z -/
def Within (R : α → Int × Int) (av : Nat → Bool) (h s x z : Nat) (j : α) : Prop := ∀ k, s ≤ k → k ≤ h → av k = true → (R j).1 ≤ (k : Int) → (k : Int) ≤ (R j).2 → x ≤ k ∧ k < z
/-- how many free seats from x to below z -/
def nav (av : Nat → Bool) (x z : Nat) : Nat := (List.range (z - x)).countP fun i => av (x + i)
theorem nav_self {x : Nat} : nav av x x = 0 := by unfold nav; rw [Nat.sub_self]; rfl
theorem nav_split {x y z : Nat} (h1 : x ≤ y) (h2 : y ≤ z) : nav av x z = nav av x y + nav av y z := by
  unfold nav
  have e : z - x = (y - x) + (z - y) := by omega
  rw [e, List.range_add, List.countP_append, List.countP_map]
  congr 1
  refine List.countP_congr fun i _ => ?_
  have e2 : x + ((y - x) + i) = y + i := by omega
  simp only [Function.comp]
  rw [e2]
theorem nav_one {x : Nat} : nav av x (x + 1) = if av x = true then 1 else 0 := by
  unfold nav
  have e : x + 1 - x = 1 := by omega
  rw [e, show List.range 1 = [0] from rfl, List.countP_singleton, Nat.add_zero]
theorem nav_pos {x z : Nat} (h0 : nav av x z ≠ 0) : ∃ k, x ≤ k ∧ k < z ∧ av k = true := by
  have h1 : 0 < nav av x z := by omega
  unfold nav at h1
  rw [List.countP_pos_iff] at h1
  obtain ⟨i, hi, e⟩ := h1
  have := List.mem_range.mp hi
  exact ⟨x + i, by omega, by omega, e⟩
/-- no window is crowded, from s on -/
def Hall (R : α → Int × Int) (av : Nat → Bool) (h s : Nat) (J : List α) : Prop := ∀ x z, s ≤ x → x ≤ z → z ≤ h + 1 → J.countP (fun j => decide (Within R av h s x z j)) ≤ nav av x z
theorem countP_le {J : List α} {p q : α → Bool} (h : ∀ j ∈ J, p j = true → q j = true) : J.countP p ≤ J.countP q := List.countP_mono_left h
theorem count_erase [DecidableEq α] {J : List α} {j0 : α} (h0 : j0 ∈ J) (p : α → Bool) : J.countP p = (J.erase j0).countP p + (if p j0 = true then 1 else 0) := by
  have := (List.perm_cons_erase h0).countP_eq p
  rw [this, List.countP_cons]
theorem Hall.take [DecidableEq α] {s : Nat} {J : List α} {j0 : α} (H : Hall R av h s J) (hs : s ≤ h) (ha : av s = true) (h0 : j0 ∈ J) (h1 : (R j0).1 ≤ (s : Int)) (h2 : ∀ j ∈ J, (R j).1 ≤ (s : Int) → (R j0).2 ≤ (R j).2) : (s : Int) ≤ (R j0).2 ∧ Hall R av h (s + 1) (J.erase j0) := by
  have hend : ∀ j ∈ J, (R j).1 ≤ (s : Int) → (s : Int) ≤ (R j).2 := fun j hj hj1 => by
    by_cases c : (s : Int) ≤ (R j).2
    · exact c
    · exfalso
      have := H s s (Nat.le_refl _) (Nat.le_refl _) (by omega)
      rw [nav_self] at this
      have hp : 0 < J.countP (fun j => decide (Within R av h s s s j)) := List.countP_pos_iff.mpr ⟨j, hj, decide_eq_true fun k k1 k2 k3 k4 k5 => by omega⟩
      omega
  refine ⟨hend j0 h0 h1, fun x z a1 a2 a3 => ?_⟩
  have key : (∀ j ∈ J.erase j0, Within R av h (s + 1) x z j → ¬ (R j).1 ≤ (s : Int)) → (J.erase j0).countP (fun j => decide (Within R av h (s + 1) x z j)) ≤ nav av x z := fun hn => by
    refine Nat.le_trans (countP_le (q := fun j => decide (Within R av h s x z j)) fun j hj hw => ?_) (Nat.le_trans ?_ (H x z (by omega) a2 a3))
    · rw [decide_eq_true_eq] at hw ⊢
      intro k k1 k2 k3 k4 k5
      by_cases e : k = s
      · subst e
        exact (hn j hj hw k4).elim
      · exact hw k (by omega) k2 k3 k4 k5
    · rw [count_erase h0]
      omega
  by_cases c : nav av (s + 1) x = 0
  · by_cases c2 : Within R av h s s z j0
    · have e1 : nav av s z = 1 + nav av x z := by
        rw [nav_split (y := s + 1) (by omega) (by omega), nav_split (x := s + 1) (y := x) (by omega) a2, nav_one, if_pos ha, c]
        omega
      have e2 := H s z (Nat.le_refl _) (by omega) a3
      rw [count_erase h0, if_pos (decide_eq_true c2)] at e2
      have e3 : (J.erase j0).countP (fun j => decide (Within R av h (s + 1) x z j)) ≤ (J.erase j0).countP (fun j => decide (Within R av h s s z j)) := countP_le fun j hj hw => by
        rw [decide_eq_true_eq] at hw ⊢
        intro k k1 k2 k3 k4 k5
        by_cases e : k = s
        · subst e
          exact ⟨Nat.le_refl _, by omega⟩
        · have := hw k (by omega) k2 k3 k4 k5
          exact ⟨k1, this.2⟩
      omega
    · refine key fun j hj hw hj1 => c2 fun k k1 k2 k3 k4 k5 => ⟨k1, ?_⟩
      have hj2 := h2 j (List.mem_of_mem_erase hj) hj1
      by_cases e : k = s
      · subst e; omega
      · exact (hw k (by omega) k2 k3 (by omega) (by omega)).2
  · obtain ⟨p, p1, p2, p3⟩ := nav_pos c
    refine key fun j hj hw hj1 => ?_
    have hJ := List.mem_of_mem_erase hj
    have hb : (R j).2 < p := by
      by_cases e : (R j).2 < p
      · exact e
      · have := hw p p1 (by omega) p3 (by omega) (by omega)
        omega
    have wj : ∀ i : α, (R i).2 ≤ (R j).2 → Within R av h s s (s + 1) i := fun i hi k k1 k2 k3 k4 k5 => by
      refine ⟨k1, ?_⟩
      by_cases e : k = s
      · omega
      · have := hw k (by omega) k2 k3 (by omega) (by omega)
        omega
    have e2 := H s (s + 1) (Nat.le_refl _) (by omega) (by omega)
    rw [nav_one, if_pos ha, count_erase h0, if_pos (decide_eq_true (wj j0 (h2 j hJ hj1)))] at e2
    have : 0 < (J.erase j0).countP (fun j => decide (Within R av h s s (s + 1) j)) := List.countP_pos_iff.mpr ⟨j, hj, decide_eq_true (wj j (by omega))⟩
    omega
end
end Mth
namespace Mth
section
variable {α : Type} {R : α → Int × Int} {t u t' : List (Option α)} {row : List Nat} {k l h a g s : Nat}
theorem step_goF (hk : k + 1 < t.length) : goF t (stepR t k) = swp t k := by
  unfold stepR
  rw [List.getElem?_eq_getElem (show k < t.length by omega), List.getElem?_eq_getElem hk]
  by_cases hb : t[k] = none ∧ t[k + 1] = none
  · rw [hb.1, hb.2]
    simp only [Option.join, Option.bind, Option.isNone, Bool.and_self, if_true]
    exact (swp_bare hk hb.1 hb.2).symm
  · have : ((some t[k]).join.isNone && (some t[k + 1]).join.isNone) = false := by
      cases e1 : t[k] with
      | none =>
        cases e2 : t[k + 1] with
        | none => exact (hb ⟨e1, e2⟩).elim
        | some y => rfl
      | some x => rfl
    rw [this]
    rfl
theorem goFlen : ∀ (row : List Nat) (t : List (Option α)), (goF t row).length = t.length
  | [], _ => rfl
  | k :: r, t => (goFlen r (swp t k)).trans swp_len
theorem BrT.goF (b : BrT R t a g row t') : t' = goF t row := by
  induction b with
  | here => rfl
  | down h1 h2 b1 hl b2 i1 i2 => rw [goF_append, goF_append, ← i1, step_goF hl, ← i2]
  | up h1 h2 b1 hl b2 i1 i2 => rw [goF_append, goF_append, ← i1, step_goF hl, ← i2]
def In (l h : Nat) (row : List Nat) : Prop := ∀ k ∈ row, l ≤ k ∧ k + 1 ≤ h
def Agr (l h : Nat) (t u : List (Option α)) : Prop := ∀ i, l ≤ i → i ≤ h → t[i]? = u[i]?
theorem goF_in : ∀ {row : List Nat} {t : List (Option α)}, In l h row → ∀ i, l ≤ i → i ≤ h → ∃ j, l ≤ j ∧ j ≤ h ∧ (goF t row)[i]? = t[j]?
  | [], _, _, i, h1, h2 => ⟨i, h1, h2, rfl⟩
  | k :: r, t, hr, i, h1, h2 => by
    have hk := hr k (List.mem_cons_self ..)
    obtain ⟨j, j1, j2, j3⟩ := goF_in (t := swp t k) (fun j hj => hr j (List.mem_cons_of_mem _ hj)) i h1 h2
    by_cases c1 : k + 1 < t.length
    · rw [swp_get c1] at j3
      by_cases c2 : j = k
      · rw [if_pos c2] at j3
        exact ⟨k + 1, by omega, by omega, j3⟩
      · rw [if_neg c2] at j3
        by_cases c3 : j = k + 1
        · rw [if_pos c3] at j3
          exact ⟨k, by omega, by omega, j3⟩
        · rw [if_neg c3] at j3
          exact ⟨j, j1, j2, j3⟩
    · have e : t[k + 1]? = none := List.getElem?_eq_none (by omega)
      have : swp t k = t := by
        unfold swp
        rw [e]
        cases t[k]? <;> rfl
      rw [this] at j3
      refine ⟨j, j1, j2, ?_⟩
      show (goF (swp t k) r)[i]? = _
      rw [this]
      exact j3
theorem Agr.swp (g : Agr l h t u) (h1 : l ≤ k) (h2 : k + 1 ≤ h) (ht : h < t.length) (hu : h < u.length) : Agr l h (swp t k) (swp u k) := fun i a b => by
  rw [swp_get (by omega), swp_get (by omega)]
  split
  · exact g _ (by omega) (by omega)
  · split
    · exact g _ (by omega) (by omega)
    · exact g i a b
theorem Agr.may (g : Agr l h t u) (h1 : l ≤ k) (h2 : k + 1 ≤ h) (hu : h < u.length) (m : May R t k) : May R u k := by
  obtain ⟨m1, m2, m3, m4⟩ := m
  have e1 := g k h1 (by omega)
  have e2 := g (k + 1) (by omega) h2
  have k1 : k < u.length := by omega
  have k2 : k + 1 < u.length := by omega
  have k0 : k < t.length := by omega
  rw [List.getElem?_eq_getElem k0, List.getElem?_eq_getElem k1] at e1
  rw [List.getElem?_eq_getElem m1, List.getElem?_eq_getElem k2] at e2
  have e1 := Option.some.inj e1
  have e2 := Option.some.inj e2
  rw [e1, e2] at m2
  rw [e1] at m3
  rw [e2] at m4
  exact ⟨k2, m2, m3, m4⟩
theorem SetT.goF {f : List (Option α) → Nat → Nat} (b : SetT R f h t s row t') : t' = goF t row := by
  induction b with
  | done => rfl
  | step h1 _ _ h2 h3 b1 b2 i => rw [goF_append, ← b1.goF, ← i]
end
end Mth
namespace K22
open PySem PySem.Spec PyProof.Rows L2 Bx
def top (i : Nat) : Stmt := PySem.Challenge.pw_benchstretch_k22_whole_seated_stays_so.main.body.getD i (.Pass ⟨0, 0, 0, 0⟩)
def clsB : Stmt → List Stmt
  | .ClassDef (body := b) .. => b
  | _ => []
def isC : List Str := ["Bench"]
abbrev s__law_hand : Stmt := top 33
def d__law_hand : He.DefD := ⟨("_law_hand", none), "_law_hand", "_law_hand", defArgs s__law_hand, defBody s__law_hand, defScope s__law_hand, [], []⟩
theorem sc__law_hand : FnScope ["_law_cell_here", "_law_digits"] ["_law_cell_here"] (defScope s__law_hand) := ⟨rfl, rfl, rfl, by decide +kernel, rfl, by decide +kernel, by decide +kernel⟩
noncomputable def b__law_hand : MS := sq (sset 1 (ifD (orT (tru (bin ltD (var 0) (con (.int 0)))) (tru (bin geD (var 0) (bin powD (con (.int 10)) (con (.int 18)))))) (bnd (margs [var 0]) (f1 absD)) (con (.int 0))))
  (sretS (nlst [var 1, bin addD (bin mulD (bin modD (var 0) (con (.int 1000000123))) (con (.int 7019))) (con (.int 4013)), con (.int 0)]))
noncomputable def den__law_hand : Den := runB 2 b__law_hand
abbrev s__law_cell : Stmt := top 32
def d__law_cell : He.DefD := ⟨("_law_cell", none), "_law_cell", "_law_cell", defArgs s__law_cell, defBody s__law_cell, defScope s__law_cell, [], []⟩
theorem sc__law_cell : FnScope ["_law_script", "_law_k", "_law_state", "_law_cell_here"] ["_law_script", "_law_k"] (defScope s__law_cell) := ⟨rfl, rfl, rfl, by decide +kernel, rfl, by decide +kernel, by decide +kernel⟩
noncomputable def b__law_cell : MS := sq (sif (tru (bin ltD (var 1) (bnd (margs [var 0]) (f1 lenD)))) (sret (bin ixD (var 0) (var 1))) (skip))
  (sq (sset 2 (bin modD (bin mulD (con (.int 50021)) (bin addD (bin addD (bin mulD (var 1) (var 1)) (bin mulD (con (.int 9)) (var 1))) (con (.int 11)))) (con (.int 1000000123))))
  (sq (sfor (mits (slc (var 0) .no (.yes (con (.int 4))))) (gset 3) (sset 2 (bin modD (bin addD (bin mulD (var 2) (con (.int 30029))) (var 3)) (con (.int 1000000123)))))
  (sret (var 2))))
noncomputable def den__law_cell : Den := runB 4 b__law_cell
abbrev s__law_draw : Stmt := top 34
def d__law_draw : He.DefD := ⟨("_law_draw", none), "_law_draw", "_law_draw", defArgs s__law_draw, defBody s__law_draw, defScope s__law_draw, [], []⟩
theorem sc__law_draw : FnScope ["_law_hand_here", "_law_top", "_law_digit", "_law_state"] ["_law_hand_here", "_law_top"] (defScope s__law_draw) := ⟨rfl, rfl, rfl, by decide +kernel, rfl, by decide +kernel, by decide +kernel⟩
noncomputable def b__law_draw : MS := sq (ssub (bin addD (bin ixD (var 0) (con (.int 2))) (con (.int 1))) (var 0) (con (.int 2)))
  (sq (sif (tru (bin gtD (bin ixD (var 0) (con (.int 0))) (con (.int 0)))) (sq (sasg (gtupG [gsub (var 0) (con (.int 0)), gset 2]) (bnd (margs [bin ixD (var 0) (con (.int 0)), var 1]) (f2 divD)))
  (sret (var 2))) (skip))
  (sq (sset 3 (bin modD (bin ixD (var 0) (con (.int 1))) (con (.int 1000000123))))
  (sq (ssub (bin addD (bin mulD (var 3) (bin addD (bin modD (var 3) (con (.int 46049))) (con (.int 30013)))) (bin mulD (con (.int 80051)) (bin ixD (var 0) (con (.int 2))))) (var 0) (con (.int 1)))
  (sret (bin modD (bin fdivD (bin modD (bin ixD (var 0) (con (.int 1))) (con (.int 1000000123))) (con (.int 16))) (var 1))))))
noncomputable def den__law_draw : Den := runB 4 b__law_draw
abbrev s__law_calls : Stmt := top 35
def d__law_calls : He.DefD := ⟨("_law_calls", none), "_law_calls", "_law_calls", defArgs s__law_calls, defBody s__law_calls, defScope s__law_calls, [], []⟩
theorem sc__law_calls : FnScope ["_law_hand_here", "_law_count", "_law_own", "_law_letters", "_law_found", "_law_turn", "_law_word", "_law_some", "_law_letter", "_law_k", "_law_call"] ["_law_hand_here", "_law_count"] (defScope s__law_calls) := ⟨rfl, rfl, rfl, by decide +kernel, rfl, by decide +kernel, by decide +kernel⟩
noncomputable def b__law_calls : MS := sq (sset 2 (mlst [con (.str "come"), con (.str "go"), con (.str "lead"), con (.str "swap"), con (.str "move"), con (.str "back"), con (.str "seats"), con (.str "bench"), con (.str "may"), con (.str "to"), con (.str "here"), con (.str "never")]))
  (sq (spar [3, 4] [.v (con (.str "abcdefghijklmnopqrstuvwxyz")), .f (nlst [])])
  (sq (sfor (mrange1 [var 1]) (gset 5) (sq (sset 6 (bin ixD (var 2) (callK den__law_draw [0, 1] [] (mal [var 0, con (.int 12)]) (mal []))))
  (sq (sif (tru (bin gtD (callK den__law_draw [0, 1] [] (mal [var 0, con (.int 3)]) (mal [])) (con (.int 0)))) (sset 6 (mjoin (con (.str "")) (mcomp [9] (mrange1 [bin addD (con (.int 1)) (callK den__law_draw [0, 1] [] (mal [var 0, con (.int 6)]) (mal []))]) (Tgt.asg (.name 9)) (yes) (bin ixD (var 3) (callK den__law_draw [0, 1] [] (mal [var 0, con (.int 26)]) (mal [])))))) (skip))
  (sq (sset 7 (bin addD (mlst [var 6]) (mcomp [8] (mits (var 3)) (Tgt.asg (.name 8)) (yes) (bin addD (slc (var 6) .no (.yes (con (.int 5)))) (var 8)))))
  (sexpr (mapp (var 4) (bin ixD (mcomp [10] (mits (var 7)) (Tgt.asg (.name 10)) (tru (bin (inA true) (var 10) (var 4))) (var 10)) (con (.int 0)))))))))
  (sret (var 4))))
noncomputable def den__law_calls : Den := runB 11 b__law_calls
abbrev s__law_cast : Stmt := top 36
def d__law_cast : He.DefD := ⟨("_law_cast", none), "_law_cast", "_law_cast", defArgs s__law_cast, defBody s__law_cast, defScope s__law_cast, [], []⟩
theorem sc__law_cast : FnScope ["_law_hand_here", "_law_wide", "_law_calls_here", "_law_sat", "_law_folk", "_law_thin", "_law_spot", "_law_left", "_law_right_here", "_law_way", "_law_low", "_law_high", "_law_here"] ["_law_hand_here", "_law_wide"] (defScope s__law_cast) := ⟨rfl, rfl, rfl, by decide +kernel, rfl, by decide +kernel, by decide +kernel⟩
noncomputable def b__law_cast : MS := sq (spar [2, 3, 4] [.v (callK den__law_calls [0, 1] [] (mal [var 0, var 1]) (mal [])), .f (nlst []), .f (nlst [])])
  (sq (sset 5 (bin ixD (mlst [con (.int 0), con (.int 0), con (.int 1), con (.int 3)]) (callK den__law_draw [0, 1] [] (mal [var 0, con (.int 4)]) (mal []))))
  (sq (sfor (mrange1 [var 1]) (gset 6) (sq (spar [7, 8, 9] [.v (callK den__law_draw [0, 1] [] (mal [var 0, con (.int 4)]) (mal [])), .v (callK den__law_draw [0, 1] [] (mal [var 0, con (.int 4)]) (mal [])), .v (callK den__law_draw [0, 1] [] (mal [var 0, con (.int 7)]) (mal []))])
  (sq (sset 10 (ifD (tru (bin (inA false) (var 9) (mlst [con (.int 1), con (.int 3)]))) (con (.int 0)) (bnd (margs [con (.int 0), bin subD (var 6) (bin mulD (var 7) (bnd (margs [bin gtD (var 9) (con (.int 0))]) (f1 intD)))]) (f2 maxD))))
  (sq (sset 11 (ifD (tru (bin (inA false) (var 9) (mlst [con (.int 2), con (.int 3)]))) (bin subD (var 1) (con (.int 1))) (bnd (margs [bin subD (var 1) (con (.int 1)), bin addD (var 6) (bin mulD (var 8) (bnd (margs [bin gtD (var 9) (con (.int 0))]) (f1 intD)))]) (f2 minD))))
  (sq (sset 12 (bin geD (callK den__law_draw [0, 1] [] (mal [var 0, con (.int 6)]) (mal [])) (var 5)))
  (sq (sexpr (mapp (var 3) (ifD (truth (var 12)) (bin ixD (var 2) (var 6)) (con .non))))
  (sexpr (mext (var 4) (bin mulD (mlst [mtup [bin ixD (var 2) (var 6), var 10, var 11]]) (bnd (margs [var 12]) (f1 intD)))))))))))
  (sret (mtup [bnd (margs [var 4]) (f1 tupleD), bnd (margs [var 3]) (f1 tupleD)]))))
noncomputable def den__law_cast : Den := runB 13 b__law_cast
abbrev s__law_shuted : Stmt := top 37
def d__law_shuted : He.DefD := ⟨("_law_shuted", none), "_law_shuted", "_law_shuted", defArgs s__law_shuted, defBody s__law_shuted, defScope s__law_shuted, [], []⟩
theorem sc__law_shuted : FnScope ["_law_hand_here", "_law_wide", "_law_folk", "_law_sat", "_law_low", "_law_high", "_law_found", "_law_call", "_law_begin", "_law_end", "_law_inner"] ["_law_hand_here", "_law_wide", "_law_folk", "_law_sat"] (defScope s__law_shuted) := ⟨rfl, rfl, rfl, by decide +kernel, rfl, by decide +kernel, by decide +kernel⟩
noncomputable def b__law_shuted : MS := sq (sset 4 (callK den__law_draw [0, 1] [] (mal [var 0, var 1]) (mal [])))
  (sq (sset 5 (bin addD (var 4) (callK den__law_draw [0, 1] [] (mal [var 0, bin subD (var 1) (var 4)]) (mal []))))
  (sq (ssetO 6 (nlst []))
  (sq (sfor (mits (var 2)) (gtup [7, 8, 9]) (sq (sset 10 (bin (inA false) (var 7) (slc (var 3) (.yes (var 4)) (.yes (bin addD (var 5) (con (.int 1)))))))
  (sexpr (mapp (var 6) (ifD (truth (var 10)) (mtup [var 7, bnd (margs [var 8, var 4]) (f2 maxD), bnd (margs [var 9, var 5]) (f2 minD)]) (mtup [var 7, var 8, var 9]))))))
  (sret (bnd (margs [var 6]) (f1 tupleD))))))
noncomputable def den__law_shuted : Den := runB 11 b__law_shuted
abbrev s__law_scene : Stmt := top 38
def d__law_scene : He.DefD := ⟨("_law_scene", none), "_law_scene", "_law_scene", defArgs s__law_scene, defBody s__law_scene, defScope s__law_scene, [], []⟩
theorem sc__law_scene : FnScope ["_law_hand_here", "_law_most_wide", "_law_wide", "_law_folk", "_law_sat", "_law_turn"] ["_law_hand_here", "_law_most_wide"] (defScope s__law_scene) := ⟨rfl, rfl, rfl, by decide +kernel, rfl, by decide +kernel, by decide +kernel⟩
noncomputable def b__law_scene : MS := sq (sset 2 (bin addD (con (.int 1)) (callK den__law_draw [0, 1] [] (mal [var 0, var 1]) (mal []))))
  (sq (sasg (gtup [3, 4]) (callK den__law_cast [0, 1] [] (mal [var 0, var 2]) (mal [])))
  (sq (sif (tru (bin eqD (callK den__law_draw [0, 1] [] (mal [var 0, con (.int 2)]) (mal [])) (con (.int 0)))) (sset 3 (callK den__law_shuted [0, 1, 2, 3] [] (mal [var 0, var 2, var 3, var 4]) (mal []))) (skip))
  (sq (sset 5 (callK den__law_draw [0, 1] [] (mal [var 0, bin addD (bnd (margs [var 3]) (f1 lenD)) (con (.int 1))]) (mal [])))
  (sret (mtup [var 2, bin addD (slc (var 3) (.yes (var 5)) .no) (slc (var 3) .no (.yes (var 5))), var 4])))))
noncomputable def den__law_scene : Den := runB 6 b__law_scene
abbrev s_checked_bench : Stmt := top 19
def d_checked_bench : He.DefD := ⟨("checked_bench", none), "checked_bench", "checked_bench", defArgs s_checked_bench, defBody s_checked_bench, defScope s_checked_bench, [], []⟩
theorem sc_checked_bench : FnScope ["thing"] ["thing"] (defScope s_checked_bench) := ⟨rfl, rfl, rfl, by decide +kernel, rfl, by decide +kernel, by decide +kernel⟩
noncomputable def b_checked_bench : MS := sq (sif (notT (truth (bnd (margs [var 0, con (.glo "Bench")]) (f2 (isiD isC))))) ((fun _ => .bad)) (skip))
  (sret (var 0))
noncomputable def den_checked_bench : Den := runB 1 b_checked_bench
abbrev s_reach_of : Stmt := top 17
def d_reach_of : He.DefD := ⟨("reach_of", none), "reach_of", "reach_of", defArgs s_reach_of, defBody s_reach_of, defScope s_reach_of, [], []⟩
theorem sc_reach_of : FnScope ["people", "name", "low", "high"] ["people"] (defScope s_reach_of) := ⟨rfl, rfl, rfl, by decide +kernel, rfl, by decide +kernel, by decide +kernel⟩
noncomputable def b_reach_of : MS := sret (mdcomp [1, 2, 3] (mits (var 0)) (Tgt.asg (.tup [1, 2, 3])) (yes) (var 1) (mtup [var 2, var 3]))
noncomputable def den_reach_of : Den := runB 4 b_reach_of
abbrev s_is_seating : Stmt := top 28
def d_is_seating : He.DefD := ⟨("is_seating", none), "is_seating", "is_seating", defArgs s_is_seating, defBody s_is_seating, defScope s_is_seating, [], []⟩
theorem sc_is_seating : FnScope ["bench", "thing", "reach", "sitting", "seat", "name", "low", "high"] ["bench", "thing"] (defScope s_is_seating) := ⟨rfl, rfl, rfl, by decide +kernel, rfl, by decide +kernel, by decide +kernel⟩
noncomputable def b_is_seating : MS := sq (sexpr (callK den_checked_bench [0] [] (mal [var 0]) (mal [])))
  (sq (sif (orT (notT (truth (bnd (margs [var 1, con (.ty "tuple")]) (f2 (isiD isC))))) (tru (bin neD (bnd (margs [var 1]) (f1 lenD)) (bnd (var 0) (fldD "Bench" "seats"))))) (sret (con (.bl false))) (skip))
  (sq (spar [2, 3] [.v (callK den_reach_of [0] [] (mal [bnd (var 0) (fldD "Bench" "people")]) (mal [])), .f (nlst [])])
  (sq (sfor (menum (var 1)) (gtup [4, 5]) (sif (tru (bin notND (var 5) (con .non))) (sq (sif (orT (notT (truth (bnd (margs [var 5, con (.ty "str")]) (f2 (isiD isC))))) (tru (bin (inK true) (var 5) (var 2)))) (sret (con (.bl false))) (skip))
  (sq (sasg (gtup [6, 7]) (bin dgetD (var 2) (var 5)))
  (sq (sif (notT (tru (chain leD leD (var 6) (var 4) (var 7)))) (sret (con (.bl false))) (skip))
  (sexpr (mapp (var 3) (var 5)))))) (skip)))
  (sret (bin eqD (bnd (margs [var 3]) (f1 sortD)) (bnd (margs [var 2]) (f1 sortK)))))))
noncomputable def den_is_seating : Den := runB 8 b_is_seating
abbrev s_begun_at : Stmt := top 25
def d_begun_at : He.DefD := ⟨("begun_at", none), "begun_at", "begun_at", defArgs s_begun_at, defBody s_begun_at, defScope s_begun_at, [], []⟩
theorem sc_begun_at : FnScope ["reach", "sat", "high", "low"] ["reach", "sat", "high"] (defScope s_begun_at) := ⟨rfl, rfl, rfl, by decide +kernel, rfl, by decide +kernel, by decide +kernel⟩
noncomputable def b_begun_at : MS := sq (sset 3 (var 2))
  (sq (wloop (andT (tru (bin gtD (var 3) (con (.int 0)))) (andT (tru (bin notND (bin ixD (var 1) (bin subD (var 3) (con (.int 1)))) (con .non))) (tru (bin leD (bin ixD (bin dgetD (var 0) (bin ixD (var 1) (bin subD (var 3) (con (.int 1))))) (con (.int 1))) (var 2))))) (saug 3 (fun i j => i - j) (con (.int 1))) 64)
  (sret (var 3)))
noncomputable def den_begun_at : Den := runB 4 b_begun_at
abbrev s_seated : Stmt := top 26
def d_seated : He.DefD := ⟨("seated", none), "seated", "seated", defArgs s_seated, defBody s_seated, defScope s_seated, [], []⟩
theorem sc_seated : FnScope ["bench", "reach", "sat", "waiting", "spot", "fit", "call"] ["bench"] (defScope s_seated) := ⟨rfl, rfl, rfl, by decide +kernel, rfl, by decide +kernel, by decide +kernel⟩
noncomputable def b_seated : MS := sq (sexpr (callK den_checked_bench [0] [] (mal [var 0]) (mal [])))
  (sq (spar [1, 2] [.v (callK den_reach_of [0] [] (mal [bnd (var 0) (fldD "Bench" "people")]) (mal [])), .f (nlst [])])
  (sq (sset 3 (sortLam ("seated", none) 0 1))
  (sq (sfor (mrange1 [bnd (var 0) (fldD "Bench" "seats")]) (gset 4) (sq (sset 5 (mcomp [6] (mits (var 3)) (Tgt.asg (.name 6)) (tru (bin leD (bin ixD (bin dgetD (var 1) (var 6)) (con (.int 0))) (var 4))) (var 6)))
  (sq (sexpr (mapp (var 2) (ifD (truth (var 5)) (bin ixD (var 5) (con (.int 0))) (con .non))))
  (sq (sset 3 (mcomp [6] (mits (var 3)) (Tgt.asg (.name 6)) (tru (bin neD (var 6) (bin ixD (var 2) (var 4)))) (var 6)))
  (sif (truth (bnd (margs [mcomp [6] (mits (var 3)) (Tgt.asg (.name 6)) (yes) (bin leD (bin ixD (bin dgetD (var 1) (var 6)) (con (.int 1))) (var 4))]) (f1 anyD))) (sret (mtup [con (.str "crowded"), mtup [callK den_begun_at [0, 1, 2] [] (mal [var 1, var 2, var 4]) (mal []), var 4]])) (skip))))))
  (sret (mtup [con (.str "seating"), bnd (margs [var 2]) (f1 tupleD)])))))
noncomputable def den_seated : Den := runB 7 b_seated
abbrev s_is_whole : Stmt := top 11
def d_is_whole : He.DefD := ⟨("is_whole", none), "is_whole", "is_whole", defArgs s_is_whole, defBody s_is_whole, defScope s_is_whole, [], []⟩
theorem sc_is_whole : FnScope ["thing"] ["thing"] (defScope s_is_whole) := ⟨rfl, rfl, rfl, by decide +kernel, rfl, by decide +kernel, by decide +kernel⟩
noncomputable def b_is_whole : MS := sret (andD (bnd (margs [var 0, con (.ty "int")]) (f2 (isiD isC))) (notD (bnd (margs [var 0, con (.ty "bool")]) (f2 (isiD isC)))))
noncomputable def den_is_whole : Den := runB 1 b_is_whole
abbrev s_is_name : Stmt := top 12
def d_is_name : He.DefD := ⟨("is_name", none), "is_name", "is_name", defArgs s_is_name, defBody s_is_name, defScope s_is_name, [], []⟩
theorem sc_is_name : FnScope ["thing", "sign"] ["thing"] (defScope s_is_name) := ⟨rfl, rfl, rfl, by decide +kernel, rfl, by decide +kernel, by decide +kernel⟩
noncomputable def b_is_name : MS := sq (sif (orT (notT (truth (bnd (margs [var 0, con (.ty "str")]) (f2 (isiD isC))))) (notT (tru (chain leD leD (con (.int 1)) (bnd (margs [var 0]) (f1 lenD)) (con (.int 6)))))) (sret (con (.bl false))) (skip))
  (sret (bnd (margs [mcomp [1] (mits (var 0)) (Tgt.asg (.name 1)) (yes) (bin (inA false) (var 1) (con (.str "abcdefghijklmnopqrstuvwxyz")))]) (f1 allD)))
noncomputable def den_is_name : Den := runB 2 b_is_name
abbrev s_is_seat : Stmt := top 13
def d_is_seat : He.DefD := ⟨("is_seat", none), "is_seat", "is_seat", defArgs s_is_seat, defBody s_is_seat, defScope s_is_seat, [], []⟩
theorem sc_is_seat : FnScope ["thing", "seats"] ["thing", "seats"] (defScope s_is_seat) := ⟨rfl, rfl, rfl, by decide +kernel, rfl, by decide +kernel, by decide +kernel⟩
noncomputable def b_is_seat : MS := sret (andD (callK den_is_whole [0] [] (mal [var 0]) (mal [])) (chain leD ltD (con (.int 0)) (var 0) (var 1)))
noncomputable def den_is_seat : Den := runB 2 b_is_seat
abbrev s_is_stretch : Stmt := top 14
def d_is_stretch : He.DefD := ⟨("is_stretch", none), "is_stretch", "is_stretch", defArgs s_is_stretch, defBody s_is_stretch, defScope s_is_stretch, [], []⟩
theorem sc_is_stretch : FnScope ["thing", "seats", "low", "high"] ["thing", "seats"] (defScope s_is_stretch) := ⟨rfl, rfl, rfl, by decide +kernel, rfl, by decide +kernel, by decide +kernel⟩
noncomputable def b_is_stretch : MS := sq (sif (orT (notT (truth (bnd (margs [var 0, con (.ty "tuple")]) (f2 (isiD isC))))) (tru (bin neD (bnd (margs [var 0]) (f1 lenD)) (con (.int 2))))) (sret (con (.bl false))) (skip))
  (sq (sasg (gtup [2, 3]) (var 0))
  (sret (andD (callK den_is_seat [0, 1] [] (mal [var 2, var 1]) (mal [])) (andD (callK den_is_seat [0, 1] [] (mal [var 3, var 1]) (mal [])) (bin leD (var 2) (var 3))))))
noncomputable def den_is_stretch : Den := runB 4 b_is_stretch
abbrev s_is_person : Stmt := top 15
def d_is_person : He.DefD := ⟨("is_person", none), "is_person", "is_person", defArgs s_is_person, defBody s_is_person, defScope s_is_person, [], []⟩
theorem sc_is_person : FnScope ["thing", "seats", "name", "ends"] ["thing", "seats"] (defScope s_is_person) := ⟨rfl, rfl, rfl, by decide +kernel, rfl, by decide +kernel, by decide +kernel⟩
noncomputable def b_is_person : MS := sq (sif (orT (notT (truth (bnd (margs [var 0, con (.ty "tuple")]) (f2 (isiD isC))))) (tru (bin neD (bnd (margs [var 0]) (f1 lenD)) (con (.int 3))))) (sret (con (.bl false))) (skip))
  (sq (sasg (gstar 1 [2, 3]) (var 0))
  (sret (andD (callK den_is_name [0] [] (mal [var 2]) (mal [])) (callK den_is_stretch [0, 1] [] (mal [bnd (margs [var 3]) (f1 tupleD), var 1]) (mal [])))))
noncomputable def den_is_person : Den := runB 4 b_is_person
abbrev s_first_odd : Stmt := top 16
def d_first_odd : He.DefD := ⟨("first_odd", none), "first_odd", "first_odd", defArgs s_first_odd, defBody s_first_odd, defScope s_first_odd, [], []⟩
theorem sc_first_odd : FnScope ["people", "seats", "known", "number", "thing"] ["people", "seats"] (defScope s_first_odd) := ⟨rfl, rfl, rfl, by decide +kernel, rfl, by decide +kernel, by decide +kernel⟩
noncomputable def b_first_odd : MS := sq (ssetO 2 (nset))
  (sq (sfor (menum (var 0)) (gtup [3, 4]) (sq (sif (orT (notT (truth (callK den_is_person [0, 1] [] (mal [var 4, var 1]) (mal [])))) (tru (bin (inA false) (bin ixD (var 4) (con (.int 0))) (var 2)))) (sret (var 3)) (skip))
  (sexpr (msadd (var 2) (bin ixD (var 4) (con (.int 0)))))))
  (sret (con .non)))
noncomputable def den_first_odd : Den := runB 5 b_first_odd
abbrev s_Bench_init : Stmt := (clsB (top 18)).getD 0 (.Pass ⟨0, 0, 0, 0⟩)
def d_Bench_init : He.DefD := ⟨("Bench", some "__init__"), "__init__", "Bench.__init__", defArgs s_Bench_init, defBody s_Bench_init, defScope s_Bench_init, [.adr (He.dflAt ("Bench", some "__init__") 0)], []⟩
theorem sc_Bench_init : FnScope ["self", "seats", "people", "place"] ["self", "seats", "people"] (defScope s_Bench_init) := ⟨rfl, rfl, rfl, by decide +kernel, rfl, by decide +kernel, by decide +kernel⟩
noncomputable def b_Bench_init : MS := sq (sif (orT (notT (truth (callK den_is_whole [0] [] (mal [var 1]) (mal [])))) (notT (tru (chain leD leD (con (.int 1)) (var 1) (con (.int 12)))))) ((fun _ => .bad)) (skip))
  (sq (sif (orT (notT (truth (bnd (margs [var 2, con (.ty "tuple")]) (f2 (isiD isC))))) (tru (bin gtD (bnd (margs [var 2]) (f1 lenD)) (var 1)))) ((fun _ => .bad)) (skip))
  (sq (sset 3 (callK den_first_odd [0, 1] [] (mal [var 2, var 1]) (mal [])))
  (sq (sif (tru (bin notND (var 3) (con .non))) ((fun _ => .bad)) (skip))
  (sq (sfld "Bench" "seats" (var 0) (var 1))
  (sfld "Bench" "people" (var 0) (var 2))))))
noncomputable def den_Bench_init : DenI := blindOf (runI "Bench" 4 b_Bench_init)
theorem blind_Bench_init : Blind den_Bench_init := blind_of
abbrev s_Bench_mirrored : Stmt := (clsB (top 18)).getD 11 (.Pass ⟨0, 0, 0, 0⟩)
def d_Bench_mirrored : He.DefD := ⟨("Bench", some "mirrored"), "mirrored", "Bench.mirrored", defArgs s_Bench_mirrored, defBody s_Bench_mirrored, defScope s_Bench_mirrored, [], []⟩
theorem sc_Bench_mirrored : FnScope ["self", "end", "name", "low", "high"] ["self"] (defScope s_Bench_mirrored) := ⟨rfl, rfl, rfl, by decide +kernel, rfl, by decide +kernel, by decide +kernel⟩
noncomputable def b_Bench_mirrored : MS := sq (sset 1 (bin subD (bnd (var 0) (fldD "Bench" "seats")) (con (.int 1))))
  (sret (mkK "Bench" den_Bench_init [0, 1] [] (mal [bnd (var 0) (fldD "Bench" "seats"), bnd (margs [mcomp [2, 3, 4] (mits (bnd (var 0) (fldD "Bench" "people"))) (Tgt.asg (.tup [2, 3, 4])) (yes) (mtup [var 2, bin subD (var 1) (var 4), bin subD (var 1) (var 3)])]) (f1 tupleD)]) (mal [])))
noncomputable def den_Bench_mirrored : Den := runB 5 b_Bench_mirrored
abbrev s_Bench_eased : Stmt := (clsB (top 18)).getD 12 (.Pass ⟨0, 0, 0, 0⟩)
def d_Bench_eased : He.DefD := ⟨("Bench", some "eased"), "eased", "Bench.eased", defArgs s_Bench_eased, defBody s_Bench_eased, defScope s_Bench_eased, [.int 1], []⟩
theorem sc_Bench_eased : FnScope ["self", "more", "end", "people", "name", "low", "high"] ["self", "more"] (defScope s_Bench_eased) := ⟨rfl, rfl, rfl, by decide +kernel, rfl, by decide +kernel, by decide +kernel⟩
noncomputable def b_Bench_eased : MS := sq (sif (orT (notT (truth (callK den_is_whole [0] [] (mal [var 1]) (mal [])))) (notT (tru (chain leD leD (con (.int 0)) (var 1) (con (.int 12)))))) ((fun _ => .bad)) (skip))
  (sq (sset 2 (bin subD (bnd (var 0) (fldD "Bench" "seats")) (con (.int 1))))
  (sq (sset 3 (mcomp [4, 5, 6] (mits (bnd (var 0) (fldD "Bench" "people"))) (Tgt.asg (.tup [4, 5, 6])) (yes) (mtup [var 4, bnd (margs [con (.int 0), bin subD (var 5) (var 1)]) (f2 maxD), bnd (margs [var 2, bin addD (var 6) (var 1)]) (f2 minD)])))
  (sret (mkK "Bench" den_Bench_init [0, 1] [] (mal [bnd (var 0) (fldD "Bench" "seats"), bnd (margs [var 3]) (f1 tupleD)]) (mal [])))))
noncomputable def den_Bench_eased : Den := runB 7 b_Bench_eased
abbrev s_checked : Stmt := top 29
def d_checked : He.DefD := ⟨("checked", none), "checked", "checked", defArgs s_checked, defBody s_checked, defScope s_checked, [], []⟩
theorem sc_checked : FnScope ["bench", "seating"] ["bench", "seating"] (defScope s_checked) := ⟨rfl, rfl, rfl, by decide +kernel, rfl, by decide +kernel, by decide +kernel⟩
noncomputable def b_checked : MS := sq (sif (notT (truth (callK den_is_seating [0, 1] [] (mal [var 0, var 1]) (mal [])))) ((fun _ => .bad)) (skip))
  (sret (var 1))
noncomputable def den_checked : Den := runB 2 b_checked
abbrev s_about : Stmt := top 30
def d_about : He.DefD := ⟨("about", none), "about", "about", defArgs s_about, defBody s_about, defScope s_about, [], []⟩
theorem sc_about : FnScope ["bench", "seating"] ["bench", "seating"] (defScope s_about) := ⟨rfl, rfl, rfl, by decide +kernel, rfl, by decide +kernel, by decide +kernel⟩
noncomputable def b_about : MS := sret (bnd (callK den_checked [0, 1] [] (mal [var 0, var 1]) (mal [])) revD)
noncomputable def den_about : Den := runB 2 b_about
abbrev s_Bench_names : Stmt := (clsB (top 18)).getD 5 (.Pass ⟨0, 0, 0, 0⟩)
def d_Bench_names : He.DefD := ⟨("Bench", some "names"), "names", "Bench.names", defArgs s_Bench_names, defBody s_Bench_names, defScope s_Bench_names, [], []⟩
theorem sc_Bench_names : FnScope ["self", "person"] ["self"] (defScope s_Bench_names) := ⟨rfl, rfl, rfl, by decide +kernel, rfl, by decide +kernel, by decide +kernel⟩
noncomputable def b_Bench_names : MS := sret (bnd (margs [bnd (margs [mcomp [1] (mits (bnd (var 0) (fldD "Bench" "people"))) (Tgt.asg (.name 1)) (yes) (bin ixD (var 1) (con (.int 0)))]) (f1 sortD)]) (f1 tupleD))
noncomputable def den_Bench_names : Den := runB 2 b_Bench_names
abbrev s_Bench_turn_of : Stmt := (clsB (top 18)).getD 6 (.Pass ⟨0, 0, 0, 0⟩)
def d_Bench_turn_of : He.DefD := ⟨("Bench", some "turn_of"), "turn_of", "Bench.turn_of", defArgs s_Bench_turn_of, defBody s_Bench_turn_of, defScope s_Bench_turn_of, [], []⟩
theorem sc_Bench_turn_of : FnScope ["self", "name", "number", "person"] ["self", "name"] (defScope s_Bench_turn_of) := ⟨rfl, rfl, rfl, by decide +kernel, rfl, by decide +kernel, by decide +kernel⟩
noncomputable def b_Bench_turn_of : MS := sq (sfor (menum (bnd (var 0) (fldD "Bench" "people"))) (gtup [2, 3]) (sif (andT (truth (bnd (margs [var 1, con (.ty "str")]) (f2 (isiD isC)))) (tru (bin eqD (bin ixD (var 3) (con (.int 0))) (var 1)))) (sret (var 2)) (skip)))
  ((fun _ => .bad))
noncomputable def den_Bench_turn_of : Den := runB 4 b_Bench_turn_of
abbrev s_Bench_without : Stmt := (clsB (top 18)).getD 9 (.Pass ⟨0, 0, 0, 0⟩)
def d_Bench_without : He.DefD := ⟨("Bench", some "without"), "without", "Bench.without", defArgs s_Bench_without, defBody s_Bench_without, defScope s_Bench_without, [], []⟩
theorem sc_Bench_without : FnScope ["self", "name", "turn"] ["self", "name"] (defScope s_Bench_without) := ⟨rfl, rfl, rfl, by decide +kernel, rfl, by decide +kernel, by decide +kernel⟩
noncomputable def b_Bench_without : MS := sq (sset 2 (methK "Bench" "turn_of" den_Bench_turn_of [0] [] (var 0) (mal [var 1]) (mal [])))
  (sret (mkK "Bench" den_Bench_init [0, 1] [] (mal [bnd (var 0) (fldD "Bench" "seats"), bin addD (slc (bnd (var 0) (fldD "Bench" "people")) .no (.yes (var 2))) (slc (bnd (var 0) (fldD "Bench" "people")) (.yes (bin addD (var 2) (con (.int 1)))) .no)]) (mal [])))
noncomputable def den_Bench_without : Den := runB 3 b_Bench_without
abbrev s_Bench_len : Stmt := (clsB (top 18)).getD 2 (.Pass ⟨0, 0, 0, 0⟩)
def d_Bench_len : He.DefD := ⟨("Bench", some "__len__"), "__len__", "Bench.__len__", defArgs s_Bench_len, defBody s_Bench_len, defScope s_Bench_len, [], []⟩
theorem sc_Bench_len : FnScope ["self"] ["self"] (defScope s_Bench_len) := ⟨rfl, rfl, rfl, by decide +kernel, rfl, by decide +kernel, by decide +kernel⟩
noncomputable def b_Bench_len : MS := sret (bnd (margs [bnd (var 0) (fldD "Bench" "people")]) (f1 lenD))
noncomputable def den_Bench_len : Den := runB 1 b_Bench_len
abbrev s_Bench_plus : Stmt := (clsB (top 18)).getD 8 (.Pass ⟨0, 0, 0, 0⟩)
def d_Bench_plus : He.DefD := ⟨("Bench", some "plus"), "plus", "Bench.plus", defArgs s_Bench_plus, defBody s_Bench_plus, defScope s_Bench_plus, [], []⟩
theorem sc_Bench_plus : FnScope ["self", "person"] ["self", "person"] (defScope s_Bench_plus) := ⟨rfl, rfl, rfl, by decide +kernel, rfl, by decide +kernel, by decide +kernel⟩
noncomputable def b_Bench_plus : MS := sret (mkK "Bench" den_Bench_init [0, 1] [] (mal [bnd (var 0) (fldD "Bench" "seats"), bin addD (bnd (var 0) (fldD "Bench" "people")) (mtup [var 1])]) (mal []))
noncomputable def den_Bench_plus : Den := runB 2 b_Bench_plus
abbrev s__law_fresh : Stmt := top 40
def d__law_fresh : He.DefD := ⟨("_law_fresh", none), "_law_fresh", "_law_fresh", defArgs s__law_fresh, defBody s__law_fresh, defScope s__law_fresh, [], []⟩
theorem sc__law_fresh : FnScope ["_law_plank", "_law_some", "_law_call", "_law_k"] ["_law_plank"] (defScope s__law_fresh) := ⟨rfl, rfl, rfl, by decide +kernel, rfl, by decide +kernel, by decide +kernel⟩
noncomputable def b__law_fresh : MS := sq (sset 1 (bin addD (bin addD (mcomp [3] (mrange2 [con (.int 1), con (.int 7)]) (Tgt.asg (.name 3)) (yes) (bin mulA (con (.str "q")) (var 3))) (mcomp [3] (mrange2 [con (.int 1), con (.int 7)]) (Tgt.asg (.name 3)) (yes) (bin mulA (con (.str "j")) (var 3)))) (mlst [con (.str "x")])))
  (sret (bin ixD (mcomp [2] (mits (var 1)) (Tgt.asg (.name 2)) (tru (bin (inA true) (var 2) (methK "Bench" "names" den_Bench_names [] [] (var 0) (mal []) (mal [])))) (var 2)) (con (.int 0))))
noncomputable def den__law_fresh : Den := runB 4 b__law_fresh
abbrev s_windows_of : Stmt := top 23
def d_windows_of : He.DefD := ⟨("windows_of", none), "windows_of", "windows_of", defArgs s_windows_of, defBody s_windows_of, defScope s_windows_of, [], []⟩
theorem sc_windows_of : FnScope ["seats", "found", "low", "high"] ["seats"] (defScope s_windows_of) := ⟨rfl, rfl, rfl, by decide +kernel, rfl, by decide +kernel, by decide +kernel⟩
noncomputable def b_windows_of : MS := sq (sset 1 (mcomp2 [2, 3] [3] (mrange1 [var 0]) (Tgt.asg (.name 2)) (yes) (mrange2 [var 2, var 0]) (Tgt.asg (.name 3)) (yes) (mtup [var 2, var 3])))
  (sret (mcomp [2, 3] (mits (var 1)) (Tgt.asg (.tup [2, 3])) (tru (bin ltD (bin addD (bin subD (var 3) (var 2)) (con (.int 1))) (var 0))) (mtup [var 2, var 3])))
noncomputable def den_windows_of : Den := runB 4 b_windows_of
abbrev s_holding : Stmt := top 21
def d_holding : He.DefD := ⟨("holding", none), "holding", "holding", defArgs s_holding, defBody s_holding, defScope s_holding, [], []⟩
theorem sc_holding : FnScope ["people", "low", "high", "call", "begin", "end"] ["people", "low", "high"] (defScope s_holding) := ⟨rfl, rfl, rfl, by decide +kernel, rfl, by decide +kernel, by decide +kernel⟩
noncomputable def b_holding : MS := sret (mcomp [3, 4, 5] (mits (var 0)) (Tgt.asg (.tup [3, 4, 5])) (andT (tru (bin leD (var 1) (var 4))) (tru (bin leD (var 5) (var 2)))) (var 3))
noncomputable def den_holding : Den := runB 6 b_holding
abbrev s_full : Stmt := top 24
def d_full : He.DefD := ⟨("full", none), "full", "full", defArgs s_full, defBody s_full, defScope s_full, [], []⟩
theorem sc_full : FnScope ["bench", "found", "low", "high"] ["bench"] (defScope s_full) := ⟨rfl, rfl, rfl, by decide +kernel, rfl, by decide +kernel, by decide +kernel⟩
noncomputable def b_full : MS := sq (sexpr (callK den_checked_bench [0] [] (mal [var 0]) (mal [])))
  (sq (sset 1 (callK den_windows_of [0] [] (mal [bnd (var 0) (fldD "Bench" "seats")]) (mal [])))
  (sret (bnd (margs [mcomp [2, 3] (mits (var 1)) (Tgt.asg (.tup [2, 3])) (tru (bin eqD (bnd (margs [callK den_holding [0, 1, 2] [] (mal [bnd (var 0) (fldD "Bench" "people"), var 2, var 3]) (mal [])]) (f1 lenD)) (bin addD (bin subD (var 3) (var 2)) (con (.int 1))))) (mtup [var 2, var 3])]) (f1 tupleD))))
noncomputable def den_full : Den := runB 4 b_full
abbrev s_held : Stmt := top 22
def d_held : He.DefD := ⟨("held", none), "held", "held", defArgs s_held, defBody s_held, defScope s_held, [], []⟩
theorem sc_held : FnScope ["bench", "window", "low", "high"] ["bench", "window"] (defScope s_held) := ⟨rfl, rfl, rfl, by decide +kernel, rfl, by decide +kernel, by decide +kernel⟩
noncomputable def b_held : MS := sq (sexpr (callK den_checked_bench [0] [] (mal [var 0]) (mal [])))
  (sq (sif (notT (truth (callK den_is_stretch [0, 1] [] (mal [var 1, bnd (var 0) (fldD "Bench" "seats")]) (mal [])))) ((fun _ => .bad)) (skip))
  (sq (sasg (gtup [2, 3]) (var 1))
  (sret (bnd (margs [bnd (margs [callK den_holding [0, 1, 2] [] (mal [bnd (var 0) (fldD "Bench" "people"), var 2, var 3]) (mal [])]) (f1 sortD)]) (f1 tupleD)))))
noncomputable def den_held : Den := runB 4 b_held
abbrev s__law_joined : Stmt := top 41
def d__law_joined : He.DefD := ⟨("_law_joined", none), "_law_joined", "_law_joined", defArgs s__law_joined, defBody s__law_joined, defScope s__law_joined, [], []⟩
theorem sc__law_joined : FnScope ["_law_known", "_law_gap", "_law_mate", "_law_low", "_law_high"] ["_law_known", "_law_gap", "_law_mate"] (defScope s__law_joined) := ⟨rfl, rfl, rfl, by decide +kernel, rfl, by decide +kernel, by decide +kernel⟩
noncomputable def b__law_joined : MS := sq (spar [3, 4] [.v (bnd (margs [bin ixD (var 1) (con (.int 0)), bin ixD (var 2) (con (.int 0))]) (f2 maxD)), .v (bnd (margs [bin ixD (var 1) (con (.int 1)), bin ixD (var 2) (con (.int 1))]) (f2 minD))])
  (sq (sif (tru (bin gtD (var 3) (var 4))) (sret (con (.bl true))) (skip))
  (sret (andD (bin (inN false) (mtup [var 3, var 4]) (var 0)) (bin (inN false) (mtup [bnd (margs [bin ixD (var 1) (con (.int 0)), bin ixD (var 2) (con (.int 0))]) (f2 minD), bnd (margs [bin ixD (var 1) (con (.int 1)), bin ixD (var 2) (con (.int 1))]) (f2 maxD)]) (var 0)))))
noncomputable def den__law_joined : Den := runB 5 b__law_joined
abbrev s__law_seated_right : Stmt := top 42
def d__law_seated_right : He.DefD := ⟨("_law_seated_right", none), "_law_seated_right", "_law_seated_right", defArgs s__law_seated_right, defBody s__law_seated_right, defScope s__law_seated_right, [], []⟩
theorem sc__law_seated_right : FnScope ["_law_hand_here", "_law_plank", "_law_sat", "_law_wide", "_law_gaps", "_law_known", "_law_gap", "_law_call", "_law_mate"] ["_law_hand_here", "_law_plank", "_law_sat"] (defScope s__law_seated_right) := ⟨rfl, rfl, rfl, by decide +kernel, rfl, by decide +kernel, by decide +kernel⟩
noncomputable def b__law_seated_right : MS := sq (sset 3 (bnd (var 1) (fldD "Bench" "seats")))
  (sq (sif (orT (notT (truth (callK den_is_seating [0, 1] [] (mal [var 1, var 2]) (mal [])))) (tru (bin neD (bin ixD (callK den_seated [0] [] (mal [methK "Bench" "mirrored" den_Bench_mirrored [] [] (var 1) (mal []) (mal [])]) (mal [])) (con (.int 0))) (con (.str "seating"))))) (sret (con (.bl false))) (skip))
  (sq (sif (orT (notT (truth (callK den_is_seating [0, 1] [] (mal [methK "Bench" "eased" den_Bench_eased [0] [] (var 1) (mal [callK den__law_draw [0, 1] [] (mal [var 0, con (.int 13)]) (mal [])]) (mal []), var 2]) (mal [])))) (notT (truth (callK den_is_seating [0, 1] [] (mal [methK "Bench" "mirrored" den_Bench_mirrored [] [] (var 1) (mal []) (mal []), callK den_about [0, 1] [] (mal [var 1, var 2]) (mal [])]) (mal []))))) (sret (con (.bl false))) (skip))
  (sq (sif (tru (bin neD (bin ixD (callK den_seated [0] [] (mal [methK "Bench" "eased" den_Bench_eased [0] [] (var 1) (mal [callK den__law_draw [0, 1] [] (mal [var 0, con (.int 13)]) (mal [])]) (mal [])]) (mal [])) (con (.int 0))) (con (.str "seating")))) (sret (con (.bl false))) (skip))
  (sq (sif (notT (truth (bnd (margs [mcomp [7] (mits (methK "Bench" "names" den_Bench_names [] [] (var 1) (mal []) (mal []))) (Tgt.asg (.name 7)) (yes) (bin eqD (bin ixD (callK den_seated [0] [] (mal [methK "Bench" "without" den_Bench_without [0] [] (var 1) (mal [var 7]) (mal [])]) (mal [])) (con (.int 0))) (con (.str "seating")))]) (f1 allD)))) (sret (con (.bl false))) (skip))
  (sq (sif (andT (tru (bin ltD (bnd (margs [var 1]) (f1 (lenO "Bench" den_Bench_len))) (var 3))) (tru (bin neD (bin ixD (callK den_seated [0] [] (mal [methK "Bench" "plus" den_Bench_plus [0] [] (var 1) (mal [mtup [callK den__law_fresh [0] [] (mal [var 1]) (mal []), con (.int 0), bin subD (var 3) (con (.int 1))]]) (mal [])]) (mal [])) (con (.int 0))) (con (.str "seating"))))) (sret (con (.bl false))) (skip))
  (sq (sset 4 (callK den_full [0] [] (mal [var 1]) (mal [])))
  (sq (sset 5 (bnd (margs [kept [6] (mcomp [6] (mits (bin addD (var 4) (mtup [mtup [con (.int 0), bin subD (var 3) (con (.int 1))]]))) (Tgt.asg (.name 6)) (yes) (mtup [var 6, con (.bl true)]))]) (f1 dictN)))
  (sq (sfor (mits (var 4)) (gset 6) (sq (sif (tru (bin neD (bnd (margs [bnd (margs [mcomp [7] (mits (slc (var 2) (.yes (bin ixD (var 6) (con (.int 0)))) (.yes (bin addD (bin ixD (var 6) (con (.int 1))) (con (.int 1)))))) (Tgt.asg (.name 7)) (yes) (orV (var 7) (con (.str "")))]) (f1 sortD)]) (f1 tupleD)) (callK den_held [0, 1] [] (mal [var 1, var 6]) (mal [])))) (sret (con (.bl false))) (skip))
  (sif (notT (truth (bnd (margs [mcomp [8] (mits (bin stpD (var 4) (callK den__law_draw [0, 1] [] (mal [var 0, con (.int 5)]) (mal [])))) (Tgt.asg (.name 8)) (yes) (callK den__law_joined [0, 1, 2] [] (mal [var 5, var 6, var 8]) (mal []))]) (f1 allD)))) (sret (con (.bl false))) (skip))))
  (sret (con (.bl true)))))))))))
noncomputable def den__law_seated_right : Den := runB 9 b__law_seated_right
abbrev s_Bench_stretch : Stmt := (clsB (top 18)).getD 7 (.Pass ⟨0, 0, 0, 0⟩)
def d_Bench_stretch : He.DefD := ⟨("Bench", some "stretch"), "stretch", "Bench.stretch", defArgs s_Bench_stretch, defBody s_Bench_stretch, defScope s_Bench_stretch, [], []⟩
theorem sc_Bench_stretch : FnScope ["self", "name"] ["self", "name"] (defScope s_Bench_stretch) := ⟨rfl, rfl, rfl, by decide +kernel, rfl, by decide +kernel, by decide +kernel⟩
noncomputable def b_Bench_stretch : MS := sret (slc (bin ixD (bnd (var 0) (fldD "Bench" "people")) (methK "Bench" "turn_of" den_Bench_turn_of [0] [] (var 0) (mal [var 1]) (mal []))) (.yes (con (.int 1))) .no)
noncomputable def den_Bench_stretch : Den := runB 2 b_Bench_stretch
abbrev s_Bench_led : Stmt := (clsB (top 18)).getD 10 (.Pass ⟨0, 0, 0, 0⟩)
def d_Bench_led : He.DefD := ⟨("Bench", some "led"), "led", "Bench.led", defArgs s_Bench_led, defBody s_Bench_led, defScope s_Bench_led, [], []⟩
theorem sc_Bench_led : FnScope ["self", "name", "first", "last", "turn"] ["self", "name", "first", "last"] (defScope s_Bench_led) := ⟨rfl, rfl, rfl, by decide +kernel, rfl, by decide +kernel, by decide +kernel⟩
noncomputable def b_Bench_led : MS := sq (sset 4 (methK "Bench" "turn_of" den_Bench_turn_of [0] [] (var 0) (mal [var 1]) (mal [])))
  (sret (mkK "Bench" den_Bench_init [0, 1] [] (mal [bnd (var 0) (fldD "Bench" "seats"), bin addD (bin addD (slc (bnd (var 0) (fldD "Bench" "people")) .no (.yes (var 4))) (mtup [mtup [var 1, var 2, var 3]])) (slc (bnd (var 0) (fldD "Bench" "people")) (.yes (bin addD (var 4) (con (.int 1)))) .no)]) (mal [])))
noncomputable def den_Bench_led : Den := runB 5 b_Bench_led
abbrev s__law_crowded_right : Stmt := top 43
def d__law_crowded_right : He.DefD := ⟨("_law_crowded_right", none), "_law_crowded_right", "_law_crowded_right", defArgs s__law_crowded_right, defBody s__law_crowded_right, defScope s__law_crowded_right, [], []⟩
theorem sc__law_crowded_right : FnScope ["_law_hand_here", "_law_plank", "_law_gap", "_law_wide", "_law_inside", "_law_low", "_law_wider", "_law_call", "_law_begin", "_law_end", "_law_pal"] ["_law_hand_here", "_law_plank", "_law_gap"] (defScope s__law_crowded_right) := ⟨rfl, rfl, rfl, by decide +kernel, rfl, by decide +kernel, by decide +kernel⟩
noncomputable def b__law_crowded_right : MS := sq (spar [3, 4] [.v (bnd (var 1) (fldD "Bench" "seats")), .v (callK den_held [0, 1] [] (mal [var 1, var 2]) (mal []))])
  (sq (sif (orT (tru (bin neD (bin ixD (callK den_seated [0] [] (mal [methK "Bench" "mirrored" den_Bench_mirrored [] [] (var 1) (mal []) (mal [])]) (mal [])) (con (.int 0))) (con (.str "crowded")))) (tru (bin leD (bnd (margs [var 4]) (f1 lenD)) (bin addD (bin subD (bin ixD (var 2) (con (.int 1))) (bin ixD (var 2) (con (.int 0)))) (con (.int 1)))))) (sret (con (.bl false))) (skip))
  (sq (sset 5 (callK den__law_draw [0, 1] [] (mal [var 0, var 3]) (mal [])))
  (sq (sif (tru (bin ltD (bnd (margs [var 1]) (f1 (lenO "Bench" den_Bench_len))) (var 3))) (sq (sset 6 (methK "Bench" "plus" den_Bench_plus [0] [] (var 1) (mal [mtup [callK den__law_fresh [0] [] (mal [var 1]) (mal []), var 5, bin addD (var 5) (callK den__law_draw [0, 1] [] (mal [var 0, bin subD (var 3) (var 5)]) (mal []))]]) (mal [])))
  (sif (orT (tru (bin neD (bin ixD (callK den_seated [0] [] (mal [var 6]) (mal [])) (con (.int 0))) (con (.str "crowded")))) (tru (bin ltD (bnd (margs [callK den_held [0, 1] [] (mal [var 6, var 2]) (mal [])]) (f1 lenD)) (bnd (margs [var 4]) (f1 lenD))))) (sret (con (.bl false))) (skip))) (skip))
  (sq (sset 7 (bin ixD (var 4) (callK den__law_draw [0, 1] [] (mal [var 0, bnd (margs [var 4]) (f1 lenD)]) (mal []))))
  (sq (sasg (gtup [8, 9]) (methK "Bench" "stretch" den_Bench_stretch [0] [] (var 1) (mal [var 7]) (mal [])))
  (sq (sif (tru (bin neD (bin ixD (callK den_seated [0] [] (mal [methK "Bench" "led" den_Bench_led [0, 1, 2] [] (var 1) (mal [var 7, var 8, bin addD (var 8) (callK den__law_draw [0, 1] [] (mal [var 0, bin addD (bin subD (var 9) (var 8)) (con (.int 1))]) (mal []))]) (mal [])]) (mal [])) (con (.int 0))) (con (.str "crowded")))) (sret (con (.bl false))) (skip))
  (sret (bin eqD (callK den_held [0, 1] [] (mal [methK "Bench" "without" den_Bench_without [0] [] (var 1) (mal [var 7]) (mal []), var 2]) (mal [])) (bnd (margs [mcomp [10] (mits (var 4)) (Tgt.asg (.name 10)) (tru (bin neD (var 10) (var 7))) (var 10)]) (f1 tupleD))))))))))
noncomputable def den__law_crowded_right : Den := runB 11 b__law_crowded_right
abbrev s__law_right : Stmt := top 44
def d__law_right : He.DefD := ⟨("_law_right", none), "_law_right", "_law_right", defArgs s__law_right, defBody s__law_right, defScope s__law_right, [], []⟩
theorem sc__law_right : FnScope ["_law_hand_here", "_law_plank", "_law_word", "_law_found"] ["_law_hand_here", "_law_plank"] (defScope s__law_right) := ⟨rfl, rfl, rfl, by decide +kernel, rfl, by decide +kernel, by decide +kernel⟩
noncomputable def b__law_right : MS := sq (sasg (gtup [2, 3]) (callK den_seated [0] [] (mal [var 1]) (mal [])))
  (sq (sif (tru (bin eqD (var 2) (con (.str "seating")))) (sret (callK den__law_seated_right [0, 1, 2] [] (mal [var 0, var 1, var 3]) (mal []))) (skip))
  (sret (andD (bin eqD (var 2) (con (.str "crowded"))) (callK den__law_crowded_right [0, 1, 2] [] (mal [var 0, var 1, var 3]) (mal [])))))
noncomputable def den__law_right : Den := runB 4 b__law_right
abbrev s__law_any_folk : Stmt := top 39
def d__law_any_folk : He.DefD := ⟨("_law_any_folk", none), "_law_any_folk", "_law_any_folk", defArgs s__law_any_folk, defBody s__law_any_folk, defScope s__law_any_folk, [], []⟩
theorem sc__law_any_folk : FnScope ["_law_hand_here", "_law_wide", "_law_found", "_law_grown", "_law_call", "_law_low", "_law_high"] ["_law_hand_here", "_law_wide"] (defScope s__law_any_folk) := ⟨rfl, rfl, rfl, by decide +kernel, rfl, by decide +kernel, by decide +kernel⟩
noncomputable def b__law_any_folk : MS := sq (spar [2, 3] [.f (nlst []), .v (callK den__law_draw [0, 1] [] (mal [var 0, con (.int 2)]) (mal []))])
  (sq (sfor (mits (callK den__law_calls [0, 1] [] (mal [var 0, bnd (margs [callK den__law_draw [0, 1] [] (mal [var 0, bin addD (var 1) (con (.int 1))]) (mal []), callK den__law_draw [0, 1] [] (mal [var 0, bin addD (var 1) (con (.int 1))]) (mal [])]) (f2 maxD)]) (mal []))) (gset 4) (sq (sset 5 (callK den__law_draw [0, 1] [] (mal [var 0, var 1]) (mal [])))
  (sq (sset 6 (bin addD (var 5) (callK den__law_draw [0, 1] [] (mal [var 0, bin subD (var 1) (var 5)]) (mal []))))
  (sexpr (mapp (var 2) (mtup [var 4, bnd (margs [con (.int 0), bin subD (var 5) (bin mulD (var 3) (callK den__law_draw [0, 1] [] (mal [var 0, con (.int 3)]) (mal [])))]) (f2 maxD), bnd (margs [bin subD (var 1) (con (.int 1)), bin addD (var 6) (var 3)]) (f2 minD)]))))))
  (sret (bnd (margs [var 2]) (f1 tupleD))))
noncomputable def den__law_any_folk : Den := runB 7 b__law_any_folk
abbrev s_law : Stmt := top 45
def d_law : He.DefD := ⟨("law", none), "law", "law", defArgs s_law, defBody s_law, defScope s_law, [], []⟩
theorem sc_law : FnScope ["_law_script", "_law_k", "_law_hand_here", "_law_wide", "_law_folk", "_law_sat", "_law_turn"] ["_law_script"] (defScope s_law) := ⟨rfl, rfl, rfl, by decide +kernel, rfl, by decide +kernel, by decide +kernel⟩
noncomputable def b_law : MS := sq (sfor (mrange1 [bnd (margs [con (.int 2), bnd (margs [bnd (margs [var 0]) (f1 lenD), con (.int 6)]) (f2 minD)]) (f2 maxD)]) (gset 1) (sq (sset 2 (callK den__law_hand [0] [] (mal [callK den__law_cell [0, 1] [] (mal [var 0, var 1]) (mal [])]) (mal [])))
  (sq (sasg (gtup [3, 4, 5]) (callK den__law_scene [0, 1] [] (mal [var 2, con (.int 12)]) (mal [])))
  (sq (sif (orT (notT (truth (callK den__law_seated_right [0, 1, 2] [] (mal [var 2, mkK "Bench" den_Bench_init [0, 1] [] (mal [var 3, var 4]) (mal []), var 5]) (mal [])))) (notT (truth (callK den__law_right [0, 1] [] (mal [var 2, mkK "Bench" den_Bench_init [0, 1] [] (mal [var 3, var 4]) (mal [])]) (mal []))))) (sret (con (.bl false))) (skip))
  (sfor (mrange1 [con (.int 3)]) (gset 6) (sq (sset 3 (bin addD (con (.int 1)) (callK den__law_draw [0, 1] [] (mal [var 2, con (.int 12)]) (mal []))))
  (sif (notT (truth (callK den__law_right [0, 1] [] (mal [var 2, mkK "Bench" den_Bench_init [0, 1] [] (mal [var 3, callK den__law_any_folk [0, 1] [] (mal [var 2, var 3]) (mal [])]) (mal [])]) (mal [])))) (sret (con (.bl false))) (skip))))))))
  (sret (con (.bl true)))
noncomputable def den_law : Den := runB 7 b_law
def fn : List He.DefD := [d__law_hand, d__law_cell, d__law_draw, d__law_calls, d__law_cast, d__law_shuted, d__law_scene, d_checked_bench, d_reach_of, d_is_seating, d_begun_at, d_seated, d_is_whole, d_is_name, d_is_seat, d_is_stretch, d_is_person, d_first_odd, d_Bench_init, d_Bench_mirrored, d_Bench_eased, d_checked, d_about, d_Bench_names, d_Bench_turn_of, d_Bench_without, d_Bench_len, d_Bench_plus, d__law_fresh, d_windows_of, d_holding, d_full, d_held, d__law_joined, d__law_seated_right, d_Bench_stretch, d_Bench_led, d__law_crowded_right, d__law_right, d__law_any_folk, d_law]
def tds : List ((Str × Option Str) × Nat) := []
def xl : List (PySem.W.Frag → Bool) := []
def ex0 (K : PySem.W.Frag) : Bool := (isC.all fun c => isB K c) && tds.all fun p => etB K p.1 p.2
def ex (K : PySem.W.Frag) : Bool := ex0 K && xl.all fun f => f K
structure Hyp (K : PySem.W.Frag) (mg : Str → Option Value) : Prop where
  kin : ∃ h : Heap, K.In h ∧ h.Ns mainGlobals mg
  says : He.SaysD fa fn K
  ex : ex K = true
section
variable {K : PySem.W.Frag} {mg : Str → Option Value}
theorem Hyp.glo (h : Hyp K mg) (i : Nat) {x : Str} (e : fa[i]? = some (.glo x)) : mg x = some (.ref (He.ga K x)) := let ⟨_, X, G⟩ := h.kin; He.glo_ok X G (h.says.fact i e)
theorem Hyp.free (h : Hyp K mg) (i : Nat) {x : Str} (e : fa[i]? = some (.free x)) : mg x = none := let ⟨_, X, G⟩ := h.kin; He.free_ok X G (h.says.fact i e)
theorem Hyp.int (h : Hyp K mg) (k : Nat) {x : Str} {i : Int} (e : fa[k]? = some (.int x i)) : ∃ t, mg x = some (.int i t) := let ⟨_, X, G⟩ := h.kin; He.int_ok X G (h.says.fact k e)
theorem Hyp.cls (h : Hyp K mg) (i : Nat) {x : Str} (e : fa[i]? = some (.cls x)) : Cls K (He.ga K x) := He.cls_ok (h.says.fact i e)
theorem Hyp.noat (h : Hyp K mg) (i : Nat) {x f : Str} (e : fa[i]? = some (.noat x f)) : NoAttr K (He.ga K x) f := He.noat_ok (h.says.fact i e)
theorem Hyp.meth (h : Hyp K mg) (i : Nat) {x m : Str} (e : fa[i]? = some (.meth x m)) : Meth K (He.ga K x) m (He.ma K (He.ga K x) m) := He.meth_ok (h.says.fact i e)
theorem Hyp.mkr (h : Hyp K mg) (i : Nat) {x : Str} (e : fa[i]? = some (.mkr x)) : Mk K (He.ga K x) (He.ma K (He.ga K x) "__init__") := He.mkr_ok (h.says.fact i e)
theorem Hyp.tup (h : Hyp K mg) (i : Nat) {p : (Str × Option Str) × Nat} (e : tds[i]? = some p) : etB K p.1 p.2 = true := List.all_eq_true.mp (Bool.and_eq_true_iff.mp (Bool.and_eq_true_iff.mp h.ex).1).2 p (List.mem_of_getElem? e)
theorem Hyp.isc (h : Hyp K mg) : ∀ C ∈ isC, IsC K C := fun C hC => isB_ok (by
    have : ∀ C ∈ isC, Cls K (He.ga K C) := by
      intro C hC
      simp only [isC, List.mem_cons, List.not_mem_nil, or_false] at hC
      rcases hC with rfl
      · exact h.cls 15 (x := "Bench") rfl
    exact this C hC) (List.all_eq_true.mp (Bool.and_eq_true_iff.mp (Bool.and_eq_true_iff.mp h.ex).1).1 C hC)
end
abbrev hk : PySem.W.Hook := hookC 4 fa fn ex [("seated", none)]
def ob (s : PySem.W.SharedT) : AlB := obsC 4 fa fn ex [("seated", none)] (HandSHeadRun.getT s)
theorem ob_eq (s : PySem.W.SharedT) : ob s = hk.obs s.abs := obsC_eq (HandSHeadRun.getT_eq s)
theorem runHd (w : World) : RunOb RowR 8000 4 [] fn (fun _ => true) w := by
  intro os
  kernel_rfl
def xl0 : List (PySem.W.Frag → Bool) := []
theorem runX0 (w : World) : RunOb RowR 8000 4 [] [] (fun K => ex0 K && xl0.all fun f => f K) w := by
  intro os
  kernel_rfl
theorem run0 (w : World) : HandSHeadRun.RunEq RowR (PySem.W.view RowR.prog [45]) (hookB 4 fa fn ex) (fun s => obsB 4 fa fn ex (HandSHeadRun.getT s)) 8000 names w := by
  refine run_of (es := [fun K => ex0 K && xl0.all fun f => f K]) (runA w) (runHd w) (fun e m => ?_) (fun K h => ?_)
  · simp only [List.mem_cons, List.not_mem_nil, or_false] at m
    subst m
    · exact runX0 w
  · simp only [List.forall_mem_cons, Bool.and_eq_true] at h
    obtain ⟨⟨h0, h1⟩, _⟩ := h
    simp only [ex, xl, List.all_append, h0, List.all_nil, Bool.and_self]
theorem runT (w : World) : RunT RowR 8000 4 [("seated", none)] w := by
  intro os
  kernel_rfl
theorem run (w : World) : HandSHeadRun.RunEq RowR (PySem.W.view RowR.prog [45]) hk ob 8000 names w := run_ofT (run0 w) (runT w)
end K22
noncomputable section
namespace K22
open PySem Bx
noncomputable section
/-- a hand in the store -/
def TabH (μ : List MO) : Prop := μ[0]? = some (.tab ("seated", none))
theorem TabH.app {μ t : List MO} (h : TabH μ) : TabH (μ ++ t) := by
  unfold TabH at *
  rw [List.getElem?_append_left (List.getElem?_eq_some_iff.mp h).1]
  exact h
def Hand (μ : List MO) (i : Nat) : Prop := (∃ a b n : Int, μ[i]? = some (.lst [.int a, .int b, .int n])) ∧ TabH μ
theorem Hand.tab {μ : List MO} {i : Nat} (h : Hand μ i) : TabH μ := h.2
theorem hand_ne {μ : List MO} {i : Nat} {xs : List D} (h : μ[i]? = some (.lst xs)) (hf : TabH μ) : i ≠ 0 := fun e => by
  subst e
  have z : some (MO.tab ("seated", none)) = some (.lst xs) := hf.symm.trans h
  cases z
theorem hand_set {μ : List MO} {i : Nat} {a b n : Int} (hi : i < μ.length) (h0 : i ≠ 0) (hf : TabH μ) : Hand (μ.set i (.lst [.int a, .int b, .int n])) i := ⟨⟨a, b, n, List.getElem?_set_self hi⟩, by
  unfold TabH
  rw [List.getElem?_set_ne h0]
  exact hf⟩
theorem draw_ok {μ : List MO} {i : Nat} {t : Int} (h : Hand μ i) (h0 : 0 < t) (h1 : t < 1073741824) : ∃ (r : Int) (μ' : List MO), 0 ≤ r ∧ r < t ∧ Hand μ' i ∧ den__law_draw [.ref i, .int t] μ = .ok (.int r) μ' := by
  obtain ⟨⟨a, b, n, h⟩, hf⟩ := h
  have hi : i < μ.length := (List.getElem?_eq_some_iff.mp h).1
  have hs : ∀ x, (μ.set i x)[i]? = some x := fun x => List.getElem?_set_self hi
  have m1 : mulOk (b % 1000000123) ((b % 1000000123) % 46049 + 30013) = true := mulOk_l (by omega) (by omega)
  have m2 : mulOk 80051 (n + 1) = true := mulOk_l (by decide) (by decide)
  by_cases ha : 0 < a
  · refine ⟨a % t, _, Int.emod_nonneg a (by omega), Int.emod_lt_of_pos a h0, hand_set hi (hand_ne h hf) hf (a := a / t) (b := b) (n := n + 1), ?_⟩
    rw [den__law_draw, runB_ap, b__law_draw]
    simp [frame, var, ixD, rsl, h, L2.atI, L2.ixN, setD, S.mo, S.mut, S.put, hs, tru, ha, gtupG, unT, gseq, h0, h1]
  · refine ⟨(b % 1000000123 * (b % 1000000123 % 46049 + 30013) + 80051 * (n + 1)) % 1000000123 / 16 % t, _, Int.emod_nonneg _ (by omega), Int.emod_lt_of_pos _ h0, hand_set hi (hand_ne h hf) hf (a := a) (b := b % 1000000123 * (b % 1000000123 % 46049 + 30013) + 80051 * (n + 1)) (n := n + 1), ?_⟩
    rw [den__law_draw, runB_ap, b__law_draw]
    simp [frame, var, ixD, rsl, h, L2.atI, L2.ixN, setD, S.mo, S.mut, S.put, hs, tru, ha, gtupG, unT, gseq, h0, h1, m1, m2]
theorem hand_ok (c : Int) (μ : List MO) (hf : TabH μ) : ∃ μ', Hand μ' μ.length ∧ den__law_hand [.int c] μ = .ok (.ref μ.length) μ' := by
  have m1 : mulOk (c % 1000000123) 7019 = true := mulOk_r (by decide) (by decide)
  have fin : ∀ d : Int, Hand (μ ++ [.lst [.int d, .int (c % 1000000123 * 7019 + 4013), .int 0]]) μ.length := fun d => ⟨⟨d, c % 1000000123 * 7019 + 4013, 0, by simp⟩, hf.app⟩
  by_cases h0 : c < 0
  · refine ⟨_, fin c.natAbs, ?_⟩
    rw [den__law_hand, runB_ap, b__law_hand]
    simp [frame, var, ifD, orT, tru, h0, S.put, sretS, nlst, m1, powD, iic, rsl]
  · by_cases h1 : 10 ^ 18 ≤ c
    · refine ⟨_, fin c.natAbs, ?_⟩
      rw [den__law_hand, runB_ap, b__law_hand]
      simp at h1
      simp [frame, var, ifD, orT, tru, h0, h1, S.put, sretS, nlst, m1, powD, iic, rsl]
    · refine ⟨_, fin 0, ?_⟩
      rw [den__law_hand, runB_ap, b__law_hand]
      have h2 : ¬ (1000000000000000000 : Int) ≤ c := by simp at h1; omega
      simp [frame, var, ifD, orT, tru, h0, h2, S.put, sretS, nlst, m1, powD, iic, rsl]
theorem cell_loop (μ : List MO) (x y : Sl) : ∀ (ns : List Int) (c : Int) (z : Sl), ∃ c' z', floop (gset 3) (sset 2 (Bx.bin modD (Bx.bin addD (Bx.bin mulD (var 2) (con (.int 30029))) (var 3)) (con (.int 1000000123)))) (ns.map .int) ⟨[x, y, .val (.int c), z], μ⟩ = .nx ⟨[x, y, .val (.int c'), z'], μ⟩
  | [], c, z => ⟨c, z, rfl⟩
  | n :: ns, c, z => by
    obtain ⟨c', z', e⟩ := cell_loop μ x y ns ((c * 30029 + n) % 1000000123) (.val (.int n))
    refine ⟨c', z', ?_⟩
    have m1 : mulOk c 30029 = true := mulOk_r (by decide) (by decide)
    rw [List.map_cons, floop]
    simp [S.put, var, m1, e]
theorem cell_ok (ns : List Int) (k : Int) (μ : List MO) (hk : 0 ≤ k) (hk2 : k < 1000) : ∃ c, den__law_cell [.scr ns, .int k] μ = .ok (.int c) μ := by
  by_cases h : k < ns.length
  · refine ⟨ns[k.toNat]'(by omega), ?_⟩
    rw [den__law_cell, runB_ap, b__law_cell]
    simp [frame, var, lenD, rsl, tru, h, ixD, atI_ok hk h]
  · have m1 : mulOk k k = true := mulOk_l (by omega) (by omega)
    have m2 : mulOk 9 k = true := mulOk_l (by decide) (by decide)
    have m3 : mulOk 50021 (k * k + 9 * k + 11) = true := mulOk_l (by decide) (by decide)
    obtain ⟨c, z, e⟩ := cell_loop μ (.val (.scr ns)) (.val (.int k)) (cutI ns none (some 4)) (50021 * (k * k + 9 * k + 11) % 1000000123) .no
    refine ⟨c, ?_⟩
    rw [den__law_cell, runB_ap, b__law_cell]
    simp [frame, var, lenD, rsl, tru, h, m1, m2, m3, S.put, mits, slc, mpart, slD, itemsD, e]
def low1 (c : Nat) : Prop := 97 ≤ c ∧ c ≤ 122
def okName (x : Str) : Prop := ∃ l : List Nat, x = T l ∧ 1 ≤ l.length ∧ l.length ≤ 6 ∧ ∀ c ∈ l, low1 c
def abc : List Nat := (List.range 26).map (· + 97)
theorem abc_eq : (Str.ofString "abcdefghijklmnopqrstuvwxyz") = T abc := by decide +kernel
theorem abc_low : ∀ c ∈ abc, 97 ≤ c ∧ c ≤ 122 := by decide
def ownW : List Str := ["come", "go", "lead", "swap", "move", "back", "seats", "bench", "may", "to", "here", "never"]
theorem ownW_ok : ∀ x ∈ ownW, okName x := by
  intro x hx
  have : ∀ x ∈ ownW, 1 ≤ x.cps.toList.length ∧ x.cps.toList.length ≤ 6 ∧ ∀ c ∈ x.cps.toList, 97 ≤ c ∧ c ≤ 122 := by decide +kernel
  obtain ⟨h1, h2, h3⟩ := this x hx
  exact ⟨x.cps.toList, rfl, h1, h2, h3⟩
theorem draw_call {s : S} {i : Nat} {t : Int} (h : Hand s.μ i) (h0 : 0 < t) (h1 : t < 1073741824) {p : M D} (hp : p s = .ok (.ref i) s) : ∃ (r : Int) (μ' : List MO), 0 ≤ r ∧ r < t ∧ Hand μ' i ∧ callK den__law_draw [0, 1] [] (mal [p, con (.int t)]) (mal []) s = .ok (.int r) { s with μ := μ' } := by
  obtain ⟨r, μ', a1, a2, a3, a4⟩ := draw_ok h h0 h1
  refine ⟨r, μ', a1, a2, a3, ?_⟩
  simp [hp, pick, callD, a4]
/-- the state of _law_calls in its loop -/
def stC (i : Nat) (n : Int) (found : List D) (t w so a b c : Sl) (μ : List MO) : S := ⟨[.val (.ref i), .val (.int n), .val (.lst (ownW.map .str)), .val (.str (T abc)), .own (.lst found), t, w, so, a, b, c], μ⟩
theorem draw_C {i : Nat} {n : Int} {found : List D} {t w so a b c : Sl} {μ : List MO} (h : Hand μ i) (k : Int) (h0 : 0 < k) (h1 : k < 1073741824) : ∃ (r : Int) (μ' : List MO), 0 ≤ r ∧ r < k ∧ Hand μ' i ∧
    callK den__law_draw [0, 1] [] (mal [var 0, con (.int k)]) (mal []) (stC i n found t w so a b c μ) = .ok (.int r) (stC i n found t w so a b c μ') := draw_call (s := stC i n found t w so a b c μ) (p := var 0) h h0 h1 rfl
theorem word1 {i : Nat} {n : Int} {found : List D} {t w so a b c : Sl} {μ : List MO} (h : Hand μ i) : ∃ x μ', okName x ∧ Hand μ' i ∧ (sset 6 (Bx.bin ixD (var 2) (callK den__law_draw [0, 1] [] (mal [var 0, con (.int 12)]) (mal [])))) (stC i n found t w so a b c μ) = .nx (stC i n found t (.val (.str x)) so a b c μ') := by
  obtain ⟨r, μ', a1, a2, a3, a4⟩ := draw_C (n := n) (found := found) (t := t) (w := w) (so := so) (a := a) (b := b) (c := c) h 12 (by decide) (by decide)
  have hl : r < (ownW.map D.str).length := a2
  refine ⟨ownW[r.toNat]'(by have : ownW.length = 12 := rfl; omega), μ', ownW_ok _ (List.getElem_mem _), a3, ?_⟩
  have e0 : var 2 (stC i n found t w so a b c μ) = .ok (.lst (ownW.map .str)) (stC i n found t w so a b c μ) := rfl
  rw [sset_ap, stl_ap, bin_ap, e0, bind_ok, bnd_ap, a4, bind_ok]
  rw [ix_lst a1 hl]
  simp
  rfl
theorem letters1 {i : Nat} {n : Int} {found : List D} {t w so a c : Sl} : ∀ (items acc : List D) (μ : List MO) (b : Sl), Hand μ i → acc.length + items.length ≤ 100 → ∃ (l : List Nat) (μ' : List MO), l.length = items.length ∧ (∀ x ∈ l, low1 x) ∧ Hand μ' i ∧
    cloop [9] (Tgt.asg (.name 9)) yes (Bx.bin ixD (var 3) (callK den__law_draw [0, 1] [] (mal [var 0, con (.int 26)]) (mal []))) items acc (stC i n found t w so a .no c μ) = .ok (.lst (acc ++ l.map fun x => .str (T [x]))) (stC i n found t w so a .no c μ')
  | [], acc, μ, b, h, _ => ⟨[], μ, rfl, by simp, h, by simp [cloop]; rfl⟩
  | d :: r, acc, μ, b, h, hl => by
    obtain ⟨k, μ1, a1, a2, a3, a4⟩ := draw_C (n := n) (found := found) (t := t) (w := w) (so := so) (a := a) (b := .val d) (c := c) h 26 (by decide) (by decide)
    have hk : k < abc.length := a2
    rw [List.length_cons] at hl
    obtain ⟨l, μ2, b1, b2, b3, b4⟩ := letters1 (n := n) (found := found) (t := t) (w := w) (so := so) (a := a) (c := c) r (acc ++ [.str (T [abc[k.toNat]'(by omega)])]) μ1 b a3 (by rw [List.length_append, List.length_singleton]; omega)
    refine ⟨abc[k.toNat]'(by omega) :: l, μ2, by rw [List.length_cons, List.length_cons, b1], fun x hx => ?_, b3, ?_⟩
    · rcases List.mem_cons.mp hx with rfl | hx
      · exact abc_low _ (List.getElem_mem _)
      · exact b2 x hx
    · have e0 : Tgt.asg (.name 9) d (stC i n found t w so a .no c μ) = .nx (stC i n found t w so a (.val d) c μ) := rfl
      have e1 : var 3 (stC i n found t w so a (.val d) c μ) = .ok (.str (T abc)) (stC i n found t w so a (.val d) c μ) := rfl
      have e2 : stl (Bx.bin ixD (var 3) (callK den__law_draw [0, 1] [] (mal [var 0, con (.int 26)]) (mal []))) (stC i n found t w so a (.val d) c μ) = .ok (.str (T [abc[k.toNat]'(by omega)])) (stC i n found t w so a (.val d) c μ1) := by
        rw [stl_ap, bin_ap, e1, bind_ok, bnd_ap, a4, bind_ok, ix_str a1 hk (by decide)]
        rfl
      have e3 : wipeS [9] (stC i n found t w so a (.val d) c μ1) = stC i n found t w so a .no c μ1 := rfl
      rw [cloop]
      simp only [e0, yes_ap, e2, e3]
      rw [if_pos (by omega), b4]
      simp
theorem join_nil : ∀ (l : List Nat), Txt.join (Str.ofString "") (l.map fun x => T [x]) = T l := by
  intro l
  have e1 : (Str.ofString "") = SX.S [] := rfl
  have e2 : (l.map fun x => T [x]) = (l.map fun x => [x]).map SX.S := by rw [List.map_map]; rfl
  rw [e1, e2, SX.join_S]
  have go : ∀ l : List Nat, TL.joinL [] (l.map fun x => [x]) = l := by
    intro l
    induction l with
    | nil => rfl
    | cons a r ih =>
      cases r with
      | nil => rfl
      | cons b r =>
        show [a] ++ ([] ++ TL.joinL [] ((b :: r).map fun x => [x])) = _
        rw [ih]
        rfl
  rw [go]
  rfl
theorem word2 {i : Nat} {n : Int} {found : List D} {t so a b c : Sl} {μ : List MO} {x : Str} (h : Hand μ i) (hx : okName x) : ∃ x' μ' b', okName x' ∧ Hand μ' i ∧
    (sif (tru (Bx.bin gtD (callK den__law_draw [0, 1] [] (mal [var 0, con (.int 3)]) (mal [])) (con (.int 0)))) (sset 6 (mjoin (con (.str "")) (mcomp [9] (mrange1 [Bx.bin addD (con (.int 1)) (callK den__law_draw [0, 1] [] (mal [var 0, con (.int 6)]) (mal []))]) (Tgt.asg (.name 9)) (yes) (Bx.bin ixD (var 3) (callK den__law_draw [0, 1] [] (mal [var 0, con (.int 26)]) (mal [])))))) (skip))
      (stC i n found t (.val (.str x)) so a b c μ) = .nx (stC i n found t (.val (.str x')) so a b' c μ') := by
  obtain ⟨r, μ1, a1, a2, a3, a4⟩ := draw_C (n := n) (found := found) (t := t) (w := .val (.str x)) (so := so) (a := a) (b := b) (c := c) h 3 (by decide) (by decide)
  have e1 : tru (Bx.bin gtD (callK den__law_draw [0, 1] [] (mal [var 0, con (.int 3)]) (mal [])) (con (.int 0))) (stC i n found t (.val (.str x)) so a b c μ) = .ok (decide (0 < r)) (stC i n found t (.val (.str x)) so a b c μ1) := by
    refine tru_bl ?_
    rw [bin_ap, a4, bind_ok]
    rfl
  by_cases hr : 0 < r
  · obtain ⟨k, μ2, b1, b2, b3, b4⟩ := draw_C (n := n) (found := found) (t := t) (w := .val (.str x)) (so := so) (a := a) (b := b) (c := c) a3 6 (by decide) (by decide)
    obtain ⟨l, μ3, c1, c2, c3, c4⟩ := letters1 (i := i) (n := n) (found := found) (t := t) (w := .val (.str x)) (so := so) (a := a) (c := c) (rangeI 0 (1 + k).toNat) [] μ2 .no b3 (by simp [rangeI]; omega)
    have hlen : l.length = (1 + k).toNat := by rw [c1]; simp [rangeI]
    refine ⟨T l, μ3, .no, ⟨l, rfl, by omega, by omega, c2⟩, c3, ?_⟩
    have e2 : wipeS [9] (stC i n found t (.val (.str x)) so a b c μ2) = stC i n found t (.val (.str x)) so a .no c μ2 := rfl
    have e3 : strsD (l.map fun x => D.str (T [x])) = some (l.map fun x => T [x]) := by
      have := strsD_map (l.map fun x => T [x])
      rwa [List.map_map] at this
    have e4 : (((l.map fun x => T [x]).map (·.length)).sum + (l.map fun x => T [x]).length * (Str.ofString "").length ≤ 16777216) := by
      have s1 : ((l.map fun x => T [x]).map (·.length)).sum = l.length := by
        clear c1 c2 c4 hlen e3
        induction l with
        | nil => rfl
        | cons a r ih => simp at ih ⊢; omega
      have s2 : (Str.ofString "").length = 0 := rfl
      rw [s1, s2]
      omega
    rw [sif_ap, e1, toS_ok, decide_eq_true hr, if_pos rfl, sset_ap]
    have e5 : mjoin (con (.str "")) (mcomp [9] (mrange1 [Bx.bin addD (con (.int 1)) (callK den__law_draw [0, 1] [] (mal [var 0, con (.int 6)]) (mal []))]) (Tgt.asg (.name 9)) (yes) (Bx.bin ixD (var 3) (callK den__law_draw [0, 1] [] (mal [var 0, con (.int 26)]) (mal [])))) (stC i n found t (.val (.str x)) so a b c μ1) = .ok (.str (T l)) (stC i n found t (.val (.str x)) so a .no c μ3) := by
      unfold mjoin
      simp only [bnd_ap, con_ap, bind_ok, isStr, mcomp_ap, mrange1_ap, margs_cons, bin_ap, b4, add_int, margs_nil, pur_ap, on1_ap, rg1_int (inRg_of (j := 1 + k) (by omega) (by omega)), e2, c4]
      simp only [joinD, rsl, List.nil_append, e3]
      rw [if_pos e4, join_nil]
    rw [stl_ap, e5]
    rfl
  · refine ⟨x, μ1, b, hx, a3, ?_⟩
    rw [sif_ap, e1, toS_ok, decide_eq_false hr]
    rfl
theorem cut5 (l : List Nat) : L2.cutS (T l) none (some 5) = T (l.take 5) := by
  unfold L2.cutS HT.sIx
  simp [T]
  simp [Str.length]
def cands (l : List Nat) : List Str := T l :: abc.map fun c => T (l.take 5 ++ [c])
theorem some_ok {i : Nat} {n : Int} {found : List D} {t so a b c : Sl} {μ : List MO} {l : List Nat} (hl : l.length ≤ 6) :
    (sset 7 (Bx.bin addD (mlst [var 6]) (mcomp [8] (mits (var 3)) (Tgt.asg (.name 8)) (yes) (Bx.bin addD (slc (var 6) .no (.yes (con (.int 5)))) (var 8))))) (stC i n found t (.val (.str (T l))) so a b c μ) = .nx (stC i n found t (.val (.str (T l))) (.val (.lst ((cands l).map .str))) .no b c μ) := by
  have e0 : mlst [var 6] (stC i n found t (.val (.str (T l))) so a b c μ) = .ok (.lst [.str (T l)]) (stC i n found t (.val (.str (T l))) so a b c μ) := rfl
  have e1 : mits (var 3) (stC i n found t (.val (.str (T l))) so a b c μ) = .ok (abc.map fun x => .str (T [x])) (stC i n found t (.val (.str (T l))) so a b c μ) := rfl
  have e2 : wipeS [8] (stC i n found t (.val (.str (T l))) so a b c μ) = stC i n found t (.val (.str (T l))) so .no b c μ := rfl
  have e3 := cloop_pure (vs := [8]) (asg := Tgt.asg (.name 8)) (t := yes) (el := Bx.bin addD (slc (var 6) .no (.yes (con (.int 5)))) (var 8)) (s0 := stC i n found t (.val (.str (T l))) so .no b c μ) (fun _ => true)
    (fun d => match d with | .str y => .str (T (l.take 5) ++ y) | d => d) (abc.map fun x => .str (T [x])) [] (by decide) (fun d hd => by
      obtain ⟨x, hx, rfl⟩ := List.mem_map.mp hd
      refine ⟨stC i n found t (.val (.str (T l))) so (.val (.str (T [x]))) b c μ, stC i n found t (.val (.str (T l))) so (.val (.str (T [x]))) b c μ, rfl, rfl, fun z => Bool.noConfusion z, fun _ => ⟨stC i n found t (.val (.str (T l))) so (.val (.str (T [x]))) b c μ, ?_, rfl⟩⟩
      have f1 : slc (var 6) .no (.yes (con (.int 5))) (stC i n found t (.val (.str (T l))) so (.val (.str (T [x]))) b c μ) = .ok (.str (T (l.take 5))) (stC i n found t (.val (.str (T l))) so (.val (.str (T [x]))) b c μ) := by
        unfold slc
        simp only [bnd_ap]
        show (slD (.str (T l)) none (some 5) _) = _
        unfold slD
        simp only [rsl]
        rw [if_pos (by simp; omega), cut5]
      rw [stl_ap, bin_ap, f1, bind_ok, bnd_ap]
      show (addD (.str (T (l.take 5))) (.str (T [x])) _).bind Bx.settle = _
      unfold addD
      simp only [rsl]
      rw [if_pos (by simp; omega)]
      rfl)
  rw [sset_ap, stl_ap, bin_ap, e0, bind_ok, bnd_ap, mcomp_ap, e1, bind_ok, e2, e3, bind_ok]
  have e4 : ((abc.map fun x => D.str (T [x])).filter fun _ => true) = abc.map fun x => D.str (T [x]) := List.filter_eq_self.mpr fun _ _ => rfl
  rw [e4, List.nil_append, List.map_map]
  unfold addD
  simp only [rsl]
  rw [if_pos (by simp [abc])]
  have e5 : (abc.map ((fun d => match d with | .str y => D.str (T (l.take 5) ++ y) | d => d) ∘ fun x => D.str (T [x]))) = abc.map fun c => D.str (T (l.take 5 ++ [c])) := List.map_congr_left fun x _ => by
    show D.str (T (l.take 5) ++ T [x]) = _
    rw [T_append]
  rw [e5]
  simp [cands, List.map_map]
  rfl
theorem mem_str (y : Str) (xs : List Str) : memD (.str y) (xs.map .str) = decide (y ∈ xs) := by
  unfold memD L2.inV
  induction xs with
  | nil => rfl
  | cons x r ih =>
    have ih' : ((r.map D.str).map toV).any (fun z => L2.eqV z (toV (.str y))) = decide (y ∈ r) := ih
    rw [List.map_cons, List.map_cons, List.any_cons, ih']
    show (L2.eqV (.str x) (.str y) || decide (y ∈ r)) = _
    by_cases h : x = y
    · subst h; simp [L2.eqV]
    · have : L2.eqV (.str x) (.str y) = false := by simp [L2.eqV, h]
      rw [this]
      simp
      exact fun z => absurd z.symm h
theorem sub_len {α : Type} [DecidableEq α] : ∀ {xs ys : List α}, xs.Nodup → (∀ x ∈ xs, x ∈ ys) → xs.length ≤ ys.length
  | [], _, _, _ => Nat.zero_le _
  | x :: xs, ys, nd, h => by
    have h1 := List.nodup_cons.mp nd
    have hx := h x (List.mem_cons_self ..)
    have := sub_len (xs := xs) (ys := ys.erase x) h1.2 fun y hy => by
      have ne : y ≠ x := fun z => h1.1 (z ▸ hy)
      exact (List.mem_erase_of_ne ne).mpr (h y (List.mem_cons_of_mem _ hy))
    have l1 := List.length_erase_of_mem hx
    have l2 : 0 < ys.length := List.length_pos_of_mem hx
    rw [List.length_cons]
    omega
theorem cand_free (l : List Nat) (found : List Str) (h : found.length ≤ 20) : ∃ x ∈ cands l, x ∉ found := by
  by_cases hc : ∀ c ∈ abc, T (l.take 5 ++ [c]) ∈ found
  · have nd : (abc.map fun c => T (l.take 5 ++ [c])).Nodup := by
      rw [List.nodup_iff_pairwise_ne, List.pairwise_map]
      have na : abc.Nodup := by decide
      rw [List.nodup_iff_pairwise_ne] at na
      exact na.imp fun hne e => hne (by have := T_inj e; simpa using this)
    have := sub_len nd (ys := found) fun x hx => by
      obtain ⟨c, hc1, rfl⟩ := List.mem_map.mp hx
      exact hc c hc1
    have e : (abc.map fun c => T (l.take 5 ++ [c])).length = 26 := by simp [abc]
    omega
  · have ⟨c, hc⟩ : ∃ c, ¬ (c ∈ abc → T (l.take 5 ++ [c]) ∈ found) := Classical.not_forall.mp hc
    have ⟨h1, h2⟩ := Classical.not_imp.mp hc
    exact ⟨_, List.mem_cons_of_mem _ (List.mem_map.mpr ⟨c, h1, rfl⟩), h2⟩
theorem cand_ok {l : List Nat} (h1 : 1 ≤ l.length) (h2 : l.length ≤ 6) (h3 : ∀ c ∈ l, low1 c) : ∀ x ∈ cands l, okName x := by
  intro x hx
  rcases List.mem_cons.mp hx with rfl | hx
  · exact ⟨l, rfl, h1, h2, h3⟩
  · obtain ⟨c, hc, rfl⟩ := List.mem_map.mp hx
    refine ⟨_, rfl, by simp, by simp; omega, fun y hy => ?_⟩
    rcases List.mem_append.mp hy with hy | hy
    · exact h3 y (List.mem_of_mem_take hy)
    · rw [List.mem_singleton.mp hy]; exact abc_low c hc
theorem flat_strs (xs : List Str) : (xs.map D.str).all flatD = true := by
  rw [List.all_map, List.all_eq_true]
  intro x _
  rfl
theorem filter_strs (p : Str → Bool) (q : D → Bool) (h : ∀ x, q (.str x) = p x) : ∀ xs : List Str, (xs.map D.str).filter q = (xs.filter p).map D.str
  | [] => rfl
  | x :: r => by
    rw [List.map_cons, List.filter_cons, List.filter_cons, h x]
    cases p x with
    | true => simp [filter_strs p q h r]
    | false => simp [filter_strs p q h r]
theorem app_ok {i : Nat} {n : Int} {found : List Str} {t w a b c : Sl} {μ : List MO} {l : List Nat} (hf : found.length ≤ 20) : ∃ x, x ∈ cands l ∧ x ∉ found ∧
    (sexpr (mapp (var 4) (Bx.bin ixD (mcomp [10] (mits (var 7)) (Tgt.asg (.name 10)) (tru (Bx.bin (inA true) (var 10) (var 4))) (var 10)) (con (.int 0))))) (stC i n (found.map .str) t w (.val (.lst ((cands l).map .str))) a b c μ) =
      .nx (stC i n ((found ++ [x]).map .str) t w (.val (.lst ((cands l).map .str))) a b .no μ) := by
  obtain ⟨y, hy1, hy2⟩ := cand_free l found hf
  have hmem : y ∈ (cands l).filter fun x => !decide (x ∈ found) := List.mem_filter.mpr ⟨hy1, by simp [hy2]⟩
  have hpos : 0 < ((cands l).filter fun x => !decide (x ∈ found)).length := List.length_pos_of_mem hmem
  have hx := List.getElem_mem hpos
  obtain ⟨x1, x2⟩ := List.mem_filter.mp hx
  refine ⟨_, x1, by simpa using x2, ?_⟩
  have e1 : mits (var 7) (stC i n (found.map .str) t w (.val (.lst ((cands l).map .str))) a b c μ) = .ok ((cands l).map .str) (stC i n (found.map .str) t w (.val (.lst ((cands l).map .str))) a b c μ) := rfl
  have e2 : wipeS [10] (stC i n (found.map .str) t w (.val (.lst ((cands l).map .str))) a b c μ) = stC i n (found.map .str) t w (.val (.lst ((cands l).map .str))) a b .no μ := rfl
  have e3 := cloop_pure (vs := [10]) (asg := Tgt.asg (.name 10)) (t := tru (Bx.bin (inA true) (var 10) (var 4))) (el := var 10) (s0 := stC i n (found.map .str) t w (.val (.lst ((cands l).map .str))) a b .no μ) (fun d => !memD d (found.map .str)) id ((cands l).map .str) [] (by simp [cands, abc])
    (fun d hd => by
      obtain ⟨x, hx, rfl⟩ := List.mem_map.mp hd
      refine ⟨stC i n (found.map .str) t w (.val (.lst ((cands l).map .str))) a b (.val (.str x)) μ, stC i n (found.map .str) t w (.val (.lst ((cands l).map .str))) a b (.val (.str x)) μ, rfl, ?_, fun _ => rfl, fun _ => ⟨_, rfl, rfl⟩⟩
      refine tru_bl ?_
      have g0 : var 10 (stC i n (found.map .str) t w (.val (.lst ((cands l).map .str))) a b (.val (.str x)) μ) = .ok (.str x) (stC i n (found.map .str) t w (.val (.lst ((cands l).map .str))) a b (.val (.str x)) μ) := rfl
      have g1 : var 4 (stC i n (found.map .str) t w (.val (.lst ((cands l).map .str))) a b (.val (.str x)) μ) = .ok (.loc 4) (stC i n (found.map .str) t w (.val (.lst ((cands l).map .str))) a b (.val (.str x)) μ) := rfl
      have g2 : (stC i n (found.map .str) t w (.val (.lst ((cands l).map .str))) a b (.val (.str x)) μ).mo (.loc 4) = some (.lst (found.map .str)) := rfl
      have g3 : rsl (stC i n (found.map .str) t w (.val (.lst ((cands l).map .str))) a b (.val (.str x)) μ) (.loc 4) = .lst (found.map .str) := rfl
      rw [bin_ap, g0, bind_ok, bnd_ap, g1, bind_ok]
      unfold inA
      simp only [g2]
      unfold inD
      simp only [g3, flat_strs, flatD]
      rfl)
  have e4 : ((cands l).map D.str).filter (fun d => !memD d (found.map .str)) = ((cands l).filter fun x => !decide (x ∈ found)).map .str := filter_strs _ _ (fun x => by rw [mem_str]) _
  rw [e4, List.map_id, List.nil_append] at e3
  have e5 : Bx.bin ixD (mcomp [10] (mits (var 7)) (Tgt.asg (.name 10)) (tru (Bx.bin (inA true) (var 10) (var 4))) (var 10)) (con (.int 0)) (stC i n (found.map .str) t w (.val (.lst ((cands l).map .str))) a b c μ) = .ok (.str (((cands l).filter fun x => !decide (x ∈ found))[0])) (stC i n (found.map .str) t w (.val (.lst ((cands l).map .str))) a b .no μ) := by
    rw [bin_ap, mcomp_ap, e1, bind_ok, e2, e3, bind_ok, bnd_ap, con_ap, bind_ok, ix_lst (Int.le_refl 0) (by simpa using hpos)]
    simp
    rfl
  rw [sexpr_ap]
  have e6 : mapp (var 4) (Bx.bin ixD (mcomp [10] (mits (var 7)) (Tgt.asg (.name 10)) (tru (Bx.bin (inA true) (var 10) (var 4))) (var 10)) (con (.int 0))) (stC i n (found.map .str) t w (.val (.lst ((cands l).map .str))) a b c μ) = .ok .non (stC i n ((found ++ [((cands l).filter fun x => !decide (x ∈ found))[0]]).map .str) t w (.val (.lst ((cands l).map .str))) a b .no μ) := by
    unfold mapp
    have f0 : var 4 (stC i n (found.map .str) t w (.val (.lst ((cands l).map .str))) a b c μ) = .ok (.loc 4) (stC i n (found.map .str) t w (.val (.lst ((cands l).map .str))) a b c μ) := rfl
    have f1 : chk isL (.loc 4) (stC i n (found.map .str) t w (.val (.lst ((cands l).map .str))) a b c μ) = .ok (.loc 4) (stC i n (found.map .str) t w (.val (.lst ((cands l).map .str))) a b c μ) := rfl
    simp only [bnd_ap, f0, bind_ok, f1, mal_cons, e5, settle_str, mal_nil, pur_ap, on1_ap]
    show (if (found.map D.str).length < 100000 then _ else _) = _
    rw [if_pos (by rw [List.length_map]; omega), List.map_append]
    rfl
  rw [e6]
  rfl
/-- one turn -/
def turnC : MS := sq (sset 6 (Bx.bin ixD (var 2) (callK den__law_draw [0, 1] [] (mal [var 0, con (.int 12)]) (mal []))))
  (sq (sif (tru (Bx.bin gtD (callK den__law_draw [0, 1] [] (mal [var 0, con (.int 3)]) (mal [])) (con (.int 0)))) (sset 6 (mjoin (con (.str "")) (mcomp [9] (mrange1 [Bx.bin addD (con (.int 1)) (callK den__law_draw [0, 1] [] (mal [var 0, con (.int 6)]) (mal []))]) (Tgt.asg (.name 9)) (yes) (Bx.bin ixD (var 3) (callK den__law_draw [0, 1] [] (mal [var 0, con (.int 26)]) (mal [])))))) (skip))
  (sq (sset 7 (Bx.bin addD (mlst [var 6]) (mcomp [8] (mits (var 3)) (Tgt.asg (.name 8)) (yes) (Bx.bin addD (slc (var 6) .no (.yes (con (.int 5)))) (var 8)))))
  (sexpr (mapp (var 4) (Bx.bin ixD (mcomp [10] (mits (var 7)) (Tgt.asg (.name 10)) (tru (Bx.bin (inA true) (var 10) (var 4))) (var 10)) (con (.int 0)))))))
def okNames (xs : List Str) : Prop := xs.Nodup ∧ ∀ x ∈ xs, okName x
theorem turn_ok {i : Nat} {n : Int} {found : List Str} {t w so a b c : Sl} {μ : List MO} (h : Hand μ i) (hf : found.length ≤ 20) (hn : okNames found) : ∃ x w' so' a' b' c' μ', Hand μ' i ∧ okNames (found ++ [x]) ∧
    turnC (stC i n (found.map .str) t w so a b c μ) = .nx (stC i n ((found ++ [x]).map .str) t w' so' a' b' c' μ') := by
  obtain ⟨x1, μ1, a1, a2, a3⟩ := word1 (n := n) (found := found.map .str) (t := t) (w := w) (so := so) (a := a) (b := b) (c := c) h
  obtain ⟨x2, μ2, b2, c1, c2, c3⟩ := word2 (n := n) (found := found.map .str) (t := t) (so := so) (a := a) (b := b) (c := c) a2 a1
  obtain ⟨l, rfl, d1, d2, d3⟩ := c1
  have e1 := some_ok (i := i) (n := n) (found := found.map .str) (t := t) (so := so) (a := a) (b := b2) (c := c) (μ := μ2) d2
  obtain ⟨x, f1, f2, f3⟩ := app_ok (i := i) (n := n) (found := found) (t := t) (w := .val (.str (T l))) (a := .no) (b := b2) (c := c) (μ := μ2) (l := l) hf
  refine ⟨x, .val (.str (T l)), .val (.lst ((cands l).map .str)), .no, b2, .no, μ2, c2, ⟨?_, ?_⟩, ?_⟩
  · rw [List.nodup_append]
    exact ⟨hn.1, by simp, fun y hy z hz => by rw [List.mem_singleton.mp hz]; exact fun e => f2 (e ▸ hy)⟩
  · intro y hy
    rcases List.mem_append.mp hy with hy | hy
    · exact hn.2 y hy
    · rw [List.mem_singleton.mp hy]; exact cand_ok d1 d2 d3 x f1
  · unfold turnC
    rw [sq_ap, a3, thn_nx, sq_ap, c3, thn_nx, sq_ap, e1, thn_nx, f3]
theorem calls_loop {i : Nat} {n : Int} : ∀ (items : List D) (found : List Str) (t w so a b c : Sl) (μ : List MO), Hand μ i → found.length + items.length ≤ 20 → okNames found → ∃ more t' w' so' a' b' c' μ', Hand μ' i ∧ more.length = items.length ∧ okNames (found ++ more) ∧
    floop (gset 5) turnC items (stC i n (found.map .str) t w so a b c μ) = .nx (stC i n ((found ++ more).map .str) t' w' so' a' b' c' μ')
  | [], found, t, w, so, a, b, c, μ, h, _, hn => ⟨[], t, w, so, a, b, c, μ, h, rfl, by simpa using hn, by rw [floop_nil, List.append_nil]⟩
  | d :: r, found, t, w, so, a, b, c, μ, h, hl, hn => by
    rw [List.length_cons] at hl
    obtain ⟨x, w1, so1, a1, b1, c1, μ1, h1, hn1, e1⟩ := turn_ok (n := n) (t := .val d) (w := w) (so := so) (a := a) (b := b) (c := c) h (by omega) hn
    obtain ⟨more, t2, w2, so2, a2, b2, c2, μ2, h2, l2, hn2, e2⟩ := calls_loop r (found ++ [x]) (.val d) w1 so1 a1 b1 c1 μ1 h1 (by rw [List.length_append, List.length_singleton]; omega) hn1
    refine ⟨x :: more, t2, w2, so2, a2, b2, c2, μ2, h2, by rw [List.length_cons, List.length_cons, l2], by simpa using hn2, ?_⟩
    rw [floop_cons (s1 := stC i n (found.map .str) (.val d) w so a b c μ) rfl e1, e2]
    simp
theorem calls_ok {μ : List MO} {i : Nat} {n : Int} (h : Hand μ i) (h0 : 0 ≤ n) (h1 : n ≤ 12) : ∃ (xs : List Str) (μ' : List MO), (xs.length : Int) = n ∧ okNames xs ∧ Hand μ' i ∧ den__law_calls [.ref i, .int n] μ = .ok (.lst (xs.map .str)) μ' := by
  obtain ⟨more, t', w', so', a', b', c', μ', h', l', hn, e⟩ := calls_loop (i := i) (n := n) (rangeI 0 n.toNat) [] .no .no .no .no .no .no μ h (by simp [rangeI]; omega) ⟨.nil, by simp⟩
  rw [List.nil_append] at hn
  refine ⟨more, μ', by rw [l']; simp [rangeI]; omega, hn, h', ?_⟩
  rw [den__law_calls, runB_ap, b__law_calls]
  have e1 : (spar [3, 4] [.v (con (.str "abcdefghijklmnopqrstuvwxyz")), .f (nlst [])]) ⟨[.val (.ref i), .val (.int n), .val (.lst (ownW.map .str)), .no, .no, .no, .no, .no, .no, .no, .no], μ⟩ = .nx (stC i n [] .no .no .no .no .no .no μ) := by
    rw [abc_eq]
    rfl
  have e2 : (sset 2 (mlst [con (.str "come"), con (.str "go"), con (.str "lead"), con (.str "swap"), con (.str "move"), con (.str "back"), con (.str "seats"), con (.str "bench"), con (.str "may"), con (.str "to"), con (.str "here"), con (.str "never")])) ⟨frame 11 [.ref i, .int n], μ⟩ = .nx ⟨[.val (.ref i), .val (.int n), .val (.lst (ownW.map .str)), .no, .no, .no, .no, .no, .no, .no, .no], μ⟩ := rfl
  rw [sq_ap, e2, thn_nx, sq_ap, e1, thn_nx, sq_ap, sfor_ap]
  have e3 : mrange1 [var 1] (stC i n [] .no .no .no .no .no .no μ) = .ok (rangeI 0 n.toNat) (stC i n [] .no .no .no .no .no .no μ) := by
    rw [mrange1_ap]
    show rg1 (.int n) _ = _
    exact rg1_int (inRg_of (by omega) (by omega))
  rw [e3, toS_ok]
  have e4 : floop (gset 5) turnC (rangeI 0 n.toNat) (stC i n [] .no .no .no .no .no .no μ) = .nx (stC i n (more.map .str) t' w' so' a' b' c' μ') := e
  show ((floop (gset 5) turnC (rangeI 0 n.toNat) (stC i n [] .no .no .no .no .no .no μ)).thn _).fin = _
  rw [e4]
  rfl
abbrev Folk := List (Str × Int × Int)
def per (p : Str × Int × Int) : D := .tup [.str p.1, .int p.2.1, .int p.2.2]
def okP (w : Int) (p : Str × Int × Int) : Prop := 0 ≤ p.2.1 ∧ p.2.1 ≤ p.2.2 ∧ p.2.2 < w
def okFolk (w : Int) (fs : Folk) : Prop := okNames (fs.map (·.1)) ∧ (∀ p ∈ fs, okP w p) ∧ (fs.length : Int) ≤ w
section
variable {μ : List MO} {i : Nat} {t w : Int} {Q : RF → Prop}
theorem draw_w (h : Hand μ i) (h0 : 0 < t) (h1 : t < 1073741824) (q : ∀ r μ', 0 ≤ r → r < t → Hand μ' i → Q (.ok (.int r) μ')) : wD den__law_draw [.ref i, .int t] μ Q := by
  obtain ⟨r, μ', a, b, c, e⟩ := draw_ok h h0 h1
  rw [wD_of e]
  exact q r μ' a b c
theorem hand_w {c : Int} (hf : TabH μ) (q : ∀ μ', Hand μ' μ.length → Q (.ok (.ref μ.length) μ')) : wD den__law_hand [.int c] μ Q := by
  obtain ⟨μ', a, e⟩ := hand_ok c μ hf
  rw [wD_of e]
  exact q μ' a
theorem cell_w {ns : List Int} {k : Int} (hk : 0 ≤ k) (hk2 : k < 1000) (q : ∀ c, Q (.ok (.int c) μ)) : wD den__law_cell [.scr ns, .int k] μ Q := by
  obtain ⟨c, e⟩ := cell_ok ns k μ hk hk2
  rw [wD_of e]
  exact q c
theorem calls_w {n : Int} (h : Hand μ i) (h0 : 0 ≤ n) (h1 : n ≤ 12) (q : ∀ xs μ', (xs.length : Int) = n → okNames xs → Hand μ' i → Q (.ok (.lst (xs.map .str)) μ')) : wD den__law_calls [.ref i, .int n] μ Q := by
  obtain ⟨xs, μ', a, b, c, e⟩ := calls_ok h h0 h1
  rw [wD_of e]
  exact q xs μ' a b c
end
def satD (sat : List (Option Str)) : D := .tup (sat.map seat)
structure IsSat (w : Int) (fs : Folk) (sat : List (Option Str)) : Prop where
  len : (sat.length : Int) = w
  perm : (sat.filterMap id).Perm (fs.map (·.1))
  on : ∀ (i : Nat) (x : Str) (lo hi : Int), sat[i]? = some (some x) → (x, lo, hi) ∈ fs → lo ≤ i ∧ (i : Int) ≤ hi
theorem in2 {s : S} {Q : R D → Prop} {i a b : Int} : wE (inA false (.int i) (.lst [.int a, .int b])) s Q = Q (.ok (.bl (a == i || b == i)) s) := by
  have e : inA false (.int i) (.lst [.int a, .int b]) s = .ok (.bl (a == i || b == i)) s := by
    show R.ok (D.bl (L2.inV (.int i) [.int a, .int b])) s = _
    simp [L2.inV, L2.eqV]
  exact wE_of e
theorem mulB {s : S} {Q : R D → Prop} {i : Int} {c : Prop} [Decidable c] : wE (mulD (.int i) (.int (if c then 1 else 0))) s Q = Q (.ok (.int (i * (if c then 1 else 0))) s) := wE_mul (mulOk_r (by split <;> decide) (by split <;> decide))
theorem repB {s : S} {Q : R D → Prop} {d : D} {c : Prop} [Decidable c] : wE (mulD (.lst [d]) (.int (if c then 1 else 0))) s Q = Q (.ok (.lst (if c then [d] else [])) s) := by
  by_cases h : c
  · rw [if_pos h, if_pos h]; exact wE_of (by simp [mulD, rsl])
  · rw [if_neg h, if_neg h]; exact wE_of (by simp [mulD, rsl])
structure Casting (w : Int) (xs : List Str) (k : Nat) (fs : Folk) (sat : List (Option Str)) : Prop where
  len : sat.length = k
  names : sat.filterMap id = fs.map (·.1)
  sub : (fs.map (·.1)).Sublist (xs.take k)
  on : ∀ (i : Nat) (x : Str) (lo hi : Int), sat[i]? = some (some x) → (x, lo, hi) ∈ fs → lo ≤ i ∧ (i : Int) ≤ hi
  ok : ∀ p ∈ fs, okP w p
theorem Casting.next {w : Int} {xs : List Str} {k : Nat} {fs : Folk} {sat : List (Option Str)} (c : Casting w xs k fs sat) (hk : k < xs.length) (hw : (k : Int) < w) (nd : xs.Nodup) (b : Bool) {lo hi : Int} (h0 : 0 ≤ lo) (h1 : lo ≤ k) (h2 : (k : Int) ≤ hi) (h3 : hi < w) :
    Casting w xs (k + 1) (fs ++ if b = true then [(xs[k], lo, hi)] else []) (sat ++ [if b = true then some xs[k] else none]) := by
  have hl := c.len
  have htk : xs.take (k + 1) = xs.take k ++ [xs[k]] := by rw [List.take_succ_eq_append_getElem hk]
  have hnew : xs[k] ∉ fs.map (·.1) := fun z => by
    have z1 := c.sub.subset z
    have nd1 : (xs.take (k + 1)).Nodup := nd.sublist (List.take_sublist _ _)
    rw [htk, List.nodup_append] at nd1
    exact nd1.2.2 _ z1 _ (List.mem_singleton.mpr rfl) rfl
  cases b with
  | false =>
    refine ⟨by simp [hl], by simp [c.names], ?_, fun i x lo' hi' e m => ?_, by simpa using c.ok⟩
    · rw [htk]
      simp only [Bool.false_eq_true, if_false, List.append_nil]
      exact c.sub.trans (List.sublist_append_left _ _)
    · simp at m
      rcases Nat.lt_or_ge i sat.length with h | h
      · rw [List.getElem?_append_left h] at e; exact c.on i x lo' hi' e m
      · rw [List.getElem?_append_right h] at e
        cases hz : i - sat.length with
        | zero => rw [hz] at e; simp at e
        | succ n => rw [hz] at e; simp at e
  | true =>
    refine ⟨by simp [hl], by simp [c.names], ?_, fun i x lo' hi' e m => ?_, fun p hp => ?_⟩
    · rw [htk]
      simp only [if_true, List.map_append, List.map_cons, List.map_nil]
      exact c.sub.append (List.Sublist.refl _)
    · simp at m e
      rcases Nat.lt_or_ge i sat.length with h | h
      · rw [List.getElem?_append_left h] at e
        rcases m with m | ⟨rfl, rfl, rfl⟩
        · exact c.on i x lo' hi' e m
        · exfalso
          apply hnew
          rw [← c.names]
          exact List.mem_filterMap.mpr ⟨_, List.mem_of_getElem? e, rfl⟩
      · rw [List.getElem?_append_right h] at e
        cases hz : i - sat.length with
        | zero =>
          rw [hz] at e
          simp at e
          have hi : i = k := by omega
          subst e hi
          rcases m with m | ⟨_, rfl, rfl⟩
          · exact absurd (List.mem_map.mpr ⟨_, m, rfl⟩) hnew
          · exact ⟨h1, h2⟩
        | succ n => rw [hz] at e; simp at e
    · simp at hp
      rcases hp with hp | rfl
      · exact c.ok p hp
      · exact ⟨h0, by show lo ≤ hi; omega, h3⟩
theorem cast_w {μ : List MO} {i : Nat} {w : Int} {Q : RF → Prop} (h : Hand μ i) (hw : 0 < w) (hw2 : w ≤ 12) (q : ∀ fs sat μ', okFolk w fs → IsSat w fs sat → Hand μ' i → Q (.ok (.tup [.tup (fs.map per), satD sat]) μ')) : wD den__law_cast [.ref i, .int w] μ Q := by
  rw [den__law_cast, wD_runB, b__law_cast]
  simp [frame, pick]
  refine calls_w h (by omega) hw2 fun xs μ1 hx1 hx2 h1 => ?_
  simp [pick]
  refine draw_w h1 (by omega) (by omega) fun r μ2 hr0 hr1 h2 => ?_
  simp
  rw [ixL hr0 (by simpa using hr1)]
  simp
  obtain ⟨thin, hth⟩ : ∃ thin : Int, [D.int 0, D.int 0, D.int 1, D.int 3][r.toNat]'(by simp; omega) = .int thin := by
    have : r = 0 ∨ r = 1 ∨ r = 2 ∨ r = 3 := by omega
    rcases this with rfl | rfl | rfl | rfl <;> exact ⟨_, rfl⟩
  rw [hth]
  simp
  rw [wE_rg1 (by omega) (by omega), kS_ok]
  refine wforR (fun k s => ∃ fs sat a b c d e f g μ3, Casting w xs k fs sat ∧ Hand μ3 i ∧ s = ⟨[.val (.ref i), .val (.int w), .val (.lst (xs.map .str)), .own (.lst (sat.map seat)), .own (.lst (fs.map per)), .val (.int thin), a, b, c, d, e, f, g], μ3⟩)
    ⟨[], [], _, _, _, _, _, _, _, _, ⟨rfl, rfl, by simp, by simp, by simp⟩, h2, rfl⟩ (fun k s hk hI => ?_) (fun s hI => ?_)
  · obtain ⟨fs, sat, a, b, c, d, e, f, g, μ3, hc, h3, rfl⟩ := hI
    have hkx : k < xs.length := by omega
    have hsl : sat.length ≤ 12 := by rw [hc.len]; omega
    have hfl : fs.length ≤ 12 := by
      have := congrArg List.length hc.names
      rw [List.length_map] at this
      have h5 := List.length_filterMap_le id sat
      omega
    simp [pick]
    refine draw_w h3 (by omega) (by omega) fun l1 μ4 hl0 hl1 h4 => ?_
    simp [pick]
    refine draw_w h4 (by omega) (by omega) fun l2 μ5 hm0 hm1 h5 => ?_
    simp [pick]
    refine draw_w h5 (by omega) (by omega) fun wy μ6 hy0 hy1 h6 => ?_
    simp [-wE_ifD]
    refine wE_cut (fun d => ∃ lo : Int, d = .int lo ∧ 0 ≤ lo ∧ lo ≤ k) ?_ ?_
    · simp [in2, mulB]
      have hz : 0 ≤ l1 * (if 0 < wy then 1 else 0) := by split <;> omega
      split
      · omega
      · split <;> omega
    rintro _ ⟨lo, rfl, hlo0, hlo1⟩
    simp [-wE_ifD]
    refine wE_cut (fun d => ∃ hi : Int, d = .int hi ∧ k ≤ hi ∧ hi < w) ?_ ?_
    · simp [in2, mulB]
      have hz : 0 ≤ l2 * (if 0 < wy then 1 else 0) := by split <;> omega
      split
      · omega
      · split <;> omega
    rintro _ ⟨hi, rfl, hhi0, hhi1⟩
    simp [pick]
    refine draw_w h6 (by omega) (by omega) fun r6 μ7 hr60 hr61 h7 => ?_
    simp [-wE_ifD]
    generalize hb : decide (thin ≤ r6) = here
    refine wE_cut (fun d => d = seat (if here = true then some xs[k] else none)) ?_ ?_
    · simp
      cases here with
      | true =>
        simp
        rw [ixL (by omega) (by simp; omega)]
        simp [seat]
      | false => simp [seat]
    rintro _ rfl
    simp
    rw [wE_app rfl (by simp; omega)]
    simp
    rw [ixL (by omega) (by simp; omega)]
    simp [repB]
    rw [wE_ext rfl (by simp; cases here <;> simp <;> omega)]
    simp
    refine ⟨_, _, hc.next hkx (by omega) hx2.1 here hlo0 hlo1 hhi0 hhi1, h7, ?_, ?_⟩
    · simp
    · cases here <;> simp [per]
  · obtain ⟨fs, sat, a, b, c, d, e, f, g, μ3, hc, h3, rfl⟩ := hI
    simp
    have hs : (fs.map (·.1)).Sublist xs := hc.sub.trans (List.take_sublist _ _)
    refine q fs sat μ3 ⟨⟨hx2.1.sublist hs, fun x hx => hx2.2 x (hs.subset hx)⟩, hc.ok, ?_⟩ ⟨?_, by rw [hc.names], hc.on⟩ h3
    · have := hs.length_le
      rw [List.length_map] at this
      omega
    · rw [hc.len]; omega
theorem mem_seat (x : Str) : ∀ l : List (Option Str), memD (.str x) (l.map seat) = decide (some x ∈ l)
  | [] => by simp [memD, L2.inV]
  | o :: l => by
    have ih := mem_seat x l
    unfold memD L2.inV at ih ⊢
    rw [List.map_cons, List.map_cons, List.any_cons, ih]
    cases o with
    | none => simp [seat, toV, L2.eqV]
    | some y =>
      simp [seat, toV, L2.eqV]
      rw [Bool.eq_iff_iff]
      simp
      constructor
      · rintro (h | h)
        · exact .inl h.symm
        · exact .inr h
      · rintro (h | h)
        · exact .inl h.symm
        · exact .inr h
theorem flat_seat (l : List (Option Str)) : (l.map seat).all flatD = true := by
  rw [List.all_map, List.all_eq_true]
  intro o _
  cases o <;> rfl
theorem in_seat {x : Str} {l : List (Option Str)} {s : S} {Q : R D → Prop} : wE (inA false (.str x) (.tup (l.map seat))) s Q = Q (.ok (.bl (decide (some x ∈ l))) s) := by
  refine wE_of ?_
  show inD false (.str x) (.tup (l.map seat)) s = _
  unfold inD
  simp only [rsl, flat_seat, mem_seat]
  rfl
theorem sat_inj {x : Str} : ∀ {sat : List (Option Str)} {i j : Nat}, (sat.filterMap id).Nodup → sat[i]? = some (some x) → sat[j]? = some (some x) → i = j
  | [], i, j, _, h, _ => by simp at h
  | o :: sat, i, j, nd, h1, h2 => by
    have mem : ∀ k : Nat, sat[k]? = some (some x) → x ∈ sat.filterMap id := fun k h => List.mem_filterMap.mpr ⟨_, List.mem_of_getElem? h, rfl⟩
    have nd' : (sat.filterMap id).Nodup := by
      cases o with
      | none => simpa using nd
      | some y => simp at nd; exact nd.2
    have hd : ∀ k : Nat, o = some x → sat[k]? = some (some x) → False := fun k e h => by
      subst e
      simp only [List.filterMap_cons, id] at nd
      exact (List.nodup_cons.mp nd).1 (mem k h)
    match i, j with
    | 0, 0 => rfl
    | 0, j + 1 => exact (hd j (by simpa using h1) (by simpa using h2)).elim
    | i + 1, 0 => exact (hd i (by simpa using h2) (by simpa using h1)).elim
    | i + 1, j + 1 => rw [sat_inj (i := i) (j := j) nd' (by simpa using h1) (by simpa using h2)]
theorem IsSat.nodup {w : Int} {fs : Folk} {sat : List (Option Str)} (h : IsSat w fs sat) (hf : okFolk w fs) : (sat.filterMap id).Nodup := h.perm.nodup_iff.mpr hf.1.1
theorem IsSat.at {w : Int} {fs : Folk} {sat : List (Option Str)} (h : IsSat w fs sat) {p : Str × Int × Int} (hp : p ∈ fs) : ∃ i : Nat, sat[i]? = some (some p.1) := by
  have h1 : p.1 ∈ sat.filterMap id := h.perm.mem_iff.mpr (List.mem_map.mpr ⟨p, hp, rfl⟩)
  obtain ⟨o, h2, h3⟩ := List.mem_filterMap.mp h1
  have h3 : o = some p.1 := h3
  subst h3
  exact List.getElem?_of_mem h2
/-- the stretch cut to a window by those who sit in it -/
def shutP (lo hi : Int) (sat : List (Option Str)) (p : Str × Int × Int) : Str × Int × Int := if some p.1 ∈ (sat.take (hi + 1).toNat).drop lo.toNat then (p.1, max p.2.1 lo, min p.2.2 hi) else p
theorem shutP_fst {lo hi : Int} {sat : List (Option Str)} {p : Str × Int × Int} : (shutP lo hi sat p).1 = p.1 := by unfold shutP; split <;> rfl
theorem shut_ok {w lo hi : Int} {fs : Folk} {sat : List (Option Str)} (hf : okFolk w fs) (hs : IsSat w fs sat) (h0 : 0 ≤ lo) (h1 : lo ≤ hi) (h2 : hi < w) : okFolk w (fs.map (shutP lo hi sat)) ∧ IsSat w (fs.map (shutP lo hi sat)) sat := by
  have en : (fs.map (shutP lo hi sat)).map (·.1) = fs.map (·.1) := by
    rw [List.map_map]
    exact List.map_congr_left fun p _ => shutP_fst
  have key : ∀ p ∈ fs, ∀ j : Nat, sat[j]? = some (some p.1) → (shutP lo hi sat p).2.1 ≤ j ∧ (j : Int) ≤ (shutP lo hi sat p).2.2 ∧ 0 ≤ (shutP lo hi sat p).2.1 ∧ (shutP lo hi sat p).2.2 < w := fun p hp j hj => by
    have o1 := hs.on j p.1 p.2.1 p.2.2 hj hp
    have o2 := hf.2.1 p hp
    unfold okP at o2
    unfold shutP
    split
    · rename_i hm
      obtain ⟨k, hk⟩ := List.getElem?_of_mem hm
      rw [List.getElem?_drop, List.getElem?_take] at hk
      split at hk
      · have := sat_inj (hs.nodup hf) hk hj
        simp only
        omega
      · cases hk
    · omega
  refine ⟨⟨by rw [en]; exact hf.1, fun p hp => ?_, by rw [List.length_map]; exact hf.2.2⟩, ⟨hs.len, by rw [en]; exact hs.perm, fun j x lo' hi' e m => ?_⟩⟩
  · obtain ⟨q, hq, rfl⟩ := List.mem_map.mp hp
    obtain ⟨j, hj⟩ := hs.at hq
    have := key q hq j hj
    unfold okP
    omega
  · obtain ⟨q, hq, e2⟩ := List.mem_map.mp m
    have e3 : q.1 = x := by rw [← shutP_fst (lo := lo) (hi := hi) (sat := sat), e2]
    have := key q hq j (by rw [e3]; exact e)
    rw [e2] at this
    exact ⟨this.1, this.2.1⟩
theorem shuted_w {μ : List MO} {i : Nat} {w : Int} {fs : Folk} {sat : List (Option Str)} {Q : RF → Prop} (h : Hand μ i) (hw : 0 < w) (hw2 : w ≤ 12) (hf : okFolk w fs) (hs : IsSat w fs sat) (q : ∀ gs μ', okFolk w gs → IsSat w gs sat → Hand μ' i → Q (.ok (.tup (gs.map per)) μ')) : wD den__law_shuted [.ref i, .int w, .tup (fs.map per), satD sat] μ Q := by
  have hfl : fs.length ≤ 12 := by have := hf.2.2; omega
  rw [den__law_shuted, wD_runB, b__law_shuted]
  simp [frame, pick]
  refine draw_w h (by omega) (by omega) fun lo μ1 hlo0 hlo1 h1 => ?_
  simp [pick]
  refine draw_w h1 (by omega) (by omega) fun r μ2 hr0 hr1 h2 => ?_
  simp
  refine wfor per fs (fun l _ s => ∃ a b c d, s = ⟨[.val (.ref i), .val (.int w), .val (.tup (fs.map per)), .val (satD sat), .val (.int lo), .val (.int (lo + r)), .own (.lst ((l.map (shutP lo (lo + r) sat)).map per)), a, b, c, d], μ2⟩) ⟨_, _, _, _, rfl⟩ (fun l p rest s e hI => ?_) (fun s hI => ?_)
  · obtain ⟨a, b, c, d, rfl⟩ := hI
    have hll : l.length ≤ 12 := by
      have := congrArg List.length e
      simp at this
      omega
    simp [per, satD]
    rw [cutD_mid hlo0 (by omega), ← List.map_take, ← List.map_drop, in_seat]
    simp [-wE_ifD]
    refine wE_cut (fun d => d = per (shutP lo (lo + r) sat p)) ?_ ?_
    · simp [shutP]
      split <;> simp [per] <;> omega
    rintro _ rfl
    simp [per]
    rw [wE_app rfl (by simp; omega)]
    simp [per]
  · obtain ⟨a, b, c, d, rfl⟩ := hI
    simp
    obtain ⟨g1, g2⟩ := shut_ok (lo := lo) (hi := lo + r) hf hs hlo0 (by omega) (by omega)
    have := q _ μ2 g1 g2 h2
    simpa using this
theorem okFolk_perm {w : Int} {fs gs : Folk} (p : gs.Perm fs) (h : okFolk w fs) : okFolk w gs :=
  ⟨⟨(p.map (·.1)).nodup_iff.mpr h.1.1, fun x hx => h.1.2 x ((p.map (·.1)).mem_iff.mp hx)⟩, fun x hx => h.2.1 x (p.mem_iff.mp hx), by rw [p.length_eq]; exact h.2.2⟩
theorem IsSat.perm_of {w : Int} {fs gs : Folk} {sat : List (Option Str)} (p : gs.Perm fs) (h : IsSat w fs sat) : IsSat w gs sat :=
  ⟨h.len, h.perm.trans (p.map (·.1)).symm, fun i x lo hi e m => h.on i x lo hi e (p.mem_iff.mp m)⟩
theorem scene_w {μ : List MO} {i : Nat} {m : Int} {Q : RF → Prop} (h : Hand μ i) (hm : 0 < m) (hm2 : m ≤ 12) (q : ∀ w fs sat μ', 1 ≤ w → w ≤ m → okFolk w fs → IsSat w fs sat → Hand μ' i → Q (.ok (.tup [.int w, .tup (fs.map per), satD sat]) μ')) : wD den__law_scene [.ref i, .int m] μ Q := by
  rw [den__law_scene, wD_runB, b__law_scene]
  simp [frame, pick]
  refine draw_w h (by omega) (by omega) fun r μ1 hr0 hr1 h1 => ?_
  simp [pick]
  refine cast_w h1 (by omega) (by omega) fun fs sat μ2 hf hs h2 => ?_
  simp [-wS_sif]
  have es : ∀ s Q, wE (Bx.settle (satD sat)) s Q = Q (.ok (satD sat) s) := fun _ _ => rfl
  refine wS_cutN (fun s => ∃ gs μ3, okFolk (1 + r) gs ∧ IsSat (1 + r) gs sat ∧ Hand μ3 i ∧ s = ⟨[.val (.ref i), .val (.int m), .val (.int (1 + r)), .val (.tup (gs.map per)), .val (satD sat), .no], μ3⟩) ?_ ?_
  · simp [pick]
    refine draw_w h2 (by omega) (by omega) fun r2 μ3 hr20 hr21 h3 => ?_
    simp
    split
    · simp [es, pick]
      refine shuted_w h3 (by omega) (by omega) hf hs fun gs μ4 g1 g2 h4 => ?_
      simp
      exact ⟨gs, g1, g2, h4, rfl⟩
    · exact ⟨fs, hf, hs, h3, rfl⟩
  · rintro _ ⟨gs, μ3, hf, hs, h3, rfl⟩
    have hfl : gs.length ≤ 12 := by have := hf.2.2; omega
    simp [pick]
    refine draw_w h3 (by omega) (by omega) fun t μ4 ht0 ht1 h4 => ?_
    simp
    rw [cutD_drop ht0, cutD_take ht0, wE_addT (by simp; omega)]
    simp [es]
    rw [← List.map_drop, ← List.map_take, ← List.map_append]
    have p : (gs.drop t.toNat ++ gs.take t.toNat).Perm gs := List.perm_append_comm.trans (by rw [List.take_append_drop])
    exact q _ _ _ _ (by omega) (by omega) (okFolk_perm p hf) (hs.perm_of p) h4
theorem whole_ok (n : Int) (μ : List MO) : den_is_whole [.int n] μ = .ok (.bl true) μ := by
  rfl
theorem isi_str (x : Str) (s : S) : isiD isC (.str x) (.ty "str") s = .ok (.bl true) s := by rfl
theorem isi_tup (x : List D) (s : S) : isiD isC (.tup x) (.ty "tuple") s = .ok (.bl true) s := by rfl
theorem isi_bench (fs : List (Str × D)) (s : S) : isiD isC (.obj "Bench" fs) (.glo "Bench") s = .ok (.bl true) s := by
  unfold isiD
  simp [isC, rsl]
theorem bls_true : ∀ (xs : List Nat), blsD (xs.map fun _ => D.bl true) = some (xs.map fun _ => true)
  | [] => rfl
  | x :: r => by simp [blsD, bls_true r]
theorem name_ok {x : Str} (h : okName x) (μ : List MO) : den_is_name [.str x] μ = .ok (.bl true) μ := by
  obtain ⟨l, rfl, h1, h2, h3⟩ := h
  rw [den_is_name, runB_ap, b_is_name]
  have e0 : lenD (.str (T l)) ⟨[.val (.str (T l)), .no], μ⟩ = .ok (.int l.length) ⟨[.val (.str (T l)), .no], μ⟩ := by
    unfold lenD
    simp [rsl]
    omega
  have e1 : sif (orT (notT (truth (bnd (margs [var 0, con (.ty "str")]) (f2 (isiD isC))))) (notT (tru (chain leD leD (con (.int 1)) (bnd (margs [var 0]) (f1 lenD)) (con (.int 6)))))) (sret (con (.bl false))) (skip) ⟨frame 2 [.str (T l)], μ⟩ = .nx ⟨[.val (.str (T l)), .no], μ⟩ := by
    have g1 : (1 : Int) ≤ l.length := by omega
    have g2 : (l.length : Int) ≤ 6 := by omega
    simp [frame, orT, notT, truth, truthD, rsl, var, isi_str, tru, chain, e0, g1, g2]
  have e2 := cloop_pure (vs := [1]) (asg := Tgt.asg (.name 1)) (t := yes) (el := Bx.bin (inA false) (var 1) (con (.str "abcdefghijklmnopqrstuvwxyz"))) (s0 := ⟨[.val (.str (T l)), .no], μ⟩) (fun _ => true) (fun _ => .bl true) (l.map fun c => .str (T [c])) [] (by simp; omega) (fun d hd => by
    obtain ⟨c, hc, rfl⟩ := List.mem_map.mp hd
    refine ⟨⟨[.val (.str (T l)), .val (.str (T [c]))], μ⟩, ⟨[.val (.str (T l)), .val (.str (T [c]))], μ⟩, rfl, rfl, fun z => Bool.noConfusion z, fun _ => ⟨⟨[.val (.str (T l)), .val (.str (T [c]))], μ⟩, ?_, rfl⟩⟩
    rw [abc_eq]
    have hm : c ∈ abc := by
      obtain ⟨q1, q2⟩ := h3 c hc
      exact List.mem_map.mpr ⟨c - 97, by simp; omega, by omega⟩
    show Bx.R.bind (.ok (.bl (decide (c ∈ abc))) _) Bx.settle = _
    rw [decide_eq_true hm]
    rfl)
  rw [sq_ap, e1, thn_nx, sret_ap, stl_ap, bnd_ap, margs_cons, mcomp_ap]
  have e3 : mits (var 0) ⟨[.val (.str (T l)), .no], μ⟩ = .ok (l.map fun c => .str (T [c])) ⟨[.val (.str (T l)), .no], μ⟩ := rfl
  have e4 : wipeS [1] ⟨[.val (.str (T l)), .no], μ⟩ = ⟨[.val (.str (T l)), .no], μ⟩ := rfl
  have e5 : ((l.map fun c => D.str (T [c])).filter fun _ => true) = l.map fun c => D.str (T [c]) := List.filter_eq_self.mpr fun _ _ => rfl
  rw [e3, bind_ok, e4, e2, e5, e4, List.map_map, List.nil_append]
  simp only [bind_ok, bnd_ap, margs_nil, pur_ap, f1_ap]
  unfold allD
  simp only [rsl]
  have e6 : blsD (l.map ((fun _ => D.bl true) ∘ fun c => D.str (T [c]))) = some (l.map fun _ => true) := bls_true l
  rw [e6]
  simp
theorem seat_ok {n w : Int} (h0 : 0 ≤ n) (h1 : n < w) (μ : List MO) : den_is_seat [.int n, .int w] μ = .ok (.bl true) μ := by
  rw [den_is_seat, runB_ap, b_is_seat]
  simp [frame, andD, var, pick, callD, whole_ok, chain, h0, h1]
theorem stretch_ok {lo hi w : Int} (h0 : 0 ≤ lo) (h1 : lo ≤ hi) (h2 : hi < w) (μ : List MO) : den_is_stretch [.tup [.int lo, .int hi], .int w] μ = .ok (.bl true) μ := by
  rw [den_is_stretch, runB_ap, b_is_stretch]
  have e1 : sif (orT (notT (truth (bnd (margs [var 0, con (.ty "tuple")]) (f2 (isiD isC))))) (tru (Bx.bin neD (bnd (margs [var 0]) (f1 lenD)) (con (.int 2))))) (sret (con (.bl false))) (skip) ⟨frame 4 [.tup [.int lo, .int hi], .int w], μ⟩ = .nx ⟨frame 4 [.tup [.int lo, .int hi], .int w], μ⟩ := by rfl
  rw [sq_ap, e1, thn_nx, sq_ap]
  have e2 : sasg (gtup [2, 3]) (var 0) ⟨frame 4 [.tup [.int lo, .int hi], .int w], μ⟩ = .nx ⟨[.val (.tup [.int lo, .int hi]), .val (.int w), .val (.int lo), .val (.int hi)], μ⟩ := rfl
  rw [e2, thn_nx]
  have s1 := seat_ok (n := lo) (w := w) h0 (by omega) μ
  have s2 := seat_ok (n := hi) (w := w) (by omega) h2 μ
  simp [andD, var, pick, callD, s1, s2, h1]
theorem person_ok {p : Str × Int × Int} {w : Int} (hn : okName p.1) (hp : okP w p) (μ : List MO) : den_is_person [per p, .int w] μ = .ok (.bl true) μ := by
  obtain ⟨x, lo, hi⟩ := p
  obtain ⟨h0, h1, h2⟩ := hp
  rw [den_is_person, runB_ap, b_is_person]
  have e1 : sif (orT (notT (truth (bnd (margs [var 0, con (.ty "tuple")]) (f2 (isiD isC))))) (tru (Bx.bin neD (bnd (margs [var 0]) (f1 lenD)) (con (.int 3))))) (sret (con (.bl false))) (skip) ⟨frame 4 [per (x, lo, hi), .int w], μ⟩ = .nx ⟨frame 4 [per (x, lo, hi), .int w], μ⟩ := by rfl
  have e2 : sasg (gstar 1 [2, 3]) (var 0) ⟨frame 4 [per (x, lo, hi), .int w], μ⟩ = .nx ⟨[.val (per (x, lo, hi)), .val (.int w), .val (.str x), .val (.lst [.int lo, .int hi])], μ⟩ := rfl
  rw [sq_ap, e1, thn_nx, sq_ap, e2, thn_nx]
  have s1 := name_ok hn μ
  have s2 := stretch_ok h0 h1 h2 μ
  simp at s1 s2
  simp [andD, var, pick, callD, s1, s2, tupleD, rsl]
def stF (ps : List D) (w : Int) (ks : List L2.Key) (a b : Sl) (μ : List MO) : S := ⟨[.val (.tup ps), .val (.int w), .own (.set ks), a, b], μ⟩
def turnF : MS := sq (sif (orT (notT (truth (callK den_is_person [0, 1] [] (mal [var 4, var 1]) (mal [])))) (tru (Bx.bin (inA false) (Bx.bin ixD (var 4) (con (.int 0))) (var 2)))) (sret (var 3)) (skip))
  (sexpr (msadd (var 2) (Bx.bin ixD (var 4) (con (.int 0)))))
theorem has_not {ks : List Str} {x : Str} (h : x ∉ ks) : hasK (ks.map Sum.inr) (.inr x) = false := by
  unfold hasK
  rw [List.any_map, List.any_eq_false]
  intro y hy
  simp
  exact fun z => h (z ▸ hy)
theorem turnF_ok {ps : List D} {w n : Int} {ks : List Str} {p : Str × Int × Int} {μ : List MO} (hn : okName p.1) (hp : okP w p) (hk : p.1 ∉ ks) (hl : ks.length < 100) :
    turnF (stF ps w (ks.map Sum.inr) (.val (.int n)) (.val (per p)) μ) = .nx (stF ps w ((ks ++ [p.1]).map Sum.inr) (.val (.int n)) (.val (per p)) μ) := by
  have e1 : Bx.bin ixD (var 4) (con (.int 0)) (stF ps w (ks.map Sum.inr) (.val (.int n)) (.val (per p)) μ) = .ok (.str p.1) (stF ps w (ks.map Sum.inr) (.val (.int n)) (.val (per p)) μ) := rfl
  have e2 : callK den_is_person [0, 1] [] (mal [var 4, var 1]) (mal []) (stF ps w (ks.map Sum.inr) (.val (.int n)) (.val (per p)) μ) = .ok (.bl true) (stF ps w (ks.map Sum.inr) (.val (.int n)) (.val (per p)) μ) := by
    rw [callK_ap]
    show callD den_is_person [per p, .int w] (stF ps w (ks.map Sum.inr) (.val (.int n)) (.val (per p)) μ) = _
    rw [callD_ok (person_ok hn hp μ)]
    rfl
  have e3 : Bx.bin (inA false) (Bx.bin ixD (var 4) (con (.int 0))) (var 2) (stF ps w (ks.map Sum.inr) (.val (.int n)) (.val (per p)) μ) = .ok (.bl false) (stF ps w (ks.map Sum.inr) (.val (.int n)) (.val (per p)) μ) := by
    have g1 : var 2 (stF ps w (ks.map Sum.inr) (.val (.int n)) (.val (per p)) μ) = .ok (.loc 2) (stF ps w (ks.map Sum.inr) (.val (.int n)) (.val (per p)) μ) := rfl
    have g2 : (stF ps w (ks.map Sum.inr) (.val (.int n)) (.val (per p)) μ).mo (.loc 2) = some (.set (ks.map Sum.inr)) := rfl
    rw [bin_ap, e1, bind_ok, bnd_ap, g1, bind_ok]
    unfold inA
    simp only [g2, keyD, has_not hk]
    rfl
  unfold turnF
  have e4 : sif (orT (notT (truth (callK den_is_person [0, 1] [] (mal [var 4, var 1]) (mal [])))) (tru (Bx.bin (inA false) (Bx.bin ixD (var 4) (con (.int 0))) (var 2)))) (sret (var 3)) (skip) (stF ps w (ks.map Sum.inr) (.val (.int n)) (.val (per p)) μ) = .nx (stF ps w (ks.map Sum.inr) (.val (.int n)) (.val (per p)) μ) := by
    rw [sif_ap]
    unfold orT notT truth
    rw [bnd_ap, bnd_ap, bnd_ap, e2]
    simp only [bind_ok, truthD, rsl, pur_ap, Bool.not_true, Bool.false_eq_true, if_false, tru_bl e3, toS_ok]
    rfl
  rw [sq_ap, e4, thn_nx, sexpr_ap]
  have e5 : msadd (var 2) (Bx.bin ixD (var 4) (con (.int 0))) (stF ps w (ks.map Sum.inr) (.val (.int n)) (.val (per p)) μ) = .ok .non (stF ps w ((ks ++ [p.1]).map Sum.inr) (.val (.int n)) (.val (per p)) μ) := by
    unfold msadd
    have g1 : var 2 (stF ps w (ks.map Sum.inr) (.val (.int n)) (.val (per p)) μ) = .ok (.loc 2) (stF ps w (ks.map Sum.inr) (.val (.int n)) (.val (per p)) μ) := rfl
    have g2 : chk isSet (.loc 2) (stF ps w (ks.map Sum.inr) (.val (.int n)) (.val (per p)) μ) = .ok (.loc 2) (stF ps w (ks.map Sum.inr) (.val (.int n)) (.val (per p)) μ) := rfl
    have g3 : (stF ps w (ks.map Sum.inr) (.val (.int n)) (.val (per p)) μ).mo (.loc 2) = some (.set (ks.map Sum.inr)) := rfl
    rw [bnd_ap, g1, bind_ok, bnd_ap, g2, bind_ok, bnd_ap, mal_cons, e1]
    simp only [bind_ok, settle_str, bnd_ap, mal_nil, pur_ap, on1_ap]
    unfold sadD
    simp only [g3, keyD]
    rw [if_pos (by rw [List.length_map]; omega)]
    unfold addK
    rw [has_not hk]
    simp
    rfl
  rw [e5]
  rfl
theorem odd_loop {ps : List D} {w : Int} : ∀ (fs : Folk) (i : Nat) (ks : List Str) (a b : Sl) (μ : List MO), (∀ p ∈ fs, okName p.1 ∧ okP w p) → (ks ++ fs.map (·.1)).Nodup → ks.length + fs.length < 100 → ∃ ks' a' b', floop (gtup [3, 4]) turnF (nums i (fs.map per)) (stF ps w (ks.map Sum.inr) a b μ) = .nx (stF ps w ks' a' b' μ)
  | [], i, ks, a, b, μ, _, _, _ => ⟨_, a, b, rfl⟩
  | p :: fs, i, ks, a, b, μ, hp, nd, hl => by
    rw [List.length_cons] at hl
    have hk : p.1 ∉ ks := fun z => by
      rw [List.map_cons, List.nodup_append] at nd
      exact nd.2.2 _ z _ (List.mem_cons_self ..) rfl
    obtain ⟨ks', a', b', e⟩ := odd_loop (ps := ps) (w := w) fs (i + 1) (ks ++ [p.1]) (.val (.int i)) (.val (per p)) μ (fun q hq => hp q (List.mem_cons_of_mem _ hq)) (by rw [List.append_assoc]; exact nd) (by rw [List.length_append, List.length_singleton]; omega)
    refine ⟨ks', a', b', ?_⟩
    have hq := hp p (List.mem_cons_self ..)
    rw [List.map_cons, nums, floop_cons (s1 := stF ps w (ks.map Sum.inr) (.val (.int i)) (.val (per p)) μ) rfl (turnF_ok hq.1 hq.2 hk (by omega)), e]
theorem odd_ok {w : Int} {fs : Folk} (h : okFolk w fs) (hw2 : w ≤ 12) (μ : List MO) : den_first_odd [.tup (fs.map per), .int w] μ = .ok .non μ := by
  obtain ⟨⟨n1, n2⟩, hp, hl⟩ := h
  obtain ⟨ks', a', b', e⟩ := odd_loop (ps := fs.map per) (w := w) fs 0 [] .no .no μ (fun p hm => ⟨n2 _ (List.mem_map.mpr ⟨p, hm, rfl⟩), hp p hm⟩) n1 (by simp; omega)
  rw [den_first_odd, runB_ap, b_first_odd]
  have e1 : ssetO 2 nset ⟨frame 5 [.tup (fs.map per), .int w], μ⟩ = .nx (stF (fs.map per) w [] .no .no μ) := rfl
  have e2 : menum (var 0) (stF (fs.map per) w [] .no .no μ) = .ok (nums 0 (fs.map per)) (stF (fs.map per) w [] .no .no μ) := rfl
  rw [sq_ap, e1, thn_nx, sq_ap, sfor_ap, e2, toS_ok]
  show ((floop (gtup [3, 4]) turnF (nums 0 (fs.map per)) (stF (fs.map per) w [] .no .no μ)).thn _).fin = _
  have e' : floop (gtup [3, 4]) turnF (nums 0 (fs.map per)) (stF (fs.map per) w [] .no .no μ) = .nx (stF (fs.map per) w ks' a' b' μ) := e
  rw [e']
  rfl
def benchD (w : Int) (fs : Folk) : D := .obj "Bench" [("seats", .int w), ("people", .tup (fs.map per))]
theorem init_ok {w : Int} {fs : Folk} (h : okFolk w fs) (hw : 0 < w) (hw2 : w ≤ 12) (x dx : Addr) (μ : List MO) : den_Bench_init x dx [.int w, .tup (fs.map per)] μ = .ok [("seats", .int w), ("people", .tup (fs.map per))] μ := by
  have ho := odd_ok h hw2 μ
  have hl := h.2.2
  refine blindOf_ok fun x dx => ?_
  unfold runI b_Bench_init
  simp [frameI, frame, orT, notT, truth, truthD, rsl, var, pick, callD, whole_ok, tru, chain, hw2, show (1 : Int) ≤ w by omega, isi_tup, lenD, show ¬ w < (fs.length : Int) by omega, ho, S.put, notND, sfld, setF, S.mo, S.mut, putD, slfOf]
  decide
theorem okName_asc {x : Str} (h : okName x) : asc x = true ∧ x.length ≤ 6 := by
  obtain ⟨l, rfl, h1, h2, h3⟩ := h
  refine ⟨?_, by rw [T_len]; exact h2⟩
  unfold asc
  rw [T_cps, List.all_eq_true]
  intro c hc
  have := h3 c hc
  unfold low1 at this
  exact decide_eq_true (by omega)
theorem wE_bench {w : Int} {fs : Folk} {s : S} {Q : R D → Prop} : wE (Bx.settle (benchD w fs)) s Q = Q (.ok (benchD w fs) s) := id rfl
theorem wE_sat {sat : List (Option Str)} {s : S} {Q : R D → Prop} : wE (Bx.settle (satD sat)) s Q = Q (.ok (satD sat) s) := id rfl
theorem fld_seats {w : Int} {fs : Folk} {s : S} {Q : R D → Prop} : wE (fldD "Bench" "seats" (benchD w fs)) s Q = Q (.ok (.int w) s) := by
  refine wE_of ?_
  unfold fldD
  simp [objOf, benchD, rsl, lookD]
theorem fld_people {w : Int} {fs : Folk} {s : S} {Q : R D → Prop} : wE (fldD "Bench" "people" (benchD w fs)) s Q = Q (.ok (.tup (fs.map per)) s) := by
  have e1 : ((Str.ofString "people") = Str.ofString "seats") = False := by decide
  refine wE_of ?_
  unfold fldD
  simp [objOf, benchD, rsl, lookD, e1]
theorem isi_benchW {w : Int} {fs : Folk} {s : S} {Q : R D → Prop} : wE (isiD isC (benchD w fs) (.glo "Bench")) s Q = Q (.ok (.bl true) s) := wE_of (isi_bench _ _)
theorem isi_tupW {xs : List D} {s : S} {Q : R D → Prop} : wE (isiD isC (.tup xs) (.ty "tuple")) s Q = Q (.ok (.bl true) s) := wE_of (isi_tup _ _)
theorem isi_strW {x : Str} {s : S} {Q : R D → Prop} : wE (isiD isC (.str x) (.ty "str")) s Q = Q (.ok (.bl true) s) := wE_of (isi_str _ _)
theorem checkedB_w {w : Int} {fs : Folk} {μ : List MO} {Q : RF → Prop} : wD den_checked_bench [benchD w fs] μ Q = Q (.ok (benchD w fs) μ) := by
  refine wD_of (of_wD (P := fun r => r = .ok (benchD w fs) μ) ?_)
  rw [den_checked_bench, wD_runB, b_checked_bench]
  simp [frame, isi_benchW, wE_bench]
theorem make_w {w : Int} {fs : Folk} (h : okFolk w fs) (hw : 0 < w) (hw2 : w ≤ 12) {ρ : List Sl} {μ : List MO} {Q : R D → Prop} : wE (makeD "Bench" den_Bench_init [.int w, .tup (fs.map per)]) ⟨ρ, μ⟩ Q = Q (.ok (benchD w fs) ⟨ρ, μ⟩) := wE_make (init_ok h hw hw2 0 0 μ)
def rKds (fs : Folk) : List (L2.Key × D) := fs.map fun p => (.inr p.1, .tup [.int p.2.1, .int p.2.2])
def reachD (fs : Folk) : D := .dct (rKds fs)
theorem wE_reach {fs : Folk} {s : S} {Q : R D → Prop} : wE (Bx.settle (reachD fs)) s Q = Q (.ok (reachD fs) s) := id rfl
theorem rKds_keys (fs : Folk) : (rKds fs).map (·.1) = (fs.map (·.1)).map Sum.inr := by
  unfold rKds
  rw [List.map_map, List.map_map]
  rfl
theorem inr_nodup : ∀ {xs : List Str}, xs.Nodup → (xs.map (Sum.inr : Str → L2.Key)).Nodup
  | [], _ => List.nodup_nil
  | x :: r, h => by
    rw [List.nodup_cons] at h
    rw [List.map_cons, List.nodup_cons]
    refine ⟨fun z => ?_, inr_nodup h.2⟩
    obtain ⟨y, h1, h2⟩ := List.mem_map.mp z
    cases h2
    exact h.1 h1
theorem reach_w {w : Int} {fs : Folk} (h : okFolk w fs) (hw2 : w ≤ 12) {μ : List MO} {Q : RF → Prop} : wD den_reach_of [.tup (fs.map per)] μ Q = Q (.ok (reachD fs) μ) := by
  have hl : fs.length ≤ 12 := by have := h.2.2; omega
  refine wD_of (of_wD (P := fun r => r = .ok (reachD fs) μ) ?_)
  rw [den_reach_of, wD_runB, b_reach_of]
  simp [frame]
  refine wdcomp per fs (fun p => .inr p.1) (fun p => .tup [.int p.2.1, .int p.2.2]) rfl (by omega) ?_ (fun p hp => ?_) ?_
  · have := inr_nodup h.1.1
    rwa [List.map_map] at this
  · simp [per, keyD]
  · simp
    rfl
theorem look_in {fs : Folk} (nd : (fs.map (·.1)).Nodup) {x : Str} {lo hi : Int} (h : (x, lo, hi) ∈ fs) : lookK (.inr x) (rKds fs) = some (.tup [.int lo, .int hi]) := by
  induction fs with
  | nil => cases h
  | cons p r ih =>
    rw [List.map_cons, List.nodup_cons] at nd
    unfold rKds
    rw [List.map_cons, lookK]
    rcases List.mem_cons.mp h with e | h
    · subst e
      rw [if_pos rfl]
    · rw [if_neg (fun z => nd.1 (by cases z; exact List.mem_map.mpr ⟨_, h, rfl⟩))]
      exact ih nd.2 h
/-- its stretch -/
theorem IsSat.stretch {w : Int} {fs : Folk} {sat : List (Option Str)} (h : IsSat w fs sat) {i : Nat} {x : Str} (e : sat[i]? = some (some x)) : ∃ lo hi, (x, lo, hi) ∈ fs ∧ lo ≤ i ∧ (i : Int) ≤ hi := by
  have h1 : x ∈ fs.map (·.1) := h.perm.mem_iff.mp (List.mem_filterMap.mpr ⟨_, List.mem_of_getElem? e, rfl⟩)
  obtain ⟨⟨y, lo, hi⟩, h2, rfl⟩ := List.mem_map.mp h1
  exact ⟨lo, hi, h2, h.on i _ lo hi e h2⟩
theorem names_data {xs : List Str} (h : ∀ x ∈ xs, okName x) : okS (.lst (xs.map .str)) = true ∧ dpt (.lst (xs.map .str)) ≤ 1 := by
  refine ⟨okSL_all.mpr fun d hd => ?_, ?_⟩
  · obtain ⟨x, hx, rfl⟩ := List.mem_map.mp hd
    exact (okName_asc (h x hx)).1
  · have h3 := dptL_le (n := 0) (ds := xs.map D.str) fun d hd => by
      obtain ⟨x, hx, rfl⟩ := List.mem_map.mp hd
      exact Nat.le_refl _
    show dptL (xs.map .str) + 1 ≤ 1
    omega
theorem isSat_w {w : Int} {fs : Folk} {sat : List (Option Str)} (hf : okFolk w fs) (hw2 : w ≤ 12) (hs : IsSat w fs sat) {μ : List MO} {Q : RF → Prop} : wD den_is_seating [benchD w fs, satD sat] μ Q = Q (.ok (.bl true) μ) := by
  have hl : fs.length ≤ 12 := by have := hf.2.2; omega
  have hsl := hs.len
  refine wD_of (of_wD (P := fun r => r = .ok (.bl true) μ) ?_)
  rw [den_is_seating, wD_runB, b_is_seating]
  simp [frame, pick, wE_bench, checkedB_w, satD, isi_tupW, fld_seats, fld_people, hsl, reach_w hf hw2, wE_reach]
  refine wforE seat sat (fun k s => ∃ a b c d, s = ⟨[.val (benchD w fs), .val (satD sat), .val (reachD fs), .own (.lst (((sat.take k).filterMap id).map .str)), a, b, c, d], μ⟩) ⟨_, _, _, _, rfl⟩ (fun k hk s hI => ?_) (fun s hI => ?_)
  · obtain ⟨a, b, c, d, rfl⟩ := hI
    have htk : sat.take (k + 1) = sat.take k ++ [sat[k]] := by rw [List.take_succ_eq_append_getElem hk]
    simp
    cases ho : sat[k] with
    | none =>
      simp [htk, ho]
    | some x =>
      obtain ⟨lo, hi, hm, h1, h2⟩ := hs.stretch (i := k) (x := x) (by rw [List.getElem?_eq_getElem hk, ho])
      have hlk := look_in hf.1.1 hm
      have hkl : ((sat.take k).filterMap id).length ≤ 12 := by
        have := List.length_filterMap_le id (sat.take k)
        rw [List.length_take] at this
        omega
      simp [seat, isi_strW, reachD, wE_inK (k := .inr x) (e := .str x) rfl, hlk, wE_dget (k := .inr x) (e := .str x) rfl hlk, h1, h2]
      rw [wE_app rfl (by rw [List.length_map]; omega)]
      simp [htk, ho]
  · obtain ⟨a, b, c, d, rfl⟩ := hI
    have hfl : (sat.filterMap id).length ≤ 12 := by rw [hs.perm.length_eq, List.length_map]; exact hl
    have hn : ∀ x ∈ sortS (fs.map (·.1)), okName x := fun x hx => hf.1.2 x ((sortS_perm _).mem_iff.mp hx)
    obtain ⟨d1, d2⟩ := names_data hn
    simp [reachD]
    rw [sortD_own (xs := sat.filterMap id) rfl (by omega)]
    simp
    rw [sortK_strs (rKds_keys fs) (by rw [List.length_map]; omega), sortS_congr hs.perm]
    simp [wE_of (eq_self _ d1 (by omega))]
theorem checked_w {w : Int} {fs : Folk} {sat : List (Option Str)} (hf : okFolk w fs) (hw2 : w ≤ 12) (hs : IsSat w fs sat) {μ : List MO} {Q : RF → Prop} : wD den_checked [benchD w fs, satD sat] μ Q = Q (.ok (satD sat) μ) := by
  refine wD_of (of_wD (P := fun r => r = .ok (satD sat) μ) ?_)
  rw [den_checked, wD_runB, b_checked]
  simp [frame, pick, wE_bench, wE_sat, isSat_w hf hw2 hs]
abbrev Sat := List (Option Str)
section
variable {w : Int} {fs : Folk} {sat : Sat}
theorem IsSat.names (hs : IsSat w fs sat) (hf : okFolk w fs) : ∀ x, some x ∈ sat → okName x := fun x hx => hf.1.2 x (hs.perm.mem_iff.mp (List.mem_filterMap.mpr ⟨_, hx, rfl⟩))
end
def rch (fs : Folk) (x : Str) : Int × Int := ((fs.find? fun p => decide (p.1 = x)).map (·.2)).getD (0, 0)
theorem rch_eq {fs : Folk} (nd : (fs.map (·.1)).Nodup) {x : Str} {lo hi : Int} (h : (x, lo, hi) ∈ fs) : rch fs x = (lo, hi) := by
  unfold rch
  induction fs with
  | nil => cases h
  | cons p r ih =>
    rw [List.map_cons, List.nodup_cons] at nd
    rw [List.find?_cons]
    rcases List.mem_cons.mp h with e | h
    · subst e; simp
    · have ne : p.1 ≠ x := fun z => nd.1 (by rw [z]; exact List.mem_map.mpr ⟨_, h, rfl⟩)
      rw [decide_eq_false ne]
      exact ih nd.2 h
def leftOk (fs : Folk) (o : Option Str) (k : Nat) : Bool := match o with
  | some x => decide ((k : Int) < (rch fs x).2)
  | none => true
def rightOk (fs : Folk) (o : Option Str) (k : Nat) : Bool := match o with
  | some x => decide ((rch fs x).1 ≤ (k : Int))
  | none => true
def may (fs : Folk) (sat : Sat) (k : Nat) : Bool := match sat[k]?, sat[k + 1]? with
  | some a, some b => (a.isSome || b.isSome) && (leftOk fs a k && rightOk fs b k)
  | _, _ => false
def swp {α : Type} (sat : List α) (k : Nat) : List α := match sat[k]?, sat[k + 1]? with
  | some a, some b => (sat.set k b).set (k + 1) a
  | _, _ => sat
section
variable {α : Type} {sat : List α} {k : Nat}
theorem swp_len : (swp sat k).length = sat.length := by
  unfold swp
  split <;> simp
theorem swp_get (h : k + 1 < sat.length) (i : Nat) : (swp sat k)[i]? = sat[if i = k then k + 1 else if i = k + 1 then k else i]? := by
  unfold swp
  rw [List.getElem?_eq_getElem (show k < sat.length by omega), List.getElem?_eq_getElem h]
  simp only
  by_cases h1 : i = k + 1
  · subst h1
    rw [List.getElem?_set_self (by simpa using h), if_neg (by omega), if_pos rfl, List.getElem?_eq_getElem]
  · rw [List.getElem?_set_ne (fun z => h1 z.symm)]
    by_cases h2 : i = k
    · subst h2
      rw [List.getElem?_set_self (by omega), if_pos rfl, List.getElem?_eq_getElem h]
    · rw [List.getElem?_set_ne (fun z => h2 z.symm), if_neg h2, if_neg h1]
theorem swp_swp (h : k + 1 < sat.length) : swp (swp sat k) k = sat := by
  apply List.ext_getElem?
  intro i
  rw [swp_get (by rw [swp_len]; exact h), swp_get h]
  congr 1
  split <;> split <;> (try split) <;> omega
theorem swp_split {l r : List α} {a b : α} : swp (l ++ a :: b :: r) l.length = l ++ b :: a :: r := by
  unfold swp
  rw [List.getElem?_append_right (Nat.le_refl _), List.getElem?_append_right (Nat.le_succ _)]
  simp
theorem sat_split (h : k + 1 < sat.length) : ∃ l r a b, l.length = k ∧ sat = l ++ a :: b :: r := by
  refine ⟨sat.take k, sat.drop (k + 2), sat[k], sat[k + 1], by rw [List.length_take]; omega, ?_⟩
  rw [← List.drop_eq_getElem_cons h, ← List.drop_eq_getElem_cons (show k < sat.length by omega), List.take_append_drop]
theorem swp_perm (h : k + 1 < sat.length) : (swp sat k).Perm sat := by
  obtain ⟨l, r, a, b, rfl, rfl⟩ := sat_split h
  rw [swp_split]
  exact List.Perm.append_left l (List.Perm.swap a b r)
end
theorem may_lt {fs : Folk} {sat : Sat} {k : Nat} (h : may fs sat k = true) : k + 1 < sat.length := by
  unfold may at h
  by_cases hk : k + 1 < sat.length
  · exact hk
  · rw [List.getElem?_eq_none (i := k + 1) (by omega)] at h
    cases hz : sat[k]? <;> rw [hz] at h <;> cases h
theorem may_at {fs : Folk} {sat : Sat} {k : Nat} (h : k + 1 < sat.length) : may fs sat k = ((sat[k].isSome || sat[k + 1].isSome) && (leftOk fs sat[k] k && rightOk fs sat[k + 1] k)) := by
  unfold may
  rw [List.getElem?_eq_getElem (show k < sat.length by omega), List.getElem?_eq_getElem h]
/-- at two seats of a seating -/
theorem IsSat.left {w : Int} {fs : Folk} {sat : Sat} (hs : IsSat w fs sat) (hf : okFolk w fs) {i : Nat} {x : Str} (e : sat[i]? = some (some x)) : (x, (rch fs x).1, (rch fs x).2) ∈ fs ∧ (rch fs x).1 ≤ i ∧ (i : Int) ≤ (rch fs x).2 := by
  obtain ⟨lo, hi, h1, h2, h3⟩ := hs.stretch e
  have e2 := rch_eq hf.1.1 h1
  rw [e2]
  exact ⟨h1, h2, h3⟩
theorem IsSat.swap {w : Int} {fs : Folk} {sat : Sat} (hs : IsSat w fs sat) (hf : okFolk w fs) {k : Nat} (h : may fs sat k = true) : IsSat w fs (swp sat k) := by
  have hk := may_lt h
  rw [may_at hk, Bool.and_eq_true, Bool.and_eq_true] at h
  refine ⟨by rw [swp_len]; exact hs.len, ((swp_perm hk).filterMap id).trans hs.perm, fun i x lo hi e m => ?_⟩
  rw [swp_get hk] at e
  have er := rch_eq hf.1.1 m
  have e1 := hs.left hf e
  rw [er] at e1
  split at e
  · rename_i hi'
    subst hi'
    rw [if_pos rfl] at e1
    have h2 := h.2.2
    rw [List.getElem?_eq_getElem hk] at e
    rw [Option.some.inj e] at h2
    unfold rightOk at h2
    simp [er] at h2
    omega
  · split at e
    · rename_i hn hi'
      subst hi'
      rw [if_neg hn, if_pos rfl] at e1
      have h2 := h.2.1
      rw [List.getElem?_eq_getElem (show k < sat.length by omega)] at e
      rw [Option.some.inj e] at h2
      unfold leftOk at h2
      simp [er] at h2
      omega
    · rename_i h1 h2
      rw [if_neg h1, if_neg h2] at e1
      exact ⟨e1.2.1, e1.2.2⟩
theorem may_back {w : Int} {fs : Folk} {sat : Sat} (hs : IsSat w fs sat) (hf : okFolk w fs) {k : Nat} (h : may fs sat k = true) : may fs (swp sat k) k = true := by
  have hk := may_lt h
  have hk2 : k + 1 < (swp sat k).length := by rw [swp_len]; exact hk
  have g1 : (swp sat k)[k]? = sat[k + 1]? := by rw [swp_get hk, if_pos rfl]
  have g2 : (swp sat k)[k + 1]? = sat[k]? := by rw [swp_get hk, if_neg (by omega), if_pos rfl]
  rw [may_at hk] at h
  unfold may
  rw [g1, g2, List.getElem?_eq_getElem hk, List.getElem?_eq_getElem (show k < sat.length by omega)]
  simp only
  rw [Bool.and_eq_true] at h ⊢
  refine ⟨by rw [Bool.or_comm]; exact h.1, ?_⟩
  rw [Bool.and_eq_true]
  constructor
  · cases ho : sat[k + 1] with
    | none => rfl
    | some x =>
      have := (hs.left hf (i := k + 1) (x := x) (by rw [List.getElem?_eq_getElem hk, ho])).2.2
      unfold leftOk
      simp
      omega
  · cases ho : sat[k] with
    | none => rfl
    | some x =>
      have := (hs.left hf (i := k) (x := x) (by rw [List.getElem?_eq_getElem (show k < sat.length by omega), ho])).2.1
      unfold rightOk
      simp
      omega
/-- rows -/
def goF (sat : Sat) : List Nat → Sat
  | [] => sat
  | k :: r => goF (swp sat k) r
def goes (fs : Folk) (sat : Sat) : List Nat → Prop
  | [] => True
  | k :: r => may fs sat k = true ∧ goes fs (swp sat k) r
theorem goF_append (sat : Sat) (a b : List Nat) : goF sat (a ++ b) = goF (goF sat a) b := by
  induction a generalizing sat with
  | nil => rfl
  | cons k r ih => exact ih (swp sat k)
theorem goes_append {fs : Folk} {sat : Sat} {a b : List Nat} : goes fs sat (a ++ b) ↔ goes fs sat a ∧ goes fs (goF sat a) b := by
  induction a generalizing sat with
  | nil => simp [goes, goF]
  | cons k r ih => simp [goes, goF, ih, and_assoc]
theorem goes_back {w : Int} {fs : Folk} (hf : okFolk w fs) : ∀ {sat : Sat} {row : List Nat}, IsSat w fs sat → goes fs sat row → goes fs (goF sat row) row.reverse ∧ goF (goF sat row) row.reverse = sat
  | _, [], hs, _ => ⟨trivial, rfl⟩
  | sat, k :: r, hs, h => by
    obtain ⟨h1, h2⟩ := goes_back hf (row := r) (hs.swap hf h.1) h.2
    rw [List.reverse_cons, goF_append, goes_append]
    show (goes fs (goF (swp sat k) r) r.reverse ∧ goes fs (goF (goF (swp sat k) r) r.reverse) [k]) ∧ goF (goF (goF (swp sat k) r) r.reverse) [k] = sat
    rw [h2]
    exact ⟨⟨h1, may_back hs hf h.1, trivial⟩, swp_swp (may_lt h.1)⟩
section
variable {w : Int} {fs : Folk} {sat : Sat} {μ : List MO} {Q : RF → Prop} {k : Nat}
theorem ix0 {a b : Int} {s : S} {Q : R D → Prop} : wE (ixD (.tup [.int a, .int b]) (.int 0)) s Q = Q (.ok (.int a) s) := id rfl
theorem ix1 {a b : Int} {s : S} {Q : R D → Prop} : wE (ixD (.tup [.int a, .int b]) (.int 1)) s Q = Q (.ok (.int b) s) := id rfl
theorem whole_w {n : Int} : wD den_is_whole [.int n] μ Q = Q (.ok (.bl true) μ) := wD_of (whole_ok n μ)
end
section
variable {w : Int} {fs : Folk} {sat : Sat}
theorem goF_perm : ∀ {sat : Sat} {row : List Nat}, goes fs sat row → (goF sat row).Perm sat
  | _, [], _ => List.Perm.refl _
  | sat, k :: r, h => (goF_perm (row := r) h.2).trans (swp_perm (may_lt h.1))
end
def easeP (m w : Int) (p : Str × Int × Int) : Str × Int × Int := (p.1, max 0 (p.2.1 - m), min (w - 1) (p.2.2 + m))
def easeF (m w : Int) (fs : Folk) : Folk := fs.map (easeP m w)
section
variable {m w : Int} {fs : Folk} {sat : Sat}
theorem ease_names : (easeF m w fs).map (·.1) = fs.map (·.1) := by
  unfold easeF
  rw [List.map_map]
  rfl
theorem ease_ok (hm : 0 ≤ m) (h : okFolk w fs) : okFolk w (easeF m w fs) := by
  refine ⟨by rw [ease_names]; exact h.1, fun p hp => ?_, by unfold easeF; rw [List.length_map]; exact h.2.2⟩
  obtain ⟨q, hq, rfl⟩ := List.mem_map.mp hp
  have := h.2.1 q hq
  unfold okP easeP at *
  simp only
  omega
theorem ease_sat (hm : 0 ≤ m) (h : okFolk w fs) (hs : IsSat w fs sat) : IsSat w (easeF m w fs) sat := by
  refine ⟨hs.len, by rw [ease_names]; exact hs.perm, fun i x lo hi e hp => ?_⟩
  obtain ⟨⟨y, l, r⟩, hq, e2⟩ := List.mem_map.mp hp
  simp only [easeP, Prod.mk.injEq] at e2
  obtain ⟨rfl, rfl, rfl⟩ := e2
  have h1 := hs.on i _ l r e hq
  have h2 := h.2.1 _ hq
  unfold okP at h2
  have := hs.len
  have hi : i < sat.length := (List.getElem?_eq_some_iff.mp e).1
  simp only at *
  omega
end
/-- no None, no text -/
def Odd (d : D) : Prop := (∀ s (Q : R D → Prop), wE (notND d .non) s Q = Q (.ok (.bl true) s)) ∧ ∀ s (Q : R D → Prop), wE (isiD isC d (.ty "str")) s Q = Q (.ok (.bl false) s)
def okIt (d : D) : Prop := (∃ o, d = seat o) ∨ Odd d
def Val (d : D) : Prop := ∀ s (Q : R D → Prop), wE (Bx.settle d) s Q = Q (.ok d s)
section
variable {d : D} {n T : String} {s : S} {Q : R D → Prop}
theorem rsl_k (h : tyD d = some n) : rsl s d = d := by
  cases d <;> first | (cases h; done) | rfl
theorem isi_k (h : tyD d = some n) (hT : T ∈ tyN ∧ T ≠ "NoneType") : wE (isiD isC d (.ty T)) s Q = Q (.ok (.bl (isT n T)) s) := by
  refine wE_of ?_
  unfold isiD
  simp only [hT, and_self, ne_eq, not_false_eq_true, if_true, rsl_k h]
  cases d <;> first | (cases h; done) | (cases h; rfl)
theorem odd_k (h : tyD d = some n) (h1 : n ≠ "NoneType") (h2 : n ≠ "str") : Odd d := by
  refine ⟨fun s Q => wE_of ?_, fun s Q => ?_⟩
  · cases d <;> first | (cases h; done) | (cases h; first | rfl | exact absurd rfl h1)
  · rw [isi_k h (by decide)]
    have : isT n "str" = false := by
      unfold isT
      rw [Bool.or_eq_false_iff, Bool.and_eq_false_iff]
      exact ⟨by simpa using h2, .inr (by decide)⟩
    rw [this]
end
section
variable {w : Int} {fs : Folk} {sat : Sat}
variable {μ : List MO} {Q : RF → Prop}
theorem pigeon {α : Type} [DecidableEq α] : ∀ (xs ys : List α), xs.Nodup → ys.length < xs.length → ∃ x ∈ xs, x ∉ ys
  | [], ys, _, h => by simp at h
  | x :: xs, ys, nd, h => by
    by_cases hx : x ∈ ys
    · rw [List.nodup_cons] at nd
      have h1 := List.length_erase_of_mem hx
      have h2 : 0 < ys.length := List.length_pos_of_mem hx
      obtain ⟨z, hz, hn⟩ := pigeon xs (ys.erase x) nd.2 (by rw [h1]; simp at h; omega)
      refine ⟨z, List.mem_cons_of_mem _ hz, fun hy => hn ?_⟩
      exact (List.mem_erase_of_ne (fun e => nd.1 (by rw [← e]; exact hz))).mpr hy
    · exact ⟨x, List.mem_cons_self, hx⟩
end
section
variable {w : Int} {fs : Folk} {sat : Sat} {μ : List MO} {Q : RF → Prop}
theorem seat_k (o : Option Str) : okIt (seat o) := .inl ⟨o, rfl⟩
theorem okIt_k {d : D} {n : String} (h : tyD d = some n) (h1 : n ≠ "NoneType") (h2 : n ≠ "str") : okIt d := .inr (odd_k h h1 h2)
end
section
variable {w : Int} {fs : Folk} {sat : Sat} {μ : List MO} {Q : RF → Prop} {k : Nat}
theorem all_true {l : List D} (h : ∀ d ∈ l, d = .bl true) {s : S} {Q : R D → Prop} : wE (allD (.lst l)) s Q = Q (.ok (.bl true) s) := by
  have e : ∀ l : List D, (∀ d ∈ l, d = .bl true) → blsD l = some (l.map fun _ => true) := by
    intro l
    induction l with
    | nil => intro _; rfl
    | cons d r ih =>
      intro h
      have e1 := h d (List.mem_cons_self ..)
      subst e1
      have := ih fun d hd => h d (List.mem_cons_of_mem _ hd)
      simp [blsD, this]
  refine wE_of ?_
  unfold allD
  simp only [rsl, e l h]
  simp
end
theorem bls_map {α : Type} (g : α → Bool) : ∀ l : List α, blsD (l.map fun x => D.bl (g x)) = some (l.map g)
  | [] => rfl
  | x :: r => by simp [blsD, bls_map g r]
theorem all_map {α : Type} (g : α → Bool) (l : List α) {s : S} {Q : R D → Prop} : wE (allD (.lst (l.map fun x => D.bl (g x)))) s Q = Q (.ok (.bl (l.all g)) s) := by
  refine wE_of ?_
  unfold allD
  simp only [rsl, bls_map]
  simp [List.all_map]
section
variable {w : Int} {fs : Folk} {sat : Sat} {μ : List MO} {Q : RF → Prop}
def strangeL : List D := [.bl true, .int 0, .str "", .str "A", .str "-", .str "zzzzzzz", .tup [], .lst [], .dct [], .tup [.str "a"], .tup [.lst []], .int 1000000000000000000000000000000]
def Itm (x : D) : Prop := (∃ o, x = seat o ∧ ∀ y, o = some y → okName y) ∨ x ∈ strangeL
theorem Itm.ok {x : D} (h : Itm x) : okIt x := by
  rcases h with ⟨o, rfl, _⟩ | h
  · exact seat_k o
  · simp only [strangeL, List.mem_cons, List.not_mem_nil, or_false] at h
    rcases h with rfl | rfl | rfl | rfl | rfl | rfl | rfl | rfl | rfl | rfl | rfl | rfl
    · exact okIt_k (n := "bool") rfl (by decide) (by decide)
    · exact okIt_k (n := "int") rfl (by decide) (by decide)
    · exact seat_k (some _)
    · exact seat_k (some _)
    · exact seat_k (some _)
    · exact seat_k (some _)
    · exact okIt_k (n := "tuple") rfl (by decide) (by decide)
    · exact okIt_k (n := "list") rfl (by decide) (by decide)
    · exact okIt_k (n := "dict") rfl (by decide) (by decide)
    · exact okIt_k (n := "tuple") rfl (by decide) (by decide)
    · exact okIt_k (n := "tuple") rfl (by decide) (by decide)
    · exact okIt_k (n := "int") rfl (by decide) (by decide)
theorem Itm.val {x : D} (h : Itm x) : Val x := by
  rcases h with ⟨o, rfl, _⟩ | h
  · cases o <;> exact fun _ _ => rfl
  · simp only [strangeL, List.mem_cons, List.not_mem_nil, or_false] at h
    rcases h with rfl | rfl | rfl | rfl | rfl | rfl | rfl | rfl | rfl | rfl | rfl | rfl <;> exact fun _ _ => rfl
end
section
variable {μ : List MO} {Q : RF → Prop} {w : Int} {fs gs : Folk} {sat : Sat}
theorem IsSat.sits (hs : IsSat w fs sat) (hf : okFolk w fs) : Mth.Sits (rch fs) sat := Mth.sits_of fun i o e x ex => by
  subst ex
  exact (hs.left hf e).2
end
def inF (lo hi : Int) (p : Str × Int × Int) : Bool := decide (lo ≤ p.2.1) && decide (p.2.2 ≤ hi)
def inside (fs : Folk) (lo hi : Int) : List Str := (fs.filter (inF lo hi)).map (·.1)
theorem comp_in {fs : Folk} {lo hi : Int} {μ : List MO} (hl : fs.length ≤ 50) : mcomp [3, 4, 5] (mits (var 0)) (Tgt.asg (.tup [3, 4, 5])) (andT (tru (Bx.bin leD (var 1) (var 4))) (tru (Bx.bin leD (var 5) (var 2)))) (var 3) ⟨frame 6 [.tup (fs.map per), .int lo, .int hi], μ⟩ = .ok (.lst ((inside fs lo hi).map .str)) ⟨frame 6 [.tup (fs.map per), .int lo, .int hi], μ⟩ := by
  have e1 := cloop_pure (vs := [3, 4, 5]) (asg := Tgt.asg (.tup [3, 4, 5])) (t := andT (tru (Bx.bin leD (var 1) (var 4))) (tru (Bx.bin leD (var 5) (var 2)))) (el := var 3) (s0 := ⟨frame 6 [.tup (fs.map per), .int lo, .int hi], μ⟩)
    (fun d => match d with | .tup [.str _, .int a, .int b] => decide (lo ≤ a) && decide (b ≤ hi) | _ => false) (fun d => match d with | .tup [x, _, _] => x | d => d) (fs.map per) [] (by simp; omega) (fun d hd => by
      obtain ⟨⟨x, a, b⟩, hm, rfl⟩ := List.mem_map.mp hd
      refine ⟨⟨[.val (.tup (fs.map per)), .val (.int lo), .val (.int hi), .val (.str x), .val (.int a), .val (.int b)], μ⟩, ⟨[.val (.tup (fs.map per)), .val (.int lo), .val (.int hi), .val (.str x), .val (.int a), .val (.int b)], μ⟩, rfl, ?_, fun _ => rfl, fun _ => ⟨_, rfl, rfl⟩⟩
      by_cases h1 : lo ≤ a
      · simp [andT, tru, var, h1, per]
      · simp [andT, tru, var, h1, per])
  have e2 : mits (var 0) ⟨frame 6 [.tup (fs.map per), .int lo, .int hi], μ⟩ = .ok (fs.map per) ⟨frame 6 [.tup (fs.map per), .int lo, .int hi], μ⟩ := rfl
  have e3 : wipeS [3, 4, 5] ⟨frame 6 [.tup (fs.map per), .int lo, .int hi], μ⟩ = ⟨frame 6 [.tup (fs.map per), .int lo, .int hi], μ⟩ := rfl
  rw [mcomp_ap, e2, bind_ok, e3, e1, e3, List.nil_append]
  congr 2
  unfold inside
  clear e1 e2 e3 hl
  induction fs with
  | nil => rfl
  | cons p r ih =>
    obtain ⟨x, a, b⟩ := p
    rw [List.map_cons, List.filter_cons, List.filter_cons]
    show List.map _ (if (decide (lo ≤ a) && decide (b ≤ hi)) = true then _ else _) = _
    have e : inF lo hi (x, a, b) = (decide (lo ≤ a) && decide (b ≤ hi)) := rfl
    rw [e]
    by_cases hc : (decide (lo ≤ a) && decide (b ≤ hi)) = true
    · rw [if_pos hc, if_pos hc, List.map_cons, ih]
      rfl
    · rw [if_neg hc, if_neg hc, ih]
theorem hold_ok {fs : Folk} {lo hi : Int} (hl : fs.length ≤ 50) (μ : List MO) : den_holding [.tup (fs.map per), .int lo, .int hi] μ = .ok (.lst ((inside fs lo hi).map .str)) μ := by
  rw [den_holding, runB_ap, b_holding, sret_ap, stl_ap, comp_in hl]
  rfl
theorem inside_len {fs : Folk} {lo hi : Int} : (inside fs lo hi).length ≤ fs.length := by
  unfold inside
  rw [List.length_map]
  exact List.length_filter_le _ _
theorem sortD_ok {xs : List Str} (h : xs.length < 64) (s : S) : sortD (.lst (xs.map .str)) s = .ok (.lst ((sortS xs).map .str)) s := by
  unfold sortD
  simp only [rsl, strsD_map]
  rw [if_pos (by omega)]
theorem fldE_seats {w : Int} {fs : Folk} (s : S) : fldD "Bench" "seats" (benchD w fs) s = .ok (.int w) s := by
  unfold fldD
  simp [benchD, objOf, lookD]
theorem fldE_people {w : Int} {fs : Folk} (s : S) : fldD "Bench" "people" (benchD w fs) s = .ok (.tup (fs.map per)) s := by
  unfold fldD
  have : ¬ (Str.ofString "people" = Str.ofString "seats") := by decide
  simp [benchD, objOf, lookD, this]
theorem checked_ok {w : Int} {fs : Folk} (μ : List MO) : den_checked_bench [benchD w fs] μ = .ok (benchD w fs) μ := by
  rw [den_checked_bench, runB_ap, b_checked_bench]
  have e : ∀ s, isiD isC (benchD w fs) (.glo "Bench") s = .ok (.bl true) s := fun s => isi_bench _ s
  have e2 : ∀ s, Bx.settle (benchD w fs) s = .ok (benchD w fs) s := fun _ => rfl
  simp [frame, notT, truth, truthD, rsl, var, e, e2]
theorem held_ok {w lo hi : Int} {fs : Folk} (hl : fs.length ≤ 50) (h0 : 0 ≤ lo) (h1 : lo ≤ hi) (h2 : hi < w) (μ : List MO) : den_held [benchD w fs, .tup [.int lo, .int hi]] μ = .ok (.tup ((sortS (inside fs lo hi)).map .str)) μ := by
  have h64 := inside_len (fs := fs) (lo := lo) (hi := hi)
  have e2 : ∀ s, Bx.settle (benchD w fs) s = .ok (benchD w fs) s := fun _ => rfl
  have e3 := sortD_ok (show (inside fs lo hi).length < 64 by omega)
  have e4 := stretch_ok (w := w) h0 h1 h2 μ
  have e5 := hold_ok (lo := lo) (hi := hi) hl μ
  have e6 := checked_ok (w := w) (fs := fs) μ
  rw [den_held, runB_ap, b_held]
  simp [frame, var, e2, pick, callD, e6, fldE_seats, fldE_people, e4, notT, truth, truthD, rsl, gtup, S.puts, S.put, e5, e3, tupleD, unT]
/-- all windows in order -/
def pr (p : Int × Int) : D := .tup [.int p.1, .int p.2]
def rowW (w lo : Int) : List (Int × Int) := (List.range (w - lo).toNat).map fun (k : Nat) => (lo, lo + k)
def stW (w : Int) (a b c : Sl) (μ : List MO) : S := ⟨[.val (.int w), a, b, c], μ⟩
theorem cin_ok {w lo : Int} {a : Sl} {μ : List MO} : ∀ (ks : List Int) (acc : List D), acc.length + ks.length ≤ 100000 → cin [3] (Tgt.asg (.name 3)) yes (mtup [var 2, var 3]) (ks.map .int) acc (stW w a (.val (.int lo)) .no μ) = .ok (acc ++ ks.map fun k => pr (lo, k)) (stW w a (.val (.int lo)) .no μ)
  | [], acc, _ => by simp [cin]
  | k :: ks, acc, hl => by
    rw [List.length_cons] at hl
    have e0 : Tgt.asg (.name 3) (.int k) (stW w a (.val (.int lo)) .no μ) = .nx (stW w a (.val (.int lo)) (.val (.int k)) μ) := rfl
    have e1 : stl (mtup [var 2, var 3]) (stW w a (.val (.int lo)) (.val (.int k)) μ) = .ok (pr (lo, k)) (stW w a (.val (.int lo)) (.val (.int k)) μ) := rfl
    have e2 : wipeS [3] (stW w a (.val (.int lo)) (.val (.int k)) μ) = stW w a (.val (.int lo)) .no μ := rfl
    rw [List.map_cons, cin]
    simp only [e0, yes_ap, e1, e2]
    rw [if_pos (by omega), cin_ok ks (acc ++ [pr (lo, k)]) (by rw [List.length_append, List.length_singleton]; omega)]
    simp
theorem row_eq (w lo : Int) : rangeI lo (w - lo).toNat = ((List.range (w - lo).toNat).map fun (k : Nat) => lo + (k : Int)).map .int := by
  unfold rangeI
  rw [List.map_map]
  rfl
theorem row_pr (w lo : Int) : (((List.range (w - lo).toNat).map fun (k : Nat) => lo + (k : Int)).map fun k => pr (lo, k)) = (rowW w lo).map pr := by
  unfold rowW
  rw [List.map_map, List.map_map]
  rfl
theorem rng_W {w lo : Int} {a : Sl} {μ : List MO} (h0 : 0 ≤ lo) (h1 : lo ≤ 100) (h2 : 0 ≤ w) (h3 : w ≤ 100) : mrange2 [var 2, var 0] (stW w a (.val (.int lo)) .no μ) = .ok (rangeI lo (w - lo).toNat) (stW w a (.val (.int lo)) .no μ) := by
  have g2 : var 2 (stW w a (.val (.int lo)) .no μ) = .ok (.int lo) (stW w a (.val (.int lo)) .no μ) := rfl
  have g0 : var 0 (stW w a (.val (.int lo)) .no μ) = .ok (.int w) (stW w a (.val (.int lo)) .no μ) := rfl
  rw [mrange2_ap, margs_cons, g2]
  simp only [bind_ok, bnd_ap, margs_cons, g0, margs_nil, pur_ap, on2_ap]
  exact rg2_int (inRg_of (by omega) (by omega)) (inRg_of (by omega) (by omega))
theorem cout_ok {w : Int} {a : Sl} {μ : List MO} (hw : 0 ≤ w) (hw2 : w ≤ 12) : ∀ (is : List Int) (acc : List D), (∀ i ∈ is, 0 ≤ i ∧ i < w) → acc.length + 12 * is.length ≤ 1000 → cout [2, 3] [3] (Tgt.asg (.name 2)) yes (mrange2 [var 2, var 0]) (Tgt.asg (.name 3)) yes (mtup [var 2, var 3]) (is.map .int) acc (stW w a .no .no μ) = .ok (.lst (acc ++ (is.flatMap fun i => rowW w i).map pr)) (stW w a .no .no μ) := by
  intro is
  induction is with
  | nil => intro acc _ _; simp [cout]; rfl
  | cons i is ih =>
    intro acc hi hl
    rw [List.length_cons] at hl
    obtain ⟨h1, h2⟩ := hi i (List.mem_cons_self ..)
    have e0 : Tgt.asg (.name 2) (.int i) (stW w a .no .no μ) = .nx (stW w a (.val (.int i)) .no μ) := rfl
    have e2 : wipeS [3] (stW w a (.val (.int i)) .no μ) = stW w a (.val (.int i)) .no μ := rfl
    have e5 : wipeS [2, 3] (stW w a (.val (.int i)) .no μ) = stW w a .no .no μ := rfl
    have hlen : ((List.range (w - i).toNat).map fun (k : Nat) => i + (k : Int)).length ≤ 12 := by rw [List.length_map, List.length_range]; omega
    have e4 := cin_ok (w := w) (lo := i) (a := a) (μ := μ) ((List.range (w - i).toNat).map fun (k : Nat) => i + (k : Int)) acc (by omega)
    rw [← row_eq, row_pr] at e4
    have hl2 : (acc ++ (rowW w i).map pr).length + 12 * is.length ≤ 1000 := by
      rw [List.length_append, List.length_map]
      have : (rowW w i).length ≤ 12 := by unfold rowW; rw [List.length_map, List.length_range]; omega
      omega
    have e6 := ih (acc ++ (rowW w i).map pr) (fun j hj => hi j (List.mem_cons_of_mem _ hj)) hl2
    rw [List.map_cons, cout]
    simp only [e0, yes_ap, rng_W h1 (by omega) hw (by omega), e2, e4, e5, e6]
    rw [List.flatMap_cons, List.map_append, List.append_assoc]
def wins (w : Int) : List (Int × Int) := ((List.range w.toNat).map fun (i : Nat) => (i : Int)).flatMap fun i => rowW w i
def narrow (w : Int) (p : Int × Int) : Bool := decide (p.2 - p.1 + 1 < w)
theorem filter_pr (p : Int × Int → Bool) (q : D → Bool) (h : ∀ x, q (pr x) = p x) : ∀ xs : List (Int × Int), (xs.map pr).filter q = (xs.filter p).map pr
  | [] => rfl
  | x :: r => by
    rw [List.map_cons, List.filter_cons, List.filter_cons, h x]
    cases p x with
    | true => simp [filter_pr p q h r]
    | false => simp [filter_pr p q h r]
theorem rowW_len {w lo : Int} (h0 : 0 ≤ lo) (hw2 : w ≤ 12) : (rowW w lo).length ≤ 12 := by
  unfold rowW
  rw [List.length_map, List.length_range]
  omega
theorem flat_len {w : Int} (hw2 : w ≤ 12) : ∀ is : List Int, (∀ i ∈ is, 0 ≤ i) → (is.flatMap fun i => rowW w i).length ≤ 12 * is.length
  | [], _ => by simp
  | i :: is, h => by
    have h1 := flat_len hw2 is fun j hj => h j (List.mem_cons_of_mem _ hj)
    have h2 := rowW_len (h i (List.mem_cons_self ..)) hw2
    rw [List.flatMap_cons, List.length_append, List.length_cons]
    omega
theorem winsI_len {w : Int} (hw2 : w ≤ 12) : (wins w).length ≤ 144 := by
  have h := flat_len hw2 ((List.range w.toNat).map fun (i : Nat) => (i : Int)) (fun i hi => by
    obtain ⟨k, _, rfl⟩ := List.mem_map.mp hi
    omega)
  rw [List.length_map, List.length_range] at h
  unfold wins
  omega
theorem windows_ok {w : Int} (hw : 0 ≤ w) (hw2 : w ≤ 12) (μ : List MO) : den_windows_of [.int w] μ = .ok (.lst (((wins w).filter (narrow w)).map pr)) μ := by
  have e0 := cout_ok (a := .no) (μ := μ) hw hw2 ((List.range w.toNat).map fun (i : Nat) => (i : Int)) [] (fun i hi => by
    obtain ⟨k, hk, rfl⟩ := List.mem_map.mp hi
    have := List.mem_range.mp hk
    omega) (by rw [List.length_map, List.length_range]; simp; omega)
  have e1 : mrange1 [var 0] (stW w .no .no .no μ) = .ok (((List.range w.toNat).map fun (i : Nat) => (i : Int)).map .int) (stW w .no .no .no μ) := by
    have g0 : var 0 (stW w .no .no .no μ) = .ok (.int w) (stW w .no .no .no μ) := rfl
    rw [mrange1_ap, margs_cons, g0]
    simp only [bind_ok, bnd_ap, margs_nil, pur_ap, on1_ap]
    rw [rg1_int (inRg_of (by omega) (by omega))]
    simp [rangeI]
  have e2 : wipeS [2, 3] (stW w .no .no .no μ) = stW w .no .no .no μ := rfl
  have e3 : mcomp2 [2, 3] [3] (mrange1 [var 0]) (Tgt.asg (.name 2)) (yes) (mrange2 [var 2, var 0]) (Tgt.asg (.name 3)) (yes) (mtup [var 2, var 3]) (stW w .no .no .no μ) = .ok (.lst ((wins w).map pr)) (stW w .no .no .no μ) := by
    unfold mcomp2
    rw [bnd_ap, e1, bind_ok, e2, e0]
    rfl
  have e4 := cloop_pure (vs := [2, 3]) (asg := Tgt.asg (.tup [2, 3])) (t := tru (Bx.bin ltD (Bx.bin addD (Bx.bin subD (var 3) (var 2)) (con (.int 1))) (var 0))) (el := mtup [var 2, var 3]) (s0 := stW w (.val (.lst ((wins w).map pr))) .no .no μ)
    (fun d => match d with | .tup [.int a, .int b] => decide (b - a + 1 < w) | _ => false) id ((wins w).map pr) [] (by have := winsI_len hw2; simp; omega) (fun d hd => by
      obtain ⟨⟨a, b⟩, hm, rfl⟩ := List.mem_map.mp hd
      exact ⟨stW w (.val (.lst ((wins w).map pr))) (.val (.int a)) (.val (.int b)) μ, stW w (.val (.lst ((wins w).map pr))) (.val (.int a)) (.val (.int b)) μ, rfl, rfl, fun _ => rfl, fun _ => ⟨stW w (.val (.lst ((wins w).map pr))) (.val (.int a)) (.val (.int b)) μ, rfl, rfl⟩⟩)
  have e5 : ((wins w).map pr).filter (fun d => match d with | .tup [.int a, .int b] => decide (b - a + 1 < w) | _ => false) = ((wins w).filter (narrow w)).map pr := filter_pr _ _ (fun _ => rfl) _
  rw [e5, List.map_id, List.nil_append] at e4
  rw [den_windows_of, runB_ap, b_windows_of]
  have e6 : sset 1 (mcomp2 [2, 3] [3] (mrange1 [var 0]) (Tgt.asg (.name 2)) (yes) (mrange2 [var 2, var 0]) (Tgt.asg (.name 3)) (yes) (mtup [var 2, var 3])) ⟨frame 4 [.int w], μ⟩ = .nx (stW w (.val (.lst ((wins w).map pr))) .no .no μ) := by
    rw [sset_ap, stl_ap]
    show ((mcomp2 [2, 3] [3] (mrange1 [var 0]) (Tgt.asg (.name 2)) (yes) (mrange2 [var 2, var 0]) (Tgt.asg (.name 3)) (yes) (mtup [var 2, var 3]) (stW w .no .no .no μ)).bind Bx.settle).toS _ = _
    rw [e3]
    rfl
  have e7 : mits (var 1) (stW w (.val (.lst ((wins w).map pr))) .no .no μ) = .ok ((wins w).map pr) (stW w (.val (.lst ((wins w).map pr))) .no .no μ) := rfl
  have e8 : wipeS [2, 3] (stW w (.val (.lst ((wins w).map pr))) .no .no μ) = stW w (.val (.lst ((wins w).map pr))) .no .no μ := rfl
  rw [sq_ap, e6, thn_nx, sret_ap, stl_ap, mcomp_ap, e7, bind_ok, e8, e4, e8]
  rfl
theorem eq_int (a b : Int) (s : S) : eqD (.int a) (.int b) s = .ok (.bl (a == b)) s := by rfl
def fullW (w : Int) (fs : Folk) : List (Int × Int) := ((wins w).filter (narrow w)).filter fun p => ((inside fs p.1 p.2).length : Int) == p.2 - p.1 + 1
theorem full_ok {w : Int} {fs : Folk} (hl : fs.length ≤ 50) (hw : 0 ≤ w) (hw2 : w ≤ 12) (μ : List MO) : den_full [benchD w fs] μ = .ok (.tup ((fullW w fs).map pr)) μ := by
  have ec := checked_ok (w := w) (fs := fs) μ
  have ew := windows_ok hw hw2 μ
  have es : ∀ s, Bx.settle (benchD w fs) s = .ok (benchD w fs) s := fun _ => rfl
  rw [den_full, runB_ap, b_full]
  have e1 : sexpr (callK den_checked_bench [0] [] (mal [var 0]) (mal [])) ⟨frame 4 [benchD w fs], μ⟩ = .nx ⟨[.val (benchD w fs), .no, .no, .no], μ⟩ := by
    simp [frame, var, es, pick, callD, ec]
  have e2 : sset 1 (callK den_windows_of [0] [] (mal [bnd (var 0) (fldD "Bench" "seats")]) (mal [])) ⟨[.val (benchD w fs), .no, .no, .no], μ⟩ = .nx ⟨[.val (benchD w fs), .val (.lst (((wins w).filter (narrow w)).map pr)), .no, .no], μ⟩ := by
    simp [var, es, pick, callD, fldE_seats, ew, S.put]
  have e3 := cloop_pure (vs := [2, 3]) (asg := Tgt.asg (.tup [2, 3])) (t := tru (Bx.bin eqD (bnd (margs [callK den_holding [0, 1, 2] [] (mal [bnd (var 0) (fldD "Bench" "people"), var 2, var 3]) (mal [])]) (f1 lenD)) (Bx.bin addD (Bx.bin subD (var 3) (var 2)) (con (.int 1))))) (el := mtup [var 2, var 3])
    (s0 := ⟨[.val (benchD w fs), .val (.lst (((wins w).filter (narrow w)).map pr)), .no, .no], μ⟩) (fun d => match d with | .tup [.int a, .int b] => ((inside fs a b).length : Int) == b - a + 1 | _ => false) id (((wins w).filter (narrow w)).map pr) []
    (by have h1 := winsI_len hw2; have h2 := List.length_filter_le (narrow w) (wins w); rw [List.length_map]; simp; omega) (fun d hd => by
      obtain ⟨⟨a, b⟩, hm, rfl⟩ := List.mem_map.mp hd
      have eh := hold_ok (lo := a) (hi := b) hl μ
      refine ⟨⟨[.val (benchD w fs), .val (.lst (((wins w).filter (narrow w)).map pr)), .val (.int a), .val (.int b)], μ⟩, ⟨[.val (benchD w fs), .val (.lst (((wins w).filter (narrow w)).map pr)), .val (.int a), .val (.int b)], μ⟩, rfl, tru_bl ?_, fun _ => rfl, fun _ => ⟨⟨[.val (benchD w fs), .val (.lst (((wins w).filter (narrow w)).map pr)), .val (.int a), .val (.int b)], μ⟩, rfl, rfl⟩⟩
      simp [var, es, pick, callD, fldE_people, eh, lenD, rsl, eq_int, pr])
  have e4 : (((wins w).filter (narrow w)).map pr).filter (fun d => match d with | .tup [.int a, .int b] => ((inside fs a b).length : Int) == b - a + 1 | _ => false) = (fullW w fs).map pr := filter_pr _ _ (fun _ => rfl) _
  rw [e4, List.map_id, List.nil_append] at e3
  have e5 : mits (var 1) ⟨[.val (benchD w fs), .val (.lst (((wins w).filter (narrow w)).map pr)), .no, .no], μ⟩ = .ok (((wins w).filter (narrow w)).map pr) ⟨[.val (benchD w fs), .val (.lst (((wins w).filter (narrow w)).map pr)), .no, .no], μ⟩ := rfl
  have e6 : wipeS [2, 3] ⟨[.val (benchD w fs), .val (.lst (((wins w).filter (narrow w)).map pr)), .no, .no], μ⟩ = ⟨[.val (benchD w fs), .val (.lst (((wins w).filter (narrow w)).map pr)), .no, .no], μ⟩ := rfl
  rw [sq_ap, e1, thn_nx, sq_ap, e2, thn_nx, sret_ap, stl_ap, bnd_ap, margs_cons, mcomp_ap, e5, bind_ok, e6, e3, e6]
  rfl
section
variable {μ : List MO} {Q : RF → Prop} {w : Int} {fs gs L : Folk} {sat : Sat} {l h : Nat}
theorem nin_strsT {x : Str} {xs : List Str} {s : S} {Q : R D → Prop} : wE (inA true (.str x) (.tup (xs.map .str))) s Q = Q (.ok (.bl (!decide (x ∈ xs))) s) := by
  refine wE_of ?_
  show inD true (.str x) (.tup (xs.map .str)) s = _
  unfold inD
  simp only [rsl, flat_strs, mem_str]
  rfl
theorem names_w (hl : fs.length ≤ 100) : wD den_Bench_names [benchD w fs] μ Q = Q (.ok (.tup ((sortS (fs.map (·.1))).map .str)) μ) := by
  refine wD_of (of_wD (P := fun r => r = .ok (.tup ((sortS (fs.map (·.1))).map .str)) μ) ?_)
  rw [den_Bench_names, wD_runB, b_Bench_names]
  simp [frame, fld_people]
  refine wcompY per fs (fun p => D.str p.1) (by rfl) (by omega) (fun p hp => ?_) ?_
  · have e0 : ∀ s (Q : R D → Prop), wE (ixD (.tup [.str p.1, .int p.2.1, .int p.2.2]) (.int 0)) s Q = Q (.ok (.str p.1) s) := fun _ _ => id rfl
    simp [per, e0]
  rw [show (fs.map fun p => D.str p.1) = (fs.map (·.1)).map .str by rw [List.map_map]; rfl]
  simp only [wE_margs, kB_ok, wE_bnd, wE_margs0, wE_pur, wE_f1]
  rw [sortD_strs (by simp; omega)]
  simp
theorem rcN {s : S} {Q : R D → Prop} : wE (recv "Bench" "names" (benchD w fs)) s Q = Q (.ok (benchD w fs) s) := wE_of (by
  have e1 : ((Str.ofString "names") = Str.ofString "seats") = False := by decide
  have e2 : ((Str.ofString "names") = Str.ofString "people") = False := by decide
  unfold recv
  simp [objOf, benchD, rsl, lookD, e1, e2])
end
section
variable {w : Int} {fs : Folk} {sat : Sat} {μ : List MO} {Q : RF → Prop}
inductive Come (fs : Folk) (sat : Sat) : Sat → Prop
  | refl : Come fs sat sat
  | step {t : Sat} {k : Nat} : Come fs sat t → may fs t k = true → Come fs sat (swp t k)
theorem Come.goes {t : Sat} (h : Come fs sat t) : ∃ row, K22.goes fs sat row ∧ goF sat row = t := by
  induction h with
  | refl => exact ⟨[], trivial, rfl⟩
  | @step t k _ hm ih =>
    obtain ⟨row, h1, rfl⟩ := ih
    exact ⟨row ++ [k], goes_append.mpr ⟨h1, hm, trivial⟩, by rw [goF_append]; rfl⟩
theorem Come.of_goes : ∀ {row : List Nat} {sat : Sat}, K22.goes fs sat row → ∀ {s0 : Sat}, Come fs s0 sat → Come fs s0 (goF sat row)
  | [], _, _, _, h => h
  | k :: r, sat, ⟨h1, h2⟩, _, h => Come.of_goes h2 (.step h h1)
theorem Come.perm {t : Sat} (h : Come fs sat t) : t.Perm sat := by
  obtain ⟨row, h1, rfl⟩ := h.goes
  exact goF_perm h1
end
section
variable {w : Int} {fs : Folk} {sat : Sat} {μ : List MO} {Q : RF → Prop}
theorem str_ext {a b : Str} (h : a.cps.toList = b.cps.toList) : a = b := by
  cases a; cases b
  simp only [Str.mk.injEq]
  exact Array.toList_inj.mp h
theorem Come.symm (hf : okFolk w fs) (hs : IsSat w fs sat) {t : Sat} (h : Come fs sat t) : Come fs t sat := by
  obtain ⟨row, h1, rfl⟩ := h.goes
  obtain ⟨h2, h3⟩ := goes_back hf hs h1
  have h4 := Come.of_goes h2 (Come.refl (fs := fs) (sat := goF sat row))
  rwa [h3] at h4
end
section
variable {m w : Int} {n : Nat} {fs : Folk} {sat a b : Sat} {μ : List MO} {Q : RF → Prop} {x : Str}
theorem rcv {mn : Str} (h1 : (mn = Str.ofString "seats") = False) (h2 : (mn = Str.ofString "people") = False) {s : S} {Q : R D → Prop} : wE (recv "Bench" mn (benchD w fs)) s Q = Q (.ok (benchD w fs) s) := wE_of (by
  unfold recv
  simp [objOf, benchD, rsl, lookD, h1, h2])
theorem eased_w (hf : okFolk w fs) (hw : 0 < w) (hw2 : w ≤ 12) (hm : 0 ≤ m) (hm2 : m ≤ 12) : wD den_Bench_eased [benchD w fs, .int m] μ Q = Q (.ok (benchD w (easeF m w fs)) μ) := by
  have hl : fs.length ≤ 12 := by have := hf.2.2; omega
  refine wD_of (of_wD (P := fun r => r = .ok (benchD w (easeF m w fs)) μ) ?_)
  rw [den_Bench_eased, wD_runB, b_Bench_eased]
  simp [frame, pick, whole_w, fld_seats, fld_people, hm, hm2]
  refine wcompY per fs (fun p => per (easeP m w p)) (by rfl) (by omega) (fun p hp => ?_) ?_
  · simp [per, easeP]
    refine ⟨?_, ?_⟩
    · omega
    · omega
  · simp [fld_seats, pick]
    have e : (fs.map fun p => per (easeP m w p)) = (easeF m w fs).map per := by unfold easeF; rw [List.map_map]; rfl
    rw [e, make_w (ease_ok hm hf) hw hw2]
    simp [wE_bench]
end
section
variable {w : Int} {n : Nat} {fs : Folk} {sat goal : Sat} {xs : List Str} {μ : List MO} {Q : RF → Prop} {x : Str}
structure Row (xs : List Str) (sat : Sat) : Prop where
  len : sat.length ≤ xs.length
  sub : (sat.filterMap id).Sublist (xs.take sat.length)
theorem Row.next (h : Row xs sat) (hk : sat.length < xs.length) (b : Bool) : Row xs (sat ++ [if b = true then some (xs[sat.length]) else none]) := by
  refine ⟨by simp; omega, ?_⟩
  have e : xs.take (sat.length + 1) = xs.take sat.length ++ [xs[sat.length]] := by rw [List.take_succ_eq_append_getElem hk]
  rw [List.length_append, List.length_singleton, e, List.filterMap_append]
  refine h.sub.append ?_
  cases b
  · simp
  · simp
/-- the folk of the first k seats, over both seats of each -/
structure Both (w : Int) (sat goal : Sat) (k : Nat) (fs : Folk) : Prop where
  names : fs.map (·.1) = (sat.take k).filterMap id
  ok : ∀ p ∈ fs, okP w p
  on : ∀ (i : Nat) (x : Str) (lo hi : Int), sat[i]? = some (some x) → (x, lo, hi) ∈ fs → lo ≤ i ∧ (i : Int) ≤ hi
  onG : ∀ (i : Nat) (x : Str) (lo hi : Int), goal[i]? = some (some x) → (x, lo, hi) ∈ fs → lo ≤ i ∧ (i : Int) ≤ hi
theorem Both.none {k : Nat} (h : Both w sat goal k fs) (e : sat[k]? = some none) : Both w sat goal (k + 1) fs :=
  ⟨by rw [h.names, List.take_add_one, e, List.filterMap_append]; simp, h.ok, h.on, h.onG⟩
theorem Both.some {k j : Nat} (h : Both w sat goal k fs) (nd : (sat.filterMap id).Nodup) (ndG : (goal.filterMap id).Nodup) (e : sat[k]? = some (some x)) (eG : goal[j]? = some (some x)) {lo hi : Int} (h1 : 0 ≤ lo) (h2 : lo ≤ k) (h3 : (k : Int) ≤ hi) (h4 : hi < w) (g2 : lo ≤ j) (g3 : (j : Int) ≤ hi) : Both w sat goal (k + 1) (fs ++ [(x, lo, hi)]) := by
  refine ⟨by rw [List.map_append, h.names, List.take_add_one, e, List.filterMap_append]; simp, fun p hp => ?_, fun i y l r ei hm => ?_, fun i y l r ei hm => ?_⟩
  · rcases List.mem_append.mp hp with hp | hp
    · exact h.ok p hp
    · rw [List.mem_singleton.mp hp]
      exact ⟨h1, by show lo ≤ hi; omega, h4⟩
  · rcases List.mem_append.mp hm with hm | hm
    · exact h.on i y l r ei hm
    · have e2 := List.mem_singleton.mp hm
      injection e2 with a1 a2
      injection a2 with a2 a3
      subst a1 a2 a3
      have := sat_inj nd ei e
      omega
  · rcases List.mem_append.mp hm with hm | hm
    · exact h.onG i y l r ei hm
    · have e2 := List.mem_singleton.mp hm
      injection e2 with a1 a2
      injection a2 with a2 a3
      subst a1 a2 a3
      have := sat_inj ndG ei eG
      omega
end
section
variable {w : Int} {fs : Folk} {sat a b : Sat} {μ : List MO} {Q : RF → Prop}
theorem ePer0 (p : Str × Int × Int) {s : S} {Q : R D → Prop} : wE (ixD (per p) (.int 0)) s Q = Q (.ok (.str p.1) s) := id rfl
theorem turn_hit {k : Nat} (hk : k < fs.length) (hf : okFolk w fs) : wD den_Bench_turn_of [benchD w fs, .str fs[k].1] μ Q = Q (.ok (.int k) μ) := by
  refine wD_of (of_wD (P := fun r => r = .ok (.int k) μ) ?_)
  rw [den_Bench_turn_of, wD_runB, b_Bench_turn_of]
  simp [frame, fld_people]
  obtain ⟨I, hI⟩ : ∃ I : Nat → S → Prop, ∀ j s, I j s ↔ j ≤ k ∧ ∃ a b, s = ⟨[.val (benchD w fs), .val (.str fs[k].1), a, b], μ⟩ := ⟨_, fun _ _ => Iff.rfl⟩
  refine wforE per fs I ((hI _ _).mpr ⟨Nat.zero_le _, .no, .no, rfl⟩) (fun j hj s h0 => ?_) (fun s h0 => ?_)
  · obtain ⟨h1, a, b, rfl⟩ := (hI _ _).mp h0
    simp [pick, isi_strW, ePer0]
    by_cases e : fs[j].1 = fs[k].1
    · have hnd := hf.1.1
      have := (List.getElem_inj (h₀ := by rw [List.length_map]; exact hj) (h₁ := by rw [List.length_map]; exact hk) hnd (i := j) (j := k)).mp (by rw [List.getElem_map, List.getElem_map]; exact e)
      subst this
      simp
    · simp [e]
      refine (hI _ _).mpr ⟨?_, _, _, rfl⟩
      by_cases hjk : j = k
      · subst hjk
        exact absurd rfl e
      · omega
  · obtain ⟨h1, a, b, rfl⟩ := (hI _ _).mp h0
    omega
theorem bcut (k : Nat) : cutD (fs.map per) none (some (k : Int)) = (fs.take k).map per := by rw [cutD_take (by omega), List.map_take]; simp
theorem bcut1 (k : Nat) : cutD (fs.map per) (some ((k : Int) + 1)) none = (fs.drop (k + 1)).map per := by rw [cutD_drop (by omega), List.map_drop]; congr 1
theorem rcT {s : S} {Q : R D → Prop} : wE (recv "Bench" "turn_of" (benchD w fs)) s Q = Q (.ok (benchD w fs) s) := rcv (by decide) (by decide)
theorem led_good {k : Nat} {lo hi : Int} (hk : k < fs.length) (hf : okFolk w fs) (hp' : 0 ≤ lo ∧ lo ≤ hi ∧ hi < w) (hw : 1 ≤ w) (hw2 : w ≤ 12) : wD den_Bench_led [benchD w fs, .str fs[k].1, .int lo, .int hi] μ Q = Q (.ok (benchD w (fs.take k ++ (fs[k].1, lo, hi) :: fs.drop (k + 1))) μ) := by
  refine wD_of (of_wD (P := fun r => r = .ok (benchD w (fs.take k ++ (fs[k].1, lo, hi) :: fs.drop (k + 1))) μ) ?_)
  rw [den_Bench_led, wD_runB, b_Bench_led]
  have hl := hf.2.2
  have hs : okFolk w (fs.take k ++ (fs[k].1, lo, hi) :: fs.drop (k + 1)) := by
    have e : fs.take k ++ (fs[k].1, lo, hi) :: fs.drop (k + 1) = fs.set k (fs[k].1, lo, hi) := (List.set_eq_take_append_cons_drop ..).symm ▸ by rw [if_pos hk]
    have em : (fs.set k (fs[k].1, lo, hi)).map (·.1) = fs.map (·.1) := by
      rw [List.map_set]
      have : fs[k].1 = (fs.map (·.1))[k]'(by rw [List.length_map]; exact hk) := by rw [List.getElem_map]
      simp only
      rw [this, List.set_getElem_self]
    rw [e]
    refine ⟨em ▸ hf.1, fun p hp => ?_, by rw [List.length_set]; exact hl⟩
    rcases List.mem_or_eq_of_mem_set hp with z | z
    · exact hf.2.1 p z
    · rw [z]; exact hp'
  have h1 : ∀ s (Q : R D → Prop), wE (addD (.tup ((fs.take k).map per)) (.tup [.tup [.str fs[k].1, .int lo, .int hi]])) s Q = Q (.ok (.tup ((fs.take k).map per ++ [per (fs[k].1, lo, hi)])) s) := fun s Q => by
    rw [wE_addT (by simp; omega)]
    rfl
  have h2 : ∀ s (Q : R D → Prop), wE (addD (.tup ((fs.take k).map per ++ [per (fs[k].1, lo, hi)])) (.tup ((fs.drop (k + 1)).map per))) s Q = Q (.ok (.tup ((fs.take k ++ (fs[k].1, lo, hi) :: fs.drop (k + 1)).map per)) s) := fun s Q => by
    rw [wE_addT (by simp; omega), List.map_append, List.map_cons, List.append_assoc]
    rfl
  simp [frame, pick, fld_seats, fld_people, wE_bench, rcT, turn_hit hk hf, bcut, bcut1, h1, h2, -List.map_append, -List.map_take, -List.map_drop, make_w hs (show 0 < w by omega) hw2]
/-- in the place of the one of that name -/
def ledF (fs : Folk) (p : Str × Int × Int) : Folk := fs.map fun q => if q.1 = p.1 then p else q
theorem ledF_set {k : Nat} (hk : k < fs.length) (nd : (fs.map (·.1)).Nodup) {lo hi : Int} : fs.take k ++ (fs[k].1, lo, hi) :: fs.drop (k + 1) = ledF fs (fs[k].1, lo, hi) := by
  have e : fs.take k ++ (fs[k].1, lo, hi) :: fs.drop (k + 1) = fs.set k (fs[k].1, lo, hi) := (List.set_eq_take_append_cons_drop ..).symm ▸ by rw [if_pos hk]
  rw [e]
  unfold ledF
  refine List.ext_getElem (by simp) fun i h1 h2 => ?_
  rw [List.getElem_set, List.getElem_map]
  rw [List.length_set] at h1
  by_cases c : k = i
  · subst c
    simp
  · have : ¬ fs[i].1 = fs[k].1 := fun z => c ((List.getElem_inj (h₀ := by rw [List.length_map]; exact hk) (h₁ := by rw [List.length_map]; exact h1) nd (i := k) (j := i)).mp (by rw [List.getElem_map, List.getElem_map]; exact z.symm))
    rw [if_neg c, if_neg this]
theorem ledF_names {p : Str × Int × Int} : (ledF fs p).map (·.1) = fs.map (·.1) := by
  unfold ledF
  rw [List.map_map]
  refine List.map_congr_left fun q _ => ?_
  simp only [Function.comp]
  split
  · rename_i h; exact h.symm
  · rfl
theorem ledF_ok {p : Str × Int × Int} (hf : okFolk w fs) (hp : okP w p) : okFolk w (ledF fs p) := by
  refine ⟨by rw [ledF_names]; exact hf.1, fun q hq => ?_, by unfold ledF; rw [List.length_map]; exact hf.2.2⟩
  obtain ⟨r, hr, rfl⟩ := List.mem_map.mp hq
  split
  · exact hp
  · exact hf.2.1 r hr
end
section
variable {w : Int} {fs : Folk} {sat : List (Option Str)} {μ : List MO} {Q : RF → Prop} {k : Nat} {m : Int}
theorem about_w (hs : IsSat w fs sat) (hf : okFolk w fs) (hw2 : w ≤ 12) : wD den_about [benchD w fs, satD sat] μ Q = Q (.ok (satD sat.reverse) μ) := by
  refine wD_of (of_wD (P := fun r => r = .ok (satD sat.reverse) μ) ?_)
  rw [den_about, wD_runB, b_about]
  simp [frame, pick, wE_bench, wE_sat, checked_w hf hw2 hs]
  have er : ∀ s Q, wE (revD (satD sat)) s Q = Q (.ok (satD sat.reverse) s) := fun s Q => wE_of (by
    show R.ok (D.tup (sat.map seat).reverse) s = _
    rw [← List.map_reverse]
    rfl)
  simp [er, wE_sat]
end
section
variable {μ : List MO} {Q : RF → Prop} {w : Int} {fs : Folk} {sat t : Sat} {W : List (Str × Nat)} {v : Nat × Nat} {x y : Str}
theorem Come.trans {a b c : Sat} (h1 : Come fs a b) (h2 : Come fs b c) : Come fs a c := by
  induction h2 with
  | refl => exact h1
  | step _ hm ih => exact .step ih hm
end
section
variable {μ : List MO} {Q : RF → Prop} {w : Int} {fs : Folk} {sat t : Sat} {W : List (Str × Nat)} {v : Nat × Nat} {x y : Str}
theorem any_map {α : Type} (g : α → Bool) (l : List α) {s : S} {Q : R D → Prop} : wE (anyD (.lst (l.map fun x => D.bl (g x)))) s Q = Q (.ok (.bl (l.any g)) s) := by
  refine wE_of ?_
  unfold anyD
  simp only [rsl, bls_map]
  simp [List.any_map]
end
section
variable {μ : List MO} {ρ : List Sl} {Q : RF → Prop} {ps J qs : Folk} {l h : Nat} {W : List (Str × Nat)} {j : Nat}
@[simp] theorem wE_mrem {m a : M D} {s : S} {Q : R D → Prop} : wE (mrem m a) s Q = wE m s (kB (fun d => bnd (chk isL d) fun d => bnd (mal [a]) (on1 (remD d))) Q) := id rfl
def er (J : Folk) (q : Str × Int × Int) : Folk := @List.erase _ instBEqOfDecidableEq J q
end
section
variable {μ : List MO} {ρ : List Sl} {Q : RF → Prop} {w : Int} {fs : Folk} {sat t : Sat} {W : List (Str × Nat)} {v : Nat × Nat}
def kO {β : Type} (vs vs1 : List Nat) (t : M Bool) (it1 : M (List D)) (asg1 : D → MS) (t1 : M Bool) (ek ev : M D) (ys : List β) (g : β → D) (key : β → L2.Key) (val : β → D) (s0 : S) : RS → Prop := fun r => match r with
  | .nx s1 => wE t s1 (kV fun b s2 => b = true ∧ wE it1 s2 (kV fun items s3 => items = ys.map g ∧ wipeS vs (wipeS vs1 s3) = s0 ∧ ∀ y ∈ ys, wS (asg1 (g y)) (wipeS vs1 s3) (kZ vs1 t1 ek ev (key y) (val y) (wipeS vs1 s3))))
  | _ => False
@[simp] theorem kO_nx {β : Type} {vs vs1 : List Nat} {t : M Bool} {it1 : M (List D)} {asg1 : D → MS} {t1 : M Bool} {ek ev : M D} {ys : List β} {g : β → D} {key : β → L2.Key} {val : β → D} {s0 s1 : S} : kO vs vs1 t it1 asg1 t1 ek ev ys g key val s0 (.nx s1) = wE t s1 (kV fun b s2 => b = true ∧ wE it1 s2 (kV fun items s3 => items = ys.map g ∧ wipeS vs (wipeS vs1 s3) = s0 ∧ ∀ y ∈ ys, wS (asg1 (g y)) (wipeS vs1 s3) (kZ vs1 t1 ek ev (key y) (val y) (wipeS vs1 s3)))) := id rfl
def dc2K (vs vs1 : List Nat) (asg : D → MS) (t : M Bool) (it1 : M (List D)) (asg1 : D → MS) (t1 : M Bool) (ek ev : M D) : List D → M D := fun items s => dcout vs vs1 asg t it1 asg1 t1 ek ev items [] (wipeS vs s)
@[simp] theorem wE_mdcomp2 {vs vs1 : List Nat} {it : M (List D)} {asg : D → MS} {t : M Bool} {it1 : M (List D)} {asg1 : D → MS} {t1 : M Bool} {ek ev : M D} {s : S} {Q : R D → Prop} : wE (mdcomp2 vs vs1 it asg t it1 asg1 t1 ek ev) s Q = wE it s (kB (dc2K vs vs1 asg t it1 asg1 t1 ek ev) Q) := id rfl
@[simp] theorem wE_dc2K {vs vs1 : List Nat} {items : List D} {asg : D → MS} {t : M Bool} {it1 : M (List D)} {asg1 : D → MS} {t1 : M Bool} {ek ev : M D} {s : S} {Q : R D → Prop} : wE (dc2K vs vs1 asg t it1 asg1 t1 ek ev items) s Q = wE (dcout vs vs1 asg t it1 asg1 t1 ek ev items []) (wipeS vs s) Q := id rfl
end
section
variable {μ : List MO} {ρ : List Sl} {Q : RF → Prop} {ps : Folk} {Rr : Str → Int × Int} {l h k i a g N : Nat} {t t' : Sat} {o : Option Str} {row : List Nat} {x : Str}
/-- who sits in the piece has a stretch there -/
structure Good (ps : Folk) (l h : Nat) (t : Sat) : Prop where
  top : h < t.length
  le : t.length ≤ 12
  nm : ∀ (i : Nat) (x : Str), l ≤ i → i ≤ h → t[i]? = some (some x) → x ∈ ps.map (·.1)
theorem Good.goF (G : Good ps l h t) (hr : Mth.In l h row) : Good ps l h (Mth.goF t row) where
  top := by rw [Mth.goFlen]; exact G.top
  le := by rw [Mth.goFlen]; exact G.le
  nm := fun i x h1 h2 e => by
    obtain ⟨j, j1, j2, j3⟩ := Mth.goF_in (t := t) hr i h1 h2
    exact G.nm j x j1 j2 (j3.symm.trans e)
theorem Good.swp (G : Good ps l h t) (h1 : l ≤ k) (h2 : k + 1 ≤ h) : Good ps l h (Mth.swp t k) := G.goF (row := [k]) (fun j hj => by rw [List.mem_singleton] at hj; omega)
end
section
variable {μ : List MO} {ρ : List Sl} {Q : RF → Prop} {ps : Folk} {Rr : Str → Int × Int} {l h k i a g N s : Nat} {t t' : Sat} {o : Option Str} {row : List Nat} {x : Str}
theorem orSeat {o : Option Str} {s : S} {Q : R D → Prop} (hx : ∀ x, o = some x → x.length ≤ 100000) : wE (orVK (con (.str "")) (seat o)) s Q = Q (.ok (.str (o.getD "")) s) := by
  cases o with
  | none => exact id rfl
  | some x =>
    by_cases c : x.length = 0
    · have e : x = "" := str_ext (by
        have : x.cps.toList.length = 0 := c
        rw [List.eq_nil_of_length_eq_zero this]
        rfl)
      subst e
      exact id rfl
    · exact orVK_str c (hx x rfl)
end
def fitR (fs : Folk) (k : Nat) (W : List Str) : List Str := W.filter fun x => decide ((rch fs x).1 ≤ (k : Int))
def outR (W : List Str) (o : Option Str) : List Str := W.filter fun x => !decide (some x = o)
def lateR (fs : Folk) (k : Nat) (W : List Str) : Bool := W.any fun x => decide ((rch fs x).2 ≤ (k : Int))
def begR (fs : Folk) (sat : Sat) (k : Nat) : Nat → Nat
  | 0 => 0
  | b + 1 => match sat[b]? with
    | some (some x) => if (rch fs x).2 ≤ (k : Int) then begR fs sat k b else b + 1
    | _ => b + 1
def runR (fs : Folk) : Nat → Nat → List Str → Sat → (Nat × Nat) ⊕ Sat
  | 0, _, _, sat => .inr sat
  | n + 1, k, W, sat => if lateR fs k (outR W (fitR fs k W).head?) = true then .inl (begR fs (sat ++ [(fitR fs k W).head?]) k k, k) else runR fs n (k + 1) (outR W (fitR fs k W).head?) (sat ++ [(fitR fs k W).head?])
section
variable {fs : Folk} {w : Int} {sat : Sat} {k : Nat} {μ : List MO} {s : S}
theorem rch_look (hf : okFolk w fs) {x : Str} (hx : x ∈ fs.map (·.1)) : lookK (.inr x) (rKds fs) = some (.tup [.int (rch fs x).1, .int (rch fs x).2]) := by
  obtain ⟨⟨y, lo, hi⟩, hp, rfl⟩ := List.mem_map.mp hx
  rw [rch_eq hf.1.1 hp]
  exact look_in hf.1.1 hp
theorem dgetR (hf : okFolk w fs) {x : Str} (hx : x ∈ fs.map (·.1)) {Q : R D → Prop} : wE (dgetD (reachD fs) (.str x)) s Q = Q (.ok (.tup [.int (rch fs x).1, .int (rch fs x).2]) s) := wE_dget rfl (rch_look hf hx)
theorem ixLs {Q : R D → Prop} (h : k < sat.length) : wE (ixD (.lst (sat.map seat)) (.int (k : Int))) s Q = Q (.ok (seat sat[k]) s) := by
  rw [ixL (by omega) (by simp; omega)]
  simp
theorem begun_w (hf : okFolk w fs) (hs : ∀ x, some x ∈ sat → x ∈ fs.map (·.1)) (hk : k < sat.length) (hk2 : k ≤ 12) {Q : RF → Prop} (q : Q (.ok (.int (begR fs sat k k : Nat)) μ)) : wD den_begun_at [reachD fs, .lst (sat.map seat), .int (k : Int)] μ Q := by
  rw [den_begun_at, wD_runB, b_begun_at]
  simp [frame]
  refine wwhile (fun n s => n ≤ k ∧ s = ⟨[.val (reachD fs), .val (.lst (sat.map seat)), .val (.int (k : Int)), .val (.int (n : Int))], μ⟩ ∧ begR fs sat k n = begR fs sat k k) (fun n s h => ?_) 64 k _ (by omega) ⟨Nat.le_refl _, rfl, rfl⟩
  obtain ⟨h1, rfl, h2⟩ := h
  cases n with
  | zero =>
    simp
    rw [show (0 : Int) = ((begR fs sat k k : Nat) : Int) by rw [← h2]; rfl]
    exact q
  | succ b =>
    have e : ((b + 1 : Nat) : Int) - 1 = (b : Int) := by omega
    have hb : b < sat.length := by omega
    have pos : (0 : Int) < ((b + 1 : Nat) : Int) := by omega
    have g : ∀ (s : S) (Q : R D → Prop), wE (ixD (.lst (sat.map seat)) (.int (b : Int))) s Q = Q (.ok (seat sat[b]) s) := fun s Q => ixLs hb
    have e0 : sat[b]? = some sat[b] := List.getElem?_eq_getElem hb
    cases eo : sat[b] with
    | none =>
      have eb : begR fs sat k (b + 1) = b + 1 := by rw [begR, e0, eo]
      rw [eo] at g
      simp only [seat] at g
      simp [pos, e, g]
      have e9 : ((b : Int) + 1) = ((begR fs sat k k : Nat) : Int) := by rw [← h2, eb]; omega
      rw [e9]
      exact q
    | some x =>
      have hx : x ∈ fs.map (·.1) := hs x (by rw [← eo]; exact List.getElem_mem hb)
      have eb : begR fs sat k (b + 1) = if (rch fs x).2 ≤ (k : Int) then begR fs sat k b else b + 1 := by rw [begR, e0, eo]
      rw [eo] at g
      simp only [seat] at g
      have gd : ∀ (s : S) (Q : R D → Prop), wE (dgetD (reachD fs) (.str x)) s Q = Q (.ok (.tup [.int (rch fs x).1, .int (rch fs x).2]) s) := fun s Q => dgetR hf hx
      by_cases c : (rch fs x).2 ≤ (k : Int)
      · rw [if_pos c] at eb
        simp [pos, e, g, gd, ix1, c]
        rw [wS_saug (m := con (.int 1)) (n := (b : Int) + 1) (k := 1) rfl rfl]
        simp
        exact ⟨b, by omega, by omega, by simp, by rw [← h2, eb]⟩
      · rw [if_neg c] at eb
        simp [pos, e, g, gd, ix1, c]
        have e9 : ((b : Int) + 1) = ((begR fs sat k k : Nat) : Int) := by rw [← h2, eb]; omega
        rw [e9]
        exact q
end
section
variable {fs : Folk} {w : Int} {sat : Sat} {k : Nat} {μ : List MO} {s : S}
def rowsR (fs : Folk) : List (Str × Int) := fs.map fun p => (p.1, p.2.2)
def waitR (fs : Folk) : List Str := lamOut (rowsR fs)
theorem lamRows_ok : ∀ {fs : Folk}, lamRows (rKds fs) = some (rowsR fs)
  | [] => rfl
  | (x, lo, hi) :: r => by
    show (lamRows (rKds r)).map ((x, hi) :: ·) = _
    rw [lamRows_ok]
    rfl
theorem sortLam_w (ht : μ[0]? = some (.tab ("seated", none))) {ρ : List Sl} {j : Nat} (hj : ρ[j]? = some (.val (reachD fs))) (hl : fs.length < 64) {Q : R D → Prop} : wE (sortLam ("seated", none) 0 j) ⟨ρ, μ⟩ Q = Q (.ok (.lst ((waitR fs).map .str)) ⟨ρ, μ⟩) := wE_of (by
  have e : lamDct ⟨ρ, μ⟩ j = some (rKds fs) := by
    unfold lamDct
    simp only [hj]
    rfl
  have hl2 : (rowsR fs).length < 64 := by unfold rowsR; simpa using hl
  unfold sortLam
  simp only [ht, e, lamRows_ok, hl2, if_true]
  rfl)
theorem wait_perm : (waitR fs).Perm (fs.map (·.1)) := by
  unfold waitR lamOut
  refine (List.mergeSort_perm _ _).trans ?_
  unfold rowsR
  rw [List.map_map]
  exact List.Perm.of_eq rfl
abbrev nmF (fs : Folk) : List Str := fs.map (·.1)
theorem neSeat {x : Str} (hx : okS (.str x) = true) {o : Option Str} {Q : R D → Prop} : wE (neD (.str x) (seat o)) s Q = Q (.ok (.bl (!decide (some x = o))) s) := by
  cases o with
  | none =>
    have e : decide (some x = none) = false := by simp
    rw [e]
    exact wE_of (ne_diff s (a := .str x) (b := .non) hx rfl rfl rfl (by simp [dpt]) (by simp [dpt]) (by simp)).1
  | some y =>
    have e : decide (some x = some y) = decide (x = y) := by simp
    rw [e]
    exact wE_neS
theorem trL {l : List D} {Q : R Bool → Prop} : wE (trthK (.lst l)) s Q = Q (.ok (!l.isEmpty) s) := id rfl
def seatedD (w : Int) (fs : Folk) : D := match runR fs w.toNat 0 (waitR fs) [] with
  | .inl (a, b) => .tup [.str "crowded", .tup [.int (a : Nat), .int (b : Nat)]]
  | .inr sat => .tup [.str "seating", .tup (sat.map seat)]
def sS (w : Int) (fs : Folk) (sat : Sat) (W : List Str) (x4 x5 : Sl) (μ : List MO) : S := ⟨[.val (benchD w fs), .val (reachD fs), .own (.lst (sat.map seat)), .val (.lst (W.map .str)), x4, x5, .no], μ⟩
def IS (w : Int) (fs : Folk) (μ : List MO) (k : Nat) (s : S) : Prop := ∃ W sat x4 x5, s = sS w fs sat W x4 x5 μ ∧ sat.length = k ∧ (∀ x ∈ W, x ∈ nmF fs) ∧ W.length ≤ 12 ∧ (∀ x, some x ∈ sat → x ∈ nmF fs) ∧ runR fs w.toNat 0 (waitR fs) [] = runR fs (w.toNat - k) k W sat
def tailB : MS := sq (sset 3 (mcomp [6] (mits (var 3)) (gset 6) (tru (Bx.bin neD (var 6) (Bx.bin ixD (var 2) (var 4)))) (var 6))) (sif (truth (bnd (margs [mcomp [6] (mits (var 3)) (gset 6) yes (Bx.bin leD (Bx.bin ixD (Bx.bin dgetD (var 1) (var 6)) (con (.int 1))) (var 4))]) (f1 anyD))) (sret (mtup [con (.str "crowded"), mtup [callK den_begun_at [0, 1, 2] [] (mal [var 1, var 2, var 4]) (mal []), var 4]])) skip)
theorem ixOs {o : Option Str} {ρ : List Sl} {j : Nat} {Q : R D → Prop} (h : ρ[j]? = some (.own (.lst (sat.map seat)))) (hk : sat[k]? = some o) : wE (ixD (.loc j) (.int (k : Int))) ⟨ρ, μ⟩ Q = Q (.ok (seat o) ⟨ρ, μ⟩) := by
  obtain ⟨hl, e⟩ := List.getElem?_eq_some_iff.mp hk
  rw [Bx.ixO h (by omega) (by simp; omega)]
  simp [e]
theorem tail_w (hf : okFolk w fs) (hn : ∀ x ∈ nmF fs, okS (.str x) = true) {W : List Str} {o : Option Str} {x5 : Sl} (hW : ∀ x ∈ W, x ∈ nmF fs) (hl : W.length ≤ 12) (hs : ∀ x, some x ∈ sat → x ∈ nmF fs) (ho : sat[k]? = some o) (hk : k ≤ 12) {Q : RS → Prop}
    (q1 : lateR fs k (outR W o) = false → Q (.nx (sS w fs sat (outR W o) (.val (.int (k : Int))) x5 μ))) (q2 : lateR fs k (outR W o) = true → ∀ ρ, Q (.rt (.tup [.str "crowded", .tup [.int (begR fs sat k k : Nat), .int (k : Nat)]]) ⟨ρ, μ⟩)) :
    wS tailB (sS w fs sat W (.val (.int (k : Int))) x5 μ) Q := by
  have hk2 : k < sat.length := (List.getElem?_eq_some_iff.mp ho).1
  unfold tailB
  simp [sS]
  refine wcomp D.str W (fun x => !decide (some x = o)) D.str rfl (by omega) (fun x hx => ?_) ?_
  · simp
    rw [ixOs (sat := sat) (o := o) (by simp) ho]
    simp [neSeat (hn x (hW x hx))]
    done
  · have hW2 : ∀ x ∈ outR W o, x ∈ nmF fs := fun x hx => hW x (List.mem_filter.mp hx).1
    have hl2 : (outR W o).length ≤ 12 := Nat.le_trans (List.length_filter_le _ _) hl
    rw [show (W.filter fun x => !decide (some x = o)) = outR W o from rfl]
    simp
    refine wcompY D.str (outR W o) (fun x => D.bl (decide ((rch fs x).2 ≤ (k : Int)))) rfl (by omega) (fun x hx => ?_) ?_
    · have h0 : ∀ s (Q : R D → Prop), wE (dgetD (reachD fs) (.str x)) s Q = Q (.ok (.tup [.int (rch fs x).1, .int (rch fs x).2]) s) := fun s Q => dgetR hf (hW2 x hx)
      simp [h0, ix1]
    · have ha : ∀ s (Q : R D → Prop), wE (anyD (.lst ((outR W o).map fun x => D.bl (decide ((rch fs x).2 ≤ (k : Int)))))) s Q = Q (.ok (.bl (lateR fs k (outR W o))) s) := fun s Q => any_map (fun x => decide ((rch fs x).2 ≤ (k : Int))) _
      simp [ha]
      cases c : lateR fs k (outR W o) with
      | false => simpa [sS] using q1 c
      | true =>
        simp [wE_reach, pick]
        refine begun_w hf hs hk2 hk ?_
        simp
        exact q2 c _
theorem seated_w (hf : okFolk w fs) (hw : 0 ≤ w) (hw2 : w ≤ 12) (ht : μ[0]? = some (.tab ("seated", none))) {Q : RF → Prop} (q : Q (.ok (seatedD w fs) μ)) : wD den_seated [benchD w fs] μ Q := by
  have hl : fs.length ≤ 12 := by have := hf.2.2; omega
  have eb : ∀ s (Q : R D → Prop), wE (Bx.settle (benchD w fs)) s Q = Q (.ok (benchD w fs) s) := fun _ _ => wE_bench
  have es : ∀ s (Q : R D → Prop), wE (fldD "Bench" "seats" (benchD w fs)) s Q = Q (.ok (.int w) s) := fun s Q => wE_of (fldE_seats s)
  have ep : ∀ s (Q : R D → Prop), wE (fldD "Bench" "people" (benchD w fs)) s Q = Q (.ok (.tup (fs.map per)) s) := fun s Q => wE_of (fldE_people s)
  have er : ∀ s (Q : R D → Prop), wE (Bx.settle (reachD fs)) s Q = Q (.ok (reachD fs) s) := fun _ _ => wE_reach
  have hsl : ∀ (ρ : List Sl) (Q : R D → Prop), ρ[1]? = some (.val (reachD fs)) → wE (sortLam ("seated", none) 0 1) ⟨ρ, μ⟩ Q = Q (.ok (.lst ((waitR fs).map .str)) ⟨ρ, μ⟩) := fun ρ Q h => sortLam_w ht h (by omega)
  rw [den_seated, wD_runB, b_seated]
  simp [frame, pick, eb, es, ep, er, checkedB_w, reach_w hf hw2]
  rw [hsl _ _ rfl]
  simp [eb, es]
  rw [wE_rg1 (by omega) (by omega)]
  simp
  refine wforR (IS w fs μ)
    ⟨waitR fs, [], .no, .no, rfl, rfl, fun x hx => wait_perm.mem_iff.mp hx, by rw [wait_perm.length_eq]; simpa using hl, (fun x hx => by cases hx), by simp⟩ (fun k s hk h => ?_) (fun s h => ?_)
  · obtain ⟨W, sat, x4, x5, rfl, h1, h2, h3, h4, h5⟩ := h
    have h0 : ∀ x ∈ W, ∀ s (Q : R D → Prop), wE (dgetD (reachD fs) (.str x)) s Q = Q (.ok (.tup [.int (rch fs x).1, .int (rch fs x).2]) s) := fun x hx s Q => dgetR hf (h2 x hx)
    have hk12 : k ≤ 12 := by omega
    have en : w.toNat - k = (w.toNat - (k + 1)) + 1 := by omega
    rw [en, runR] at h5
    simp [sS]
    refine wcomp D.str W (fun x => decide ((rch fs x).1 ≤ (k : Int))) D.str rfl (by omega) (fun x hx => ?_) ?_
    · simp [h0 x hx, ix0]
    · rw [show (W.filter fun x => decide ((rch fs x).1 ≤ (k : Int))) = fitR fs k W from rfl]
      have fin : ∀ (o : Option Str) (x5 : Sl), o = (fitR fs k W).head? → wS tailB (sS w fs (sat ++ [o]) W (.val (.int (k : Int))) x5 μ) (kL (IS w fs μ (k + 1)) (kN (sret (mtup [con (.str "seating"), bnd (margs [var 2]) (f1 tupleD)])) (kF Q))) := fun o x5 ho => by
        subst ho
        have hs2 : ∀ x, some x ∈ sat ++ [(fitR fs k W).head?] → x ∈ nmF fs := fun x hx => by
          rcases List.mem_append.mp hx with hx | hx
          · exact h4 x hx
          · have hx : some x = (fitR fs k W).head? := by simpa using hx
            have hx2 : x ∈ fitR fs k W := List.mem_of_mem_head? hx.symm
            exact h2 x (List.mem_filter.mp hx2).1
        have eo : (sat ++ [(fitR fs k W).head?])[k]? = some (fitR fs k W).head? := by rw [← h1]; simp
        refine tail_w hf (fun x hx => (okName_asc (hf.1.2 x hx)).1) h2 h3 hs2 eo hk12 (fun c => ?_) (fun c ρ => ?_)
        · rw [c] at h5
          exact ⟨_, _, _, _, rfl, by simp [h1], fun x hx => h2 x (List.mem_filter.mp hx).1, Nat.le_trans (List.length_filter_le _ _) h3, hs2, by simpa using h5⟩
        · rw [c] at h5
          have e9 : D.tup [.str "crowded", .tup [.int (begR fs (sat ++ [(fitR fs k W).head?]) k k : Nat), .int (k : Nat)]] = seatedD w fs := by unfold seatedD; rw [h5]; rfl
          simp only [kL_rt, kN_rt, kF_rt]
          rw [e9]
          exact q
      simp [trL]
      cases ef : fitR fs k W with
      | nil =>
        simp
        rw [wE_app (xs := sat.map seat) (by simp) (by simp; omega)]
        have z := fin none (.val (.lst [])) (by rw [ef]; rfl)
        unfold sS at z
        rw [List.map_append] at z
        exact z
      | cons y r =>
        simp
        rw [Bx.ixL (by omega) (by simp)]
        simp
        rw [wE_app (xs := sat.map seat) (by simp) (by simp; omega)]
        have z := fin (some y) (.val (.lst ((y :: r).map .str))) (by rw [ef]; rfl)
        unfold sS at z
        rw [List.map_append] at z
        exact z
  · obtain ⟨W, sat, x4, x5, rfl, h1, h2, h3, h4, h5⟩ := h
    have e : runR fs w.toNat 0 (waitR fs) [] = .inr sat := by rw [h5, Nat.sub_self]; rfl
    simp [sS]
    have eq : D.tup [.str "seating", .tup (sat.map seat)] = seatedD w fs := by unfold seatedD; rw [e]
    rw [eq]
    exact q
end
section
variable {fs : Folk} {w : Int} {sat : Sat} {k : Nat} {W : List Str}
theorem rows_look {x : Str} : ∀ {fs : Folk}, ((rowsR fs).lookup x).getD 0 = (rch fs x).2
  | [] => rfl
  | (y, lo, hi) :: r => by
    have ih := rows_look (x := x) (fs := r)
    unfold rowsR rch at *
    rw [List.map_cons, List.lookup_cons, List.find?_cons]
    by_cases e : x = y
    · subst e
      simp
    · have e1 : (x == y) = false := by simpa using e
      have e2 : decide (y = x) = false := by simpa using fun z => e z.symm
      simp only [e1, e2]
      exact ih
theorem lamLe {rows : List (Str × Int)} {x y : Str} (h : PySem.W.dataLe false (lamK rows) x y = true) : (rows.lookup x).getD 0 ≤ (rows.lookup y).getD 0 := by
  rw [PySem.W.dataLe_eq] at h
  have h : (!PySem.W.dataLt (lamK rows y) (lamK rows x)) = true := h
  by_cases c : (rows.lookup y).getD 0 < (rows.lookup x).getD 0
  · exfalso
    have e : PySem.W.dataLt (lamK rows y) (lamK rows x) = true := by
      show PySem.W.dataLt (.tuple [.int ((rows.lookup y).getD 0), .str y]) (.tuple [.int ((rows.lookup x).getD 0), .str x]) = true
      rw [PySem.W.dataLt_pair (by simp [PySem.W.alike]) (by simp [PySem.W.alike]), if_neg (by simp [PyData.eqv]; omega), PySem.W.dataLt_int]
      simpa using c
    rw [e] at h
    cases h
  · omega
theorem wait_sorted : (waitR fs).Pairwise fun x y => (rch fs x).2 ≤ (rch fs y).2 := by
  unfold waitR lamOut
  have h := PySem.W.sort_pairwise (le := PySem.W.dataLe false (lamK (rowsR fs))) (PySem.W.sortLe_total _ _ _) ((rowsR fs).map (·.1))
  refine h.imp fun {x y} z => ?_
  have z2 := lamLe (rows := rowsR fs) (x := x) (y := y) z
  rwa [rows_look, rows_look] at z2
def waits (W : List Str) (sat : Sat) (j : Nat) (z : Str) : Prop := z ∈ W ∨ ∃ i, j < i ∧ sat[i]? = some (some z)
structure RunJ (fs : Folk) (k : Nat) (W : List Str) (sat : Sat) : Prop where
  len : sat.length = k
  srt : W.Pairwise fun x y => (rch fs x).2 ≤ (rch fs y).2
  perm : (sat.filterMap id ++ W).Perm (fs.map (·.1))
  on : ∀ (i : Nat) x, sat[i]? = some (some x) → (rch fs x).1 ≤ (i : Int) ∧ (i : Int) ≤ (rch fs x).2
  hist : ∀ (j : Nat) z, j < k → waits W sat j z → (rch fs z).1 ≤ (j : Int) → ∃ y, sat[j]? = some (some y) ∧ (rch fs y).2 ≤ (rch fs z).2
def Ahead (fs : Folk) (k : Nat) (W : List Str) : Prop := ∀ x ∈ W, (k : Int) ≤ (rch fs x).2
theorem out_none : outR W none = W := by
  unfold outR
  exact List.filter_eq_self.mpr fun x _ => by simp
theorem RunJ.start (hf : okFolk w fs) : RunJ fs 0 (waitR fs) [] where
  len := rfl
  srt := wait_sorted
  perm := by simpa using wait_perm
  on := fun i x h => by simp at h
  hist := fun j z h => absurd h (Nat.not_lt_zero _)
theorem out_perm {y : Str} (hy : y ∈ W) (nd : W.Nodup) : (y :: outR W (some y)).Perm W := by
  have e : outR W (some y) = W.erase y := by
    unfold outR
    rw [nd.erase_eq_filter]
    refine List.filter_congr fun x _ => ?_
    simp [bne, BEq.beq]
  rw [e]
  exact (List.perm_cons_erase hy).symm
theorem RunJ.step (hf : okFolk w fs) (I : RunJ fs k W sat) (A : Ahead fs k W) : RunJ fs (k + 1) (outR W (fitR fs k W).head?) (sat ++ [(fitR fs k W).head?]) := by
  have ndA : (sat.filterMap id ++ W).Nodup := I.perm.nodup_iff.mpr hf.1.1
  have nd : W.Nodup := (List.nodup_append.mp ndA).2.1
  have sub : ∀ z ∈ outR W (fitR fs k W).head?, z ∈ W := fun z hz => (List.mem_filter.mp hz).1
  have at1 : ∀ i, i < k → (sat ++ [(fitR fs k W).head?])[i]? = sat[i]? := fun i hi => List.getElem?_append_left (by rw [I.len]; exact hi)
  have atk : (sat ++ [(fitR fs k W).head?])[k]? = some (fitR fs k W).head? := by rw [← I.len]; simp
  have atn : ∀ i x, (sat ++ [(fitR fs k W).head?])[i]? = some x → i ≤ k := fun i x h => by
    have := (List.getElem?_eq_some_iff.mp h).1
    rw [List.length_append, I.len] at this
    simp at this
    omega
  have fit : ∀ y, (fitR fs k W).head? = some y → y ∈ W ∧ (rch fs y).1 ≤ (k : Int) := fun y h => by
    have hy : y ∈ fitR fs k W := List.mem_of_mem_head? h
    obtain ⟨h1, h2⟩ := List.mem_filter.mp hy
    exact ⟨h1, by simpa using h2⟩
  refine ⟨by simp [I.len], I.srt.sublist List.filter_sublist, ?_, fun i x h => ?_, fun j z hj hz hl => ?_⟩
  · refine List.Perm.trans ?_ I.perm
    cases e : (fitR fs k W).head? with
    | none => rw [out_none]; simp
    | some y =>
      have := out_perm (fit y e).1 nd
      simp only [List.filterMap_append, List.append_assoc]
      exact List.Perm.append_left _ (by simpa using this)
  · by_cases hi : i < k
    · rw [at1 i hi] at h
      exact I.on i x h
    · have hi : i = k := by have := atn i _ h; omega
      subst hi
      rw [atk] at h
      have h := Option.some.inj h
      obtain ⟨f1, f2⟩ := fit x h
      exact ⟨f2, A x f1⟩
  · by_cases hj2 : j < k
    · rw [at1 j hj2]
      refine I.hist j z hj2 ?_ hl
      rcases hz with hz | ⟨i, h1, h2⟩
      · exact .inl (sub z hz)
      · by_cases hi : i < k
        · rw [at1 i hi] at h2
          exact .inr ⟨i, h1, h2⟩
        · have hi : i = k := by have := atn i _ h2; omega
          subst hi
          rw [atk] at h2
          exact .inl (fit z (Option.some.inj h2)).1
    · have hj3 : j = k := by omega
      subst hj3
      rw [atk]
      have hzW : z ∈ W := by
        rcases hz with hz | ⟨i, h1, h2⟩
        · exact sub z hz
        · have := atn i _ h2
          omega
      have hzf : z ∈ fitR fs j W := List.mem_filter.mpr ⟨hzW, by simpa using hl⟩
      have sf : (fitR fs j W).Pairwise fun x y => (rch fs x).2 ≤ (rch fs y).2 := I.srt.sublist List.filter_sublist
      cases e : fitR fs j W with
      | nil => rw [e] at hzf; cases hzf
      | cons y r =>
        refine ⟨y, by simp, ?_⟩
        rw [e] at hzf sf
        rcases List.mem_cons.mp hzf with h | h
        · rw [h]; exact Int.le_refl _
        · exact (List.pairwise_cons.mp sf).1 z h
end
section
variable {fs : Folk} {w : Int} {sat : Sat} {k : Nat} {W : List Str}
theorem begR_spec : ∀ (n : Nat), begR fs sat k n ≤ n ∧ (∀ j, begR fs sat k n ≤ j → j < n → ∃ y, sat[j]? = some (some y) ∧ (rch fs y).2 ≤ (k : Int)) ∧
    (begR fs sat k n = 0 ∨ ∀ y, sat[begR fs sat k n - 1]? = some (some y) → ¬ (rch fs y).2 ≤ (k : Int))
  | 0 => ⟨Nat.le_refl _, fun j _ h => absurd h (Nat.not_lt_zero _), .inl rfl⟩
  | b + 1 => by
    obtain ⟨h1, h2, h3⟩ := begR_spec b
    cases e : sat[b]? with
    | none =>
      have eb : begR fs sat k (b + 1) = b + 1 := by rw [begR, e]
      rw [eb]
      refine ⟨Nat.le_refl _, fun j z1 z2 => by omega, .inr fun y hy => ?_⟩
      rw [show b + 1 - 1 = b from rfl, e] at hy
      cases hy
    | some o =>
      cases o with
      | none =>
        have eb : begR fs sat k (b + 1) = b + 1 := by rw [begR, e]
        rw [eb]
        refine ⟨Nat.le_refl _, fun j z1 z2 => by omega, .inr fun y hy => ?_⟩
        rw [show b + 1 - 1 = b from rfl, e] at hy
        cases hy
      | some y =>
        by_cases c : (rch fs y).2 ≤ (k : Int)
        · have eb : begR fs sat k (b + 1) = begR fs sat k b := by rw [begR, e]; simp [c]
          rw [eb]
          refine ⟨by omega, fun j z1 z2 => ?_, h3⟩
          by_cases hj : j = b
          · subst hj
            exact ⟨y, e, c⟩
          · exact h2 j z1 (by omega)
        · have eb : begR fs sat k (b + 1) = b + 1 := by rw [begR, e]; simp [c]
          rw [eb]
          refine ⟨Nat.le_refl _, fun j z1 z2 => by omega, .inr fun z hz => ?_⟩
          rw [show b + 1 - 1 = b from rfl, e] at hz
          cases hz
          exact c
theorem all_some_len : ∀ {l : Sat}, (∀ o ∈ l, ∃ y, o = some y) → (l.filterMap id).length = l.length
  | [], _ => rfl
  | o :: r, h => by
    obtain ⟨y, rfl⟩ := h o List.mem_cons_self
    simp [all_some_len fun o ho => h o (List.mem_cons_of_mem _ ho)]
theorem name_in (hf : okFolk w fs) {z : Str} (hz : z ∈ nmF fs) : (z, (rch fs z).1, (rch fs z).2) ∈ fs ∧ 0 ≤ (rch fs z).1 ∧ (rch fs z).1 ≤ (rch fs z).2 ∧ (rch fs z).2 < w := by
  obtain ⟨⟨y, lo, hi⟩, hp, rfl⟩ := List.mem_map.mp hz
  rw [rch_eq hf.1.1 hp]
  exact ⟨hp, hf.2.1 _ hp⟩
theorem crowd_of (hf : okFolk w fs) (J : RunJ fs (k + 1) W sat) {x : Str} (hx : x ∈ W) (hl : (rch fs x).2 ≤ (k : Int)) :
    begR fs sat k k ≤ k ∧ k - begR fs sat k k + 1 < (inside fs (begR fs sat k k) k).length := by
  obtain ⟨b1, b2, b3⟩ := begR_spec (fs := fs) (sat := sat) (k := k) k
  generalize hb : begR fs sat k k = b at *
  refine ⟨b1, ?_⟩
  have nm : ∀ z, (z ∈ W ∨ some z ∈ sat) → z ∈ nmF fs := fun z hz => J.perm.mem_iff.mp (by
    rcases hz with h | h
    · exact List.mem_append.mpr (.inr h)
    · exact List.mem_append.mpr (.inl (List.mem_filterMap.mpr ⟨_, h, rfl⟩)))
  obtain ⟨x1, x2, x3, x4⟩ := name_in hf (nm x (.inl hx))
  -- the seat k itself
  obtain ⟨yk, hk1, hk2⟩ := J.hist k x (Nat.lt_succ_self k) (.inl hx) (by omega)
  have occ : ∀ j, b ≤ j → j ≤ k → ∃ y, sat[j]? = some (some y) ∧ (rch fs y).2 ≤ (k : Int) := fun j h1 h2 => by
    by_cases hj : j < k
    · exact b2 j h1 hj
    · have hj : j = k := by omega
      subst hj
      exact ⟨yk, hk1, by omega⟩
  have low : ∀ z, z ∈ nmF fs → (rch fs z).2 ≤ (k : Int) → (z ∈ W ∨ ∃ i, b ≤ i ∧ sat[i]? = some (some z)) → (b : Int) ≤ (rch fs z).1 := fun z hz h1 h2 => by
    rcases b3 with h0 | h0
    · subst h0
      have := (name_in hf hz).2.1
      omega
    · by_cases c : b = 0
      · subst c
        have := (name_in hf hz).2.1
        omega
      · by_cases c2 : (rch fs z).1 ≤ ((b - 1 : Nat) : Int)
        · exfalso
          obtain ⟨y, hy1, hy2⟩ := J.hist (b - 1) z (by omega) (by
            rcases h2 with h2 | ⟨i, h2, h3⟩
            · exact .inl h2
            · exact .inr ⟨i, by omega, h3⟩) c2
          exact h0 y hy1 (by omega)
        · omega
  have ndA : (sat.filterMap id ++ W).Nodup := J.perm.nodup_iff.mpr hf.1.1
  have nd : ((sat.drop b).filterMap id ++ [x]).Nodup := by
    refine ndA.sublist (List.Sublist.append ((List.drop_sublist b sat).filterMap id) ?_)
    exact List.singleton_sublist.mpr hx
  have len : ((sat.drop b).filterMap id ++ [x]).length = k - b + 2 := by
    rw [List.length_append, all_some_len fun o ho => ?_, List.length_drop, J.len]
    · simp
      omega
    · obtain ⟨i, hi⟩ := List.mem_iff_getElem?.mp ho
      rw [List.getElem?_drop] at hi
      have := (List.getElem?_eq_some_iff.mp hi).1
      rw [J.len] at this
      obtain ⟨y, h1, _⟩ := occ (b + i) (by omega) (by omega)
      rw [h1] at hi
      exact ⟨y, (Option.some.inj hi).symm⟩
  have sub : ∀ z ∈ (sat.drop b).filterMap id ++ [x], z ∈ inside fs (b : Int) (k : Int) := fun z hz => by
    have key : z ∈ nmF fs ∧ (rch fs z).2 ≤ (k : Int) ∧ (z ∈ W ∨ ∃ i, b ≤ i ∧ sat[i]? = some (some z)) := by
      rcases List.mem_append.mp hz with h | h
      · obtain ⟨o, h1, h2⟩ := List.mem_filterMap.mp h
        have h2 : o = some z := h2
        subst h2
        obtain ⟨i, hi⟩ := List.mem_iff_getElem?.mp h1
        rw [List.getElem?_drop] at hi
        have hlt := (List.getElem?_eq_some_iff.mp hi).1
        rw [J.len] at hlt
        obtain ⟨y, g1, g2⟩ := occ (b + i) (by omega) (by omega)
        rw [hi] at g1
        cases g1
        exact ⟨nm z (.inr (List.mem_of_getElem? hi)), g2, .inr ⟨b + i, by omega, hi⟩⟩
      · have h : z = x := by simpa using h
        subst h
        exact ⟨nm z (.inl hx), hl, .inl hx⟩
    obtain ⟨g1, g2, g3⟩ := key
    have g4 := low z g1 g2 g3
    unfold inside
    refine List.mem_map.mpr ⟨(z, (rch fs z).1, (rch fs z).2), List.mem_filter.mpr ⟨(name_in hf g1).1, ?_⟩, rfl⟩
    unfold inF
    simp
    exact ⟨g4, g2⟩
  have := nodup_len nd sub
  omega
theorem run_spec (hf : okFolk w fs) (hw : 0 ≤ w) : ∀ (n k : Nat) (W : List Str) (sat : Sat), k + n = w.toNat → RunJ fs k W sat → Ahead fs k W →
    match runR fs n k W sat with
    | .inl (a, b) => a ≤ b ∧ (b : Int) < w ∧ b - a + 1 < (inside fs a b).length
    | .inr s => IsSat w fs s
  | 0, k, W, sat, hk, J, A => by
    show IsSat w fs sat
    have hW : W = [] := by
      cases W with
      | nil => rfl
      | cons x r =>
        have h1 := A x List.mem_cons_self
        have h2 := (name_in hf (J.perm.mem_iff.mp (List.mem_append.mpr (.inr (List.mem_cons_self (a := x) (l := r)))))).2.2.2
        omega
    subst hW
    refine ⟨by rw [J.len]; omega, by simpa using J.perm, fun i x lo hi h1 h2 => ?_⟩
    have := J.on i x h1
    rw [rch_eq hf.1.1 h2] at this
    exact this
  | n + 1, k, W, sat, hk, J, A => by
    have J1 := J.step hf A
    rw [runR]
    cases c : lateR fs k (outR W (fitR fs k W).head?) with
    | true =>
      rw [if_pos rfl]
      unfold lateR at c
      obtain ⟨x, h1, h2⟩ := List.any_eq_true.mp c
      obtain ⟨g1, g2⟩ := crowd_of hf J1 h1 (by simpa using h2)
      exact ⟨g1, by omega, g2⟩
    | false =>
      rw [if_neg (by simp)]
      refine run_spec hf hw n (k + 1) _ _ (by omega) J1 fun x hx => ?_
      unfold lateR at c
      have := List.any_eq_false.mp c x hx
      simp at this
      omega
/-- what seated tells -/
theorem seated_spec (hf : okFolk w fs) (hw : 0 ≤ w) : (∃ s, seatedD w fs = .tup [.str "seating", .tup (s.map seat)] ∧ IsSat w fs s) ∨
    ∃ a b : Nat, seatedD w fs = .tup [.str "crowded", .tup [.int (a : Nat), .int (b : Nat)]] ∧ a ≤ b ∧ (b : Int) < w ∧ b - a + 1 < (inside fs a b).length := by
  have h := run_spec hf hw w.toNat 0 (waitR fs) [] (by omega) (RunJ.start hf) fun x hx => by
    have := (name_in hf (wait_perm.mem_iff.mp hx)).2
    omega
  unfold seatedD
  cases e : runR fs w.toNat 0 (waitR fs) [] with
  | inl p =>
    obtain ⟨a, b⟩ := p
    rw [e] at h
    exact .inr ⟨a, b, rfl, h⟩
  | inr s =>
    rw [e] at h
    exact .inl ⟨s, rfl, h⟩
end
end
end K22
end
noncomputable section
namespace K22
open PySem PySem.Spec PyProof.Rows L2 Bx
noncomputable section
section
variable {μ : List MO} {ρ : List Sl} {Q : RF → Prop} {w m : Int} {fs gs : Folk} {sat t : Sat} {x : Str} {i k : Nat} {p : Str × Int × Int}
def mirP (w : Int) (p : Str × Int × Int) : Str × Int × Int := (p.1, w - 1 - p.2.2, w - 1 - p.2.1)
def mirF (w : Int) (fs : Folk) : Folk := fs.map (mirP w)
section
variable {w : Int} {fs : Folk} {sat : Sat} {μ : List MO} {Q : RF → Prop}
theorem mir_names : (mirF w fs).map (·.1) = fs.map (·.1) := by
  unfold mirF
  rw [List.map_map]
  rfl
theorem mir_ok (h : okFolk w fs) : okFolk w (mirF w fs) := by
  refine ⟨by rw [mir_names]; exact h.1, fun p hp => ?_, by unfold mirF; rw [List.length_map]; exact h.2.2⟩
  obtain ⟨q, hq, rfl⟩ := List.mem_map.mp hp
  have := h.2.1 q hq
  unfold okP mirP at *
  simp only
  omega
theorem rev_get {α : Type} {l : List α} {i : Nat} (h : i < l.length) : l.reverse[i]? = l[l.length - 1 - i]? := List.getElem?_reverse h
theorem mir_sat (hs : IsSat w fs sat) : IsSat w (mirF w fs) sat.reverse := by
  have hl := hs.len
  refine ⟨by rw [List.length_reverse]; exact hs.len, ?_, fun i x lo hi e m => ?_⟩
  · rw [mir_names, List.filterMap_reverse]
    exact (List.reverse_perm _).trans hs.perm
  · obtain ⟨⟨y, l, r⟩, hq, e2⟩ := List.mem_map.mp m
    simp only [mirP, Prod.mk.injEq] at e2
    obtain ⟨rfl, rfl, rfl⟩ := e2
    have hi : i < sat.length := by
      have := (List.getElem?_eq_some_iff.mp e).1
      rwa [List.length_reverse] at this
    rw [rev_get hi] at e
    have := hs.on _ _ l r e hq
    omega
theorem mirror_w (hf : okFolk w fs) (hw : 0 < w) (hw2 : w ≤ 12) : wD den_Bench_mirrored [benchD w fs] μ Q = Q (.ok (benchD w (mirF w fs)) μ) := by
  have hl : fs.length ≤ 12 := by have := hf.2.2; omega
  refine wD_of (of_wD (P := fun r => r = .ok (benchD w (mirF w fs)) μ) ?_)
  rw [den_Bench_mirrored, wD_runB, b_Bench_mirrored]
  simp [frame, pick, fld_seats, fld_people]
  refine wcompY per fs (fun p => per (mirP w p)) (by rfl) (by omega) (fun p hp => ?_) ?_
  · simp [per, mirP]
  · simp [fld_seats, pick]
    have e : (fs.map fun p => per (mirP w p)) = (mirF w fs).map per := by unfold mirF; rw [List.map_map]; rfl
    rw [e, make_w (mir_ok hf) hw hw2]
    simp [wE_bench]
theorem ok_sub {l : Folk} (hf : okFolk w fs) (h : l.Sublist fs) : okFolk w l := by
  refine ⟨⟨List.Nodup.sublist (h.map _) hf.1.1, fun x hx => hf.1.2 x ((h.map _).subset hx)⟩, fun p hp => hf.2.1 p (h.subset hp), ?_⟩
  have := h.length_le
  have := hf.2.2
  omega
theorem plus_good {p : Str × Int × Int} (hf : okFolk w (fs ++ [p])) (hw : 1 ≤ w) (hw2 : w ≤ 12) : wD den_Bench_plus [benchD w fs, per p] μ Q = Q (.ok (benchD w (fs ++ [p])) μ) := by
  refine wD_of (of_wD (P := fun r => r = .ok (benchD w (fs ++ [p])) μ) ?_)
  rw [den_Bench_plus, wD_runB, b_Bench_plus]
  have hv : ∀ s (Q : R D → Prop), wE (Bx.settle (per p)) s Q = Q (.ok (per p) s) := fun _ _ => id rfl
  have hl := hf.2.2
  rw [List.length_append, List.length_singleton] at hl
  have ha : ∀ s (Q : R D → Prop), wE (addD (.tup (fs.map per)) (.tup [per p])) s Q = Q (.ok (.tup ((fs ++ [p]).map per)) s) := fun s Q => by
    rw [wE_addT (by simp; omega), List.map_append]
    rfl
  simp only [frame, pick, fld_seats, fld_people, wE_mkK]
  simp [frame, pick, fld_seats, fld_people, hv, ha, -List.map_append, make_w hf (show 0 < w by omega) hw2, wE_bench]
theorem without_hit {k : Nat} (hk : k < fs.length) (hf : okFolk w fs) (hw : 1 ≤ w) (hw2 : w ≤ 12) : wD den_Bench_without [benchD w fs, .str fs[k].1] μ Q = Q (.ok (benchD w (fs.take k ++ fs.drop (k + 1))) μ) := by
  refine wD_of (of_wD (P := fun r => r = .ok (benchD w (fs.take k ++ fs.drop (k + 1))) μ) ?_)
  rw [den_Bench_without, wD_runB, b_Bench_without]
  have hl := hf.2.2
  have hs : okFolk w (fs.take k ++ fs.drop (k + 1)) := ok_sub hf (by
    rw [← List.eraseIdx_eq_take_drop_succ]
    exact List.eraseIdx_sublist _ _)
  have ha : ∀ s (Q : R D → Prop), wE (addD (.tup ((fs.take k).map per)) (.tup ((fs.drop (k + 1)).map per))) s Q = Q (.ok (.tup ((fs.take k ++ fs.drop (k + 1)).map per)) s) := fun s Q => by
    rw [wE_addT (by simp; omega), List.map_append]
  simp [frame, pick, fld_seats, fld_people, wE_bench, rcT, turn_hit hk hf, bcut, bcut1, ha, -List.map_append, -List.map_take, -List.map_drop, make_w hs (show 0 < w by omega) hw2]
theorem stretch_hit {k : Nat} (hk : k < fs.length) (hf : okFolk w fs) : wD den_Bench_stretch [benchD w fs, .str fs[k].1] μ Q = Q (.ok (.tup [.int fs[k].2.1, .int fs[k].2.2]) μ) := by
  refine wD_of (of_wD (P := fun r => r = .ok (.tup [.int fs[k].2.1, .int fs[k].2.2]) μ) ?_)
  rw [den_Bench_stretch, wD_runB, b_Bench_stretch]
  have gk : ∀ s (Q : R D → Prop), wE (ixD (.tup (fs.map per)) (.int (k : Int))) s Q = Q (.ok (per fs[k]) s) := fun s Q => by
    rw [ixT (by omega) (by rw [List.length_map]; omega)]
    simp
  have sk : ∀ s (Q : R D → Prop), wE (slD (per fs[k]) (some 1) none) s Q = Q (.ok (.tup [.int fs[k].2.1, .int fs[k].2.2]) s) := fun _ _ => id rfl
  simp [frame, pick, wE_bench, rcT, fld_people, turn_hit hk hf, gk, sk]
theorem lenO_w (hl : fs.length ≤ 12) {s : S} {Q : R D → Prop} : wE (lenO "Bench" den_Bench_len (benchD w fs)) s Q = Q (.ok (.int fs.length) s) := wE_of (by
  have e : den_Bench_len [benchD w fs] s.μ = .ok (.int fs.length) s.μ := of_wD (P := fun r => r = .ok (.int fs.length) s.μ) (by
    rw [den_Bench_len, wD_runB, b_Bench_len]
    simp [frame, fld_people])
  unfold benchD at e ⊢
  unfold lenO
  simp only [if_true, e]
  rw [if_pos (by omega)])
theorem no_sat (hf : okFolk w fs) {a b : Nat} (hab : a ≤ b) (hb : (b : Int) < w) (hc : b - a + 1 < (inside fs (a : Int) (b : Int)).length) (hs : IsSat w fs sat) : False := by
  have nd : (inside fs (a : Int) (b : Int)).Nodup := hf.1.1.sublist (List.Sublist.map _ List.filter_sublist)
  have sub : ∀ z ∈ inside fs (a : Int) (b : Int), z ∈ ((List.range' a (b - a + 1)).map fun i => (sat.getD i none).getD "") := fun z hz => by
    unfold inside inF at hz
    obtain ⟨⟨y, l, h⟩, hp, rfl⟩ := List.mem_map.mp hz
    obtain ⟨hp1, hp2⟩ := List.mem_filter.mp hp
    simp at hp2
    have hm : some y ∈ sat := by
      have : y ∈ sat.filterMap id := hs.perm.mem_iff.mpr (List.mem_map.mpr ⟨_, hp1, rfl⟩)
      obtain ⟨o, h1, h2⟩ := List.mem_filterMap.mp this
      have h2 : o = some y := h2
      exact h2 ▸ h1
    obtain ⟨i, hi⟩ := List.mem_iff_getElem?.mp hm
    obtain ⟨g1, g2⟩ := hs.on i y l h hi hp1
    refine List.mem_map.mpr ⟨i, List.mem_range'_1.mpr ⟨by omega, by omega⟩, ?_⟩
    simp [List.getD, hi]
  have := nodup_len nd sub
  simp at this
  omega
end
end
end
end K22
end
noncomputable section
namespace K22
open PySem PySem.Spec PyProof.Rows L2 Bx
noncomputable section
section
variable {μ : List MO} {w m : Int} {fs gs : Folk} {sat t : Sat} {x : Str} {i k : Nat} {p : Str × Int × Int}
def Crowd (w : Int) (fs : Folk) (a b : Nat) : Prop := a ≤ b ∧ (b : Int) < w ∧ b - a + 1 < (inside fs (a : Int) (b : Int)).length
theorem word_yes (hf : okFolk w fs) (hw : 0 ≤ w) (h : ∃ s, IsSat w fs s) : ∃ s, seatedD w fs = .tup [.str "seating", .tup (s.map seat)] ∧ IsSat w fs s := by
  rcases seated_spec hf hw with g | ⟨a, b, _, h1, h2, h3⟩
  · exact g
  · obtain ⟨s, hs⟩ := h
    exact (no_sat hf h1 h2 h3 hs).elim
theorem word_no (hf : okFolk w fs) (hw : 0 ≤ w) (h : ∃ a b, Crowd w fs a b) : ∃ a b : Nat, seatedD w fs = .tup [.str "crowded", .tup [.int (a : Nat), .int (b : Nat)]] ∧ Crowd w fs a b := by
  rcases seated_spec hf hw with ⟨s, _, hs⟩ | ⟨a, b, e, h1, h2, h3⟩
  · obtain ⟨a, b, h1, h2, h3⟩ := h
    exact (no_sat hf h1 h2 h3 hs).elim
  · exact ⟨a, b, e, h1, h2, h3⟩
/-- nobody crowded: a seating -/
theorem sat_of (hf : okFolk w fs) (hw : 0 ≤ w) (h : ∀ a b, ¬ Crowd w fs a b) : ∃ s, IsSat w fs s := by
  rcases seated_spec hf hw with ⟨s, _, hs⟩ | ⟨a, b, e, h1, h2, h3⟩
  · exact ⟨s, hs⟩
  · exact (h a b ⟨h1, h2, h3⟩).elim
theorem sat_no (hf : okFolk w fs) (hs : IsSat w fs sat) (a b : Nat) : ¬ Crowd w fs a b := fun ⟨h1, h2, h3⟩ => no_sat hf h1 h2 h3 hs
theorem in_len {lo hi : Int} : (inside fs lo hi).length = (fs.filter (inF lo hi)).length := by
  unfold inside
  rw [List.length_map]
/-- fewer people -/
theorem sub_in {l : Folk} (h : l.Sublist fs) {lo hi : Int} : (inside l lo hi).length ≤ (inside fs lo hi).length := by
  rw [in_len, in_len]
  exact (h.filter _).length_le
/-- the mirror -/
theorem mir_in {a b : Nat} (hb : (b : Int) < w) (hab : a ≤ b) : (inside (mirF w fs) ((w - 1 - b : Int)) (w - 1 - a)).length = (inside fs (a : Int) (b : Int)).length := by
  rw [in_len, in_len]
  unfold mirF
  rw [List.filter_map, List.length_map]
  congr 1
  refine List.filter_congr fun q hq => ?_
  unfold inF mirP
  simp only [Function.comp]
  rw [Bool.eq_iff_iff, Bool.and_eq_true, Bool.and_eq_true, decide_eq_true_eq, decide_eq_true_eq, decide_eq_true_eq, decide_eq_true_eq]
  omega
theorem mir_crowd {a b : Nat} (h : Crowd w fs a b) : Crowd w (mirF w fs) (w - 1 - b).toNat (w - 1 - a).toNat := by
  obtain ⟨h1, h2, h3⟩ := h
  refine ⟨by omega, by omega, ?_⟩
  have := mir_in (fs := fs) h2 h1
  rw [show ((w - 1 - (b : Int)).toNat : Int) = w - 1 - b by omega, show ((w - 1 - (a : Int)).toNat : Int) = w - 1 - a by omega, this]
  omega
/-- one more -/
theorem plus_in {lo hi : Int} : (inside fs lo hi).length ≤ (inside (fs ++ [p]) lo hi).length := by
  rw [in_len, in_len, List.filter_append, List.length_append]
  omega
theorem plus_crowd {a b : Nat} (h : Crowd w fs a b) : Crowd w (fs ++ [p]) a b := ⟨h.1, h.2.1, Nat.lt_of_lt_of_le h.2.2 plus_in⟩
/-- one more, who sits anywhere -/
theorem plus_all (hf : okFolk w fs) (hl : (fs.length : Int) < w) {a b : Nat} (h : Crowd w (fs ++ [(x, 0, w - 1)]) a b) : ∃ a b, Crowd w fs a b := by
  obtain ⟨h1, h2, h3⟩ := h
  rw [in_len, List.filter_append, List.length_append] at h3
  by_cases c : inF (a : Int) (b : Int) (x, 0, w - 1) = true
  · exfalso
    have h4 : (fs.filter (inF (a : Int) (b : Int))).length ≤ fs.length := List.length_filter_le _ _
    have h5 : ([(x, (0 : Int), w - 1)].filter (inF (a : Int) (b : Int))).length ≤ 1 := List.length_filter_le _ _
    unfold inF at c
    simp at c
    omega
  · have : [(x, (0 : Int), w - 1)].filter (inF (a : Int) (b : Int)) = [] := by simp [c]
    rw [this] at h3
    refine ⟨a, b, h1, h2, ?_⟩
    rw [in_len]
    simpa using h3
/-- one led narrower -/
theorem led_in {q : Str × Int × Int} (nd : (fs.map (·.1)).Nodup) (hq : q ∈ fs) (hn : p.1 = q.1) (h1 : q.2.1 ≤ p.2.1) (h2 : p.2.2 ≤ q.2.2) {lo hi : Int} : (inside fs lo hi).length ≤ (inside (ledF fs p) lo hi).length := by
  rw [in_len, in_len]
  unfold ledF
  rw [List.filter_map, List.length_map, ← List.countP_eq_length_filter, ← List.countP_eq_length_filter]
  refine List.countP_mono_left fun r hr h => ?_
  unfold inF at h ⊢
  rw [Bool.and_eq_true, decide_eq_true_eq, decide_eq_true_eq] at h
  simp only [Function.comp]
  rw [Bool.and_eq_true, decide_eq_true_eq, decide_eq_true_eq]
  by_cases c : r.1 = p.1
  · have e : r = q := by
      obtain ⟨l1, l2⟩ := (⟨look_in nd (show (r.1, r.2.1, r.2.2) ∈ fs from hr), look_in nd (show (q.1, q.2.1, q.2.2) ∈ fs from hq)⟩ : _ ∧ _)
      rw [c, hn] at l1
      rw [l1] at l2
      simp at l2
      exact Prod.ext (c.trans hn) (Prod.ext l2.1 l2.2)
    subst e
    rw [if_pos c]
    omega
  · rw [if_neg c]
    exact h
theorem led_crowd {q : Str × Int × Int} (nd : (fs.map (·.1)).Nodup) (hq : q ∈ fs) (hn : p.1 = q.1) (h1 : q.2.1 ≤ p.2.1) (h2 : p.2.2 ≤ q.2.2) {a b : Nat} (h : Crowd w fs a b) : Crowd w (ledF fs p) a b := ⟨h.1, h.2.1, Nat.lt_of_lt_of_le h.2.2 (led_in nd hq hn h1 h2)⟩
/-- without one -/
theorem without_sub {k : Nat} : (fs.take k ++ fs.drop (k + 1)).Sublist fs := by
  rw [← List.eraseIdx_eq_take_drop_succ]
  exact List.eraseIdx_sublist _ _
theorem without_sat (hf : okFolk w fs) (hw : 0 ≤ w) (hs : IsSat w fs sat) {k : Nat} : ∃ s, IsSat w (fs.take k ++ fs.drop (k + 1)) s :=
  sat_of (ok_sub hf without_sub) hw fun a b h => sat_no hf hs a b ⟨h.1, h.2.1, Nat.lt_of_lt_of_le h.2.2 (sub_in without_sub)⟩
/-- who is in a window, without one -/
theorem without_in (nd : (fs.map (·.1)).Nodup) (hk : k < fs.length) {lo hi : Int} : inside (fs.take k ++ fs.drop (k + 1)) lo hi = (inside fs lo hi).filter fun y => !decide (y = fs[k].1) := by
  have e : fs.take k ++ fs.drop (k + 1) = fs.filter fun q => !decide (q.1 = fs[k].1) := by
    have h1 : fs = fs.take k ++ fs[k] :: fs.drop (k + 1) := by
      rw [List.getElem_cons_drop]
      exact (List.take_append_drop k fs).symm
    have h2 : (fs.take k ++ fs[k] :: fs.drop (k + 1)).map (·.1) = fs.map (·.1) := by rw [← h1]
    rw [← h2] at nd
    generalize fs[k] = q at *
    rw [List.map_append, List.map_cons, List.nodup_append, List.nodup_cons] at nd
    obtain ⟨n1, ⟨n2, n3⟩, n4⟩ := nd
    conv => rhs; rw [h1]
    rw [List.filter_append, List.filter_cons]
    simp only [decide_true, Bool.not_true, Bool.false_eq_true, if_false]
    rw [List.filter_eq_self.mpr fun r hr => ?_, List.filter_eq_self.mpr fun r hr => ?_]
    · have : ¬ r.1 = q.1 := fun z => n2 (List.mem_map.mpr ⟨r, hr, z⟩)
      simp [this]
    · have : ¬ r.1 = q.1 := fun z => n4 _ (List.mem_map.mpr ⟨r, hr, rfl⟩) _ List.mem_cons_self z
      simp [this]
  rw [e]
  unfold inside
  rw [List.filter_filter, List.filter_map, List.filter_filter]
  congr 1
  refine List.filter_congr fun r hr => ?_
  simp [Bool.and_comm]
end
end
end K22
end
noncomputable section
namespace K22
open PySem PySem.Spec PyProof.Rows L2 Bx
noncomputable section
section
variable {μ : List MO} {w m : Int} {fs gs : Folk} {sat t : Sat} {x : Str} {i k a b c d : Nat} {p : Str × Int × Int}
def Full (w : Int) (fs : Folk) (a b : Nat) : Prop := a ≤ b ∧ (b : Int) < w ∧ (inside fs (a : Int) (b : Int)).length = b - a + 1
theorem mem_full (q : Int × Int) : q ∈ fullW w fs ↔ ∃ a b : Nat, q = ((a : Int), (b : Int)) ∧ Full w fs a b ∧ (b : Int) - a + 1 < w := by
  unfold fullW wins narrow rowW
  simp only [List.mem_filter, List.mem_flatMap, List.mem_map, List.mem_range, decide_eq_true_eq, beq_iff_eq]
  constructor
  · rintro ⟨⟨⟨_, ⟨i, hi, rfl⟩, ⟨j, hj, rfl⟩⟩, h2⟩, h3⟩
    simp only at h2 h3
    refine ⟨i, i + j, by simp, ⟨by omega, by omega, ?_⟩, by omega⟩
    rw [show ((i + j : Nat) : Int) = (i : Int) + j by omega]
    omega
  · rintro ⟨a, b, rfl, ⟨h1, h2, h3⟩, h4⟩
    refine ⟨⟨⟨(a : Int), ⟨a, by omega, rfl⟩, b - a, by omega, ?_⟩, h4⟩, ?_⟩
    · simp
      omega
    · simp only
      omega
theorem in_nd (hf : okFolk w fs) {lo hi : Int} : (inside fs lo hi).Nodup := hf.1.1.sublist (List.Sublist.map _ List.filter_sublist)
/-- where somebody of a window sits -/
theorem in_spot (hs : IsSat w fs sat) (hx : x ∈ inside fs (a : Int) (b : Int)) : ∃ i, sat[i]? = some (some x) ∧ a ≤ i ∧ i ≤ b := by
  unfold inside at hx
  obtain ⟨⟨y, l, r⟩, h1, rfl⟩ := List.mem_map.mp hx
  obtain ⟨h2, h3⟩ := List.mem_filter.mp h1
  unfold inF at h3
  rw [Bool.and_eq_true, decide_eq_true_eq, decide_eq_true_eq] at h3
  have hm : some y ∈ sat := by
    have : y ∈ sat.filterMap id := hs.perm.mem_iff.mpr (List.mem_map.mpr ⟨_, h2, rfl⟩)
    obtain ⟨o, g1, g2⟩ := List.mem_filterMap.mp this
    have g2 : o = some y := g2
    exact g2 ▸ g1
  obtain ⟨i, hi⟩ := List.mem_iff_getElem?.mp hm
  obtain ⟨g1, g2⟩ := hs.on i y l r hi h2
  simp only at h3
  exact ⟨i, hi, by omega, by omega⟩
/-- who sits in a full window -/
theorem full_seats (hf : okFolk w fs) (hs : IsSat w fs sat) (h : Full w fs a b) {j : Nat} (h1 : a ≤ j) (h2 : j ≤ b) : ∃ x, sat[j]? = some (some x) ∧ x ∈ inside fs (a : Int) (b : Int) := by
  obtain ⟨hab, hb, hc⟩ := h
  refine Classical.byContradiction fun hno => ?_
  have sub : ∀ z ∈ inside fs (a : Int) (b : Int), z ∈ (((List.range' a (b - a + 1)).erase j).map fun i => (sat.getD i none).getD "") := fun z hz => by
    obtain ⟨i, hi, g1, g2⟩ := in_spot hs hz
    refine List.mem_map.mpr ⟨i, ?_, by simp [List.getD, hi]⟩
    refine (List.mem_erase_of_ne fun e => ?_).mpr (List.mem_range'_1.mpr ⟨by omega, by omega⟩)
    subst e
    exact hno ⟨z, hi, hz⟩
  have := nodup_len (in_nd hf) sub
  rw [List.length_map, List.length_erase_of_mem (List.mem_range'_1.mpr ⟨h1, by omega⟩), List.length_range'] at this
  omega
/-- the seats of a window -/
def segS (sat : Sat) (a b : Nat) : Sat := (sat.drop a).take (b - a + 1)
theorem seg_get {j : Nat} (hj : j < b - a + 1) : (segS sat a b)[j]? = sat[a + j]? := by
  unfold segS
  rw [List.getElem?_take, if_pos hj, List.getElem?_drop]
theorem seg_names (hab : a ≤ b) (hb : b < sat.length) (h : ∀ j, a ≤ j → j ≤ b → ∃ x, sat[j]? = some (some x)) : (segS sat a b).map (fun o => o.getD "") = (segS sat a b).filterMap id ∧ ((segS sat a b).filterMap id).length = b - a + 1 := by
  have hl : (segS sat a b).length = b - a + 1 := by
    unfold segS
    rw [List.length_take, List.length_drop]
    omega
  have hall : ∀ o ∈ segS sat a b, ∃ x, o = some x := fun o ho => by
    obtain ⟨j, hj⟩ := List.mem_iff_getElem?.mp ho
    have hj2 := (List.getElem?_eq_some_iff.mp hj).1
    rw [hl] at hj2
    rw [seg_get hj2] at hj
    obtain ⟨x, hx⟩ := h (a + j) (by omega) (by omega)
    rw [hx] at hj
    exact ⟨x, (Option.some.inj hj).symm⟩
  generalize segS sat a b = L at hl hall ⊢
  clear h
  have key : L.map (fun o => o.getD "") = L.filterMap id := by
    clear hl
    induction L with
    | nil => rfl
    | cons o r ih =>
      obtain ⟨x, rfl⟩ := hall o List.mem_cons_self
      rw [List.map_cons, ih fun o ho => hall o (List.mem_cons_of_mem _ ho)]
      rfl
  refine ⟨key, ?_⟩
  rw [← key, List.length_map]
  exact hl
theorem seg_mem (hab : a ≤ b) : x ∈ (segS sat a b).filterMap id ↔ ∃ j, a ≤ j ∧ j ≤ b ∧ sat[j]? = some (some x) := by
  rw [List.mem_filterMap]
  constructor
  · rintro ⟨o, h1, h2⟩
    have h2 : o = some x := h2
    subst h2
    obtain ⟨j, hj⟩ := List.mem_iff_getElem?.mp h1
    have hj2 : j < b - a + 1 := by
      have := (List.getElem?_eq_some_iff.mp hj).1
      unfold segS at this
      rw [List.length_take] at this
      omega
    rw [seg_get hj2] at hj
    exact ⟨a + j, by omega, by omega, hj⟩
  · rintro ⟨j, h1, h2, h3⟩
    refine ⟨some x, List.mem_iff_getElem?.mpr ⟨j - a, ?_⟩, rfl⟩
    rw [seg_get (by omega), show a + (j - a) = j by omega]
    exact h3
theorem seg_nd (hf : okFolk w fs) (hs : IsSat w fs sat) : ((segS sat a b).filterMap id).Nodup := by
  have h1 : (sat.filterMap id).Nodup := hs.perm.nodup_iff.mpr hf.1.1
  exact h1.sublist (((List.take_sublist _ _).trans (List.drop_sublist _ _)).filterMap _)
/-- a full window: its seats are those of its people -/
theorem full_seg (hf : okFolk w fs) (hs : IsSat w fs sat) (h : Full w fs a b) : ((segS sat a b).map fun o => o.getD "").Perm (inside fs (a : Int) (b : Int)) := by
  have hb : b < sat.length := by have := hs.len; have := h.2.1; omega
  rw [(seg_names h.1 hb fun j h1 h2 => let ⟨x, e, _⟩ := full_seats hf hs h h1 h2; ⟨x, e⟩).1]
  refine (List.perm_ext_iff_of_nodup (seg_nd hf hs) (in_nd hf)).mpr fun x => ?_
  rw [seg_mem h.1]
  constructor
  · rintro ⟨j, h1, h2, h3⟩
    obtain ⟨y, e, hy⟩ := full_seats hf hs h h1 h2
    rw [h3] at e
    have : x = y := Option.some.inj (Option.some.inj e)
    exact this ▸ hy
  · intro hx
    obtain ⟨i, e, h1, h2⟩ := in_spot hs hx
    exact ⟨i, h1, h2, e⟩
theorem full_of (hf : okFolk w fs) (hs : IsSat w fs sat) (hab : a ≤ b) (hb : (b : Int) < w) (h : ∀ j, a ≤ j → j ≤ b → ∃ x, sat[j]? = some (some x) ∧ x ∈ inside fs (a : Int) (b : Int)) : Full w fs a b := by
  refine ⟨hab, hb, ?_⟩
  have hb2 : b < sat.length := by have := hs.len; omega
  have h1 := (seg_names hab hb2 fun j h1 h2 => let ⟨x, e, _⟩ := h j h1 h2; ⟨x, e⟩).2
  have h2 := nodup_len (seg_nd (a := a) (b := b) hf hs) (fun z hz => by
    obtain ⟨j, g1, g2, g3⟩ := (seg_mem hab).mp hz
    obtain ⟨y, e, hy⟩ := h j g1 g2
    rw [g3] at e
    have : z = y := Option.some.inj (Option.some.inj e)
    exact this ▸ hy)
  have h3 := sat_no hf hs a b
  unfold Crowd at h3
  have h4 : ¬ b - a + 1 < (inside fs (a : Int) (b : Int)).length := fun z => h3 ⟨hab, hb, z⟩
  omega
theorem in_mono {lo hi lo' hi' : Int} (h1 : lo' ≤ lo) (h2 : hi ≤ hi') (hx : x ∈ inside fs lo hi) : x ∈ inside fs lo' hi' := by
  unfold inside inF at hx ⊢
  obtain ⟨q, h3, rfl⟩ := List.mem_map.mp hx
  obtain ⟨h4, h5⟩ := List.mem_filter.mp h3
  rw [Bool.and_eq_true, decide_eq_true_eq, decide_eq_true_eq] at h5
  refine List.mem_map.mpr ⟨q, List.mem_filter.mpr ⟨h4, ?_⟩, rfl⟩
  rw [Bool.and_eq_true, decide_eq_true_eq, decide_eq_true_eq]
  omega
theorem in_both (nd : (fs.map (·.1)).Nodup) (h1 : x ∈ inside fs (a : Int) (b : Int)) (h2 : x ∈ inside fs (c : Int) (d : Int)) : x ∈ inside fs ((max a c : Nat) : Int) ((min b d : Nat) : Int) := by
  unfold inside inF at h1 h2 ⊢
  obtain ⟨q, h3, rfl⟩ := List.mem_map.mp h1
  obtain ⟨q2, h3', e⟩ := List.mem_map.mp h2
  obtain ⟨h4, h5⟩ := List.mem_filter.mp h3
  obtain ⟨h6, h7⟩ := List.mem_filter.mp h3'
  have l1 := look_in nd (show (q.1, q.2.1, q.2.2) ∈ fs from h4)
  have l2 := look_in nd (show (q2.1, q2.2.1, q2.2.2) ∈ fs from h6)
  rw [e, l1] at l2
  simp at l2
  rw [Bool.and_eq_true, decide_eq_true_eq, decide_eq_true_eq] at h5 h7
  refine List.mem_map.mpr ⟨q, List.mem_filter.mpr ⟨h4, ?_⟩, rfl⟩
  rw [Bool.and_eq_true, decide_eq_true_eq, decide_eq_true_eq]
  omega
/-- what two full windows have in common, both together -/
theorem full_meet (hf : okFolk w fs) (hs : IsSat w fs sat) (h : Full w fs a b) (g : Full w fs c d) (hm : max a c ≤ min b d) : Full w fs (max a c) (min b d) ∧ Full w fs (min a c) (max b d) := by
  have h0 := h.1
  have g0 := g.1
  have h2 := h.2.1
  have g2 := g.2.1
  refine ⟨full_of hf hs hm (by omega) fun j j1 j2 => ?_, full_of hf hs (by omega) (by omega) fun j j1 j2 => ?_⟩
  · obtain ⟨x, e1, x1⟩ := full_seats hf hs h (j := j) (by omega) (by omega)
    obtain ⟨y, e2, y1⟩ := full_seats hf hs g (j := j) (by omega) (by omega)
    rw [e1] at e2
    have : x = y := Option.some.inj (Option.some.inj e2)
    subst this
    exact ⟨x, e1, in_both hf.1.1 x1 y1⟩
  · by_cases cc : a ≤ j ∧ j ≤ b
    · obtain ⟨x, e1, x1⟩ := full_seats hf hs h (j := j) cc.1 cc.2
      exact ⟨x, e1, in_mono (by omega) (by omega) x1⟩
    · obtain ⟨x, e1, x1⟩ := full_seats hf hs g (j := j) (by omega) (by omega)
      exact ⟨x, e1, in_mono (by omega) (by omega) x1⟩
/-- the windows that are known to be full, or all -/
def Known (w : Int) (fs : Folk) : List (Int × Int) := fullW w fs ++ [(0, w - 1)]
theorem known_of (h : Full w fs a b) : ((a : Int), (b : Int)) ∈ Known w fs := by
  unfold Known
  rw [List.mem_append]
  by_cases cc : (b : Int) - a + 1 < w
  · exact .inl ((mem_full _).mpr ⟨a, b, rfl, h, cc⟩)
  · right
    have := h.1
    have := h.2.1
    rw [List.mem_singleton]
    exact Prod.ext (by simp only; omega) (by simp only; omega)
end
end
end K22
end
noncomputable section
namespace K22
open PySem PySem.Spec PyProof.Rows L2 Bx
noncomputable section
section
variable {μ : List MO} {w m : Int} {fs gs : Folk} {sat t : Sat} {x : Str} {i k a b c d : Nat} {p : Str × Int × Int}
def rep6 (c : Str) : List Str := (List.range 6).map fun (i : Nat) => Txt.mul c (1 + (i : Int))
def frL : List Str := rep6 (Str.ofString "q") ++ rep6 (Str.ofString "j") ++ [Str.ofString "x"]
theorem frL_nd : frL.Nodup := by decide +kernel
theorem frL_len : frL.length = 13 := rfl
def frN : List (List Nat) := ((List.range 6).map fun i => List.replicate (i + 1) 113) ++ ((List.range 6).map fun i => List.replicate (i + 1) 106) ++ [[120]]
theorem frL_eq : frL = frN.map T := by decide +kernel
theorem frN_ok : ∀ l ∈ frN, 1 ≤ l.length ∧ l.length ≤ 6 ∧ ∀ c ∈ l, 97 ≤ c ∧ c ≤ 122 := by decide +kernel
theorem frL_ok (h : x ∈ frL) : okName x := by
  rw [frL_eq] at h
  obtain ⟨l, hl, rfl⟩ := List.mem_map.mp h
  obtain ⟨h1, h2, h3⟩ := frN_ok l hl
  exact ⟨l, rfl, h1, h2, fun c hc => h3 c hc⟩
theorem mulQ {s : S} {Q : R D → Prop} {k : Nat} (hk : k < 6) {c : Str} (hc : c.length ≤ 100) : wE (mulA (.str c) (.int (1 + (k : Int)))) s Q = Q (.ok (.str (Txt.mul c (1 + (k : Int)))) s) := wE_of (by
  have h1 : (0 : Int) ≤ 1 + (k : Int) ∧ 1 + (k : Int) ≤ 100 ∧ c.length ≤ 100 := ⟨by omega, by omega, hc⟩
  simp only [mulA, h1, and_self, if_true])
def frI (w : Int) (fs : Folk) : List Str := frL.filter fun x => !decide (x ∈ fs.map (·.1))
theorem fresh_w (hf : okFolk w fs) (hw2 : w ≤ 12) : ∃ x : Str, okName x ∧ x ∉ fs.map (·.1) ∧ ∀ (μ : List MO) (Q : RF → Prop), wD den__law_fresh [benchD w fs] μ Q = Q (.ok (.str x) μ) := by
  have hl : fs.length ≤ 12 := by have := hf.2.2; omega
  obtain ⟨y, r, ey⟩ : ∃ y r, frI w fs = y :: r := by
    obtain ⟨x, h1, h2⟩ := pigeon frL (fs.map (·.1)) frL_nd (by rw [List.length_map, frL_len]; omega)
    cases e : frI w fs with
    | cons y r => exact ⟨y, r, rfl⟩
    | nil =>
      unfold frI at e
      rw [List.filter_eq_nil_iff] at e
      exact absurd (by simpa using h2) (e x h1)
  have hy : y ∈ frI w fs := by rw [ey]; exact List.mem_cons_self
  obtain ⟨y1, y2⟩ := List.mem_filter.mp hy
  refine ⟨y, frL_ok y1, by simpa using y2, fun μ Q => wD_of (of_wD (P := fun r => r = .ok (.str y) μ) ?_)⟩
  have hn : ∀ (Q : RF → Prop), wD den_Bench_names [benchD w fs] μ Q = Q (.ok (.tup ((sortS (fs.map (·.1))).map .str)) μ) := fun Q => names_w (by omega)
  have eb : ∀ s (Q : R D → Prop), wE (Bx.settle (benchD w fs)) s Q = Q (.ok (benchD w fs) s) := fun _ _ => wE_bench
  rw [den__law_fresh, wD_runB, b__law_fresh]
  have hq : ∀ s (Q : R D → Prop) (k : Nat), k < 6 → wE (mulA (.str "q") (.int (1 + (k : Int)))) s Q = Q (.ok (.str (Txt.mul (Str.ofString "q") (1 + (k : Int)))) s) := fun s Q k hk => mulQ hk (by decide)
  have hj : ∀ s (Q : R D → Prop) (k : Nat), k < 6 → wE (mulA (.str "j") (.int (1 + (k : Int)))) s Q = Q (.ok (.str (Txt.mul (Str.ofString "j") (1 + (k : Int)))) s) := fun s Q k hk => mulQ hk (by decide)
  simp [frame]
  rw [wE_rg2 (by omega) (by omega) (by omega) (by omega)]
  show kB (cmpK [3] (gset 3) yes (bin mulA (con (D.str (Str.ofString "q"))) (var 3))) _ (.ok (rangeI 1 6) _)
  simp [rangeI]
  refine wcompY (fun (i : Nat) => D.int (1 + i)) (List.range 6) (fun i => .str (Txt.mul (Str.ofString "q") (1 + (i : Int)))) (by rfl) (by simp) (fun i hi => ?_) ?_
  · have hi := List.mem_range.mp hi
    simp [hq _ _ i hi]
  simp
  rw [wE_rg2 (by omega) (by omega) (by omega) (by omega)]
  show kB (cmpK [3] (gset 3) yes (bin mulA (con (D.str (Str.ofString "j"))) (var 3))) _ (.ok (rangeI 1 6) _)
  simp [rangeI]
  refine wcompY (fun (i : Nat) => D.int (1 + i)) (List.range 6) (fun i => .str (Txt.mul (Str.ofString "j") (1 + (i : Int)))) (by rfl) (by simp) (fun i hi => ?_) ?_
  · have hi := List.mem_range.mp hi
    simp [hj _ _ i hi]
  simp
  have es : ((List.range 6).map fun (i : Nat) => D.str (Txt.mul (Str.ofString "q") (1 + (i : Int)))) ++ (((List.range 6).map fun (i : Nat) => D.str (Txt.mul (Str.ofString "j") (1 + (i : Int)))) ++ [D.str (Str.ofString "x")]) = frL.map D.str := by
    unfold frL rep6
    simp only [List.map_append, List.map_map, List.append_assoc, List.map_cons, List.map_nil]
    rfl
  rw [es]
  refine wcomp D.str frL (fun x => !decide (x ∈ fs.map (·.1))) D.str (by rfl) (by rw [frL_len]; omega) (fun x hx => ?_) ?_
  · have hd : decide (x ∈ sortS (fs.map (·.1))) = decide (x ∈ fs.map (·.1)) := decide_eq_decide.mpr (sortS_perm _).mem_iff
    simp [hn, eb, rcN, pick, nin_strsT, hd]
    split <;> next h => simpa using h
  show kB _ _ (R.ok (D.lst ((frI w fs).map D.str)) _)
  rw [ey]
  simp
  rw [ixL (by omega) (by simp)]
  simp
def pN (q : Int × Int) : NestedKey := .tup [.num q.1, .num q.2]
def knownD (w : Int) (fs : Folk) : D := .dcn ((Known w fs).map fun q => (pN q, .bl true))
theorem pN_inj {q r : Int × Int} (h : pN q = pN r) : q = r := by
  unfold pN at h
  simp at h
  exact Prod.ext h.1 h.2
theorem hasKnown {q : Int × Int} : hasN (pN q) ((Known w fs).map fun q => (pN q, D.bl true)) = decide (q ∈ Known w fs) := by
  unfold hasN
  rw [Bool.eq_iff_iff, List.any_eq_true, decide_eq_true_eq]
  constructor
  · rintro ⟨r, h1, h2⟩
    obtain ⟨q', h3, rfl⟩ := List.mem_map.mp h1
    have h2 : pN q' = pN q := by simpa using h2
    exact pN_inj h2 ▸ h3
  · intro h
    exact ⟨_, List.mem_map.mpr ⟨q, h, rfl⟩, by simp⟩
theorem inKnown {a b : Int} {s : S} {Q : R D → Prop} : wE (inN false (.tup [.int a, .int b]) (knownD w fs)) s Q = Q (.ok (.bl (decide ((a, b) ∈ Known w fs))) s) := by
  rw [knownD, wE_inNV (k := pN (a, b)) rfl (by show (pN (a, b)).depth ≤ 8; simp [pN, NestedKey.depth, NestedKey.depthAll])]
  rw [hasKnown]
  rfl
theorem i0P {x y : D} {s : S} {Q : R D → Prop} : wE (ixD (.tup [x, y]) (.int 0)) s Q = Q (.ok x s) := id rfl
theorem i1P {x y : D} {s : S} {Q : R D → Prop} : wE (ixD (.tup [x, y]) (.int 1)) s Q = Q (.ok y s) := id rfl
theorem maxP {s : S} {Q : R D → Prop} : wE (maxD (.int (a : Int)) (.int (b : Int))) s Q = Q (.ok (.int ((max a b : Nat) : Int)) s) := by
  rw [Bx.wE_max]
  congr 3
  split <;> omega
theorem minP {s : S} {Q : R D → Prop} : wE (minD (.int (a : Int)) (.int (b : Int))) s Q = Q (.ok (.int ((min a b : Nat) : Int)) s) := by
  rw [Bx.wE_min]
  congr 3
  split <;> omega
theorem joined_w (hf : okFolk w fs) (hs : IsSat w fs sat) (h : Full w fs a b) (g : Full w fs c d) {Q : RF → Prop} : wD den__law_joined [knownD w fs, .tup [.int a, .int b], .tup [.int c, .int d]] μ Q = Q (.ok (.bl true) μ) := by
  refine wD_of (of_wD (P := fun r => r = .ok (.bl true) μ) ?_)
  have ek : ∀ s (Q : R D → Prop), wE (Bx.settle (knownD w fs)) s Q = Q (.ok (knownD w fs) s) := fun _ _ => id rfl
  rw [den__law_joined, wD_runB, b__law_joined]
  by_cases hm : max a c ≤ min b d
  · obtain ⟨f1, f2⟩ := full_meet hf hs h g hm
    have k1 := known_of f1
    have k2 := known_of f2
    have hgt : ¬ (((min b d : Nat) : Int) < ((max a c : Nat) : Int)) := by omega
    simp [frame, pick, ek, inKnown, i0P, i1P, maxP, minP, -Bx.wE_max, -Bx.wE_min, hgt, k1, k2]
  · have hgt : ((min b d : Nat) : Int) < ((max a c : Nat) : Int) := by omega
    simp [frame, pick, ek, inKnown, i0P, i1P, maxP, minP, -Bx.wE_max, -Bx.wE_min, hgt]
end
end
end K22
end
noncomputable section
namespace K22
open PySem PySem.Spec PyProof.Rows L2 Bx
noncomputable section
section
variable {μ : List MO} {w m : Int} {fs gs : Folk} {sat t : Sat} {x : Str} {i k a b c d : Nat} {p : Str × Int × Int}
def Yes (w : Int) (fs : Folk) : Prop := ∃ d : D, ∀ μ, TabH μ → ∀ Q : RF → Prop, wD den_seated [benchD w fs] μ Q = Q (.ok (.tup [.str "seating", d]) μ)
def No (w : Int) (fs : Folk) : Prop := ∃ d : D, ∀ μ, TabH μ → ∀ Q : RF → Prop, wD den_seated [benchD w fs] μ Q = Q (.ok (.tup [.str "crowded", d]) μ)
theorem yes_of (hf : okFolk w fs) (hw : 0 ≤ w) (hw2 : w ≤ 12) (h : ∃ s, IsSat w fs s) : Yes w fs := by
  obtain ⟨s, e, _⟩ := word_yes hf hw h
  exact ⟨_, fun μ ht Q => wD_of (of_wD (P := fun r => r = .ok (.tup [.str "seating", .tup (s.map seat)]) μ) (seated_w hf hw hw2 ht (by rw [e])))⟩
theorem no_of (hf : okFolk w fs) (hw : 0 ≤ w) (hw2 : w ≤ 12) (h : ∃ a b, Crowd w fs a b) : No w fs := by
  obtain ⟨a, b, e, _⟩ := word_no hf hw h
  exact ⟨_, fun μ ht Q => wD_of (of_wD (P := fun r => r = .ok (.tup [.str "crowded", .tup [.int (a : Nat), .int (b : Nat)]]) μ) (seated_w hf hw hw2 ht (by rw [e])))⟩
theorem rc {mn : Str} (h1 : mn ≠ "seats") (h2 : mn ≠ "people") {s : S} {Q : R D → Prop} : wE (recv "Bench" mn (benchD w fs)) s Q = Q (.ok (benchD w fs) s) := rcv (eq_false h1) (eq_false h2)
theorem rM {s : S} {Q : R D → Prop} : wE (recv "Bench" "mirrored" (benchD w fs)) s Q = Q (.ok (benchD w fs) s) := rc (by decide) (by decide)
theorem rE {s : S} {Q : R D → Prop} : wE (recv "Bench" "eased" (benchD w fs)) s Q = Q (.ok (benchD w fs) s) := rc (by decide) (by decide)
theorem rW {s : S} {Q : R D → Prop} : wE (recv "Bench" "without" (benchD w fs)) s Q = Q (.ok (benchD w fs) s) := rc (by decide) (by decide)
theorem rP {s : S} {Q : R D → Prop} : wE (recv "Bench" "plus" (benchD w fs)) s Q = Q (.ok (benchD w fs) s) := rc (by decide) (by decide)
theorem rL {s : S} {Q : R D → Prop} : wE (recv "Bench" "led" (benchD w fs)) s Q = Q (.ok (benchD w fs) s) := rc (by decide) (by decide)
theorem rSt {s : S} {Q : R D → Prop} : wE (recv "Bench" "stretch" (benchD w fs)) s Q = Q (.ok (benchD w fs) s) := rc (by decide) (by decide)
theorem wE_stp {ds : List D} {i : Int} {s : S} {Q : R D → Prop} : wE (stpD (.tup ds) (.int i)) s Q = Q (.ok (.tup (stp5 ds i)) s) := id rfl
/-- the seats of a window, as the law cuts them -/
theorem cut_seg (hab : a ≤ b) (hb : b < sat.length) : cutD (sat.map seat) (some (a : Int)) (some ((b : Int) + 1)) = (segS sat a b).map seat := by
  unfold Bx.cutD segS
  simp only [HT.sIx, if_neg (show ¬ ((a : Int) < 0) by omega), if_neg (show ¬ ((b : Int) + 1 < 0) by omega)]
  rw [List.length_map, ← List.map_drop, ← List.map_take]
  congr 1
  rw [show min ((a : Int)).toNat sat.length = a by omega, show min ((b : Int) + 1).toNat sat.length - a = b - a + 1 by omega]
def srS (i : Nat) (w : Int) (fs : Folk) (sat : Sat) (x6 x7 x8 : Sl) (μ : List MO) : S := ⟨[.val (.ref i), .val (benchD w fs), .val (satD sat), .val (.int w), .val (.tup ((fullW w fs).map pr)), .val (knownD w fs), x6, x7, x8], μ⟩
def gapM : MS := sq (sif (tru (bin neD (bnd (margs [bnd (margs [mcomp [7] (mits (slc (var 2) (.yes (bin ixD (var 6) (con (.int 0)))) (.yes (bin addD (bin ixD (var 6) (con (.int 1))) (con (.int 1)))))) (Tgt.asg (.name 7)) (yes) (orV (var 7) (con (.str "")))]) (f1 sortD)]) (f1 tupleD)) (callK den_held [0, 1] [] (mal [var 1, var 6]) (mal [])))) (sret (con (.bl false))) (skip))
  (sif (notT (truth (bnd (margs [mcomp [8] (mits (bin stpD (var 4) (callK den__law_draw [0, 1] [] (mal [var 0, con (.int 5)]) (mal [])))) (Tgt.asg (.name 8)) (yes) (callK den__law_joined [0, 1, 2] [] (mal [var 5, var 6, var 8]) (mal []))]) (f1 allD)))) (sret (con (.bl false))) (skip))
theorem fullW_len (hw2 : w ≤ 12) : (fullW w fs).length ≤ 144 := by
  unfold fullW
  have h1 := winsI_len hw2
  have h2 := List.length_filter_le (narrow w) (wins w)
  have h3 := List.length_filter_le (fun p : Int × Int => ((inside fs p.1 p.2).length : Int) == p.2 - p.1 + 1) ((wins w).filter (narrow w))
  omega
theorem gap_w (hf : okFolk w fs) (hw : 1 ≤ w) (hw2 : w ≤ 12) (hs : IsSat w fs sat) (h : Hand μ i) (hF : Full w fs a b) {x7 x8 : Sl} {Q : RS → Prop} (q : ∀ x6 x7 x8 μ', Hand μ' i → Q (.nx (srS i w fs sat x6 x7 x8 μ'))) : wS gapM (srS i w fs sat (.val (.tup [.int (a : Int), .int (b : Int)])) x7 x8 μ) Q := by
  have hl := hs.len
  have hab := hF.1
  have hb := hF.2.1
  have hfl : fs.length ≤ 12 := by have := hf.2.2; omega
  have eb : ∀ s (Q : R D → Prop), wE (Bx.settle (benchD w fs)) s Q = Q (.ok (benchD w fs) s) := fun _ _ => wE_bench
  have ek : ∀ s (Q : R D → Prop), wE (Bx.settle (knownD w fs)) s Q = Q (.ok (knownD w fs) s) := fun _ _ => id rfl
  have esl : ∀ s (Q : R D → Prop), wE (slD (satD sat) (some (a : Int)) (some ((b : Int) + 1))) s Q = Q (.ok (.tup ((segS sat a b).map seat)) s) := fun s Q => by
    have : wE (slD (satD sat) (some (a : Int)) (some ((b : Int) + 1))) s Q = Q (.ok (.tup (cutD (sat.map seat) (some (a : Int)) (some ((b : Int) + 1)))) s) := id rfl
    rw [this, cut_seg hab (by omega)]
  have hh : ∀ (Q : RF → Prop), wD den_held [benchD w fs, .tup [.int (a : Int), .int (b : Int)]] μ Q = Q (.ok (.tup ((sortS (inside fs (a : Int) (b : Int))).map .str)) μ) := fun Q => wD_of (held_ok (by omega) (by omega) (by omega) hb μ)
  unfold gapM srS
  simp [pick, i0P, i1P, esl]
  have oks : ∀ x ∈ sortS (inside fs (a : Int) (b : Int)), okName x := fun x hx => by
    have h1 := (sortS_perm _).mem_iff.mp hx
    unfold inside at h1
    obtain ⟨q, h2, rfl⟩ := List.mem_map.mp h1
    exact hf.1.2 _ (List.mem_map.mpr ⟨q, (List.mem_filter.mp h2).1, rfl⟩)
  obtain ⟨d1, d2⟩ := names_data oks
  have hsl : (segS sat a b).length ≤ 12 := by
    unfold segS
    rw [List.length_take, List.length_drop]
    omega
  refine wcompY seat (segS sat a b) (fun o => D.str (o.getD "")) rfl (by omega) (fun o ho => ?_) ?_
  · cases o with
    | none => simp [seat]
    | some y =>
      have hy : okName y := hf.1.2 y (hs.perm.mem_iff.mp (List.mem_filterMap.mpr ⟨some y, (List.drop_sublist _ _).mem ((List.take_sublist _ _).mem ho), rfl⟩))
      have eo : ∀ s (Q : R D → Prop), wE (orVK (con (.str "")) (.str y)) s Q = Q (.ok (.str y) s) := fun s Q => orSeat (o := some y) fun x e => by
        cases e
        obtain ⟨l, rfl, _, h2, _⟩ := hy
        rw [T_len]
        omega
      simp [seat, eo]
  have em : (segS sat a b).map (fun o => D.str (o.getD "")) = ((segS sat a b).map fun o => o.getD "").map D.str := by rw [List.map_map]; rfl
  rw [em]
  have hso : sortS ((segS sat a b).map fun o => o.getD "") = sortS (inside fs (a : Int) (b : Int)) := sortS_congr (full_seg hf hs hF)
  have e1 : ∀ s (Q : R D → Prop), wE (sortD (.lst (((segS sat a b).map fun o => o.getD "").map .str))) s Q = Q (.ok (.lst ((sortS (inside fs (a : Int) (b : Int))).map .str)) s) := fun s Q => by
    rw [sortD_strs (by rw [List.length_map]; omega), hso]
  have e2 : ∀ (l : List D) s (Q : R D → Prop), wE (tupleD (.lst l)) s Q = Q (.ok (.tup l) s) := fun l s Q => id rfl
  have e3 : ∀ s (Q : R D → Prop), wE (neD (.tup ((sortS (inside fs (a : Int) (b : Int))).map .str)) (.tup ((sortS (inside fs (a : Int) (b : Int))).map .str))) s Q = Q (.ok (.bl false) s) := fun s Q => wE_of (ne_self s (by simpa [okS] using d1) (by simp only [dpt] at d2 ⊢; omega))
  simp only [wE_margs, kB_ok]
  simp [-List.map_map, e1, e2, hh, e3, eb, pick]
  refine draw_w h (by omega) (by omega) fun r μ1 r0 r1 h1 => ?_
  simp [wE_stp, stp5_map, ek]
  refine wcompY pr (stp5 (fullW w fs) r) (fun _ => .bl true) (by rfl) ?_ (fun z hz => ?_) ?_
  · refine Nat.le_trans stp5_len ?_
    have := fullW_len (fs := fs) hw2
    omega
  · have hz2 := pickL_mem hz
    obtain ⟨c, d, rfl, hG, _⟩ := (mem_full z).mp hz2
    have hj : ∀ (Q : RF → Prop), wD den__law_joined [knownD w fs, .tup [.int (a : Int), .int (b : Int)], .tup [.int (c : Int), .int (d : Int)]] μ1 Q = Q (.ok (.bl true) μ1) := fun Q => joined_w hf hs hF hG
    simp [pr, pick, ek, hj]
  · have ha : ∀ (l : List (Int × Int)) s (Q : R D → Prop), wE (allD (.lst (l.map fun _ => .bl true))) s Q = Q (.ok (.bl true) s) := fun l s Q => all_true fun d hd => by
      obtain ⟨_, _, rfl⟩ := List.mem_map.mp hd
      rfl
    simp [-List.map_const_fun, ha]
    exact q _ _ _ _ h1
end
end
end K22
end
noncomputable section
namespace K22
open PySem PySem.Spec PyProof.Rows L2 Bx
noncomputable section
section
variable {μ : List MO} {w m : Int} {fs gs : Folk} {sat t : Sat} {x : Str} {i k a b c d : Nat} {p : Str × Int × Int}
theorem full_w (hf : okFolk w fs) (hw : 0 ≤ w) (hw2 : w ≤ 12) {Q : RF → Prop} : wD den_full [benchD w fs] μ Q = Q (.ok (.tup ((fullW w fs).map pr)) μ) := wD_of (full_ok (by have := hf.2.2; omega) hw hw2 μ)
theorem whole_no (hw2 : w ≤ 12) : (0, w - 1) ∉ fullW w fs := fun h => by
  obtain ⟨a, b, e, _, h2⟩ := (mem_full _).mp h
  simp at e
  omega
theorem full_nd (hw2 : w ≤ 12) : (fullW w fs).Nodup := by
  unfold fullW wins
  refine (List.Pairwise.sublist List.filter_sublist (List.Pairwise.sublist List.filter_sublist ?_))
  rw [List.pairwise_flatMap]
  refine ⟨fun a ha => ?_, ?_⟩
  · unfold rowW
    rw [List.pairwise_map]
    exact List.Pairwise.imp (fun {x y} h e => h (by simp at e; omega)) List.nodup_range
  · rw [List.pairwise_map]
    refine List.Pairwise.imp (fun {x y} h p hp q hq e => ?_) List.nodup_range
    unfold rowW at hp hq
    obtain ⟨i, _, rfl⟩ := List.mem_map.mp hp
    obtain ⟨j, _, rfl⟩ := List.mem_map.mp hq
    simp at e
    omega
theorem known_w (hw2 : w ≤ 12) {s : S} {Q : R D → Prop} : wE (dictN (.lst ((Known w fs).map fun q => .tup [pr q, .bl true]))) s Q = Q (.ok (knownD w fs) s) := wE_of (by
  have hp : ∀ L : List (Int × Int), pairsN (L.map fun q => .tup [pr q, .bl true]) = some (L.map fun q => (pN q, D.bl true)) := by
    intro L
    induction L with
    | nil => rfl
    | cons q r ih =>
      rw [List.map_cons, pairsN, ih]
      have e : keyT (pr q) = some (pN q) := rfl
      rw [e]
      have hd : (pN q).depth ≤ 8 := by simp [pN, NestedKey.depth, NestedKey.depthAll]
      simp [hd]
  have nd : (((Known w fs).map fun q => (pN q, D.bl true)).map (·.1)).Nodup := by
    rw [List.map_map]
    have h1 : (Known w fs).Nodup := by
      unfold Known
      rw [List.nodup_append]
      refine ⟨full_nd hw2, List.nodup_cons.mpr ⟨List.not_mem_nil, List.nodup_nil⟩, fun x hx y hy e => ?_⟩
      rw [List.mem_singleton] at hy
      subst hy
      subst e
      exact whole_no hw2 hx
    exact h1.map (fun q => pN q) fun q r hne e => hne (pN_inj e)
  unfold dictN
  simp only [rsl, hp, nd, if_true]
  rfl)
theorem more_ok (hf : okFolk w fs) (hl : (fs.length : Int) < w) (hx : okName x) (hn : x ∉ fs.map (·.1)) {lo hi : Int} (hp : 0 ≤ lo ∧ lo ≤ hi ∧ hi < w) : okFolk w (fs ++ [(x, lo, hi)]) := by
  refine ⟨⟨?_, fun y hy => ?_⟩, fun p h => ?_, ?_⟩
  · rw [List.map_append, List.nodup_append]
    refine ⟨hf.1.1, by simp, fun y hy z hz e => ?_⟩
    simp at hz
    subst hz
    subst e
    exact hn hy
  · rw [List.map_append, List.mem_append] at hy
    rcases hy with hy | hy
    · exact hf.1.2 y hy
    · simp at hy
      subst hy
      exact hx
  · rcases List.mem_append.mp h with h | h
    · exact hf.2.1 p h
    · rw [List.mem_singleton] at h
      subst h
      exact hp
  · rw [List.length_append, List.length_singleton]
    omega
def sgA : MS := sif (notT (truth (bnd (margs [mcomp [7] (mits (methK "Bench" "names" den_Bench_names [] [] (var 1) (mal []) (mal []))) (Tgt.asg (.name 7)) (yes) (bin eqD (bin ixD (callK den_seated [0] [] (mal [methK "Bench" "without" den_Bench_without [0] [] (var 1) (mal [var 7]) (mal [])]) (mal [])) (con (.int 0))) (con (.str "seating")))]) (f1 allD)))) (sret (con (.bl false))) (skip)
def sgB : MS := sif (andT (tru (bin ltD (bnd (margs [var 1]) (f1 (lenO "Bench" den_Bench_len))) (var 3))) (tru (bin neD (bin ixD (callK den_seated [0] [] (mal [methK "Bench" "plus" den_Bench_plus [0] [] (var 1) (mal [mtup [callK den__law_fresh [0] [] (mal [var 1]) (mal []), con (.int 0), bin subD (var 3) (con (.int 1))]]) (mal [])]) (mal [])) (con (.int 0))) (con (.str "seating"))))) (sret (con (.bl false))) (skip)
def sgC : MS := sset 4 (callK den_full [0] [] (mal [var 1]) (mal []))
def sgD : MS := sset 5 (bnd (margs [kept [6] (mcomp [6] (mits (bin addD (var 4) (mtup [mtup [con (.int 0), bin subD (var 3) (con (.int 1))]]))) (Tgt.asg (.name 6)) (yes) (mtup [var 6, con (.bl true)]))]) (f1 dictN))
def sgE : MS := sfor (mits (var 4)) (gset 6) gapM
def tlS : MS := sq sgA (sq sgB (sq sgC (sq sgD (sq sgE (sret (con (.bl true)))))))
theorem b_sr : b__law_seated_right = sq (sset 3 (bnd (var 1) (fldD "Bench" "seats")))
  (sq (sif (orT (notT (truth (callK den_is_seating [0, 1] [] (mal [var 1, var 2]) (mal [])))) (tru (bin neD (bin ixD (callK den_seated [0] [] (mal [methK "Bench" "mirrored" den_Bench_mirrored [] [] (var 1) (mal []) (mal [])]) (mal [])) (con (.int 0))) (con (.str "seating"))))) (sret (con (.bl false))) (skip))
  (sq (sif (orT (notT (truth (callK den_is_seating [0, 1] [] (mal [methK "Bench" "eased" den_Bench_eased [0] [] (var 1) (mal [callK den__law_draw [0, 1] [] (mal [var 0, con (.int 13)]) (mal [])]) (mal []), var 2]) (mal [])))) (notT (truth (callK den_is_seating [0, 1] [] (mal [methK "Bench" "mirrored" den_Bench_mirrored [] [] (var 1) (mal []) (mal []), callK den_about [0, 1] [] (mal [var 1, var 2]) (mal [])]) (mal []))))) (sret (con (.bl false))) (skip))
  (sq (sif (tru (bin neD (bin ixD (callK den_seated [0] [] (mal [methK "Bench" "eased" den_Bench_eased [0] [] (var 1) (mal [callK den__law_draw [0, 1] [] (mal [var 0, con (.int 13)]) (mal [])]) (mal [])]) (mal [])) (con (.int 0))) (con (.str "seating")))) (sret (con (.bl false))) (skip)) tlS))) := rfl
def s0S (i : Nat) (w : Int) (fs : Folk) (sat : Sat) (μ : List MO) : S := ⟨[.val (.ref i), .val (benchD w fs), .val (satD sat), .val (.int w), .no, .no, .no, .no, .no], μ⟩
theorem sgA_w (hf : okFolk w fs) (hw : 1 ≤ w) (hw2 : w ≤ 12) (hs : IsSat w fs sat) (ht : TabH μ) {Q : RS → Prop} (q : Q (.nx (s0S i w fs sat μ))) : wS sgA (s0S i w fs sat μ) Q := by
  have hfl : fs.length ≤ 12 := by have := hf.2.2; omega
  have eb : ∀ (gs : Folk) s (Q : R D → Prop), wE (Bx.settle (benchD w gs)) s Q = Q (.ok (benchD w gs) s) := fun _ _ _ => wE_bench
  have hn : ∀ (Q : RF → Prop), wD den_Bench_names [benchD w fs] μ Q = Q (.ok (.tup ((sortS (fs.map (·.1))).map .str)) μ) := fun Q => names_w (by omega)
  have hl : (sortS (fs.map (·.1))).length ≤ 12 := by rw [(sortS_perm _).length_eq, List.length_map]; omega
  have ha : ∀ (l : List Str) s (Q : R D → Prop), wE (allD (.lst (l.map fun _ => .bl true))) s Q = Q (.ok (.bl true) s) := fun l s Q => all_true fun d hd => by
    obtain ⟨_, _, rfl⟩ := List.mem_map.mp hd
    rfl
  have hm : ∀ y ∈ sortS (fs.map (·.1)), y ∈ fs.map (·.1) := fun y hy => (sortS_perm _).mem_iff.mp hy
  unfold sgA s0S
  simp [pick, eb, rcN, hn]
  generalize sortS (fs.map (·.1)) = N at hl hm ⊢
  refine wcompY D.str N (fun _ => .bl true) rfl (by omega) (fun y hy => ?_) ?_
  · obtain ⟨q, hq, rfl⟩ := List.mem_map.mp (hm y hy)
    obtain ⟨k, hk, rfl⟩ := List.getElem_of_mem hq
    have eW : ∀ (Q : RF → Prop), wD den_Bench_without [benchD w fs, .str fs[k].1] μ Q = Q (.ok (benchD w (fs.take k ++ fs.drop (k + 1))) μ) := fun Q => without_hit hk hf hw hw2
    obtain ⟨dW, yW⟩ := yes_of (w := w) (fs := fs.take k ++ fs.drop (k + 1)) (ok_sub hf without_sub) (by omega) hw2 (without_sat hf (by omega) hs)
    simp [pick, eb, rW, eW, yW μ ht, i0P]
  · simp only [wE_margs, kB_ok]
    simp [-List.map_const_fun, ha]
    exact q
theorem sgB_w (hf : okFolk w fs) (hw : 1 ≤ w) (hw2 : w ≤ 12) (hs : IsSat w fs sat) (ht : TabH μ) {Q : RS → Prop} (q : Q (.nx (s0S i w fs sat μ))) : wS sgB (s0S i w fs sat μ) Q := by
  have hfl : fs.length ≤ 12 := by have := hf.2.2; omega
  have eb : ∀ (gs : Folk) s (Q : R D → Prop), wE (Bx.settle (benchD w gs)) s Q = Q (.ok (benchD w gs) s) := fun _ _ _ => wE_bench
  have nss : ∀ s (Q : R D → Prop), wE (neD (.str "seating") (.str "seating")) s Q = Q (.ok (.bl false) s) := fun s Q => by rw [wE_neS]; simp
  have elo : ∀ s (Q : R D → Prop), wE (lenO "Bench" den_Bench_len (benchD w fs)) s Q = Q (.ok (.int fs.length) s) := fun s Q => lenO_w hfl
  obtain ⟨x, x1, x2, eF⟩ := fresh_w hf hw2
  unfold sgB s0S
  by_cases hlt : (fs.length : Int) < w
  · have hok := more_ok (lo := 0) (hi := w - 1) hf hlt x1 x2 (by omega)
    have eP : ∀ (Q : RF → Prop), wD den_Bench_plus [benchD w fs, .tup [.str x, .int 0, .int (w - 1)]] μ Q = Q (.ok (benchD w (fs ++ [(x, 0, w - 1)])) μ) := fun Q => plus_good (p := (x, 0, w - 1)) hok hw hw2
    obtain ⟨dP, yP⟩ := yes_of (w := w) (fs := fs ++ [(x, 0, w - 1)]) hok (by omega) hw2 (sat_of hok (by omega) fun a b hc => by
      obtain ⟨a, b, hc⟩ := plus_all hf hlt hc
      exact sat_no hf hs a b hc)
    simp [elo, pick, eb, eF, hlt, rP, eP, yP μ ht, i0P, nss]
    exact q
  · simp [elo, pick, eb, hlt]
    exact q
def s1S (i : Nat) (w : Int) (fs : Folk) (sat : Sat) (μ : List MO) : S := ⟨[.val (.ref i), .val (benchD w fs), .val (satD sat), .val (.int w), .val (.tup ((fullW w fs).map pr)), .no, .no, .no, .no], μ⟩
theorem sgC_w (hf : okFolk w fs) (hw : 1 ≤ w) (hw2 : w ≤ 12) {Q : RS → Prop} (q : Q (.nx (s1S i w fs sat μ))) : wS sgC (s0S i w fs sat μ) Q := by
  have eb : ∀ (gs : Folk) s (Q : R D → Prop), wE (Bx.settle (benchD w gs)) s Q = Q (.ok (benchD w gs) s) := fun _ _ _ => wE_bench
  have hfull : ∀ (Q : RF → Prop), wD den_full [benchD w fs] μ Q = Q (.ok (.tup ((fullW w fs).map pr)) μ) := fun Q => full_w hf (by omega) hw2
  unfold sgC s0S
  simp [pick, eb, hfull]
  exact q
theorem sgD_w (hw2 : w ≤ 12) {Q : RS → Prop} (q : Q (.nx (srS i w fs sat .no .no .no μ))) : wS sgD (s1S i w fs sat μ) Q := by
  have ek : ∀ s (Q : R D → Prop), wE (Bx.settle (knownD w fs)) s Q = Q (.ok (knownD w fs) s) := fun _ _ => id rfl
  have hlen := fullW_len (fs := fs) hw2
  have eadd : ∀ s (Q : R D → Prop), wE (addD (.tup ((fullW w fs).map pr)) (.tup [.tup [.int 0, .int (w - 1)]])) s Q = Q (.ok (.tup ((Known w fs).map pr)) s) := fun s Q => by
    rw [wE_addT (by simp; omega)]
    unfold Known
    rw [List.map_append]
    rfl
  unfold sgD s1S
  simp [pick, eadd]
  refine wcompY pr (Known w fs) (fun q => .tup [pr q, .bl true]) rfl (by unfold Known; simp; omega) (fun z hz => ?_) ?_
  · have ep : ∀ s (Q : R D → Prop), wE (Bx.settle (pr z)) s Q = Q (.ok (pr z) s) := fun s Q => id rfl
    simp [ep]
  · simp [known_w hw2, keepR, ek]
    exact q
theorem sgE_w (hf : okFolk w fs) (hw : 1 ≤ w) (hw2 : w ≤ 12) (hs : IsSat w fs sat) (h : Hand μ i) {Q : RS → Prop} (q : ∀ x6 x7 x8 μ', Hand μ' i → Q (.nx (srS i w fs sat x6 x7 x8 μ'))) : wS sgE (srS i w fs sat .no .no .no μ) Q := by
  have e : ∀ x6 x7 x8 μ, srS i w fs sat x6 x7 x8 μ = ⟨[.val (.ref i), .val (benchD w fs), .val (satD sat), .val (.int w), .val (.tup ((fullW w fs).map pr)), .val (knownD w fs), x6, x7, x8], μ⟩ := fun _ _ _ _ => rfl
  unfold sgE
  rw [e]
  simp
  rw [← e]
  refine wfor pr (fullW w fs) (fun l r s => ∃ x6 x7 x8 μ', s = srS i w fs sat x6 x7 x8 μ' ∧ Hand μ' i) ⟨_, _, _, μ, rfl, h⟩ (fun l z r s hz h => ?_) (fun s h => ?_)
  · obtain ⟨x6, x7, x8, μ', rfl, h1⟩ := h
    have hm : z ∈ fullW w fs := by rw [← hz]; simp
    obtain ⟨a, b, rfl, hF, _⟩ := (mem_full z).mp hm
    have e2 : ∀ Q : RS → Prop, wS (gset 6 (pr ((a : Int), (b : Int)))) (srS i w fs sat x6 x7 x8 μ') Q = Q (.nx (srS i w fs sat (.val (.tup [.int (a : Int), .int (b : Int)])) x7 x8 μ')) := fun Q => id rfl
    show wS (gset 6 (pr ((a : Int), (b : Int)))) _ _
    rw [e2, kA_nx]
    generalize hK : kL (fun s => ∃ x6 x7 x8 μ', s = srS i w fs sat x6 x7 x8 μ' ∧ Hand μ' i) Q = GG
    refine gap_w hf hw hw2 hs h1 hF fun x6 x7 x8 μ2 h2 => ?_
    subst hK
    exact ⟨_, _, _, _, rfl, h2⟩
  · obtain ⟨x6, x7, x8, μ', rfl, h1⟩ := h
    exact q _ _ _ _ h1
theorem seated_right_w (hf : okFolk w fs) (hw : 1 ≤ w) (hw2 : w ≤ 12) (hs : IsSat w fs sat) (h : Hand μ i) {Q : RF → Prop} (q : ∀ μ', Hand μ' i → Q (.ok (.bl true) μ')) : wD den__law_seated_right [.ref i, benchD w fs, satD sat] μ Q := by
  have hl := hs.len
  have eb : ∀ (gs : Folk) s (Q : R D → Prop), wE (Bx.settle (benchD w gs)) s Q = Q (.ok (benchD w gs) s) := fun _ _ _ => wE_bench
  have es : ∀ (t : Sat) s (Q : R D → Prop), wE (Bx.settle (satD t)) s Q = Q (.ok (satD t) s) := fun _ _ _ => wE_sat
  have nss : ∀ s (Q : R D → Prop), wE (neD (.str "seating") (.str "seating")) s Q = Q (.ok (.bl false) s) := fun s Q => by rw [wE_neS]; simp
  have eM : ∀ μ (Q : RF → Prop), wD den_Bench_mirrored [benchD w fs] μ Q = Q (.ok (benchD w (mirF w fs)) μ) := fun μ Q => mirror_w hf (by omega) hw2
  obtain ⟨dM, yM⟩ := yes_of (w := w) (fs := mirF w fs) (mir_ok hf) (by omega) hw2 ⟨_, mir_sat hs⟩
  have eS : ∀ μ (Q : RF → Prop), wD den_is_seating [benchD w fs, satD sat] μ Q = Q (.ok (.bl true) μ) := fun μ Q => isSat_w hf hw2 hs
  have eA : ∀ μ (Q : RF → Prop), wD den_about [benchD w fs, satD sat] μ Q = Q (.ok (satD sat.reverse) μ) := fun μ Q => about_w hs hf hw2
  have eMS : ∀ μ (Q : RF → Prop), wD den_is_seating [benchD w (mirF w fs), satD sat.reverse] μ Q = Q (.ok (.bl true) μ) := fun μ Q => isSat_w (mir_ok hf) hw2 (mir_sat hs)
  rw [den__law_seated_right, wD_runB, b_sr]
  simp [frame, pick, eb, es, fld_seats, eS, rM, rE, eM, yM μ h.tab, i0P, nss]
  refine draw_w h (by omega) (by omega) fun r μ1 r0 r1 h1 => ?_
  have eE : ∀ (Q : RF → Prop), wD den_Bench_eased [benchD w fs, .int r] μ1 Q = Q (.ok (benchD w (easeF r w fs)) μ1) := fun Q => eased_w hf (by omega) hw2 r0 (by omega)
  have eES : ∀ (Q : RF → Prop), wD den_is_seating [benchD w (easeF r w fs), satD sat] μ1 Q = Q (.ok (.bl true) μ1) := fun Q => isSat_w (ease_ok r0 hf) hw2 (ease_sat r0 hf hs)
  simp [pick, eb, es, rE, eE, eES, rM, eM, eA, eMS]
  refine draw_w h1 (by omega) (by omega) fun r2 μ2 r20 r21 h2 => ?_
  have eE2 : ∀ (Q : RF → Prop), wD den_Bench_eased [benchD w fs, .int r2] μ2 Q = Q (.ok (benchD w (easeF r2 w fs)) μ2) := fun Q => eased_w hf (by omega) hw2 r20 (by omega)
  obtain ⟨dE, yE⟩ := yes_of (w := w) (fs := easeF r2 w fs) (ease_ok r20 hf) (by omega) hw2 ⟨_, ease_sat r20 hf hs⟩
  simp [pick, eb, rE, eE2, yE μ2 h2.tab, i0P, nss]
  show wS tlS (s0S i w fs sat μ2) _
  generalize hK : kF Q = KK
  have z : ∀ x6 x7 x8 μ', Hand μ' i → wS (sret (con (.bl true))) (srS i w fs sat x6 x7 x8 μ') KK := fun x6 x7 x8 μ' h3 => by
    subst hK
    unfold srS
    simp
    exact q _ h3
  unfold tlS
  rw [wS_sq]
  refine sgA_w hf hw hw2 hs h2.tab ?_
  rw [kN_nx, wS_sq]
  refine sgB_w hf hw hw2 hs h2.tab ?_
  rw [kN_nx, wS_sq]
  refine sgC_w hf hw hw2 ?_
  rw [kN_nx, wS_sq]
  refine sgD_w hw2 ?_
  rw [kN_nx, wS_sq]
  refine sgE_w hf hw hw2 hs h2 fun x6 x7 x8 μ3 h3 => ?_
  rw [kN_nx]
  exact z _ _ _ _ h3
end
end
end K22
end
noncomputable section
namespace K22
open PySem PySem.Spec PyProof.Rows L2 Bx
noncomputable section
section
variable {μ : List MO} {w m : Int} {fs gs : Folk} {sat t : Sat} {x : Str} {i k a b c d : Nat} {p : Str × Int × Int}
def cr0 : MS := sif (orT (tru (bin neD (bin ixD (callK den_seated [0] [] (mal [methK "Bench" "mirrored" den_Bench_mirrored [] [] (var 1) (mal []) (mal [])]) (mal [])) (con (.int 0))) (con (.str "crowded")))) (tru (bin leD (bnd (margs [var 4]) (f1 lenD)) (bin addD (bin subD (bin ixD (var 2) (con (.int 1))) (bin ixD (var 2) (con (.int 0)))) (con (.int 1)))))) (sret (con (.bl false))) (skip)
def cr1 : MS := sset 5 (callK den__law_draw [0, 1] [] (mal [var 0, var 3]) (mal []))
def cr2 : MS := sif (tru (bin ltD (bnd (margs [var 1]) (f1 (lenO "Bench" den_Bench_len))) (var 3))) (sq (sset 6 (methK "Bench" "plus" den_Bench_plus [0] [] (var 1) (mal [mtup [callK den__law_fresh [0] [] (mal [var 1]) (mal []), var 5, bin addD (var 5) (callK den__law_draw [0, 1] [] (mal [var 0, bin subD (var 3) (var 5)]) (mal []))]]) (mal [])))
  (sif (orT (tru (bin neD (bin ixD (callK den_seated [0] [] (mal [var 6]) (mal [])) (con (.int 0))) (con (.str "crowded")))) (tru (bin ltD (bnd (margs [callK den_held [0, 1] [] (mal [var 6, var 2]) (mal [])]) (f1 lenD)) (bnd (margs [var 4]) (f1 lenD))))) (sret (con (.bl false))) (skip))) (skip)
def cr3 : MS := sset 7 (bin ixD (var 4) (callK den__law_draw [0, 1] [] (mal [var 0, bnd (margs [var 4]) (f1 lenD)]) (mal [])))
def cr4 : MS := sasg (gtup [8, 9]) (methK "Bench" "stretch" den_Bench_stretch [0] [] (var 1) (mal [var 7]) (mal []))
def cr5 : MS := sif (tru (bin neD (bin ixD (callK den_seated [0] [] (mal [methK "Bench" "led" den_Bench_led [0, 1, 2] [] (var 1) (mal [var 7, var 8, bin addD (var 8) (callK den__law_draw [0, 1] [] (mal [var 0, bin addD (bin subD (var 9) (var 8)) (con (.int 1))]) (mal []))]) (mal [])]) (mal [])) (con (.int 0))) (con (.str "crowded")))) (sret (con (.bl false))) (skip)
def cr6 : MS := sret (bin eqD (callK den_held [0, 1] [] (mal [methK "Bench" "without" den_Bench_without [0] [] (var 1) (mal [var 7]) (mal []), var 2]) (mal [])) (bnd (margs [mcomp [10] (mits (var 4)) (Tgt.asg (.name 10)) (tru (bin neD (var 10) (var 7))) (var 10)]) (f1 tupleD)))
theorem b_cr : b__law_crowded_right = sq (spar [3, 4] [.v (bnd (var 1) (fldD "Bench" "seats")), .v (callK den_held [0, 1] [] (mal [var 1, var 2]) (mal []))]) (sq cr0 (sq cr1 (sq cr2 (sq cr3 (sq cr4 (sq cr5 cr6)))))) := rfl
def heldT (fs : Folk) (a b : Nat) : D := .tup ((sortS (inside fs (a : Int) (b : Int))).map .str)
theorem held_w (hf : okFolk w fs) (hw2 : w ≤ 12) (hab : a ≤ b) (hb : (b : Int) < w) {Q : RF → Prop} : wD den_held [benchD w fs, .tup [.int (a : Int), .int (b : Int)]] μ Q = Q (.ok (heldT fs a b) μ) := wD_of (held_ok (by have := hf.2.2; omega) (by omega) (by omega) hb μ)
theorem lenHeld {s : S} {Q : R D → Prop} : wE (lenD (heldT fs a b)) s Q = Q (.ok (.int ((inside fs (a : Int) (b : Int)).length : Nat)) s) := by
  have : wE (lenD (.tup ((sortS (inside fs (a : Int) (b : Int))).map .str))) s Q = Q (.ok (.int (((sortS (inside fs (a : Int) (b : Int))).map D.str).length : Nat)) s) := wE_lenT
  rw [List.length_map, (sortS_perm _).length_eq] at this
  exact this
def cS (i : Nat) (w : Int) (fs : Folk) (a b : Nat) (x5 x6 x7 x8 x9 : Sl) (μ : List MO) : S := ⟨[.val (.ref i), .val (benchD w fs), .val (.tup [.int (a : Int), .int (b : Int)]), .val (.int w), .val (heldT fs a b), x5, x6, x7, x8, x9, .no], μ⟩
section
variable (hf : okFolk w fs) (hw : 1 ≤ w) (hw2 : w ≤ 12) (hc : Crowd w fs a b)
include hf hw hw2 hc
theorem cr0_w (ht : TabH μ) {Q : RS → Prop} (q : Q (.nx (cS i w fs a b .no .no .no .no .no μ))) : wS cr0 (cS i w fs a b .no .no .no .no .no μ) Q := by
  have eb : ∀ (gs : Folk) s (Q : R D → Prop), wE (Bx.settle (benchD w gs)) s Q = Q (.ok (benchD w gs) s) := fun _ _ _ => wE_bench
  have ncc : ∀ s (Q : R D → Prop), wE (neD (.str "crowded") (.str "crowded")) s Q = Q (.ok (.bl false) s) := fun s Q => by rw [wE_neS]; simp
  have eM : ∀ μ (Q : RF → Prop), wD den_Bench_mirrored [benchD w fs] μ Q = Q (.ok (benchD w (mirF w fs)) μ) := fun μ Q => mirror_w hf (by omega) hw2
  obtain ⟨dM, yM⟩ := no_of (w := w) (fs := mirF w fs) (mir_ok hf) (by omega) hw2 ⟨_, _, mir_crowd hc⟩
  have hlt : ¬ (((inside fs (a : Int) (b : Int)).length : Int) ≤ (b : Int) - a + 1) := by have := hc.2.2; have := hc.1; omega
  unfold cr0 cS
  simp [pick, eb, rM, eM, yM μ ht, i0P, i1P, ncc, lenHeld, hlt]
  exact q
theorem cr2_w (h : Hand μ i) {lo : Int} (l0 : 0 ≤ lo) (l1 : lo < w) {Q : RS → Prop} (q : ∀ x6 μ', Hand μ' i → Q (.nx (cS i w fs a b (.val (.int lo)) x6 .no .no .no μ'))) : wS cr2 (cS i w fs a b (.val (.int lo)) .no .no .no .no μ) Q := by
  have hfl : fs.length ≤ 12 := by have := hf.2.2; omega
  have eb : ∀ (gs : Folk) s (Q : R D → Prop), wE (Bx.settle (benchD w gs)) s Q = Q (.ok (benchD w gs) s) := fun _ _ _ => wE_bench
  have ncc : ∀ s (Q : R D → Prop), wE (neD (.str "crowded") (.str "crowded")) s Q = Q (.ok (.bl false) s) := fun s Q => by rw [wE_neS]; simp
  have elo : ∀ s (Q : R D → Prop), wE (lenO "Bench" den_Bench_len (benchD w fs)) s Q = Q (.ok (.int fs.length) s) := fun s Q => lenO_w hfl
  obtain ⟨x, x1, x2, eF⟩ := fresh_w hf hw2
  unfold cr2 cS
  by_cases hlt : (fs.length : Int) < w
  · simp [elo, pick, eb, eF, hlt, rP]
    refine draw_w h (by omega) (by omega) fun r μ1 r0 r1 h1 => ?_
    have hok := more_ok (lo := lo) (hi := lo + r) hf hlt x1 x2 (by omega)
    have eP : ∀ (Q : RF → Prop), wD den_Bench_plus [benchD w fs, .tup [.str x, .int lo, .int (lo + r)]] μ1 Q = Q (.ok (benchD w (fs ++ [(x, lo, lo + r)])) μ1) := fun Q => plus_good (p := (x, lo, lo + r)) hok hw hw2
    obtain ⟨dP, yP⟩ := no_of (w := w) (fs := fs ++ [(x, lo, lo + r)]) hok (by omega) hw2 ⟨_, _, plus_crowd hc⟩
    have eH : ∀ (Q : RF → Prop), wD den_held [benchD w (fs ++ [(x, lo, lo + r)]), .tup [.int (a : Int), .int (b : Int)]] μ1 Q = Q (.ok (heldT (fs ++ [(x, lo, lo + r)]) a b) μ1) := fun Q => held_w hok hw2 hc.1 hc.2.1
    have hle : ¬ (inside (fs ++ [(x, lo, lo + r)]) (a : Int) (b : Int)).length < (inside fs (a : Int) (b : Int)).length := by have := plus_in (fs := fs) (p := (x, lo, lo + r)) (lo := (a : Int)) (hi := (b : Int)); omega
    simp [pick, eb, eP, yP μ1 h1.tab, i0P, ncc, eH, lenHeld, hle]
    exact q _ _ h1
  · simp [elo, pick, eb, hlt]
    exact q _ _ h
end
theorem heldAt {r : Int} (h0 : 0 ≤ r) (h1 : r < ((inside fs (a : Int) (b : Int)).length : Int)) : ∃ y ∈ inside fs (a : Int) (b : Int), ∀ s (Q : R D → Prop), wE (ixD (heldT fs a b) (.int r)) s Q = Q (.ok (.str y) s) := by
  have hl : ((sortS (inside fs (a : Int) (b : Int))).map D.str).length = (inside fs (a : Int) (b : Int)).length := by rw [List.length_map, (sortS_perm _).length_eq]
  have hl2 : (sortS (inside fs (a : Int) (b : Int))).length = (inside fs (a : Int) (b : Int)).length := (sortS_perm _).length_eq
  refine ⟨(sortS (inside fs (a : Int) (b : Int)))[r.toNat]'(by omega), (sortS_perm _).mem_iff.mp (List.getElem_mem _), fun s Q => ?_⟩
  unfold heldT
  rw [ixT h0 (by omega), List.getElem_map]
theorem held_without (nd : (fs.map (·.1)).Nodup) {k : Nat} (hk : k < fs.length) : heldT (fs.take k ++ fs.drop (k + 1)) a b = .tup (((sortS (inside fs (a : Int) (b : Int))).filter fun y => !decide (y = fs[k].1)).map .str) := by
  unfold heldT
  rw [without_in nd hk]
  have := sortS_of ((sortS_perm (inside fs (a : Int) (b : Int))).filter fun y => !decide (y = fs[k].1)) ((sortS_sorted _).sublist List.filter_sublist)
  rw [← this]
theorem crowded_right_w (hf : okFolk w fs) (hw : 1 ≤ w) (hw2 : w ≤ 12) (hc : Crowd w fs a b) (h : Hand μ i) {Q : RF → Prop} (q : ∀ μ', Hand μ' i → Q (.ok (.bl true) μ')) : wD den__law_crowded_right [.ref i, benchD w fs, .tup [.int (a : Int), .int (b : Int)]] μ Q := by
  have hfl : fs.length ≤ 12 := by have := hf.2.2; omega
  have eb : ∀ (gs : Folk) s (Q : R D → Prop), wE (Bx.settle (benchD w gs)) s Q = Q (.ok (benchD w gs) s) := fun _ _ _ => wE_bench
  have eh : ∀ s (Q : R D → Prop), wE (Bx.settle (heldT fs a b)) s Q = Q (.ok (heldT fs a b) s) := fun _ _ => id rfl
  have ncc : ∀ s (Q : R D → Prop), wE (neD (.str "crowded") (.str "crowded")) s Q = Q (.ok (.bl false) s) := fun s Q => by rw [wE_neS]; simp
  have eH : ∀ μ (Q : RF → Prop), wD den_held [benchD w fs, .tup [.int (a : Int), .int (b : Int)]] μ Q = Q (.ok (heldT fs a b) μ) := fun μ Q => held_w hf hw2 hc.1 hc.2.1
  have hil : (inside fs (a : Int) (b : Int)).length ≤ 12 := by
    have h1 : (inside fs (a : Int) (b : Int)).length ≤ fs.length := by rw [in_len]; exact List.length_filter_le _ _
    omega
  have hip : 0 < (inside fs (a : Int) (b : Int)).length := by have := hc.2.2; omega
  rw [den__law_crowded_right, wD_runB, b_cr]
  generalize hK : kF Q = KK
  simp [frame, pick, eb, fld_seats, eH, eh]
  show wS cr0 (cS i w fs a b .no .no .no .no .no μ) _
  refine cr0_w hf hw hw2 hc h.tab ?_
  rw [kN_nx, wS_sq]
  have c1 : ∀ (Q : RS → Prop), (∀ lo μ', 0 ≤ lo → lo < w → Hand μ' i → Q (.nx (cS i w fs a b (.val (.int lo)) .no .no .no .no μ'))) → wS cr1 (cS i w fs a b .no .no .no .no .no μ) Q := fun Q q => by
    unfold cr1 cS
    simp [pick]
    refine draw_w h (by omega) (by omega) fun r μ1 r0 r1 h1 => ?_
    simp
    exact q r μ1 r0 r1 h1
  refine c1 _ fun lo μ1 l0 l1 h1 => ?_
  rw [kN_nx, wS_sq]
  refine cr2_w hf hw hw2 hc h1 l0 l1 fun x6 μ2 h2 => ?_
  rw [kN_nx, wS_sq]
  have c3 : ∀ (Q : RS → Prop), (∀ y μ', y ∈ inside fs (a : Int) (b : Int) → Hand μ' i → Q (.nx (cS i w fs a b (.val (.int lo)) x6 (.val (.str y)) .no .no μ'))) → wS cr3 (cS i w fs a b (.val (.int lo)) x6 .no .no .no μ2) Q := fun Q q => by
    unfold cr3 cS
    simp [pick, lenHeld]
    refine draw_w h2 (by omega) (by omega) fun r μ3 r0 r1 h3 => ?_
    obtain ⟨y, hy, ey⟩ := heldAt r0 r1
    simp [ey]
    exact q y μ3 hy h3
  refine c3 _ fun y μ3 hy h3 => ?_
  rw [kN_nx, wS_sq]
  obtain ⟨p, hp, rfl⟩ : ∃ p ∈ fs, p.1 = y := by
    unfold inside at hy
    obtain ⟨p, h4, e⟩ := List.mem_map.mp hy
    exact ⟨p, (List.mem_filter.mp h4).1, e⟩
  obtain ⟨k, hk, rfl⟩ := List.getElem_of_mem hp
  have hpo := hf.2.1 _ hp
  unfold okP at hpo
  have g2 : ∀ {a b : D} {j k : Nat} (ρ : List Sl) (Q : RS → Prop), wS (gtup [j, k] (.tup [a, b])) ⟨ρ, μ3⟩ Q = Q (.nx ⟨(ρ.set j (.val a)).set k (.val b), μ3⟩) := fun ρ Q => id rfl
  have c4 : ∀ (Q : RS → Prop), Q (.nx (cS i w fs a b (.val (.int lo)) x6 (.val (.str fs[k].1)) (.val (.int fs[k].2.1)) (.val (.int fs[k].2.2)) μ3)) → wS cr4 (cS i w fs a b (.val (.int lo)) x6 (.val (.str fs[k].1)) .no .no μ3) Q := fun Q q => by
    have est : ∀ (Q : RF → Prop), wD den_Bench_stretch [benchD w fs, .str fs[k].1] μ3 Q = Q (.ok (.tup [.int fs[k].2.1, .int fs[k].2.2]) μ3) := fun Q => stretch_hit hk hf
    unfold cr4 cS
    simp [pick, eb, rSt, est, g2]
    exact q
  refine c4 _ ?_
  rw [kN_nx, wS_sq]
  have c5 : ∀ (Q : RS → Prop), (∀ μ', Hand μ' i → Q (.nx (cS i w fs a b (.val (.int lo)) x6 (.val (.str fs[k].1)) (.val (.int fs[k].2.1)) (.val (.int fs[k].2.2)) μ'))) → wS cr5 (cS i w fs a b (.val (.int lo)) x6 (.val (.str fs[k].1)) (.val (.int fs[k].2.1)) (.val (.int fs[k].2.2)) μ3) Q := fun Q q => by
    unfold cr5 cS
    simp [pick, eb, rL]
    refine draw_w h3 (by omega) (by omega) fun r μ4 r0 r1 h4 => ?_
    have eL : ∀ (Q : RF → Prop), wD den_Bench_led [benchD w fs, .str fs[k].1, .int fs[k].2.1, .int (fs[k].2.1 + r)] μ4 Q = Q (.ok (benchD w (ledF fs (fs[k].1, fs[k].2.1, fs[k].2.1 + r))) μ4) := fun Q => by
      rw [led_good hk hf (by omega) hw hw2, ledF_set hk hf.1.1]
    have hok : okFolk w (ledF fs (fs[k].1, fs[k].2.1, fs[k].2.1 + r)) := ledF_ok hf ⟨by simp only; omega, by simp only; omega, by simp only; omega⟩
    obtain ⟨dL, yL⟩ := no_of (w := w) (fs := ledF fs (fs[k].1, fs[k].2.1, fs[k].2.1 + r)) hok (by omega) hw2 ⟨_, _, led_crowd (p := (fs[k].1, fs[k].2.1, fs[k].2.1 + r)) (q := fs[k]) hf.1.1 hp rfl (Int.le_refl _) (by show fs[k].2.1 + r ≤ fs[k].2.2; omega) hc⟩
    simp [pick, eb, eL, yL μ4 h4.tab, i0P, ncc]
    exact q μ4 h4
  refine c5 _ fun μ4 h4 => ?_
  rw [kN_nx]
  have eW : ∀ (Q : RF → Prop), wD den_Bench_without [benchD w fs, .str fs[k].1] μ4 Q = Q (.ok (benchD w (fs.take k ++ fs.drop (k + 1))) μ4) := fun Q => without_hit hk hf hw hw2
  have eH2 : ∀ (Q : RF → Prop), wD den_held [benchD w (fs.take k ++ fs.drop (k + 1)), .tup [.int (a : Int), .int (b : Int)]] μ4 Q = Q (.ok (heldT (fs.take k ++ fs.drop (k + 1)) a b) μ4) := fun Q => held_w (ok_sub hf without_sub) hw2 hc.1 hc.2.1
  unfold cr6 cS
  simp [pick, eb, rW, eW, eH2]
  rw [held_without hf.1.1 hk]
  have oks : ∀ x ∈ (sortS (inside fs (a : Int) (b : Int))), okName x := fun x hx => by
    have h1 := (sortS_perm _).mem_iff.mp hx
    unfold inside at h1
    obtain ⟨q, h2, rfl⟩ := List.mem_map.mp h1
    exact hf.1.2 _ (List.mem_map.mpr ⟨q, (List.mem_filter.mp h2).1, rfl⟩)
  have hl2 : (sortS (inside fs (a : Int) (b : Int))).length ≤ 12 := by rw [(sortS_perm _).length_eq]; exact hil
  unfold heldT
  generalize sortS (inside fs (a : Int) (b : Int)) = N at oks hl2 ⊢
  simp
  refine wcomp D.str N (fun y => !decide (y = fs[k].1)) D.str rfl (by omega) (fun y hy => ?_) ?_
  · simp
  have oks2 : ∀ x ∈ N.filter (fun y => !decide (y = fs[k].1)), okName x := fun x hx => oks x (List.mem_filter.mp hx).1
  obtain ⟨d1, d2⟩ := names_data oks2
  have e2 : ∀ (l : List D) s (Q : R D → Prop), wE (tupleD (.lst l)) s Q = Q (.ok (.tup l) s) := fun l s Q => id rfl
  have e3 : ∀ s (Q : R D → Prop), wE (eqD (.tup ((N.filter fun y => !decide (y = fs[k].1)).map .str)) (.tup ((N.filter fun y => !decide (y = fs[k].1)).map .str))) s Q = Q (.ok (.bl true) s) := fun s Q => wE_of (eq_self s (by simpa [okS] using d1) (by simp only [dpt] at d2 ⊢; omega))
  simp [e2, e3]
  subst hK
  exact q μ4 h4
end
end
end K22
end
noncomputable section
namespace K22
open PySem PySem.Spec PyProof.Rows L2 Bx
noncomputable section
section
variable {fs : Folk} {w : Int} {μ : List MO} {i : Nat} {sat : Sat}
def folS (i : Nat) (w g : Int) (fs : Folk) (x4 x5 x6 : Sl) (μ : List MO) : S := ⟨[.val (.ref i), .val (.int w), .own (.lst (fs.map per)), .val (.int g), x4, x5, x6], μ⟩
def FI (i : Nat) (w g : Int) (l r : List Str) (s : S) : Prop := ∃ fs x4 x5 x6 μ', s = folS i w g fs x4 x5 x6 μ' ∧ fs.map (·.1) = l ∧ (∀ p ∈ fs, okP w p) ∧ Hand μ' i
theorem folk_w (h : Hand μ i) (hw : 1 ≤ w) (hw2 : w ≤ 12) {Q : RF → Prop} (q : ∀ fs μ', okFolk w fs → Hand μ' i → Q (.ok (.tup (fs.map per)) μ')) : wD den__law_any_folk [.ref i, .int w] μ Q := by
  rw [den__law_any_folk, wD_runB, b__law_any_folk]
  simp [frame, pick]
  refine draw_w h (by omega) (by omega) fun g μ0 g0 g1 h0 => ?_
  simp [pick]
  refine draw_w h0 (by omega) (by omega) fun r μ1 r0 r1 h1 => ?_
  simp [pick]
  refine draw_w h1 (by omega) (by omega) fun r2 μ2 r20 r21 h2 => ?_
  simp [pick]
  refine calls_w h2 (by split <;> omega) (by split <;> omega) fun xs μ3 hl hn h3 => ?_
  simp
  have hlw : (xs.length : Int) ≤ w := by rw [hl]; split <;> omega
  refine wfor D.str xs (FI i w g) ⟨[], _, _, _, μ3, rfl, rfl, (fun p hp => by cases hp), h3⟩ (fun l x r s hx h => ?_) (fun s h => ?_)
  · obtain ⟨fs, x4, x5, x6, μ', rfl, k1, k2, k3⟩ := h
    simp [folS, pick]
    refine draw_w k3 (by omega) (by omega) fun a μ4 a0 a1 h4 => ?_
    simp [pick]
    refine draw_w h4 (by omega) (by omega) fun b μ5 b0 b1 h5 => ?_
    simp [pick]
    refine draw_w h5 (by omega) (by omega) fun c μ6 c0 c1 h6 => ?_
    have hm : ∀ s (Q : R D → Prop), wE (mulD (.int g) (.int c)) s Q = Q (.ok (.int (g * c)) s) := fun s Q => wE_mul (mulOk_l (by omega) (by omega))
    have gc : 0 ≤ g * c := Int.mul_nonneg g0 c0
    simp [hm]
    generalize g * c = gm at gc
    have hlen : fs.length < 100000 := by
      have e1 : fs.length = l.length := by rw [← k1, List.length_map]
      have e2 : l.length ≤ xs.length := by rw [← hx]; simp
      omega
    rw [wE_app (xs := fs.map per) (by simp) (by simpa using hlen)]
    simp
    refine ⟨fs ++ [(x, if 0 < a - gm then a - gm else 0, if a + b + g < w - 1 then a + b + g else w - 1)], .val (.str x), .val (.int a), .val (.int (a + b)), μ6, by simp [folS, per], by simp [k1], fun p hp => ?_, h6⟩
    rcases List.mem_append.mp hp with hp | hp
    · exact k2 p hp
    · have hp : p = (x, if 0 < a - gm then a - gm else 0, if a + b + g < w - 1 then a + b + g else w - 1) := by simpa using hp
      subst hp
      refine ⟨?_, ?_, ?_⟩
      · show 0 ≤ (if 0 < a - gm then a - gm else 0)
        split <;> omega
      · show (if 0 < a - gm then a - gm else 0) ≤ (if a + b + g < w - 1 then a + b + g else w - 1)
        split <;> split <;> omega
      · show (if a + b + g < w - 1 then a + b + g else w - 1) < w
        split <;> omega
  · obtain ⟨fs, x4, x5, x6, μ', rfl, k1, k2, k3⟩ := h
    simp [folS]
    refine q fs μ' ⟨by rw [k1]; exact hn, k2, ?_⟩ k3
    have e1 : fs.length = xs.length := by rw [← k1, List.length_map]
    omega
theorem right_w (hf : okFolk w fs) (hw : 1 ≤ w) (hw2 : w ≤ 12) (h : Hand μ i) {Q : RF → Prop} (q : ∀ μ', Hand μ' i → Q (.ok (.bl true) μ')) : wD den__law_right [.ref i, benchD w fs] μ Q := by
  have eb : ∀ (gs : Folk) s (Q : R D → Prop), wE (Bx.settle (benchD w gs)) s Q = Q (.ok (benchD w gs) s) := fun _ _ _ => wE_bench
  have e3 : ∀ (Q : RF → Prop), wD den_seated [benchD w fs] μ Q = Q (.ok (seatedD w fs) μ) := fun Q => wD_of (of_wD (P := fun r => r = .ok (seatedD w fs) μ) (seated_w hf (by omega) hw2 h.tab rfl))
  have g2 : ∀ {a b : D} {j k : Nat} (ρ : List Sl) (Q : RS → Prop), wS (gtup [j, k] (.tup [a, b])) ⟨ρ, μ⟩ Q = Q (.nx ⟨(ρ.set j (.val a)).set k (.val b), μ⟩) := fun ρ Q => id rfl
  have ncs : (Str.ofString "crowded" = Str.ofString "seating") = False := eq_false (by decide)
  have es : ∀ (t : Sat) s (Q : R D → Prop), wE (Bx.settle (.tup (t.map seat))) s Q = Q (.ok (satD t) s) := fun _ _ _ => id rfl
  rw [den__law_right, wD_runB, b__law_right]
  rcases seated_spec hf (by omega) with ⟨t, e, hs⟩ | ⟨a, b, e, hab, hb, hc⟩
  · rw [e] at e3
    simp [frame, pick, eb, e3, g2]
    exact seated_right_w hf hw hw2 hs h fun μ' h' => by
      simp
      exact q μ' h'
  · rw [e] at e3
    simp [frame, pick, eb, e3, g2, ncs]
    exact crowded_right_w hf hw hw2 ⟨hab, hb, hc⟩ h fun μ' h' => by
      simp
      exact q μ' h'
end
def LI (ns : List Int) (s : S) : Prop := ∃ x1 x2 x3 x4 x5 x6 μ', s = ⟨[.val (.scr ns), x1, x2, x3, x4, x5, x6], μ'⟩ ∧ TabH μ'
def LJ (ns : List Int) (k : Nat) (i : Nat) (s : S) : Prop := ∃ x3 x4 x5 x6 μ', s = ⟨[.val (.scr ns), .val (.int (k : Int)), .val (.ref i), x3, x4, x5, x6], μ'⟩ ∧ Hand μ' i
theorem law_true (ns : List Int) (hl : ns.length ≤ 63) : ∃ μ, den_law [.scr ns] [.tab ("seated", none)] = .ok (.bl true) μ := by
  refine of_wD (P := fun r => ∃ μ, r = .ok (.bl true) μ) ?_
  rw [den_law, wD_runB, b_law]
  simp [frame]
  rw [wE_rg1 (by omega) (by omega)]
  simp
  refine wforR (fun k s => LI ns s) ⟨_, _, _, _, _, _, _, rfl, rfl⟩ (fun k s hk h => ?_) (fun s h => ?_)
  · obtain ⟨x1, x2, x3, x4, x5, x6, μ, rfl, ht⟩ := h
    simp [pick]
    refine cell_w (by omega) (by omega) fun ce => ?_
    simp [pick]
    refine hand_w ht fun μ1 h1 => ?_
    simp [pick]
    refine scene_w h1 (by omega) (by omega) fun w fs sat μ2 hw hw8 hf hs h2 => ?_
    have g3 : ∀ {a b c : D} (ρ : List Sl) (μ : List MO) (Q : RS → Prop), wS (gtup [3, 4, 5] (.tup [a, b, c])) ⟨ρ, μ⟩ Q = Q (.nx ⟨((ρ.set 3 (.val a)).set 4 (.val b)).set 5 (.val c), μ⟩) := fun ρ μ Q => id rfl
    have em : ∀ (ρ : List Sl) (μ : List MO) (Q : R D → Prop), wE (makeD "Bench" den_Bench_init [.int w, .tup (fs.map per)]) ⟨ρ, μ⟩ Q = Q (.ok (benchD w fs) ⟨ρ, μ⟩) := fun ρ μ Q => make_w hf (by omega) (by omega)
    have eb : ∀ (w : Int) (gs : Folk) s (Q : R D → Prop), wE (Bx.settle (benchD w gs)) s Q = Q (.ok (benchD w gs) s) := fun _ _ _ _ => wE_bench
    have es : ∀ (t : Sat) s (Q : R D → Prop), wE (Bx.settle (satD t)) s Q = Q (.ok (satD t) s) := fun _ _ _ => wE_sat
    simp [g3, pick, em, eb, es]
    refine seated_right_w hf (by omega) (by omega) hs h2 fun μ3 h3 => ?_
    simp [pick, em, eb]
    refine right_w hf (by omega) (by omega) h3 fun μ4 h4 => ?_
    simp
    rw [wE_rg1 (by omega) (by omega)]
    simp
    generalize μ.length = hi at h4 ⊢
    refine wforR (fun j s => LJ ns k hi s) ⟨_, _, _, _, μ4, rfl, h4⟩ (fun j s hj h => ?_) (fun s h => ?_)
    · obtain ⟨x3, x4, x5, x6, μ, rfl, h5⟩ := h
      simp [pick]
      refine draw_w h5 (by omega) (by omega) fun r μ6 r0 r1 h6 => ?_
      simp [pick]
      refine folk_w h6 (by omega) (by omega) fun gs μ7 hg h7 => ?_
      have em2 : ∀ (ρ : List Sl) (μ : List MO) (Q : R D → Prop), wE (makeD "Bench" den_Bench_init [.int (1 + r), .tup (gs.map per)]) ⟨ρ, μ⟩ Q = Q (.ok (benchD (1 + r) gs) ⟨ρ, μ⟩) := fun ρ μ Q => make_w hg (by omega) (by omega)
      simp [pick, em2, eb]
      refine right_w hg (by omega) (by omega) h7 fun μ8 h8 => ?_
      simp
      exact ⟨_, _, _, _, _, rfl, h8⟩
    · obtain ⟨x3, x4, x5, x6, μ, rfl, h5⟩ := h
      simp
      exact ⟨_, _, _, _, _, _, _, rfl, h5.tab⟩
  · obtain ⟨x1, x2, x3, x4, x5, x6, μ, rfl, ht⟩ := h
    simp
end
end K22
end
namespace K22
open PySem PySem.Spec PyProof.Rows L2 Bx
theorem ok__law_hand {P : Program} {w : World} {K : PySem.W.Frag} {mg : Str → Option Value} (h : Hyp K mg) : ∃ fd, FunD K "_law_hand" "_law_hand" (defArgs s__law_hand) (defBody s__law_hand) (defScope s__law_hand) (d__law_hand.dvs K) (d__law_hand.kws K) (He.ga K "_law_hand") fd ∧ ∀ base : Heap, LamX.TabB base mg (He.cT K ("seated", none)).1 (He.cT K ("seated", none)).2 → FnG P w K mg base 1 (He.ga K "_law_hand") fd ["_law_cell_here"] (spD ⟨K, P, w⟩ 1 den__law_hand) := by
  obtain ⟨fd, F⟩ := h.says.def_ 0 (d := d__law_hand) rfl
  have scN := sc__law_hand.nd
  have G := fun (base : Heap) (TB : LamX.TabB base mg (He.cT K ("seated", none)).1 (He.cT K ("seated", none)).2) => (fnG_body (P := P) (w := w) (mg := mg) (base := base) (N := ["_law_cell_here", "_law_digits"]) (ps := ["_law_cell_here"]) (k := 0) (b := b__law_hand) F sc__law_hand fun cdv A outer s H E hr hgd tk => by
    have hu := hr.units
    exact (sb_cons (ss_set (j := 1) scN rfl (.inl (by kernel_rfl)) (hf := .inl rfl) (se_if (st_w (sw_or (st_cmp op_ltD (se_var (j := 0) rfl (.inl (by kernel_rfl))) se_int (nomark _)) (sw_or1 (st_cmp op_geD (se_var (j := 0) rfl (.inl (by kernel_rfl))) (se_bin op_powD se_int se_int) (nomark _))))) (se_callB cr_abs (gl_of (by kernel_rfl)) (h.free 4 (x := "abs") rfl) (by decide +kernel) (sa_cons (se_var (j := 0) rfl (.inl (by kernel_rfl))) sa_nil)) se_int))
      (sb_one (ss_retS (sf_lst (sal_cons (se_var (j := 1) rfl (.inl (by kernel_rfl))) (sal_cons (se_bin op_addD (se_bin op_mulD (se_bin op_modD (se_var (j := 0) rfl (.inl (by kernel_rfl))) se_int) se_int) se_int) (sal_cons se_int sal_nil))))))))
  exact ⟨fd, F, G⟩
theorem ok__law_cell {P : Program} {w : World} {K : PySem.W.Frag} {mg : Str → Option Value} (h : Hyp K mg) : ∃ fd, FunD K "_law_cell" "_law_cell" (defArgs s__law_cell) (defBody s__law_cell) (defScope s__law_cell) (d__law_cell.dvs K) (d__law_cell.kws K) (He.ga K "_law_cell") fd ∧ ∀ base : Heap, LamX.TabB base mg (He.cT K ("seated", none)).1 (He.cT K ("seated", none)).2 → FnG P w K mg base 1 (He.ga K "_law_cell") fd ["_law_script", "_law_k"] (spD ⟨K, P, w⟩ 2 den__law_cell) := by
  obtain ⟨fd, F⟩ := h.says.def_ 1 (d := d__law_cell) rfl
  have scN := sc__law_cell.nd
  have G := fun (base : Heap) (TB : LamX.TabB base mg (He.cT K ("seated", none)).1 (He.cT K ("seated", none)).2) => (fnG_body (P := P) (w := w) (mg := mg) (base := base) (N := ["_law_script", "_law_k", "_law_state", "_law_cell_here"]) (ps := ["_law_script", "_law_k"]) (k := 0) (b := b__law_cell) F sc__law_cell fun cdv A outer s H E hr hgd tk => by
    have hu := hr.units
    exact (sb_cons (ss_if (st_cmp op_ltD (se_var (j := 1) rfl (.inl (by kernel_rfl))) (se_callB cr_len (gl_of (by kernel_rfl)) (h.free 0 (x := "len") rfl) (by decide +kernel) (sa_cons (se_var (j := 0) rfl (.inl (by kernel_rfl))) sa_nil)) (nomark _)) (sb_one (ss_ret (se_ix ix_D (se_var (j := 0) rfl (.inl (by kernel_rfl))) (se_var (j := 1) rfl (.inl (by kernel_rfl))) (fun _ _ => rfl)))) sb_nil)
      (sb_cons (ss_set (j := 2) scN rfl (.inl (by kernel_rfl)) (hf := .inl rfl) (se_bin op_modD (se_bin op_mulD se_int (se_bin op_addD (se_bin op_addD (se_bin op_mulD (se_var (j := 1) rfl (.inl (by kernel_rfl))) (se_var (j := 1) rfl (.inl (by kernel_rfl)))) (se_bin op_mulD se_int (se_var (j := 1) rfl (.inl (by kernel_rfl))))) se_int)) se_int))
      (sb_cons (ss_for (passes_of rfl) rfl (si_any (se_slc (se_var (j := 0) rfl (.inl (by kernel_rfl))) so_no (so_yes se_int))) (sg_name (j := 3) scN rfl (.inl (by kernel_rfl)) (hf := .inl rfl)) (sb_one (ss_set (j := 2) scN rfl (.inl (by kernel_rfl)) (hf := .inl rfl) (se_bin op_modD (se_bin op_addD (se_bin op_mulD (se_var (j := 2) rfl (.inl (by kernel_rfl))) se_int) (se_var (j := 3) rfl (.inl (by kernel_rfl)))) se_int))))
      (sb_one (ss_ret (se_var (j := 2) rfl (.inl (by kernel_rfl)))))))))
  exact ⟨fd, F, G⟩
theorem ok__law_draw {P : Program} {w : World} {K : PySem.W.Frag} {mg : Str → Option Value} (h : Hyp K mg) : ∃ fd, FunD K "_law_draw" "_law_draw" (defArgs s__law_draw) (defBody s__law_draw) (defScope s__law_draw) (d__law_draw.dvs K) (d__law_draw.kws K) (He.ga K "_law_draw") fd ∧ ∀ base : Heap, LamX.TabB base mg (He.cT K ("seated", none)).1 (He.cT K ("seated", none)).2 → FnG P w K mg base 1 (He.ga K "_law_draw") fd ["_law_hand_here", "_law_top"] (spD ⟨K, P, w⟩ 2 den__law_draw) := by
  obtain ⟨fd, F⟩ := h.says.def_ 2 (d := d__law_draw) rfl
  have scN := sc__law_draw.nd
  have G := fun (base : Heap) (TB : LamX.TabB base mg (He.cT K ("seated", none)).1 (He.cT K ("seated", none)).2) => (fnG_body (P := P) (w := w) (mg := mg) (base := base) (N := ["_law_hand_here", "_law_top", "_law_digit", "_law_state"]) (ps := ["_law_hand_here", "_law_top"]) (k := 0) (b := b__law_draw) F sc__law_draw fun cdv A outer s H E hr hgd tk => by
    have hu := hr.units
    exact (sb_cons (ss_sub (se_bin op_addD (se_ix ix_D (se_var (j := 0) rfl (.inl (by kernel_rfl))) se_int (fun _ _ => rfl)) se_int) (se_var (j := 0) rfl (.inl (by kernel_rfl))) se_int)
      (sb_cons (ss_if (st_cmp op_gtD (se_ix ix_D (se_var (j := 0) rfl (.inl (by kernel_rfl))) se_int (fun _ _ => rfl)) se_int (nomark _)) (sb_cons (ss_asg plain_gtupG (se_callB cr_divmod (gl_of (by kernel_rfl)) (h.free 7 (x := "divmod") rfl) (by decide +kernel) (sa_cons (se_ix ix_D (se_var (j := 0) rfl (.inl (by kernel_rfl))) se_int (fun _ _ => rfl)) (sa_cons (se_var (j := 1) rfl (.inl (by kernel_rfl))) sa_nil))) (sg_tupG rfl (sgs_cons (sg_sub (se_var (j := 0) rfl (.inl (by kernel_rfl))) se_int) (sgs_cons (sg_name (j := 2) scN rfl (.inl (by kernel_rfl)) (hf := .inl rfl)) sgs_nil))))
      (sb_one (ss_ret (se_var (j := 2) rfl (.inl (by kernel_rfl)))))) sb_nil)
      (sb_cons (ss_set (j := 3) scN rfl (.inl (by kernel_rfl)) (hf := .inl rfl) (se_bin op_modD (se_ix ix_D (se_var (j := 0) rfl (.inl (by kernel_rfl))) se_int (fun _ _ => rfl)) se_int))
      (sb_cons (ss_sub (se_bin op_addD (se_bin op_mulD (se_var (j := 3) rfl (.inl (by kernel_rfl))) (se_bin op_addD (se_bin op_modD (se_var (j := 3) rfl (.inl (by kernel_rfl))) se_int) se_int)) (se_bin op_mulD se_int (se_ix ix_D (se_var (j := 0) rfl (.inl (by kernel_rfl))) se_int (fun _ _ => rfl)))) (se_var (j := 0) rfl (.inl (by kernel_rfl))) se_int)
      (sb_one (ss_ret (se_bin op_modD (se_bin op_fdivD (se_bin op_modD (se_ix ix_D (se_var (j := 0) rfl (.inl (by kernel_rfl))) se_int (fun _ _ => rfl)) se_int) se_int) (se_var (j := 1) rfl (.inl (by kernel_rfl)))))))))))
  exact ⟨fd, F, G⟩
theorem ok__law_calls {P : Program} {w : World} {K : PySem.W.Frag} {mg : Str → Option Value} (h : Hyp K mg) : ∃ fd, FunD K "_law_calls" "_law_calls" (defArgs s__law_calls) (defBody s__law_calls) (defScope s__law_calls) (d__law_calls.dvs K) (d__law_calls.kws K) (He.ga K "_law_calls") fd ∧ ∀ base : Heap, LamX.TabB base mg (He.cT K ("seated", none)).1 (He.cT K ("seated", none)).2 → FnG P w K mg base 2 (He.ga K "_law_calls") fd ["_law_hand_here", "_law_count"] (spD ⟨K, P, w⟩ 2 den__law_calls) := by
  obtain ⟨fd__law_draw, F__law_draw, G__law_draw⟩ := ok__law_draw (P := P) (w := w) h
  have cb0 : CallB ⟨K, P, w⟩ fd__law_draw ["_law_hand_here", "_law_top"] 2 [] [0, 1] [] := callB_no (K := ⟨K, P, w⟩) F__law_draw 2 [] [0, 1] fun _ _ _ _ _ _ us ws h1 h2 => match us, h1, ws, h2 with | [_, _], _, [], _ => rfl
  obtain ⟨fd, F⟩ := h.says.def_ 3 (d := d__law_calls) rfl
  have scN := sc__law_calls.nd
  have G := fun (base : Heap) (TB : LamX.TabB base mg (He.cT K ("seated", none)).1 (He.cT K ("seated", none)).2) => (fnG_body (P := P) (w := w) (mg := mg) (base := base) (N := ["_law_hand_here", "_law_count", "_law_own", "_law_letters", "_law_found", "_law_turn", "_law_word", "_law_some", "_law_letter", "_law_k", "_law_call"]) (ps := ["_law_hand_here", "_law_count"]) (k := 1) (b := b__law_calls) F sc__law_calls fun cdv A outer s H E hr hgd tk => by
    have hu := hr.units
    exact (sb_cons (ss_set (j := 2) scN rfl (.inl (by kernel_rfl)) (hf := .inl rfl) (se_lst (sal_cons se_str (sal_cons se_str (sal_cons se_str (sal_cons se_str (sal_cons se_str (sal_cons se_str (sal_cons se_str (sal_cons se_str (sal_cons se_str (sal_cons se_str (sal_cons se_str (sal_cons se_str sal_nil))))))))))))))
      (sb_cons (ss_parC rfl (sx_v se_str (sx_f (sf_lst sal_nil) sx_nil)) (sgn_cons (j := 3) scN rfl (.inr (by kernel_rfl)) (hf := .inl rfl) (sgn_cons (j := 4) scN rfl (.inr (by kernel_rfl)) (hf := .inl rfl) sgn_nil)))
      (sb_cons (ss_for (passes_of rfl) rfl (si_range1 (gl_of (by kernel_rfl)) (h.free 3 (x := "range") rfl) (sa_cons (se_var (j := 1) rfl (.inl (by kernel_rfl))) sa_nil)) (sg_name (j := 5) scN rfl (.inl (by kernel_rfl)) (hf := .inl rfl)) (sb_cons (ss_set (j := 6) scN rfl (.inr (by kernel_rfl)) (hf := .inl rfl) (se_ix ix_D (se_var (j := 2) rfl (.inl (by kernel_rfl))) (se_call (G__law_draw _ TB) (hr.mono (by decide)) hgd (gl_of (by kernel_rfl)) (h.glo 8 (x := "_law_draw") rfl) F__law_draw.kp cb0 rfl tk (sal_cons (se_var (j := 0) rfl (.inr (.inl (by kernel_rfl)))) (sal_cons se_int sal_nil))) (fun _ _ => rfl)))
      (sb_cons (ss_if (st_cmp op_gtD (se_call (G__law_draw _ TB) (hr.mono (by decide)) hgd (gl_of (by kernel_rfl)) (h.glo 8 (x := "_law_draw") rfl) F__law_draw.kp cb0 rfl tk (sal_cons (se_var (j := 0) rfl (.inr (.inl (by kernel_rfl)))) (sal_cons se_int sal_nil))) se_int (nomark _)) (sb_one (ss_set (j := 6) scN rfl (.inr (by kernel_rfl)) (hf := .inl rfl) (se_join se_str (se_comp (own := [("_law_k", 9)]) (g := (.name 9)) rfl scN (si_range1 (gl_of (by kernel_rfl)) (h.free 3 (x := "range") rfl) (sa_cons (se_bin op_addD se_int (se_call (G__law_draw _ TB) (hr.mono (by decide)) hgd (gl_of (by kernel_rfl)) (h.glo 8 (x := "_law_draw") rfl) F__law_draw.kp cb0 rfl tk (sal_cons (se_var (j := 0) rfl (.inr (.inl (by kernel_rfl)))) (sal_cons se_int sal_nil)))) sa_nil)) (blkOk_of (by kernel_rfl)) (fun _ _ _ _ _ => (sgc_name (j := 9) scN rfl (.inl (by kernel_rfl)) (hf := .inr (by kernel_rfl)))) (fun _ _ _ _ _ => sts_nil) (fun _ _ _ _ _ => (se_ix ix_D (se_var (j := 3) rfl (.inr (.inl (by kernel_rfl)))) (se_call (G__law_draw _ TB) (hr.mono (by decide)) hgd (gl_of (by kernel_rfl)) (h.glo 8 (x := "_law_draw") rfl) F__law_draw.kp cb0 rfl takes0 (sal_cons (se_var (j := 0) rfl (.inr (.inl (by kernel_rfl)))) (sal_cons se_int sal_nil))) (fun _ _ => rfl))))))) sb_nil)
      (sb_cons (ss_set (j := 7) scN rfl (.inl (by kernel_rfl)) (hf := .inl rfl) (se_bin op_addD (se_lst (sal_cons (se_var (j := 6) rfl (.inr (.inl (by kernel_rfl)))) sal_nil)) (se_comp (own := [("_law_letter", 8)]) (g := (.name 8)) rfl scN (si_any (se_var (j := 3) rfl (.inr (.inl (by kernel_rfl))))) (blkOk_of (by kernel_rfl)) (fun _ _ _ _ _ => (sgc_name (j := 8) scN rfl (.inl (by kernel_rfl)) (hf := .inr (by kernel_rfl)))) (fun _ _ _ _ _ => sts_nil) (fun _ _ _ _ _ => (se_bin op_addD (se_slc (se_var (j := 6) rfl (.inr (.inl (by kernel_rfl)))) so_no (so_yes se_int)) (se_var (j := 8) rfl (.inl (by kernel_rfl))))))))
      (sb_one (ss_expr (se_append (se_var (j := 4) rfl (.inr (.inl (by kernel_rfl)))) (sal_cons (se_ix ix_D (se_comp (own := [("_law_call", 10)]) (g := (.name 10)) rfl scN (si_any (se_var (j := 7) rfl (.inl (by kernel_rfl)))) (blkOk_of (by kernel_rfl)) (fun _ _ _ _ _ => (sgc_name (j := 10) scN rfl (.inl (by kernel_rfl)) (hf := .inr (by kernel_rfl)))) (fun _ _ _ _ _ => (sts_one (st_cmp op_ninA (se_var (j := 10) rfl (.inl (by kernel_rfl))) (se_var (j := 4) rfl (.inr (.inl (by kernel_rfl)))) rfl))) (fun _ _ _ _ _ => (se_var (j := 10) rfl (.inl (by kernel_rfl))))) se_int (fun _ _ => rfl)) sal_nil))))))))
      (sb_one (ss_ret (se_var (j := 4) rfl (.inr (.inl (by kernel_rfl))))))))))
  exact ⟨fd, F, G⟩
theorem ok__law_cast {P : Program} {w : World} {K : PySem.W.Frag} {mg : Str → Option Value} (h : Hyp K mg) : ∃ fd, FunD K "_law_cast" "_law_cast" (defArgs s__law_cast) (defBody s__law_cast) (defScope s__law_cast) (d__law_cast.dvs K) (d__law_cast.kws K) (He.ga K "_law_cast") fd ∧ ∀ base : Heap, LamX.TabB base mg (He.cT K ("seated", none)).1 (He.cT K ("seated", none)).2 → FnG P w K mg base 3 (He.ga K "_law_cast") fd ["_law_hand_here", "_law_wide"] (spD ⟨K, P, w⟩ 2 den__law_cast) := by
  obtain ⟨fd__law_calls, F__law_calls, G__law_calls⟩ := ok__law_calls (P := P) (w := w) h
  obtain ⟨fd__law_draw, F__law_draw, G__law_draw⟩ := ok__law_draw (P := P) (w := w) h
  have cb0 : CallB ⟨K, P, w⟩ fd__law_calls ["_law_hand_here", "_law_count"] 2 [] [0, 1] [] := callB_no (K := ⟨K, P, w⟩) F__law_calls 2 [] [0, 1] fun _ _ _ _ _ _ us ws h1 h2 => match us, h1, ws, h2 with | [_, _], _, [], _ => rfl
  have cb1 : CallB ⟨K, P, w⟩ fd__law_draw ["_law_hand_here", "_law_top"] 2 [] [0, 1] [] := callB_no (K := ⟨K, P, w⟩) F__law_draw 2 [] [0, 1] fun _ _ _ _ _ _ us ws h1 h2 => match us, h1, ws, h2 with | [_, _], _, [], _ => rfl
  obtain ⟨fd, F⟩ := h.says.def_ 4 (d := d__law_cast) rfl
  have scN := sc__law_cast.nd
  have G := fun (base : Heap) (TB : LamX.TabB base mg (He.cT K ("seated", none)).1 (He.cT K ("seated", none)).2) => (fnG_body (P := P) (w := w) (mg := mg) (base := base) (N := ["_law_hand_here", "_law_wide", "_law_calls_here", "_law_sat", "_law_folk", "_law_thin", "_law_spot", "_law_left", "_law_right_here", "_law_way", "_law_low", "_law_high", "_law_here"]) (ps := ["_law_hand_here", "_law_wide"]) (k := 2) (b := b__law_cast) F sc__law_cast fun cdv A outer s H E hr hgd tk => by
    have hu := hr.units
    exact (sb_cons (ss_par3 (i := 2) (j := 3) (l := 4) rfl scN rfl rfl rfl (by decide) (by decide) (by decide) (by kernel_rfl) (by kernel_rfl) (by kernel_rfl) (sx_v (se_call (G__law_calls _ TB) (hr.mono (by decide)) hgd (gl_of (by kernel_rfl)) (h.glo 9 (x := "_law_calls") rfl) F__law_calls.kp cb0 rfl tk (sal_cons (se_var (j := 0) rfl (.inl (by kernel_rfl))) (sal_cons (se_var (j := 1) rfl (.inl (by kernel_rfl))) sal_nil))) (sx_f (sf_lst sal_nil) (sx_f (sf_lst sal_nil) sx_nil))) (by kernel_rfl))
      (sb_cons (ss_set (j := 5) scN rfl (.inl (by kernel_rfl)) (hf := .inl rfl) (se_ix ix_D (se_lst (sal_cons se_int (sal_cons se_int (sal_cons se_int (sal_cons se_int sal_nil))))) (se_call (G__law_draw _ TB) (hr.mono (by decide)) hgd (gl_of (by kernel_rfl)) (h.glo 8 (x := "_law_draw") rfl) F__law_draw.kp cb1 rfl tk (sal_cons (se_var (j := 0) rfl (.inl (by kernel_rfl))) (sal_cons se_int sal_nil))) (fun _ _ => rfl)))
      (sb_cons (ss_for (passes_of rfl) rfl (si_range1 (gl_of (by kernel_rfl)) (h.free 3 (x := "range") rfl) (sa_cons (se_var (j := 1) rfl (.inl (by kernel_rfl))) sa_nil)) (sg_name (j := 6) scN rfl (.inl (by kernel_rfl)) (hf := .inl rfl)) (sb_cons (ss_par3 (i := 7) (j := 8) (l := 9) rfl scN rfl rfl rfl (by decide) (by decide) (by decide) (by kernel_rfl) (by kernel_rfl) (by kernel_rfl) (sx_v (se_call (G__law_draw _ TB) (hr.mono (by decide)) hgd (gl_of (by kernel_rfl)) (h.glo 8 (x := "_law_draw") rfl) F__law_draw.kp cb1 rfl tk (sal_cons (se_var (j := 0) rfl (.inl (by kernel_rfl))) (sal_cons se_int sal_nil))) (sx_v (se_call (G__law_draw _ TB) (hr.mono (by decide)) hgd (gl_of (by kernel_rfl)) (h.glo 8 (x := "_law_draw") rfl) F__law_draw.kp cb1 rfl tk (sal_cons (se_var (j := 0) rfl (.inl (by kernel_rfl))) (sal_cons se_int sal_nil))) (sx_v (se_call (G__law_draw _ TB) (hr.mono (by decide)) hgd (gl_of (by kernel_rfl)) (h.glo 8 (x := "_law_draw") rfl) F__law_draw.kp cb1 rfl tk (sal_cons (se_var (j := 0) rfl (.inl (by kernel_rfl))) (sal_cons se_int sal_nil))) sx_nil))) (by kernel_rfl))
      (sb_cons (ss_set (j := 10) scN rfl (.inl (by kernel_rfl)) (hf := .inl rfl) (se_if (st_cmp op_inA (se_var (j := 9) rfl (.inl (by kernel_rfl))) (se_lst (sal_cons se_int (sal_cons se_int sal_nil))) rfl) se_int (se_callB (cr_max2 rfl) (gl_of (by kernel_rfl)) (h.free 2 (x := "max") rfl) (by decide +kernel) (sa_cons se_int (sa_cons (se_bin op_subD (se_var (j := 6) rfl (.inl (by kernel_rfl))) (se_bin op_mulD (se_var (j := 7) rfl (.inl (by kernel_rfl))) (se_callTy cr_int (gl_of (by kernel_rfl)) (h.free 10 (x := "int") rfl) (by decide +kernel) (sa_cons (se_cmp op_gtD (se_var (j := 9) rfl (.inl (by kernel_rfl))) se_int (nomark _)) sa_nil)))) sa_nil)))))
      (sb_cons (ss_set (j := 11) scN rfl (.inl (by kernel_rfl)) (hf := .inl rfl) (se_if (st_cmp op_inA (se_var (j := 9) rfl (.inl (by kernel_rfl))) (se_lst (sal_cons se_int (sal_cons se_int sal_nil))) rfl) (se_bin op_subD (se_var (j := 1) rfl (.inl (by kernel_rfl))) se_int) (se_callB (cr_min2 rfl) (gl_of (by kernel_rfl)) (h.free 1 (x := "min") rfl) (by decide +kernel) (sa_cons (se_bin op_subD (se_var (j := 1) rfl (.inl (by kernel_rfl))) se_int) (sa_cons (se_bin op_addD (se_var (j := 6) rfl (.inl (by kernel_rfl))) (se_bin op_mulD (se_var (j := 8) rfl (.inl (by kernel_rfl))) (se_callTy cr_int (gl_of (by kernel_rfl)) (h.free 10 (x := "int") rfl) (by decide +kernel) (sa_cons (se_cmp op_gtD (se_var (j := 9) rfl (.inl (by kernel_rfl))) se_int (nomark _)) sa_nil)))) sa_nil)))))
      (sb_cons (ss_set (j := 12) scN rfl (.inl (by kernel_rfl)) (hf := .inl rfl) (se_cmp op_geD (se_call (G__law_draw _ TB) (hr.mono (by decide)) hgd (gl_of (by kernel_rfl)) (h.glo 8 (x := "_law_draw") rfl) F__law_draw.kp cb1 rfl tk (sal_cons (se_var (j := 0) rfl (.inl (by kernel_rfl))) (sal_cons se_int sal_nil))) (se_var (j := 5) rfl (.inl (by kernel_rfl))) (nomark _)))
      (sb_cons (ss_expr (se_append (se_var (j := 3) rfl (.inl (by kernel_rfl))) (sal_cons (se_if (st_truth (se_var (j := 12) rfl (.inl (by kernel_rfl)))) (se_ix ix_D (se_var (j := 2) rfl (.inl (by kernel_rfl))) (se_var (j := 6) rfl (.inl (by kernel_rfl))) (fun _ _ => rfl)) se_non) sal_nil)))
      (sb_one (ss_expr (se_extend (se_var (j := 4) rfl (.inl (by kernel_rfl))) (sal_cons (se_bin op_mulD (se_lst (sal_cons (se_tup (sal_cons (se_ix ix_D (se_var (j := 2) rfl (.inl (by kernel_rfl))) (se_var (j := 6) rfl (.inl (by kernel_rfl))) (fun _ _ => rfl)) (sal_cons (se_var (j := 10) rfl (.inl (by kernel_rfl))) (sal_cons (se_var (j := 11) rfl (.inl (by kernel_rfl))) sal_nil)))) sal_nil)) (se_callTy cr_int (gl_of (by kernel_rfl)) (h.free 10 (x := "int") rfl) (by decide +kernel) (sa_cons (se_var (j := 12) rfl (.inl (by kernel_rfl))) sa_nil))) sal_nil))))))))))
      (sb_one (ss_ret (se_tup (sal_cons (se_callTy cr_tuple (gl_of (by kernel_rfl)) (h.free 11 (x := "tuple") rfl) (by decide +kernel) (sa_cons (se_var (j := 4) rfl (.inl (by kernel_rfl))) sa_nil)) (sal_cons (se_callTy cr_tuple (gl_of (by kernel_rfl)) (h.free 11 (x := "tuple") rfl) (by decide +kernel) (sa_cons (se_var (j := 3) rfl (.inl (by kernel_rfl))) sa_nil)) sal_nil)))))))))
  exact ⟨fd, F, G⟩
theorem ok__law_shuted {P : Program} {w : World} {K : PySem.W.Frag} {mg : Str → Option Value} (h : Hyp K mg) : ∃ fd, FunD K "_law_shuted" "_law_shuted" (defArgs s__law_shuted) (defBody s__law_shuted) (defScope s__law_shuted) (d__law_shuted.dvs K) (d__law_shuted.kws K) (He.ga K "_law_shuted") fd ∧ ∀ base : Heap, LamX.TabB base mg (He.cT K ("seated", none)).1 (He.cT K ("seated", none)).2 → FnG P w K mg base 2 (He.ga K "_law_shuted") fd ["_law_hand_here", "_law_wide", "_law_folk", "_law_sat"] (spD ⟨K, P, w⟩ 4 den__law_shuted) := by
  obtain ⟨fd__law_draw, F__law_draw, G__law_draw⟩ := ok__law_draw (P := P) (w := w) h
  have cb0 : CallB ⟨K, P, w⟩ fd__law_draw ["_law_hand_here", "_law_top"] 2 [] [0, 1] [] := callB_no (K := ⟨K, P, w⟩) F__law_draw 2 [] [0, 1] fun _ _ _ _ _ _ us ws h1 h2 => match us, h1, ws, h2 with | [_, _], _, [], _ => rfl
  obtain ⟨fd, F⟩ := h.says.def_ 5 (d := d__law_shuted) rfl
  have scN := sc__law_shuted.nd
  have G := fun (base : Heap) (TB : LamX.TabB base mg (He.cT K ("seated", none)).1 (He.cT K ("seated", none)).2) => (fnG_body (P := P) (w := w) (mg := mg) (base := base) (N := ["_law_hand_here", "_law_wide", "_law_folk", "_law_sat", "_law_low", "_law_high", "_law_found", "_law_call", "_law_begin", "_law_end", "_law_inner"]) (ps := ["_law_hand_here", "_law_wide", "_law_folk", "_law_sat"]) (k := 1) (b := b__law_shuted) F sc__law_shuted fun cdv A outer s H E hr hgd tk => by
    have hu := hr.units
    exact (sb_cons (ss_set (j := 4) scN rfl (.inl (by kernel_rfl)) (hf := .inl rfl) (se_call (G__law_draw _ TB) (hr.mono (by decide)) hgd (gl_of (by kernel_rfl)) (h.glo 8 (x := "_law_draw") rfl) F__law_draw.kp cb0 rfl tk (sal_cons (se_var (j := 0) rfl (.inl (by kernel_rfl))) (sal_cons (se_var (j := 1) rfl (.inl (by kernel_rfl))) sal_nil))))
      (sb_cons (ss_set (j := 5) scN rfl (.inl (by kernel_rfl)) (hf := .inl rfl) (se_bin op_addD (se_var (j := 4) rfl (.inl (by kernel_rfl))) (se_call (G__law_draw _ TB) (hr.mono (by decide)) hgd (gl_of (by kernel_rfl)) (h.glo 8 (x := "_law_draw") rfl) F__law_draw.kp cb0 rfl tk (sal_cons (se_var (j := 0) rfl (.inl (by kernel_rfl))) (sal_cons (se_bin op_subD (se_var (j := 1) rfl (.inl (by kernel_rfl))) (se_var (j := 4) rfl (.inl (by kernel_rfl)))) sal_nil)))))
      (sb_cons (ss_setO (j := 6) scN rfl (.inl (by kernel_rfl)) (hf := .inl rfl) (sf_lst sal_nil))
      (sb_cons (ss_for (passes_of rfl) rfl (si_any (se_var (j := 2) rfl (.inl (by kernel_rfl)))) (sg_tup rfl (sgn_cons (j := 7) scN rfl (.inl (by kernel_rfl)) (hf := .inl rfl) (sgn_cons (j := 8) scN rfl (.inl (by kernel_rfl)) (hf := .inl rfl) (sgn_cons (j := 9) scN rfl (.inl (by kernel_rfl)) (hf := .inl rfl) sgn_nil)))) (sb_cons (ss_set (j := 10) scN rfl (.inl (by kernel_rfl)) (hf := .inl rfl) (se_cmp op_inA (se_var (j := 7) rfl (.inl (by kernel_rfl))) (se_slc (se_var (j := 3) rfl (.inl (by kernel_rfl))) (so_yes (se_var (j := 4) rfl (.inl (by kernel_rfl)))) (so_yes (se_bin op_addD (se_var (j := 5) rfl (.inl (by kernel_rfl))) se_int))) rfl))
      (sb_one (ss_expr (se_append (se_var (j := 6) rfl (.inl (by kernel_rfl))) (sal_cons (se_if (st_truth (se_var (j := 10) rfl (.inl (by kernel_rfl)))) (se_tup (sal_cons (se_var (j := 7) rfl (.inl (by kernel_rfl))) (sal_cons (se_callB (cr_max2 rfl) (gl_of (by kernel_rfl)) (h.free 2 (x := "max") rfl) (by decide +kernel) (sa_cons (se_var (j := 8) rfl (.inl (by kernel_rfl))) (sa_cons (se_var (j := 4) rfl (.inl (by kernel_rfl))) sa_nil))) (sal_cons (se_callB (cr_min2 rfl) (gl_of (by kernel_rfl)) (h.free 1 (x := "min") rfl) (by decide +kernel) (sa_cons (se_var (j := 9) rfl (.inl (by kernel_rfl))) (sa_cons (se_var (j := 5) rfl (.inl (by kernel_rfl))) sa_nil))) sal_nil)))) (se_tup (sal_cons (se_var (j := 7) rfl (.inl (by kernel_rfl))) (sal_cons (se_var (j := 8) rfl (.inl (by kernel_rfl))) (sal_cons (se_var (j := 9) rfl (.inl (by kernel_rfl))) sal_nil))))) sal_nil))))))
      (sb_one (ss_ret (se_callTy cr_tuple (gl_of (by kernel_rfl)) (h.free 11 (x := "tuple") rfl) (by decide +kernel) (sa_cons (se_var (j := 6) rfl (.inl (by kernel_rfl))) sa_nil)))))))))
  exact ⟨fd, F, G⟩
theorem ok__law_scene {P : Program} {w : World} {K : PySem.W.Frag} {mg : Str → Option Value} (h : Hyp K mg) : ∃ fd, FunD K "_law_scene" "_law_scene" (defArgs s__law_scene) (defBody s__law_scene) (defScope s__law_scene) (d__law_scene.dvs K) (d__law_scene.kws K) (He.ga K "_law_scene") fd ∧ ∀ base : Heap, LamX.TabB base mg (He.cT K ("seated", none)).1 (He.cT K ("seated", none)).2 → FnG P w K mg base 4 (He.ga K "_law_scene") fd ["_law_hand_here", "_law_most_wide"] (spD ⟨K, P, w⟩ 2 den__law_scene) := by
  obtain ⟨fd__law_draw, F__law_draw, G__law_draw⟩ := ok__law_draw (P := P) (w := w) h
  obtain ⟨fd__law_cast, F__law_cast, G__law_cast⟩ := ok__law_cast (P := P) (w := w) h
  obtain ⟨fd__law_shuted, F__law_shuted, G__law_shuted⟩ := ok__law_shuted (P := P) (w := w) h
  have cb0 : CallB ⟨K, P, w⟩ fd__law_draw ["_law_hand_here", "_law_top"] 2 [] [0, 1] [] := callB_no (K := ⟨K, P, w⟩) F__law_draw 2 [] [0, 1] fun _ _ _ _ _ _ us ws h1 h2 => match us, h1, ws, h2 with | [_, _], _, [], _ => rfl
  have cb1 : CallB ⟨K, P, w⟩ fd__law_cast ["_law_hand_here", "_law_wide"] 2 [] [0, 1] [] := callB_no (K := ⟨K, P, w⟩) F__law_cast 2 [] [0, 1] fun _ _ _ _ _ _ us ws h1 h2 => match us, h1, ws, h2 with | [_, _], _, [], _ => rfl
  have cb2 : CallB ⟨K, P, w⟩ fd__law_shuted ["_law_hand_here", "_law_wide", "_law_folk", "_law_sat"] 4 [] [0, 1, 2, 3] [] := callB_no (K := ⟨K, P, w⟩) F__law_shuted 4 [] [0, 1, 2, 3] fun _ _ _ _ _ _ us ws h1 h2 => match us, h1, ws, h2 with | [_, _, _, _], _, [], _ => rfl
  obtain ⟨fd, F⟩ := h.says.def_ 6 (d := d__law_scene) rfl
  have scN := sc__law_scene.nd
  have G := fun (base : Heap) (TB : LamX.TabB base mg (He.cT K ("seated", none)).1 (He.cT K ("seated", none)).2) => (fnG_body (P := P) (w := w) (mg := mg) (base := base) (N := ["_law_hand_here", "_law_most_wide", "_law_wide", "_law_folk", "_law_sat", "_law_turn"]) (ps := ["_law_hand_here", "_law_most_wide"]) (k := 3) (b := b__law_scene) F sc__law_scene fun cdv A outer s H E hr hgd tk => by
    have hu := hr.units
    exact (sb_cons (ss_set (j := 2) scN rfl (.inl (by kernel_rfl)) (hf := .inl rfl) (se_bin op_addD se_int (se_call (G__law_draw _ TB) (hr.mono (by decide)) hgd (gl_of (by kernel_rfl)) (h.glo 8 (x := "_law_draw") rfl) F__law_draw.kp cb0 rfl tk (sal_cons (se_var (j := 0) rfl (.inl (by kernel_rfl))) (sal_cons (se_var (j := 1) rfl (.inl (by kernel_rfl))) sal_nil)))))
      (sb_cons (ss_asg plain_gtup (se_call (G__law_cast _ TB) (hr.mono (by decide)) hgd (gl_of (by kernel_rfl)) (h.glo 12 (x := "_law_cast") rfl) F__law_cast.kp cb1 rfl tk (sal_cons (se_var (j := 0) rfl (.inl (by kernel_rfl))) (sal_cons (se_var (j := 2) rfl (.inl (by kernel_rfl))) sal_nil))) (sg_tup rfl (sgn_cons (j := 3) scN rfl (.inl (by kernel_rfl)) (hf := .inl rfl) (sgn_cons (j := 4) scN rfl (.inl (by kernel_rfl)) (hf := .inl rfl) sgn_nil))))
      (sb_cons (ss_if (st_cmp (op_eqD' hu) (se_call (G__law_draw _ TB) (hr.mono (by decide)) hgd (gl_of (by kernel_rfl)) (h.glo 8 (x := "_law_draw") rfl) F__law_draw.kp cb0 rfl tk (sal_cons (se_var (j := 0) rfl (.inl (by kernel_rfl))) (sal_cons se_int sal_nil))) se_int (nomark _)) (sb_one (ss_set (j := 3) scN rfl (.inl (by kernel_rfl)) (hf := .inl rfl) (se_call (G__law_shuted _ TB) (hr.mono (by decide)) hgd (gl_of (by kernel_rfl)) (h.glo 13 (x := "_law_shuted") rfl) F__law_shuted.kp cb2 rfl tk (sal_cons (se_var (j := 0) rfl (.inl (by kernel_rfl))) (sal_cons (se_var (j := 2) rfl (.inl (by kernel_rfl))) (sal_cons (se_var (j := 3) rfl (.inl (by kernel_rfl))) (sal_cons (se_var (j := 4) rfl (.inl (by kernel_rfl))) sal_nil))))))) sb_nil)
      (sb_cons (ss_set (j := 5) scN rfl (.inl (by kernel_rfl)) (hf := .inl rfl) (se_call (G__law_draw _ TB) (hr.mono (by decide)) hgd (gl_of (by kernel_rfl)) (h.glo 8 (x := "_law_draw") rfl) F__law_draw.kp cb0 rfl tk (sal_cons (se_var (j := 0) rfl (.inl (by kernel_rfl))) (sal_cons (se_bin op_addD (se_callB cr_len (gl_of (by kernel_rfl)) (h.free 0 (x := "len") rfl) (by decide +kernel) (sa_cons (se_var (j := 3) rfl (.inl (by kernel_rfl))) sa_nil)) se_int) sal_nil))))
      (sb_one (ss_ret (se_tup (sal_cons (se_var (j := 2) rfl (.inl (by kernel_rfl))) (sal_cons (se_bin op_addD (se_slc (se_var (j := 3) rfl (.inl (by kernel_rfl))) (so_yes (se_var (j := 5) rfl (.inl (by kernel_rfl)))) so_no) (se_slc (se_var (j := 3) rfl (.inl (by kernel_rfl))) so_no (so_yes (se_var (j := 5) rfl (.inl (by kernel_rfl)))))) (sal_cons (se_var (j := 4) rfl (.inl (by kernel_rfl))) sal_nil)))))))))))
  exact ⟨fd, F, G⟩
theorem ok_checked_bench {P : Program} {w : World} {K : PySem.W.Frag} {mg : Str → Option Value} (h : Hyp K mg) : ∃ fd, FunD K "checked_bench" "checked_bench" (defArgs s_checked_bench) (defBody s_checked_bench) (defScope s_checked_bench) (d_checked_bench.dvs K) (d_checked_bench.kws K) (He.ga K "checked_bench") fd ∧ ∀ base : Heap, LamX.TabB base mg (He.cT K ("seated", none)).1 (He.cT K ("seated", none)).2 → FnG P w K mg base 1 (He.ga K "checked_bench") fd ["thing"] (spD ⟨K, P, w⟩ 1 den_checked_bench) := by
  obtain ⟨fd, F⟩ := h.says.def_ 7 (d := d_checked_bench) rfl
  have scN := sc_checked_bench.nd
  have G := fun (base : Heap) (TB : LamX.TabB base mg (He.cT K ("seated", none)).1 (He.cT K ("seated", none)).2) => (fnG_body (P := P) (w := w) (mg := mg) (base := base) (N := ["thing"]) (ps := ["thing"]) (k := 0) (b := b_checked_bench) F sc_checked_bench fun cdv A outer s H E hr hgd tk => by
    have hu := hr.units
    exact (sb_cons (ss_if (st_not (st_truth (se_callB (cr_isi h.isc) (gl_of (by kernel_rfl)) (h.free 18 (x := "isinstance") rfl) (by decide +kernel) (sa_cons (se_var (j := 0) rfl (.inl (by kernel_rfl))) (sa_cons (se_glo (gl_of (by kernel_rfl)) (h.glo 17 (x := "Bench") rfl)) sa_nil))))) (sb_one ss_never) sb_nil)
      (sb_one (ss_ret (se_var (j := 0) rfl (.inl (by kernel_rfl)))))))
  exact ⟨fd, F, G⟩
theorem ok_reach_of {P : Program} {w : World} {K : PySem.W.Frag} {mg : Str → Option Value} (h : Hyp K mg) : ∃ fd, FunD K "reach_of" "reach_of" (defArgs s_reach_of) (defBody s_reach_of) (defScope s_reach_of) (d_reach_of.dvs K) (d_reach_of.kws K) (He.ga K "reach_of") fd ∧ ∀ base : Heap, LamX.TabB base mg (He.cT K ("seated", none)).1 (He.cT K ("seated", none)).2 → FnG P w K mg base 1 (He.ga K "reach_of") fd ["people"] (spD ⟨K, P, w⟩ 1 den_reach_of) := by
  obtain ⟨fd, F⟩ := h.says.def_ 8 (d := d_reach_of) rfl
  have scN := sc_reach_of.nd
  have G := fun (base : Heap) (TB : LamX.TabB base mg (He.cT K ("seated", none)).1 (He.cT K ("seated", none)).2) => (fnG_body (P := P) (w := w) (mg := mg) (base := base) (N := ["people", "name", "low", "high"]) (ps := ["people"]) (k := 0) (b := b_reach_of) F sc_reach_of fun cdv A outer s H E hr hgd tk => by
    have hu := hr.units
    exact (sb_one (ss_ret (se_dcomp (own := [("name", 1), ("low", 2), ("high", 3)]) (g := (.tup [1, 2, 3])) rfl scN (si_any (se_var (j := 0) rfl (.inl (by kernel_rfl)))) (blkOk_of (by kernel_rfl)) (fun _ _ _ _ _ => (sgc_tup rfl (sgn_cons (j := 1) scN rfl (.inl (by kernel_rfl)) (hf := .inr (by kernel_rfl)) (sgn_cons (j := 2) scN rfl (.inl (by kernel_rfl)) (hf := .inr (by kernel_rfl)) (sgn_cons (j := 3) scN rfl (.inl (by kernel_rfl)) (hf := .inr (by kernel_rfl)) sgn_nil))))) (fun _ _ _ _ _ => sts_nil) (fun _ _ _ _ _ => (se_var (j := 1) rfl (.inl (by kernel_rfl)))) (fun _ _ _ _ _ => (se_tup (sal_cons (se_var (j := 2) rfl (.inl (by kernel_rfl))) (sal_cons (se_var (j := 3) rfl (.inl (by kernel_rfl))) sal_nil))))))))
  exact ⟨fd, F, G⟩
theorem ok_is_seating {P : Program} {w : World} {K : PySem.W.Frag} {mg : Str → Option Value} (h : Hyp K mg) : ∃ fd, FunD K "is_seating" "is_seating" (defArgs s_is_seating) (defBody s_is_seating) (defScope s_is_seating) (d_is_seating.dvs K) (d_is_seating.kws K) (He.ga K "is_seating") fd ∧ ∀ base : Heap, LamX.TabB base mg (He.cT K ("seated", none)).1 (He.cT K ("seated", none)).2 → FnG P w K mg base 2 (He.ga K "is_seating") fd ["bench", "thing"] (spD ⟨K, P, w⟩ 2 den_is_seating) := by
  obtain ⟨fd_checked_bench, F_checked_bench, G_checked_bench⟩ := ok_checked_bench (P := P) (w := w) h
  obtain ⟨fd_reach_of, F_reach_of, G_reach_of⟩ := ok_reach_of (P := P) (w := w) h
  have cb0 : CallB ⟨K, P, w⟩ fd_checked_bench ["thing"] 1 [] [0] [] := callB_no (K := ⟨K, P, w⟩) F_checked_bench 1 [] [0] fun _ _ _ _ _ _ us ws h1 h2 => match us, h1, ws, h2 with | [_], _, [], _ => rfl
  have cb1 : CallB ⟨K, P, w⟩ fd_reach_of ["people"] 1 [] [0] [] := callB_no (K := ⟨K, P, w⟩) F_reach_of 1 [] [0] fun _ _ _ _ _ _ us ws h1 h2 => match us, h1, ws, h2 with | [_], _, [], _ => rfl
  obtain ⟨fd, F⟩ := h.says.def_ 9 (d := d_is_seating) rfl
  have scN := sc_is_seating.nd
  have G := fun (base : Heap) (TB : LamX.TabB base mg (He.cT K ("seated", none)).1 (He.cT K ("seated", none)).2) => (fnG_body (P := P) (w := w) (mg := mg) (base := base) (N := ["bench", "thing", "reach", "sitting", "seat", "name", "low", "high"]) (ps := ["bench", "thing"]) (k := 1) (b := b_is_seating) F sc_is_seating fun cdv A outer s H E hr hgd tk => by
    have hu := hr.units
    exact (sb_cons (ss_expr (se_call (G_checked_bench _ TB) (hr.mono (by decide)) hgd (gl_of (by kernel_rfl)) (h.glo 19 (x := "checked_bench") rfl) F_checked_bench.kp cb0 rfl tk (sal_cons (se_var (j := 0) rfl (.inl (by kernel_rfl))) sal_nil)))
      (sb_cons (ss_if (st_w (sw_or (st_not (st_truth (se_callB (cr_isi h.isc) (gl_of (by kernel_rfl)) (h.free 18 (x := "isinstance") rfl) (by decide +kernel) (sa_cons (se_var (j := 1) rfl (.inl (by kernel_rfl))) (sa_cons (se_ty (gl_of (by kernel_rfl)) (h.free 11 (x := "tuple") rfl) (by decide +kernel)) sa_nil))))) (sw_or1 (st_cmp (op_neD' hu) (se_callB cr_len (gl_of (by kernel_rfl)) (h.free 0 (x := "len") rfl) (by decide +kernel) (sa_cons (se_var (j := 1) rfl (.inl (by kernel_rfl))) sa_nil)) (se_fld (se_var (j := 0) rfl (.inl (by kernel_rfl))) (h.cls 15 (x := "Bench") rfl) (h.noat 16 (x := "Bench") (f := "seats") rfl)) (nomark _))))) (sb_one (ss_ret se_bl)) sb_nil)
      (sb_cons (ss_par2 (i := 2) (j := 3) rfl scN rfl rfl (by decide) (by kernel_rfl) (by kernel_rfl) (sx_v (se_call (G_reach_of _ TB) (hr.mono (by decide)) hgd (gl_of (by kernel_rfl)) (h.glo 21 (x := "reach_of") rfl) F_reach_of.kp cb1 rfl tk (sal_cons (se_fld (se_var (j := 0) rfl (.inl (by kernel_rfl))) (h.cls 15 (x := "Bench") rfl) (h.noat 20 (x := "Bench") (f := "people") rfl)) sal_nil)) (sx_f (sf_lst sal_nil) sx_nil)) (by kernel_rfl))
      (sb_cons (ss_for (passes_of rfl) rfl (si_enum (gl_of (by kernel_rfl)) (h.free 22 (x := "enumerate") rfl) (sal_cons (se_var (j := 1) rfl (.inl (by kernel_rfl))) sal_nil)) (sg_tup rfl (sgn_cons (j := 4) scN rfl (.inl (by kernel_rfl)) (hf := .inl rfl) (sgn_cons (j := 5) scN rfl (.inl (by kernel_rfl)) (hf := .inl rfl) sgn_nil))) (sb_one (ss_if (st_cmp op_notND (se_var (j := 5) rfl (.inl (by kernel_rfl))) se_non (nomark _)) (sb_cons (ss_if (st_w (sw_or (st_not (st_truth (se_callB (cr_isi h.isc) (gl_of (by kernel_rfl)) (h.free 18 (x := "isinstance") rfl) (by decide +kernel) (sa_cons (se_var (j := 5) rfl (.inl (by kernel_rfl))) (sa_cons (se_ty (gl_of (by kernel_rfl)) (h.free 23 (x := "str") rfl) (by decide +kernel)) sa_nil))))) (sw_or1 (st_cmp (op_ninK hu) (se_var (j := 5) rfl (.inl (by kernel_rfl))) (se_var (j := 2) rfl (.inl (by kernel_rfl))) rfl)))) (sb_one (ss_ret se_bl)) sb_nil)
      (sb_cons (ss_asg plain_gtup (se_dget hu (se_var (j := 2) rfl (.inl (by kernel_rfl))) (se_var (j := 5) rfl (.inl (by kernel_rfl)))) (sg_tup rfl (sgn_cons (j := 6) scN rfl (.inl (by kernel_rfl)) (hf := .inl rfl) (sgn_cons (j := 7) scN rfl (.inl (by kernel_rfl)) (hf := .inl rfl) sgn_nil))))
      (sb_cons (ss_if (st_not (st_chain op_leD op_leD (se_var (j := 6) rfl (.inl (by kernel_rfl))) (se_var (j := 4) rfl (.inl (by kernel_rfl))) (se_var (j := 7) rfl (.inl (by kernel_rfl))))) (sb_one (ss_ret se_bl)) sb_nil)
      (sb_one (ss_expr (se_append (se_var (j := 3) rfl (.inl (by kernel_rfl))) (sal_cons (se_var (j := 5) rfl (.inl (by kernel_rfl))) sal_nil))))))) sb_nil)))
      (sb_one (ss_ret (se_cmp (op_eqD' hu) (se_callB cr_sort (gl_of (by kernel_rfl)) (h.free 24 (x := "sorted") rfl) (by decide +kernel) (sa_cons (se_var (j := 3) rfl (.inl (by kernel_rfl))) sa_nil)) (se_callB (cr_sortK rfl) (gl_of (by kernel_rfl)) (h.free 24 (x := "sorted") rfl) (by decide +kernel) (sa_cons (se_var (j := 2) rfl (.inl (by kernel_rfl))) sa_nil)) (nomark _)))))))))
  exact ⟨fd, F, G⟩
theorem ok_begun_at {P : Program} {w : World} {K : PySem.W.Frag} {mg : Str → Option Value} (h : Hyp K mg) : ∃ fd, FunD K "begun_at" "begun_at" (defArgs s_begun_at) (defBody s_begun_at) (defScope s_begun_at) (d_begun_at.dvs K) (d_begun_at.kws K) (He.ga K "begun_at") fd ∧ ∀ base : Heap, LamX.TabB base mg (He.cT K ("seated", none)).1 (He.cT K ("seated", none)).2 → FnG P w K mg base 1 (He.ga K "begun_at") fd ["reach", "sat", "high"] (spD ⟨K, P, w⟩ 3 den_begun_at) := by
  obtain ⟨fd, F⟩ := h.says.def_ 10 (d := d_begun_at) rfl
  have scN := sc_begun_at.nd
  have G := fun (base : Heap) (TB : LamX.TabB base mg (He.cT K ("seated", none)).1 (He.cT K ("seated", none)).2) => (fnG_body (P := P) (w := w) (mg := mg) (base := base) (N := ["reach", "sat", "high", "low"]) (ps := ["reach", "sat", "high"]) (k := 0) (b := b_begun_at) F sc_begun_at fun cdv A outer s H E hr hgd tk => by
    have hu := hr.units
    exact (sb_cons (ss_set (j := 3) scN rfl (.inl (by kernel_rfl)) (hf := .inl rfl) (se_var (j := 2) rfl (.inl (by kernel_rfl))))
      (sb_cons (ss_while 64 (passes_of rfl) (st_w (sw_and (st_cmp op_gtD (se_var (j := 3) rfl (.inl (by kernel_rfl))) se_int (nomark _)) (sw_and (st_cmp op_notND (se_ix ix_D (se_var (j := 1) rfl (.inl (by kernel_rfl))) (se_bin op_subD (se_var (j := 3) rfl (.inl (by kernel_rfl))) se_int) (fun _ _ => rfl)) se_non (nomark _)) (sw_and1 (st_cmp op_leD (se_ix ix_D (se_dget hu (se_var (j := 0) rfl (.inl (by kernel_rfl))) (se_ix ix_D (se_var (j := 1) rfl (.inl (by kernel_rfl))) (se_bin op_subD (se_var (j := 3) rfl (.inl (by kernel_rfl))) se_int) (fun _ _ => rfl))) se_int (fun _ _ => rfl)) (se_var (j := 2) rfl (.inl (by kernel_rfl))) (nomark _)))))) (sb_one (ss_aug (j := 3) ip_sub scN rfl (.inl (by kernel_rfl)) (hf := .inl rfl) se_int)))
      (sb_one (ss_ret (se_var (j := 3) rfl (.inl (by kernel_rfl))))))))
  exact ⟨fd, F, G⟩
theorem ok_seated {P : Program} {w : World} {K : PySem.W.Frag} {mg : Str → Option Value} (h : Hyp K mg) : ∃ fd, FunD K "seated" "seated" (defArgs s_seated) (defBody s_seated) (defScope s_seated) (d_seated.dvs K) (d_seated.kws K) (He.ga K "seated") fd ∧ ∀ base : Heap, LamX.TabB base mg (He.cT K ("seated", none)).1 (He.cT K ("seated", none)).2 → FnG P w K mg base 2 (He.ga K "seated") fd ["bench"] (spD ⟨K, P, w⟩ 1 den_seated) := by
  obtain ⟨fd_checked_bench, F_checked_bench, G_checked_bench⟩ := ok_checked_bench (P := P) (w := w) h
  obtain ⟨fd_reach_of, F_reach_of, G_reach_of⟩ := ok_reach_of (P := P) (w := w) h
  obtain ⟨fd_begun_at, F_begun_at, G_begun_at⟩ := ok_begun_at (P := P) (w := w) h
  have cb0 : CallB ⟨K, P, w⟩ fd_checked_bench ["thing"] 1 [] [0] [] := callB_no (K := ⟨K, P, w⟩) F_checked_bench 1 [] [0] fun _ _ _ _ _ _ us ws h1 h2 => match us, h1, ws, h2 with | [_], _, [], _ => rfl
  have cb1 : CallB ⟨K, P, w⟩ fd_reach_of ["people"] 1 [] [0] [] := callB_no (K := ⟨K, P, w⟩) F_reach_of 1 [] [0] fun _ _ _ _ _ _ us ws h1 h2 => match us, h1, ws, h2 with | [_], _, [], _ => rfl
  have cb2 : CallB ⟨K, P, w⟩ fd_begun_at ["reach", "sat", "high"] 3 [] [0, 1, 2] [] := callB_no (K := ⟨K, P, w⟩) F_begun_at 3 [] [0, 1, 2] fun _ _ _ _ _ _ us ws h1 h2 => match us, h1, ws, h2 with | [_, _, _], _, [], _ => rfl
  obtain ⟨fd, F⟩ := h.says.def_ 11 (d := d_seated) rfl
  have scN := sc_seated.nd
  have G := fun (base : Heap) (TB : LamX.TabB base mg (He.cT K ("seated", none)).1 (He.cT K ("seated", none)).2) => (fnG_bodyC (dn := ("seated", none)) (P := P) (w := w) (mg := mg) (base := base) (N := ["bench", "reach", "sat", "waiting", "spot", "fit", "call"]) (ps := ["bench"]) (k := 1) (b := b_seated) F sc_seated fun cdv A outer s H E ec hr hgd tk => by
    have hu := hr.units
    exact (sb_cons (ss_expr (se_call (G_checked_bench _ TB) (hr.mono (by decide)) hgd (gl_of (by kernel_rfl)) (h.glo 19 (x := "checked_bench") rfl) F_checked_bench.kp cb0 rfl tk (sal_cons (se_var (j := 0) rfl (.inl (by kernel_rfl))) sal_nil)))
      (sb_cons (ss_parC rfl (sx_v (se_call (G_reach_of _ TB) (hr.mono (by decide)) hgd (gl_of (by kernel_rfl)) (h.glo 21 (x := "reach_of") rfl) F_reach_of.kp cb1 rfl tk (sal_cons (se_fld (se_var (j := 0) rfl (.inl (by kernel_rfl))) (h.cls 15 (x := "Bench") rfl) (h.noat 20 (x := "Bench") (f := "people") rfl)) sal_nil)) (sx_f (sf_lst sal_nil) sx_nil)) (sgn_cons (j := 1) scN rfl (.inr (by kernel_rfl)) (hf := .inl rfl) (sgn_cons (j := 2) scN rfl (.inr (by kernel_rfl)) (hf := .inl rfl) sgn_nil)))
      (sb_cons (ss_set (j := 3) scN rfl (.inl (by kernel_rfl)) (hf := .inl rfl) (se_sortlam (p := ("seated", none)) (t := 0) (i := 1) rfl hu (by have := hr.dp; omega) (gl_of (by kernel_rfl)) (h.free 24 (x := "sorted") rfl) TB rfl (by kernel_rfl) ec rfl (lamC_by (by kernel_rfl)) rfl (fun _ _ _ _ _ => rfl)))
      (sb_cons (ss_for (passes_of rfl) rfl (si_range1 (gl_of (by kernel_rfl)) (h.free 3 (x := "range") rfl) (sa_cons (se_fld (se_var (j := 0) rfl (.inl (by kernel_rfl))) (h.cls 15 (x := "Bench") rfl) (h.noat 16 (x := "Bench") (f := "seats") rfl)) sa_nil)) (sg_name (j := 4) scN rfl (.inr (by kernel_rfl)) (hf := .inl rfl)) (sb_cons (ss_comp (own := [("call", 6)]) (g := (.name 6)) (j := 5) rfl scN rfl (by kernel_rfl) (by kernel_rfl) (si_any (se_var (j := 3) rfl (.inl (by kernel_rfl)))) (blkOk_of (by kernel_rfl)) (fun _ _ _ _ _ => (sgc_name (j := 6) scN rfl (.inl (by kernel_rfl)) (hf := .inr (by kernel_rfl)))) (fun _ _ _ _ _ => (sts_one (st_cmp op_leD (se_ix ix_D (se_dget hu (se_var (j := 1) rfl (.inr (.inl (by kernel_rfl)))) (se_var (j := 6) rfl (.inl (by kernel_rfl)))) se_int (fun _ _ => rfl)) (se_var (j := 4) rfl (.inr (.inl (by kernel_rfl)))) (nomark _)))) (fun _ _ _ _ _ => (se_var (j := 6) rfl (.inl (by kernel_rfl)))))
      (sb_cons (ss_expr (se_append (se_var (j := 2) rfl (.inr (.inl (by kernel_rfl)))) (sal_cons (se_if (st_truth (se_var (j := 5) rfl (.inl (by kernel_rfl)))) (se_ix ix_D (se_var (j := 5) rfl (.inl (by kernel_rfl))) se_int (fun _ _ => rfl)) se_non) sal_nil)))
      (sb_cons (ss_comp (own := [("call", 6)]) (g := (.name 6)) (j := 3) rfl scN rfl (by kernel_rfl) (by kernel_rfl) (si_any (se_var (j := 3) rfl (.inl (by kernel_rfl)))) (blkOk_of (by kernel_rfl)) (fun _ _ _ _ _ => (sgc_name (j := 6) scN rfl (.inl (by kernel_rfl)) (hf := .inr (by kernel_rfl)))) (fun _ _ _ _ _ => (sts_one (st_cmp (op_neD' hu) (se_var (j := 6) rfl (.inl (by kernel_rfl))) (se_ix ix_D (se_var (j := 2) rfl (.inr (.inl (by kernel_rfl)))) (se_var (j := 4) rfl (.inr (.inl (by kernel_rfl)))) (fun _ _ => rfl)) (nomark _)))) (fun _ _ _ _ _ => (se_var (j := 6) rfl (.inl (by kernel_rfl)))))
      (sb_one (ss_if (st_truth (se_callB (cr_anyD rfl) (gl_of (by kernel_rfl)) (h.free 26 (x := "any") rfl) (by decide +kernel) (sa_cons (se_comp (own := [("call", 6)]) (g := (.name 6)) rfl scN (si_any (se_var (j := 3) rfl (.inl (by kernel_rfl)))) (blkOk_of (by kernel_rfl)) (fun _ _ _ _ _ => (sgc_name (j := 6) scN rfl (.inl (by kernel_rfl)) (hf := .inr (by kernel_rfl)))) (fun _ _ _ _ _ => sts_nil) (fun _ _ _ _ _ => (se_cmp op_leD (se_ix ix_D (se_dget hu (se_var (j := 1) rfl (.inr (.inl (by kernel_rfl)))) (se_var (j := 6) rfl (.inl (by kernel_rfl)))) se_int (fun _ _ => rfl)) (se_var (j := 4) rfl (.inr (.inl (by kernel_rfl)))) (nomark _)))) sa_nil))) (sb_one (ss_ret (se_tup (sal_cons se_str (sal_cons (se_tup (sal_cons (se_call (G_begun_at _ TB) (hr.mono (by decide)) hgd (gl_of (by kernel_rfl)) (h.glo 27 (x := "begun_at") rfl) F_begun_at.kp cb2 rfl tk (sal_cons (se_var (j := 1) rfl (.inr (.inl (by kernel_rfl)))) (sal_cons (se_var (j := 2) rfl (.inr (.inl (by kernel_rfl)))) (sal_cons (se_var (j := 4) rfl (.inr (.inl (by kernel_rfl)))) sal_nil)))) (sal_cons (se_var (j := 4) rfl (.inr (.inl (by kernel_rfl)))) sal_nil))) sal_nil))))) sb_nil))))))
      (sb_one (ss_ret (se_tup (sal_cons se_str (sal_cons (se_callTy cr_tuple (gl_of (by kernel_rfl)) (h.free 11 (x := "tuple") rfl) (by decide +kernel) (sa_cons (se_var (j := 2) rfl (.inr (.inl (by kernel_rfl)))) sa_nil)) sal_nil))))))))))
  exact ⟨fd, F, G⟩
theorem ok_is_whole {P : Program} {w : World} {K : PySem.W.Frag} {mg : Str → Option Value} (h : Hyp K mg) : ∃ fd, FunD K "is_whole" "is_whole" (defArgs s_is_whole) (defBody s_is_whole) (defScope s_is_whole) (d_is_whole.dvs K) (d_is_whole.kws K) (He.ga K "is_whole") fd ∧ ∀ base : Heap, LamX.TabB base mg (He.cT K ("seated", none)).1 (He.cT K ("seated", none)).2 → FnG P w K mg base 1 (He.ga K "is_whole") fd ["thing"] (spD ⟨K, P, w⟩ 1 den_is_whole) := by
  obtain ⟨fd, F⟩ := h.says.def_ 12 (d := d_is_whole) rfl
  have scN := sc_is_whole.nd
  have G := fun (base : Heap) (TB : LamX.TabB base mg (He.cT K ("seated", none)).1 (He.cT K ("seated", none)).2) => (fnG_body (P := P) (w := w) (mg := mg) (base := base) (N := ["thing"]) (ps := ["thing"]) (k := 0) (b := b_is_whole) F sc_is_whole fun cdv A outer s H E hr hgd tk => by
    have hu := hr.units
    exact (sb_one (ss_ret (se_and (se_callB (cr_isi h.isc) (gl_of (by kernel_rfl)) (h.free 18 (x := "isinstance") rfl) (by decide +kernel) (sa_cons (se_var (j := 0) rfl (.inl (by kernel_rfl))) (sa_cons (se_ty (gl_of (by kernel_rfl)) (h.free 10 (x := "int") rfl) (by decide +kernel)) sa_nil))) (se_one (se_not (se_callB (cr_isi h.isc) (gl_of (by kernel_rfl)) (h.free 18 (x := "isinstance") rfl) (by decide +kernel) (sa_cons (se_var (j := 0) rfl (.inl (by kernel_rfl))) (sa_cons (se_ty (gl_of (by kernel_rfl)) (h.free 28 (x := "bool") rfl) (by decide +kernel)) sa_nil)))))))))
  exact ⟨fd, F, G⟩
theorem ok_is_name {P : Program} {w : World} {K : PySem.W.Frag} {mg : Str → Option Value} (h : Hyp K mg) : ∃ fd, FunD K "is_name" "is_name" (defArgs s_is_name) (defBody s_is_name) (defScope s_is_name) (d_is_name.dvs K) (d_is_name.kws K) (He.ga K "is_name") fd ∧ ∀ base : Heap, LamX.TabB base mg (He.cT K ("seated", none)).1 (He.cT K ("seated", none)).2 → FnG P w K mg base 1 (He.ga K "is_name") fd ["thing"] (spD ⟨K, P, w⟩ 1 den_is_name) := by
  obtain ⟨fd, F⟩ := h.says.def_ 13 (d := d_is_name) rfl
  have scN := sc_is_name.nd
  have G := fun (base : Heap) (TB : LamX.TabB base mg (He.cT K ("seated", none)).1 (He.cT K ("seated", none)).2) => (fnG_body (P := P) (w := w) (mg := mg) (base := base) (N := ["thing", "sign"]) (ps := ["thing"]) (k := 0) (b := b_is_name) F sc_is_name fun cdv A outer s H E hr hgd tk => by
    have hu := hr.units
    exact (sb_cons (ss_if (st_w (sw_or (st_not (st_truth (se_callB (cr_isi h.isc) (gl_of (by kernel_rfl)) (h.free 18 (x := "isinstance") rfl) (by decide +kernel) (sa_cons (se_var (j := 0) rfl (.inl (by kernel_rfl))) (sa_cons (se_ty (gl_of (by kernel_rfl)) (h.free 23 (x := "str") rfl) (by decide +kernel)) sa_nil))))) (sw_or1 (st_not (st_chain op_leD op_leD se_int (se_callB cr_len (gl_of (by kernel_rfl)) (h.free 0 (x := "len") rfl) (by decide +kernel) (sa_cons (se_var (j := 0) rfl (.inl (by kernel_rfl))) sa_nil)) se_int))))) (sb_one (ss_ret se_bl)) sb_nil)
      (sb_one (ss_ret (se_callB (cr_allD rfl) (gl_of (by kernel_rfl)) (h.free 32 (x := "all") rfl) (by decide +kernel) (sa_cons (se_comp (own := [("sign", 1)]) (g := (.name 1)) rfl scN (si_any (se_var (j := 0) rfl (.inl (by kernel_rfl)))) (blkOk_of (by kernel_rfl)) (fun _ _ _ _ _ => (sgc_name (j := 1) scN rfl (.inl (by kernel_rfl)) (hf := .inr (by kernel_rfl)))) (fun _ _ _ _ _ => sts_nil) (fun _ _ _ _ _ => (se_cmp op_inA (se_var (j := 1) rfl (.inl (by kernel_rfl))) se_str rfl))) sa_nil))))))
  exact ⟨fd, F, G⟩
theorem ok_is_seat {P : Program} {w : World} {K : PySem.W.Frag} {mg : Str → Option Value} (h : Hyp K mg) : ∃ fd, FunD K "is_seat" "is_seat" (defArgs s_is_seat) (defBody s_is_seat) (defScope s_is_seat) (d_is_seat.dvs K) (d_is_seat.kws K) (He.ga K "is_seat") fd ∧ ∀ base : Heap, LamX.TabB base mg (He.cT K ("seated", none)).1 (He.cT K ("seated", none)).2 → FnG P w K mg base 2 (He.ga K "is_seat") fd ["thing", "seats"] (spD ⟨K, P, w⟩ 2 den_is_seat) := by
  obtain ⟨fd_is_whole, F_is_whole, G_is_whole⟩ := ok_is_whole (P := P) (w := w) h
  have cb0 : CallB ⟨K, P, w⟩ fd_is_whole ["thing"] 1 [] [0] [] := callB_no (K := ⟨K, P, w⟩) F_is_whole 1 [] [0] fun _ _ _ _ _ _ us ws h1 h2 => match us, h1, ws, h2 with | [_], _, [], _ => rfl
  obtain ⟨fd, F⟩ := h.says.def_ 14 (d := d_is_seat) rfl
  have scN := sc_is_seat.nd
  have G := fun (base : Heap) (TB : LamX.TabB base mg (He.cT K ("seated", none)).1 (He.cT K ("seated", none)).2) => (fnG_body (P := P) (w := w) (mg := mg) (base := base) (N := ["thing", "seats"]) (ps := ["thing", "seats"]) (k := 1) (b := b_is_seat) F sc_is_seat fun cdv A outer s H E hr hgd tk => by
    have hu := hr.units
    exact (sb_one (ss_ret (se_and (se_call (G_is_whole _ TB) (hr.mono (by decide)) hgd (gl_of (by kernel_rfl)) (h.glo 29 (x := "is_whole") rfl) F_is_whole.kp cb0 rfl tk (sal_cons (se_var (j := 0) rfl (.inl (by kernel_rfl))) sal_nil)) (se_one (se_chain op_leD op_ltD se_int (se_var (j := 0) rfl (.inl (by kernel_rfl))) (se_var (j := 1) rfl (.inl (by kernel_rfl)))))))))
  exact ⟨fd, F, G⟩
theorem ok_is_stretch {P : Program} {w : World} {K : PySem.W.Frag} {mg : Str → Option Value} (h : Hyp K mg) : ∃ fd, FunD K "is_stretch" "is_stretch" (defArgs s_is_stretch) (defBody s_is_stretch) (defScope s_is_stretch) (d_is_stretch.dvs K) (d_is_stretch.kws K) (He.ga K "is_stretch") fd ∧ ∀ base : Heap, LamX.TabB base mg (He.cT K ("seated", none)).1 (He.cT K ("seated", none)).2 → FnG P w K mg base 3 (He.ga K "is_stretch") fd ["thing", "seats"] (spD ⟨K, P, w⟩ 2 den_is_stretch) := by
  obtain ⟨fd_is_seat, F_is_seat, G_is_seat⟩ := ok_is_seat (P := P) (w := w) h
  have cb0 : CallB ⟨K, P, w⟩ fd_is_seat ["thing", "seats"] 2 [] [0, 1] [] := callB_no (K := ⟨K, P, w⟩) F_is_seat 2 [] [0, 1] fun _ _ _ _ _ _ us ws h1 h2 => match us, h1, ws, h2 with | [_, _], _, [], _ => rfl
  obtain ⟨fd, F⟩ := h.says.def_ 15 (d := d_is_stretch) rfl
  have scN := sc_is_stretch.nd
  have G := fun (base : Heap) (TB : LamX.TabB base mg (He.cT K ("seated", none)).1 (He.cT K ("seated", none)).2) => (fnG_body (P := P) (w := w) (mg := mg) (base := base) (N := ["thing", "seats", "low", "high"]) (ps := ["thing", "seats"]) (k := 2) (b := b_is_stretch) F sc_is_stretch fun cdv A outer s H E hr hgd tk => by
    have hu := hr.units
    exact (sb_cons (ss_if (st_w (sw_or (st_not (st_truth (se_callB (cr_isi h.isc) (gl_of (by kernel_rfl)) (h.free 18 (x := "isinstance") rfl) (by decide +kernel) (sa_cons (se_var (j := 0) rfl (.inl (by kernel_rfl))) (sa_cons (se_ty (gl_of (by kernel_rfl)) (h.free 11 (x := "tuple") rfl) (by decide +kernel)) sa_nil))))) (sw_or1 (st_cmp (op_neD' hu) (se_callB cr_len (gl_of (by kernel_rfl)) (h.free 0 (x := "len") rfl) (by decide +kernel) (sa_cons (se_var (j := 0) rfl (.inl (by kernel_rfl))) sa_nil)) se_int (nomark _))))) (sb_one (ss_ret se_bl)) sb_nil)
      (sb_cons (ss_asg plain_gtup (se_var (j := 0) rfl (.inl (by kernel_rfl))) (sg_tup rfl (sgn_cons (j := 2) scN rfl (.inl (by kernel_rfl)) (hf := .inl rfl) (sgn_cons (j := 3) scN rfl (.inl (by kernel_rfl)) (hf := .inl rfl) sgn_nil))))
      (sb_one (ss_ret (se_and (se_call (G_is_seat _ TB) (hr.mono (by decide)) hgd (gl_of (by kernel_rfl)) (h.glo 34 (x := "is_seat") rfl) F_is_seat.kp cb0 rfl tk (sal_cons (se_var (j := 2) rfl (.inl (by kernel_rfl))) (sal_cons (se_var (j := 1) rfl (.inl (by kernel_rfl))) sal_nil))) (se_and (se_call (G_is_seat _ TB) (hr.mono (by decide)) hgd (gl_of (by kernel_rfl)) (h.glo 34 (x := "is_seat") rfl) F_is_seat.kp cb0 rfl tk (sal_cons (se_var (j := 3) rfl (.inl (by kernel_rfl))) (sal_cons (se_var (j := 1) rfl (.inl (by kernel_rfl))) sal_nil))) (se_one (se_cmp op_leD (se_var (j := 2) rfl (.inl (by kernel_rfl))) (se_var (j := 3) rfl (.inl (by kernel_rfl))) (nomark _))))))))))
  exact ⟨fd, F, G⟩
theorem ok_is_person {P : Program} {w : World} {K : PySem.W.Frag} {mg : Str → Option Value} (h : Hyp K mg) : ∃ fd, FunD K "is_person" "is_person" (defArgs s_is_person) (defBody s_is_person) (defScope s_is_person) (d_is_person.dvs K) (d_is_person.kws K) (He.ga K "is_person") fd ∧ ∀ base : Heap, LamX.TabB base mg (He.cT K ("seated", none)).1 (He.cT K ("seated", none)).2 → FnG P w K mg base 4 (He.ga K "is_person") fd ["thing", "seats"] (spD ⟨K, P, w⟩ 2 den_is_person) := by
  obtain ⟨fd_is_name, F_is_name, G_is_name⟩ := ok_is_name (P := P) (w := w) h
  obtain ⟨fd_is_stretch, F_is_stretch, G_is_stretch⟩ := ok_is_stretch (P := P) (w := w) h
  have cb0 : CallB ⟨K, P, w⟩ fd_is_name ["thing"] 1 [] [0] [] := callB_no (K := ⟨K, P, w⟩) F_is_name 1 [] [0] fun _ _ _ _ _ _ us ws h1 h2 => match us, h1, ws, h2 with | [_], _, [], _ => rfl
  have cb1 : CallB ⟨K, P, w⟩ fd_is_stretch ["thing", "seats"] 2 [] [0, 1] [] := callB_no (K := ⟨K, P, w⟩) F_is_stretch 2 [] [0, 1] fun _ _ _ _ _ _ us ws h1 h2 => match us, h1, ws, h2 with | [_, _], _, [], _ => rfl
  obtain ⟨fd, F⟩ := h.says.def_ 16 (d := d_is_person) rfl
  have scN := sc_is_person.nd
  have G := fun (base : Heap) (TB : LamX.TabB base mg (He.cT K ("seated", none)).1 (He.cT K ("seated", none)).2) => (fnG_body (P := P) (w := w) (mg := mg) (base := base) (N := ["thing", "seats", "name", "ends"]) (ps := ["thing", "seats"]) (k := 3) (b := b_is_person) F sc_is_person fun cdv A outer s H E hr hgd tk => by
    have hu := hr.units
    exact (sb_cons (ss_if (st_w (sw_or (st_not (st_truth (se_callB (cr_isi h.isc) (gl_of (by kernel_rfl)) (h.free 18 (x := "isinstance") rfl) (by decide +kernel) (sa_cons (se_var (j := 0) rfl (.inl (by kernel_rfl))) (sa_cons (se_ty (gl_of (by kernel_rfl)) (h.free 11 (x := "tuple") rfl) (by decide +kernel)) sa_nil))))) (sw_or1 (st_cmp (op_neD' hu) (se_callB cr_len (gl_of (by kernel_rfl)) (h.free 0 (x := "len") rfl) (by decide +kernel) (sa_cons (se_var (j := 0) rfl (.inl (by kernel_rfl))) sa_nil)) se_int (nomark _))))) (sb_one (ss_ret se_bl)) sb_nil)
      (sb_cons (ss_asg plain_gstar (se_var (j := 0) rfl (.inl (by kernel_rfl))) (sg_star (es' := [.Name "name" ⟨42, 4, 42, 8⟩, .Name "ends" ⟨42, 11, 42, 15⟩]) rfl (sgn_cons (j := 2) scN rfl (.inl (by kernel_rfl)) (hf := .inl rfl) (sgn_cons (j := 3) scN rfl (.inl (by kernel_rfl)) (hf := .inl rfl) sgn_nil))))
      (sb_one (ss_ret (se_and (se_call (G_is_name _ TB) (hr.mono (by decide)) hgd (gl_of (by kernel_rfl)) (h.glo 33 (x := "is_name") rfl) F_is_name.kp cb0 rfl tk (sal_cons (se_var (j := 2) rfl (.inl (by kernel_rfl))) sal_nil)) (se_one (se_call (G_is_stretch _ TB) (hr.mono (by decide)) hgd (gl_of (by kernel_rfl)) (h.glo 35 (x := "is_stretch") rfl) F_is_stretch.kp cb1 rfl tk (sal_cons (se_callTy cr_tuple (gl_of (by kernel_rfl)) (h.free 11 (x := "tuple") rfl) (by decide +kernel) (sa_cons (se_var (j := 3) rfl (.inl (by kernel_rfl))) sa_nil)) (sal_cons (se_var (j := 1) rfl (.inl (by kernel_rfl))) sal_nil))))))))))
  exact ⟨fd, F, G⟩
theorem ok_first_odd {P : Program} {w : World} {K : PySem.W.Frag} {mg : Str → Option Value} (h : Hyp K mg) : ∃ fd, FunD K "first_odd" "first_odd" (defArgs s_first_odd) (defBody s_first_odd) (defScope s_first_odd) (d_first_odd.dvs K) (d_first_odd.kws K) (He.ga K "first_odd") fd ∧ ∀ base : Heap, LamX.TabB base mg (He.cT K ("seated", none)).1 (He.cT K ("seated", none)).2 → FnG P w K mg base 5 (He.ga K "first_odd") fd ["people", "seats"] (spD ⟨K, P, w⟩ 2 den_first_odd) := by
  obtain ⟨fd_is_person, F_is_person, G_is_person⟩ := ok_is_person (P := P) (w := w) h
  have cb0 : CallB ⟨K, P, w⟩ fd_is_person ["thing", "seats"] 2 [] [0, 1] [] := callB_no (K := ⟨K, P, w⟩) F_is_person 2 [] [0, 1] fun _ _ _ _ _ _ us ws h1 h2 => match us, h1, ws, h2 with | [_, _], _, [], _ => rfl
  obtain ⟨fd, F⟩ := h.says.def_ 17 (d := d_first_odd) rfl
  have scN := sc_first_odd.nd
  have G := fun (base : Heap) (TB : LamX.TabB base mg (He.cT K ("seated", none)).1 (He.cT K ("seated", none)).2) => (fnG_body (P := P) (w := w) (mg := mg) (base := base) (N := ["people", "seats", "known", "number", "thing"]) (ps := ["people", "seats"]) (k := 4) (b := b_first_odd) F sc_first_odd fun cdv A outer s H E hr hgd tk => by
    have hu := hr.units
    exact (sb_cons (ss_setO (j := 2) scN rfl (.inl (by kernel_rfl)) (hf := .inl rfl) (sf_set (gl_of (by kernel_rfl)) (h.free 31 (x := "set") rfl)))
      (sb_cons (ss_for (passes_of rfl) rfl (si_enum (gl_of (by kernel_rfl)) (h.free 22 (x := "enumerate") rfl) (sal_cons (se_var (j := 0) rfl (.inl (by kernel_rfl))) sal_nil)) (sg_tup rfl (sgn_cons (j := 3) scN rfl (.inl (by kernel_rfl)) (hf := .inl rfl) (sgn_cons (j := 4) scN rfl (.inl (by kernel_rfl)) (hf := .inl rfl) sgn_nil))) (sb_cons (ss_if (st_w (sw_or (st_not (st_truth (se_call (G_is_person _ TB) (hr.mono (by decide)) hgd (gl_of (by kernel_rfl)) (h.glo 36 (x := "is_person") rfl) F_is_person.kp cb0 rfl tk (sal_cons (se_var (j := 4) rfl (.inl (by kernel_rfl))) (sal_cons (se_var (j := 1) rfl (.inl (by kernel_rfl))) sal_nil))))) (sw_or1 (st_cmp op_inA (se_ix ix_D (se_var (j := 4) rfl (.inl (by kernel_rfl))) se_int (fun _ _ => rfl)) (se_var (j := 2) rfl (.inl (by kernel_rfl))) rfl)))) (sb_one (ss_ret (se_var (j := 3) rfl (.inl (by kernel_rfl))))) sb_nil)
      (sb_one (ss_expr (se_sadd (se_var (j := 2) rfl (.inl (by kernel_rfl))) (sal_cons (se_ix ix_D (se_var (j := 4) rfl (.inl (by kernel_rfl))) se_int (fun _ _ => rfl)) sal_nil))))))
      (sb_one (ss_ret se_non)))))
  exact ⟨fd, F, G⟩
theorem ok_Bench_init {P : Program} {w : World} {K : PySem.W.Frag} {mg : Str → Option Value} (h : Hyp K mg) : ∃ fd, FunD K "__init__" "Bench.__init__" (defArgs s_Bench_init) (defBody s_Bench_init) (defScope s_Bench_init) (d_Bench_init.dvs K) (d_Bench_init.kws K) (He.ma K (He.ga K "Bench") "__init__") fd ∧ ∀ base : Heap, LamX.TabB base mg (He.cT K ("seated", none)).1 (He.cT K ("seated", none)).2 → FnG P w K mg base 6 (He.ma K (He.ga K "Bench") "__init__") fd ["self", "seats", "people"] (spI ⟨K, P, w⟩ "Bench" 3 den_Bench_init) := by
  obtain ⟨fd_is_whole, F_is_whole, G_is_whole⟩ := ok_is_whole (P := P) (w := w) h
  obtain ⟨fd_first_odd, F_first_odd, G_first_odd⟩ := ok_first_odd (P := P) (w := w) h
  have cb0 : CallB ⟨K, P, w⟩ fd_is_whole ["thing"] 1 [] [0] [] := callB_no (K := ⟨K, P, w⟩) F_is_whole 1 [] [0] fun _ _ _ _ _ _ us ws h1 h2 => match us, h1, ws, h2 with | [_], _, [], _ => rfl
  have cb1 : CallB ⟨K, P, w⟩ fd_first_odd ["people", "seats"] 2 [] [0, 1] [] := callB_no (K := ⟨K, P, w⟩) F_first_odd 2 [] [0, 1] fun _ _ _ _ _ _ us ws h1 h2 => match us, h1, ws, h2 with | [_, _], _, [], _ => rfl
  obtain ⟨fd, F⟩ := h.says.def_ 18 (d := d_Bench_init) rfl
  have scN := sc_Bench_init.nd
  have G := fun (base : Heap) (TB : LamX.TabB base mg (He.cT K ("seated", none)).1 (He.cT K ("seated", none)).2) => (fnG_init (P := P) (w := w) (mg := mg) (base := base) (N := ["self", "seats", "people", "place"]) (ps := ["self", "seats", "people"]) (k := 5) (b := b_Bench_init) (cn := "Bench") F sc_Bench_init (fun z => nomatch z) fun cdv A outer s H E hr hgd tk => by
    have hu := hr.units
    exact (sb_cons (ss_if (st_w (sw_or (st_not (st_truth (se_call (G_is_whole _ TB) (hr.mono (by decide)) hgd (gl_of (by kernel_rfl)) (h.glo 29 (x := "is_whole") rfl) F_is_whole.kp cb0 rfl tk (sal_cons (se_var (j := 1) rfl (.inl (by kernel_rfl))) sal_nil)))) (sw_or1 (st_not (st_chain op_leD op_leD se_int (se_var (j := 1) rfl (.inl (by kernel_rfl))) (se_gint (gl_of (by kernel_rfl)) (h.int 30 (x := "MOST_SEATS") (i := 12) rfl))))))) (sb_one ss_never) sb_nil)
      (sb_cons (ss_if (st_w (sw_or (st_not (st_truth (se_callB (cr_isi h.isc) (gl_of (by kernel_rfl)) (h.free 18 (x := "isinstance") rfl) (by decide +kernel) (sa_cons (se_var (j := 2) rfl (.inl (by kernel_rfl))) (sa_cons (se_ty (gl_of (by kernel_rfl)) (h.free 11 (x := "tuple") rfl) (by decide +kernel)) sa_nil))))) (sw_or1 (st_cmp op_gtD (se_callB cr_len (gl_of (by kernel_rfl)) (h.free 0 (x := "len") rfl) (by decide +kernel) (sa_cons (se_var (j := 2) rfl (.inl (by kernel_rfl))) sa_nil)) (se_var (j := 1) rfl (.inl (by kernel_rfl))) (nomark _))))) (sb_one ss_never) sb_nil)
      (sb_cons (ss_set (j := 3) scN rfl (.inl (by kernel_rfl)) (hf := .inl rfl) (se_call (G_first_odd _ TB) (hr.mono (by decide)) hgd (gl_of (by kernel_rfl)) (h.glo 37 (x := "first_odd") rfl) F_first_odd.kp cb1 rfl tk (sal_cons (se_var (j := 2) rfl (.inl (by kernel_rfl))) (sal_cons (se_var (j := 1) rfl (.inl (by kernel_rfl))) sal_nil))))
      (sb_cons (ss_if (st_cmp op_notND (se_var (j := 3) rfl (.inl (by kernel_rfl))) se_non (nomark _)) (sb_one ss_never) sb_nil)
      (sb_cons (ss_fld (h.cls 15 (x := "Bench") rfl) (h.noat 16 (x := "Bench") (f := "seats") rfl) (se_var (j := 0) rfl (.inl (by kernel_rfl))) (se_var (j := 1) rfl (.inl (by kernel_rfl))))
      (sb_one (ss_fld (h.cls 15 (x := "Bench") rfl) (h.noat 20 (x := "Bench") (f := "people") rfl) (se_var (j := 0) rfl (.inl (by kernel_rfl))) (se_var (j := 2) rfl (.inl (by kernel_rfl))))))))))).blind
  exact ⟨fd, F, G⟩
theorem ok_Bench_mirrored {P : Program} {w : World} {K : PySem.W.Frag} {mg : Str → Option Value} (h : Hyp K mg) : ∃ fd, FunD K "mirrored" "Bench.mirrored" (defArgs s_Bench_mirrored) (defBody s_Bench_mirrored) (defScope s_Bench_mirrored) (d_Bench_mirrored.dvs K) (d_Bench_mirrored.kws K) (He.ma K (He.ga K "Bench") "mirrored") fd ∧ ∀ base : Heap, LamX.TabB base mg (He.cT K ("seated", none)).1 (He.cT K ("seated", none)).2 → FnG P w K mg base 8 (He.ma K (He.ga K "Bench") "mirrored") fd ["self"] (spD ⟨K, P, w⟩ 1 den_Bench_mirrored) := by
  obtain ⟨fd_Bench_init, F_Bench_init, G_Bench_init⟩ := ok_Bench_init (P := P) (w := w) h
  have cb0 : CallI ⟨K, P, w⟩ fd_Bench_init ["self", "seats", "people"] 2 [] [0, 1] [] := callI_all (K := ⟨K, P, w⟩) F_Bench_init (by simp [He.DefD.dvs, d_Bench_init]) 2 [] [0, 1] fun _ _ _ _ _ _ _ _ us ws its h1 h2 h3 => match us, h1, ws, h2, its, (show its.length = 1 from h3) with | [_, _], _, [], _, [_], _ => ⟨_, rfl, rfl⟩
  obtain ⟨fd, F⟩ := h.says.def_ 19 (d := d_Bench_mirrored) rfl
  have scN := sc_Bench_mirrored.nd
  have G := fun (base : Heap) (TB : LamX.TabB base mg (He.cT K ("seated", none)).1 (He.cT K ("seated", none)).2) => (fnG_body (P := P) (w := w) (mg := mg) (base := base) (N := ["self", "end", "name", "low", "high"]) (ps := ["self"]) (k := 7) (b := b_Bench_mirrored) F sc_Bench_mirrored fun cdv A outer s H E hr hgd tk => by
    have hu := hr.units
    exact (sb_cons (ss_set (j := 1) scN rfl (.inr (by kernel_rfl)) (hf := .inl rfl) (se_bin op_subD (se_fld (se_var (j := 0) rfl (.inl (by kernel_rfl))) (h.cls 15 (x := "Bench") rfl) (h.noat 16 (x := "Bench") (f := "seats") rfl)) se_int))
      (sb_one (ss_ret (se_make blind_Bench_init (h.mkr 38 (x := "Bench") rfl) (G_Bench_init _ TB) (hr.mono (by decide)) hgd (gl_of (by kernel_rfl)) (h.glo 17 (x := "Bench") rfl) cb0 rfl tk (sal_cons (se_fld (se_var (j := 0) rfl (.inl (by kernel_rfl))) (h.cls 15 (x := "Bench") rfl) (h.noat 16 (x := "Bench") (f := "seats") rfl)) (sal_cons (se_callTy cr_tuple (gl_of (by kernel_rfl)) (h.free 11 (x := "tuple") rfl) (by decide +kernel) (sa_cons (se_comp (own := [("name", 2), ("low", 3), ("high", 4)]) (g := (.tup [2, 3, 4])) rfl scN (si_any (se_fld (se_var (j := 0) rfl (.inl (by kernel_rfl))) (h.cls 15 (x := "Bench") rfl) (h.noat 20 (x := "Bench") (f := "people") rfl))) (blkOk_of (by kernel_rfl)) (fun _ _ _ _ _ => (sgc_tup rfl (sgn_cons (j := 2) scN rfl (.inl (by kernel_rfl)) (hf := .inr (by kernel_rfl)) (sgn_cons (j := 3) scN rfl (.inl (by kernel_rfl)) (hf := .inr (by kernel_rfl)) (sgn_cons (j := 4) scN rfl (.inl (by kernel_rfl)) (hf := .inr (by kernel_rfl)) sgn_nil))))) (fun _ _ _ _ _ => sts_nil) (fun _ _ _ _ _ => (se_tup (sal_cons (se_var (j := 2) rfl (.inl (by kernel_rfl))) (sal_cons (se_bin op_subD (se_var (j := 1) rfl (.inr (.inl (by kernel_rfl)))) (se_var (j := 4) rfl (.inl (by kernel_rfl)))) (sal_cons (se_bin op_subD (se_var (j := 1) rfl (.inr (.inl (by kernel_rfl)))) (se_var (j := 3) rfl (.inl (by kernel_rfl)))) sal_nil)))))) sa_nil)) sal_nil)))))))
  exact ⟨fd, F, G⟩
theorem ok_Bench_eased {P : Program} {w : World} {K : PySem.W.Frag} {mg : Str → Option Value} (h : Hyp K mg) : ∃ fd, FunD K "eased" "Bench.eased" (defArgs s_Bench_eased) (defBody s_Bench_eased) (defScope s_Bench_eased) (d_Bench_eased.dvs K) (d_Bench_eased.kws K) (He.ma K (He.ga K "Bench") "eased") fd ∧ ∀ base : Heap, LamX.TabB base mg (He.cT K ("seated", none)).1 (He.cT K ("seated", none)).2 → FnG P w K mg base 8 (He.ma K (He.ga K "Bench") "eased") fd ["self", "more"] (spD ⟨K, P, w⟩ 2 den_Bench_eased) := by
  obtain ⟨fd_is_whole, F_is_whole, G_is_whole⟩ := ok_is_whole (P := P) (w := w) h
  obtain ⟨fd_Bench_init, F_Bench_init, G_Bench_init⟩ := ok_Bench_init (P := P) (w := w) h
  have cb0 : CallB ⟨K, P, w⟩ fd_is_whole ["thing"] 1 [] [0] [] := callB_no (K := ⟨K, P, w⟩) F_is_whole 1 [] [0] fun _ _ _ _ _ _ us ws h1 h2 => match us, h1, ws, h2 with | [_], _, [], _ => rfl
  have cb1 : CallI ⟨K, P, w⟩ fd_Bench_init ["self", "seats", "people"] 2 [] [0, 1] [] := callI_all (K := ⟨K, P, w⟩) F_Bench_init (by simp [He.DefD.dvs, d_Bench_init]) 2 [] [0, 1] fun _ _ _ _ _ _ _ _ us ws its h1 h2 h3 => match us, h1, ws, h2, its, (show its.length = 1 from h3) with | [_, _], _, [], _, [_], _ => ⟨_, rfl, rfl⟩
  obtain ⟨fd, F⟩ := h.says.def_ 20 (d := d_Bench_eased) rfl
  have scN := sc_Bench_eased.nd
  have G := fun (base : Heap) (TB : LamX.TabB base mg (He.cT K ("seated", none)).1 (He.cT K ("seated", none)).2) => (fnG_body (P := P) (w := w) (mg := mg) (base := base) (N := ["self", "more", "end", "people", "name", "low", "high"]) (ps := ["self", "more"]) (k := 7) (b := b_Bench_eased) F sc_Bench_eased fun cdv A outer s H E hr hgd tk => by
    have hu := hr.units
    exact (sb_cons (ss_if (st_w (sw_or (st_not (st_truth (se_call (G_is_whole _ TB) (hr.mono (by decide)) hgd (gl_of (by kernel_rfl)) (h.glo 29 (x := "is_whole") rfl) F_is_whole.kp cb0 rfl tk (sal_cons (se_var (j := 1) rfl (.inr (.inl (by kernel_rfl)))) sal_nil)))) (sw_or1 (st_not (st_chain op_leD op_leD se_int (se_var (j := 1) rfl (.inr (.inl (by kernel_rfl)))) (se_gint (gl_of (by kernel_rfl)) (h.int 30 (x := "MOST_SEATS") (i := 12) rfl))))))) (sb_one ss_never) sb_nil)
      (sb_cons (ss_set (j := 2) scN rfl (.inr (by kernel_rfl)) (hf := .inl rfl) (se_bin op_subD (se_fld (se_var (j := 0) rfl (.inl (by kernel_rfl))) (h.cls 15 (x := "Bench") rfl) (h.noat 16 (x := "Bench") (f := "seats") rfl)) se_int))
      (sb_cons (ss_comp (own := [("name", 4), ("low", 5), ("high", 6)]) (g := (.tup [4, 5, 6])) (j := 3) rfl scN rfl (by kernel_rfl) (by kernel_rfl) (si_any (se_fld (se_var (j := 0) rfl (.inl (by kernel_rfl))) (h.cls 15 (x := "Bench") rfl) (h.noat 20 (x := "Bench") (f := "people") rfl))) (blkOk_of (by kernel_rfl)) (fun _ _ _ _ _ => (sgc_tup rfl (sgn_cons (j := 4) scN rfl (.inl (by kernel_rfl)) (hf := .inr (by kernel_rfl)) (sgn_cons (j := 5) scN rfl (.inl (by kernel_rfl)) (hf := .inr (by kernel_rfl)) (sgn_cons (j := 6) scN rfl (.inl (by kernel_rfl)) (hf := .inr (by kernel_rfl)) sgn_nil))))) (fun _ _ _ _ _ => sts_nil) (fun _ _ _ _ _ => (se_tup (sal_cons (se_var (j := 4) rfl (.inl (by kernel_rfl))) (sal_cons (se_callB (cr_max2 rfl) (gl_of (by kernel_rfl)) (h.free 2 (x := "max") rfl) (by decide +kernel) (sa_cons se_int (sa_cons (se_bin op_subD (se_var (j := 5) rfl (.inl (by kernel_rfl))) (se_var (j := 1) rfl (.inr (.inl (by kernel_rfl))))) sa_nil))) (sal_cons (se_callB (cr_min2 rfl) (gl_of (by kernel_rfl)) (h.free 1 (x := "min") rfl) (by decide +kernel) (sa_cons (se_var (j := 2) rfl (.inr (.inl (by kernel_rfl)))) (sa_cons (se_bin op_addD (se_var (j := 6) rfl (.inl (by kernel_rfl))) (se_var (j := 1) rfl (.inr (.inl (by kernel_rfl))))) sa_nil))) sal_nil))))))
      (sb_one (ss_ret (se_make blind_Bench_init (h.mkr 38 (x := "Bench") rfl) (G_Bench_init _ TB) (hr.mono (by decide)) hgd (gl_of (by kernel_rfl)) (h.glo 17 (x := "Bench") rfl) cb1 rfl tk (sal_cons (se_fld (se_var (j := 0) rfl (.inl (by kernel_rfl))) (h.cls 15 (x := "Bench") rfl) (h.noat 16 (x := "Bench") (f := "seats") rfl)) (sal_cons (se_callTy cr_tuple (gl_of (by kernel_rfl)) (h.free 11 (x := "tuple") rfl) (by decide +kernel) (sa_cons (se_var (j := 3) rfl (.inl (by kernel_rfl))) sa_nil)) sal_nil)))))))))
  exact ⟨fd, F, G⟩
theorem ok_checked {P : Program} {w : World} {K : PySem.W.Frag} {mg : Str → Option Value} (h : Hyp K mg) : ∃ fd, FunD K "checked" "checked" (defArgs s_checked) (defBody s_checked) (defScope s_checked) (d_checked.dvs K) (d_checked.kws K) (He.ga K "checked") fd ∧ ∀ base : Heap, LamX.TabB base mg (He.cT K ("seated", none)).1 (He.cT K ("seated", none)).2 → FnG P w K mg base 3 (He.ga K "checked") fd ["bench", "seating"] (spD ⟨K, P, w⟩ 2 den_checked) := by
  obtain ⟨fd_is_seating, F_is_seating, G_is_seating⟩ := ok_is_seating (P := P) (w := w) h
  have cb0 : CallB ⟨K, P, w⟩ fd_is_seating ["bench", "thing"] 2 [] [0, 1] [] := callB_no (K := ⟨K, P, w⟩) F_is_seating 2 [] [0, 1] fun _ _ _ _ _ _ us ws h1 h2 => match us, h1, ws, h2 with | [_, _], _, [], _ => rfl
  obtain ⟨fd, F⟩ := h.says.def_ 21 (d := d_checked) rfl
  have scN := sc_checked.nd
  have G := fun (base : Heap) (TB : LamX.TabB base mg (He.cT K ("seated", none)).1 (He.cT K ("seated", none)).2) => (fnG_body (P := P) (w := w) (mg := mg) (base := base) (N := ["bench", "seating"]) (ps := ["bench", "seating"]) (k := 2) (b := b_checked) F sc_checked fun cdv A outer s H E hr hgd tk => by
    have hu := hr.units
    exact (sb_cons (ss_if (st_not (st_truth (se_call (G_is_seating _ TB) (hr.mono (by decide)) hgd (gl_of (by kernel_rfl)) (h.glo 25 (x := "is_seating") rfl) F_is_seating.kp cb0 rfl tk (sal_cons (se_var (j := 0) rfl (.inl (by kernel_rfl))) (sal_cons (se_var (j := 1) rfl (.inl (by kernel_rfl))) sal_nil))))) (sb_one ss_never) sb_nil)
      (sb_one (ss_ret (se_var (j := 1) rfl (.inl (by kernel_rfl)))))))
  exact ⟨fd, F, G⟩
theorem ok_about {P : Program} {w : World} {K : PySem.W.Frag} {mg : Str → Option Value} (h : Hyp K mg) : ∃ fd, FunD K "about" "about" (defArgs s_about) (defBody s_about) (defScope s_about) (d_about.dvs K) (d_about.kws K) (He.ga K "about") fd ∧ ∀ base : Heap, LamX.TabB base mg (He.cT K ("seated", none)).1 (He.cT K ("seated", none)).2 → FnG P w K mg base 4 (He.ga K "about") fd ["bench", "seating"] (spD ⟨K, P, w⟩ 2 den_about) := by
  obtain ⟨fd_checked, F_checked, G_checked⟩ := ok_checked (P := P) (w := w) h
  have cb0 : CallB ⟨K, P, w⟩ fd_checked ["bench", "seating"] 2 [] [0, 1] [] := callB_no (K := ⟨K, P, w⟩) F_checked 2 [] [0, 1] fun _ _ _ _ _ _ us ws h1 h2 => match us, h1, ws, h2 with | [_, _], _, [], _ => rfl
  obtain ⟨fd, F⟩ := h.says.def_ 22 (d := d_about) rfl
  have scN := sc_about.nd
  have G := fun (base : Heap) (TB : LamX.TabB base mg (He.cT K ("seated", none)).1 (He.cT K ("seated", none)).2) => (fnG_body (P := P) (w := w) (mg := mg) (base := base) (N := ["bench", "seating"]) (ps := ["bench", "seating"]) (k := 3) (b := b_about) F sc_about fun cdv A outer s H E hr hgd tk => by
    have hu := hr.units
    exact (sb_one (ss_ret (se_rev (se_call (G_checked _ TB) (hr.mono (by decide)) hgd (gl_of (by kernel_rfl)) (h.glo 42 (x := "checked") rfl) F_checked.kp cb0 rfl tk (sal_cons (se_var (j := 0) rfl (.inl (by kernel_rfl))) (sal_cons (se_var (j := 1) rfl (.inl (by kernel_rfl))) sal_nil)))))))
  exact ⟨fd, F, G⟩
theorem ok_Bench_names {P : Program} {w : World} {K : PySem.W.Frag} {mg : Str → Option Value} (h : Hyp K mg) : ∃ fd, FunD K "names" "Bench.names" (defArgs s_Bench_names) (defBody s_Bench_names) (defScope s_Bench_names) (d_Bench_names.dvs K) (d_Bench_names.kws K) (He.ma K (He.ga K "Bench") "names") fd ∧ ∀ base : Heap, LamX.TabB base mg (He.cT K ("seated", none)).1 (He.cT K ("seated", none)).2 → FnG P w K mg base 1 (He.ma K (He.ga K "Bench") "names") fd ["self"] (spD ⟨K, P, w⟩ 1 den_Bench_names) := by
  obtain ⟨fd, F⟩ := h.says.def_ 23 (d := d_Bench_names) rfl
  have scN := sc_Bench_names.nd
  have G := fun (base : Heap) (TB : LamX.TabB base mg (He.cT K ("seated", none)).1 (He.cT K ("seated", none)).2) => (fnG_body (P := P) (w := w) (mg := mg) (base := base) (N := ["self", "person"]) (ps := ["self"]) (k := 0) (b := b_Bench_names) F sc_Bench_names fun cdv A outer s H E hr hgd tk => by
    have hu := hr.units
    exact (sb_one (ss_ret (se_callTy cr_tuple (gl_of (by kernel_rfl)) (h.free 11 (x := "tuple") rfl) (by decide +kernel) (sa_cons (se_callB cr_sort (gl_of (by kernel_rfl)) (h.free 24 (x := "sorted") rfl) (by decide +kernel) (sa_cons (se_comp (own := [("person", 1)]) (g := (.name 1)) rfl scN (si_any (se_fld (se_var (j := 0) rfl (.inl (by kernel_rfl))) (h.cls 15 (x := "Bench") rfl) (h.noat 20 (x := "Bench") (f := "people") rfl))) (blkOk_of (by kernel_rfl)) (fun _ _ _ _ _ => (sgc_name (j := 1) scN rfl (.inl (by kernel_rfl)) (hf := .inr (by kernel_rfl)))) (fun _ _ _ _ _ => sts_nil) (fun _ _ _ _ _ => (se_ix ix_D (se_var (j := 1) rfl (.inl (by kernel_rfl))) se_int (fun _ _ => rfl)))) sa_nil)) sa_nil)))))
  exact ⟨fd, F, G⟩
theorem ok_Bench_turn_of {P : Program} {w : World} {K : PySem.W.Frag} {mg : Str → Option Value} (h : Hyp K mg) : ∃ fd, FunD K "turn_of" "Bench.turn_of" (defArgs s_Bench_turn_of) (defBody s_Bench_turn_of) (defScope s_Bench_turn_of) (d_Bench_turn_of.dvs K) (d_Bench_turn_of.kws K) (He.ma K (He.ga K "Bench") "turn_of") fd ∧ ∀ base : Heap, LamX.TabB base mg (He.cT K ("seated", none)).1 (He.cT K ("seated", none)).2 → FnG P w K mg base 1 (He.ma K (He.ga K "Bench") "turn_of") fd ["self", "name"] (spD ⟨K, P, w⟩ 2 den_Bench_turn_of) := by
  obtain ⟨fd, F⟩ := h.says.def_ 24 (d := d_Bench_turn_of) rfl
  have scN := sc_Bench_turn_of.nd
  have G := fun (base : Heap) (TB : LamX.TabB base mg (He.cT K ("seated", none)).1 (He.cT K ("seated", none)).2) => (fnG_body (P := P) (w := w) (mg := mg) (base := base) (N := ["self", "name", "number", "person"]) (ps := ["self", "name"]) (k := 0) (b := b_Bench_turn_of) F sc_Bench_turn_of fun cdv A outer s H E hr hgd tk => by
    have hu := hr.units
    exact (sb_cons (ss_for (passes_of rfl) rfl (si_enum (gl_of (by kernel_rfl)) (h.free 22 (x := "enumerate") rfl) (sal_cons (se_fld (se_var (j := 0) rfl (.inl (by kernel_rfl))) (h.cls 15 (x := "Bench") rfl) (h.noat 20 (x := "Bench") (f := "people") rfl)) sal_nil)) (sg_tup rfl (sgn_cons (j := 2) scN rfl (.inl (by kernel_rfl)) (hf := .inl rfl) (sgn_cons (j := 3) scN rfl (.inl (by kernel_rfl)) (hf := .inl rfl) sgn_nil))) (sb_one (ss_if (st_w (sw_and (st_truth (se_callB (cr_isi h.isc) (gl_of (by kernel_rfl)) (h.free 18 (x := "isinstance") rfl) (by decide +kernel) (sa_cons (se_var (j := 1) rfl (.inl (by kernel_rfl))) (sa_cons (se_ty (gl_of (by kernel_rfl)) (h.free 23 (x := "str") rfl) (by decide +kernel)) sa_nil)))) (sw_and1 (st_cmp (op_eqD' hu) (se_ix ix_D (se_var (j := 3) rfl (.inl (by kernel_rfl))) se_int (fun _ _ => rfl)) (se_var (j := 1) rfl (.inl (by kernel_rfl))) (nomark _))))) (sb_one (ss_ret (se_var (j := 2) rfl (.inl (by kernel_rfl))))) sb_nil)))
      (sb_one ss_never)))
  exact ⟨fd, F, G⟩
theorem ok_Bench_without {P : Program} {w : World} {K : PySem.W.Frag} {mg : Str → Option Value} (h : Hyp K mg) : ∃ fd, FunD K "without" "Bench.without" (defArgs s_Bench_without) (defBody s_Bench_without) (defScope s_Bench_without) (d_Bench_without.dvs K) (d_Bench_without.kws K) (He.ma K (He.ga K "Bench") "without") fd ∧ ∀ base : Heap, LamX.TabB base mg (He.cT K ("seated", none)).1 (He.cT K ("seated", none)).2 → FnG P w K mg base 8 (He.ma K (He.ga K "Bench") "without") fd ["self", "name"] (spD ⟨K, P, w⟩ 2 den_Bench_without) := by
  obtain ⟨fd_Bench_turn_of, F_Bench_turn_of, G_Bench_turn_of⟩ := ok_Bench_turn_of (P := P) (w := w) h
  obtain ⟨fd_Bench_init, F_Bench_init, G_Bench_init⟩ := ok_Bench_init (P := P) (w := w) h
  have cb0 : CallI ⟨K, P, w⟩ fd_Bench_turn_of ["self", "name"] 1 [] [0] [] := callI_no (K := ⟨K, P, w⟩) F_Bench_turn_of 1 [] [0] fun _ _ _ _ _ _ _ us ws h1 h2 => match us, h1, ws, h2 with | [_], _, [], _ => rfl
  have cb1 : CallI ⟨K, P, w⟩ fd_Bench_init ["self", "seats", "people"] 2 [] [0, 1] [] := callI_all (K := ⟨K, P, w⟩) F_Bench_init (by simp [He.DefD.dvs, d_Bench_init]) 2 [] [0, 1] fun _ _ _ _ _ _ _ _ us ws its h1 h2 h3 => match us, h1, ws, h2, its, (show its.length = 1 from h3) with | [_, _], _, [], _, [_], _ => ⟨_, rfl, rfl⟩
  obtain ⟨fd, F⟩ := h.says.def_ 25 (d := d_Bench_without) rfl
  have scN := sc_Bench_without.nd
  have G := fun (base : Heap) (TB : LamX.TabB base mg (He.cT K ("seated", none)).1 (He.cT K ("seated", none)).2) => (fnG_body (P := P) (w := w) (mg := mg) (base := base) (N := ["self", "name", "turn"]) (ps := ["self", "name"]) (k := 7) (b := b_Bench_without) F sc_Bench_without fun cdv A outer s H E hr hgd tk => by
    have hu := hr.units
    exact (sb_cons (ss_set (j := 2) scN rfl (.inl (by kernel_rfl)) (hf := .inl rfl) (se_meth (se_var (j := 0) rfl (.inl (by kernel_rfl))) (h.cls 15 (x := "Bench") rfl) (h.meth 45 (x := "Bench") (m := "turn_of") rfl) (G_Bench_turn_of _ TB) (hr.mono (by decide)) hgd cb0 rfl tk (sal_cons (se_var (j := 1) rfl (.inl (by kernel_rfl))) sal_nil)))
      (sb_one (ss_ret (se_make blind_Bench_init (h.mkr 38 (x := "Bench") rfl) (G_Bench_init _ TB) (hr.mono (by decide)) hgd (gl_of (by kernel_rfl)) (h.glo 17 (x := "Bench") rfl) cb1 rfl tk (sal_cons (se_fld (se_var (j := 0) rfl (.inl (by kernel_rfl))) (h.cls 15 (x := "Bench") rfl) (h.noat 16 (x := "Bench") (f := "seats") rfl)) (sal_cons (se_bin op_addD (se_slc (se_fld (se_var (j := 0) rfl (.inl (by kernel_rfl))) (h.cls 15 (x := "Bench") rfl) (h.noat 20 (x := "Bench") (f := "people") rfl)) so_no (so_yes (se_var (j := 2) rfl (.inl (by kernel_rfl))))) (se_slc (se_fld (se_var (j := 0) rfl (.inl (by kernel_rfl))) (h.cls 15 (x := "Bench") rfl) (h.noat 20 (x := "Bench") (f := "people") rfl)) (so_yes (se_bin op_addD (se_var (j := 2) rfl (.inl (by kernel_rfl))) se_int)) so_no)) sal_nil)))))))
  exact ⟨fd, F, G⟩
theorem ok_Bench_len {P : Program} {w : World} {K : PySem.W.Frag} {mg : Str → Option Value} (h : Hyp K mg) : ∃ fd, FunD K "__len__" "Bench.__len__" (defArgs s_Bench_len) (defBody s_Bench_len) (defScope s_Bench_len) (d_Bench_len.dvs K) (d_Bench_len.kws K) (He.ma K (He.ga K "Bench") "__len__") fd ∧ ∀ base : Heap, LamX.TabB base mg (He.cT K ("seated", none)).1 (He.cT K ("seated", none)).2 → FnG P w K mg base 1 (He.ma K (He.ga K "Bench") "__len__") fd ["self"] (spD ⟨K, P, w⟩ 1 den_Bench_len) := by
  obtain ⟨fd, F⟩ := h.says.def_ 26 (d := d_Bench_len) rfl
  have scN := sc_Bench_len.nd
  have G := fun (base : Heap) (TB : LamX.TabB base mg (He.cT K ("seated", none)).1 (He.cT K ("seated", none)).2) => (fnG_body (P := P) (w := w) (mg := mg) (base := base) (N := ["self"]) (ps := ["self"]) (k := 0) (b := b_Bench_len) F sc_Bench_len fun cdv A outer s H E hr hgd tk => by
    have hu := hr.units
    exact (sb_one (ss_ret (se_callB cr_len (gl_of (by kernel_rfl)) (h.free 0 (x := "len") rfl) (by decide +kernel) (sa_cons (se_fld (se_var (j := 0) rfl (.inl (by kernel_rfl))) (h.cls 15 (x := "Bench") rfl) (h.noat 20 (x := "Bench") (f := "people") rfl)) sa_nil)))))
  exact ⟨fd, F, G⟩
theorem ok_Bench_plus {P : Program} {w : World} {K : PySem.W.Frag} {mg : Str → Option Value} (h : Hyp K mg) : ∃ fd, FunD K "plus" "Bench.plus" (defArgs s_Bench_plus) (defBody s_Bench_plus) (defScope s_Bench_plus) (d_Bench_plus.dvs K) (d_Bench_plus.kws K) (He.ma K (He.ga K "Bench") "plus") fd ∧ ∀ base : Heap, LamX.TabB base mg (He.cT K ("seated", none)).1 (He.cT K ("seated", none)).2 → FnG P w K mg base 8 (He.ma K (He.ga K "Bench") "plus") fd ["self", "person"] (spD ⟨K, P, w⟩ 2 den_Bench_plus) := by
  obtain ⟨fd_Bench_init, F_Bench_init, G_Bench_init⟩ := ok_Bench_init (P := P) (w := w) h
  have cb0 : CallI ⟨K, P, w⟩ fd_Bench_init ["self", "seats", "people"] 2 [] [0, 1] [] := callI_all (K := ⟨K, P, w⟩) F_Bench_init (by simp [He.DefD.dvs, d_Bench_init]) 2 [] [0, 1] fun _ _ _ _ _ _ _ _ us ws its h1 h2 h3 => match us, h1, ws, h2, its, (show its.length = 1 from h3) with | [_, _], _, [], _, [_], _ => ⟨_, rfl, rfl⟩
  obtain ⟨fd, F⟩ := h.says.def_ 27 (d := d_Bench_plus) rfl
  have scN := sc_Bench_plus.nd
  have G := fun (base : Heap) (TB : LamX.TabB base mg (He.cT K ("seated", none)).1 (He.cT K ("seated", none)).2) => (fnG_body (P := P) (w := w) (mg := mg) (base := base) (N := ["self", "person"]) (ps := ["self", "person"]) (k := 7) (b := b_Bench_plus) F sc_Bench_plus fun cdv A outer s H E hr hgd tk => by
    have hu := hr.units
    exact (sb_one (ss_ret (se_make blind_Bench_init (h.mkr 38 (x := "Bench") rfl) (G_Bench_init _ TB) (hr.mono (by decide)) hgd (gl_of (by kernel_rfl)) (h.glo 17 (x := "Bench") rfl) cb0 rfl tk (sal_cons (se_fld (se_var (j := 0) rfl (.inl (by kernel_rfl))) (h.cls 15 (x := "Bench") rfl) (h.noat 16 (x := "Bench") (f := "seats") rfl)) (sal_cons (se_bin op_addD (se_fld (se_var (j := 0) rfl (.inl (by kernel_rfl))) (h.cls 15 (x := "Bench") rfl) (h.noat 20 (x := "Bench") (f := "people") rfl)) (se_tup (sal_cons (se_var (j := 1) rfl (.inl (by kernel_rfl))) sal_nil))) sal_nil))))))
  exact ⟨fd, F, G⟩
theorem ok__law_fresh {P : Program} {w : World} {K : PySem.W.Frag} {mg : Str → Option Value} (h : Hyp K mg) : ∃ fd, FunD K "_law_fresh" "_law_fresh" (defArgs s__law_fresh) (defBody s__law_fresh) (defScope s__law_fresh) (d__law_fresh.dvs K) (d__law_fresh.kws K) (He.ga K "_law_fresh") fd ∧ ∀ base : Heap, LamX.TabB base mg (He.cT K ("seated", none)).1 (He.cT K ("seated", none)).2 → FnG P w K mg base 2 (He.ga K "_law_fresh") fd ["_law_plank"] (spD ⟨K, P, w⟩ 1 den__law_fresh) := by
  obtain ⟨fd_Bench_names, F_Bench_names, G_Bench_names⟩ := ok_Bench_names (P := P) (w := w) h
  have cb0 : CallI ⟨K, P, w⟩ fd_Bench_names ["self"] 0 [] [] [] := callI_no (K := ⟨K, P, w⟩) F_Bench_names 0 [] [] fun _ _ _ _ _ _ _ us ws h1 h2 => match us, h1, ws, h2 with | [], _, [], _ => rfl
  obtain ⟨fd, F⟩ := h.says.def_ 28 (d := d__law_fresh) rfl
  have scN := sc__law_fresh.nd
  have G := fun (base : Heap) (TB : LamX.TabB base mg (He.cT K ("seated", none)).1 (He.cT K ("seated", none)).2) => (fnG_body (P := P) (w := w) (mg := mg) (base := base) (N := ["_law_plank", "_law_some", "_law_call", "_law_k"]) (ps := ["_law_plank"]) (k := 1) (b := b__law_fresh) F sc__law_fresh fun cdv A outer s H E hr hgd tk => by
    have hu := hr.units
    exact (sb_cons (ss_set (j := 1) scN rfl (.inl (by kernel_rfl)) (hf := .inl rfl) (se_bin op_addD (se_bin op_addD (se_comp (own := [("_law_k", 3)]) (g := (.name 3)) rfl scN (si_range2 (gl_of (by kernel_rfl)) (h.free 3 (x := "range") rfl) (sa_cons se_int (sa_cons se_int sa_nil))) (blkOk_of (by kernel_rfl)) (fun _ _ _ _ _ => (sgc_name (j := 3) scN rfl (.inl (by kernel_rfl)) (hf := .inr (by kernel_rfl)))) (fun _ _ _ _ _ => sts_nil) (fun _ _ _ _ _ => (se_bin op_mulA se_str (se_var (j := 3) rfl (.inl (by kernel_rfl)))))) (se_comp (own := [("_law_k", 3)]) (g := (.name 3)) rfl scN (si_range2 (gl_of (by kernel_rfl)) (h.free 3 (x := "range") rfl) (sa_cons se_int (sa_cons se_int sa_nil))) (blkOk_of (by kernel_rfl)) (fun _ _ _ _ _ => (sgc_name (j := 3) scN rfl (.inl (by kernel_rfl)) (hf := .inr (by kernel_rfl)))) (fun _ _ _ _ _ => sts_nil) (fun _ _ _ _ _ => (se_bin op_mulA se_str (se_var (j := 3) rfl (.inl (by kernel_rfl))))))) (se_lst (sal_cons se_str sal_nil))))
      (sb_one (ss_ret (se_ix ix_D (se_comp (own := [("_law_call", 2)]) (g := (.name 2)) rfl scN (si_any (se_var (j := 1) rfl (.inl (by kernel_rfl)))) (blkOk_of (by kernel_rfl)) (fun _ _ _ _ _ => (sgc_name (j := 2) scN rfl (.inl (by kernel_rfl)) (hf := .inr (by kernel_rfl)))) (fun _ _ _ _ _ => (sts_one (st_cmp op_ninA (se_var (j := 2) rfl (.inl (by kernel_rfl))) (se_meth0 (se_var (j := 0) rfl (.inr (.inl (by kernel_rfl)))) (h.cls 15 (x := "Bench") rfl) (h.meth 44 (x := "Bench") (m := "names") rfl) (G_Bench_names _ TB) (hr.mono (by decide)) hgd cb0 rfl takes0) rfl))) (fun _ _ _ _ _ => (se_var (j := 2) rfl (.inl (by kernel_rfl))))) se_int (fun _ _ => rfl))))))
  exact ⟨fd, F, G⟩
theorem ok_windows_of {P : Program} {w : World} {K : PySem.W.Frag} {mg : Str → Option Value} (h : Hyp K mg) : ∃ fd, FunD K "windows_of" "windows_of" (defArgs s_windows_of) (defBody s_windows_of) (defScope s_windows_of) (d_windows_of.dvs K) (d_windows_of.kws K) (He.ga K "windows_of") fd ∧ ∀ base : Heap, LamX.TabB base mg (He.cT K ("seated", none)).1 (He.cT K ("seated", none)).2 → FnG P w K mg base 1 (He.ga K "windows_of") fd ["seats"] (spD ⟨K, P, w⟩ 1 den_windows_of) := by
  obtain ⟨fd, F⟩ := h.says.def_ 29 (d := d_windows_of) rfl
  have scN := sc_windows_of.nd
  have G := fun (base : Heap) (TB : LamX.TabB base mg (He.cT K ("seated", none)).1 (He.cT K ("seated", none)).2) => (fnG_body (P := P) (w := w) (mg := mg) (base := base) (N := ["seats", "found", "low", "high"]) (ps := ["seats"]) (k := 0) (b := b_windows_of) F sc_windows_of fun cdv A outer s H E hr hgd tk => by
    have hu := hr.units
    exact (sb_cons (ss_comp2 (own := [("low", 2), ("high", 3)]) (vs1 := [3]) (g := (.name 2)) (g1 := (.name 3)) (j := 1) rfl scN rfl (by kernel_rfl) (by kernel_rfl) (si_range1 (gl_of (by kernel_rfl)) (h.free 3 (x := "range") rfl) (sa_cons (se_var (j := 0) rfl (.inr (.inl (by kernel_rfl)))) sa_nil)) (blkOk_of (by kernel_rfl)) (fun _ _ _ _ _ => (sgc_name (j := 2) scN rfl (.inl (by kernel_rfl)) (hf := .inr (by kernel_rfl)))) (fun _ _ _ _ _ => sts_nil) (fun _ _ _ _ _ => (si_range2 (gl_of (by kernel_rfl)) (h.free 3 (x := "range") rfl) (sa_cons (se_var (j := 2) rfl (.inl (by kernel_rfl))) (sa_cons (se_var (j := 0) rfl (.inr (.inl (by kernel_rfl)))) sa_nil)))) (fun _ _ _ _ _ => (sgc_name (j := 3) scN rfl (.inl (by kernel_rfl)) (hf := .inr (by kernel_rfl)))) (fun _ _ _ _ _ => sts_nil) (fun _ _ _ _ _ => (se_tup (sal_cons (se_var (j := 2) rfl (.inl (by kernel_rfl))) (sal_cons (se_var (j := 3) rfl (.inl (by kernel_rfl))) sal_nil)))))
      (sb_one (ss_ret (se_comp (own := [("low", 2), ("high", 3)]) (g := (.tup [2, 3])) rfl scN (si_any (se_var (j := 1) rfl (.inl (by kernel_rfl)))) (blkOk_of (by kernel_rfl)) (fun _ _ _ _ _ => (sgc_tup rfl (sgn_cons (j := 2) scN rfl (.inl (by kernel_rfl)) (hf := .inr (by kernel_rfl)) (sgn_cons (j := 3) scN rfl (.inl (by kernel_rfl)) (hf := .inr (by kernel_rfl)) sgn_nil)))) (fun _ _ _ _ _ => (sts_one (st_cmp op_ltD (se_bin op_addD (se_bin op_subD (se_var (j := 3) rfl (.inl (by kernel_rfl))) (se_var (j := 2) rfl (.inl (by kernel_rfl)))) se_int) (se_var (j := 0) rfl (.inr (.inl (by kernel_rfl)))) (nomark _)))) (fun _ _ _ _ _ => (se_tup (sal_cons (se_var (j := 2) rfl (.inl (by kernel_rfl))) (sal_cons (se_var (j := 3) rfl (.inl (by kernel_rfl))) sal_nil)))))))))
  exact ⟨fd, F, G⟩
theorem ok_holding {P : Program} {w : World} {K : PySem.W.Frag} {mg : Str → Option Value} (h : Hyp K mg) : ∃ fd, FunD K "holding" "holding" (defArgs s_holding) (defBody s_holding) (defScope s_holding) (d_holding.dvs K) (d_holding.kws K) (He.ga K "holding") fd ∧ ∀ base : Heap, LamX.TabB base mg (He.cT K ("seated", none)).1 (He.cT K ("seated", none)).2 → FnG P w K mg base 1 (He.ga K "holding") fd ["people", "low", "high"] (spD ⟨K, P, w⟩ 3 den_holding) := by
  obtain ⟨fd, F⟩ := h.says.def_ 30 (d := d_holding) rfl
  have scN := sc_holding.nd
  have G := fun (base : Heap) (TB : LamX.TabB base mg (He.cT K ("seated", none)).1 (He.cT K ("seated", none)).2) => (fnG_body (P := P) (w := w) (mg := mg) (base := base) (N := ["people", "low", "high", "call", "begin", "end"]) (ps := ["people", "low", "high"]) (k := 0) (b := b_holding) F sc_holding fun cdv A outer s H E hr hgd tk => by
    have hu := hr.units
    exact (sb_one (ss_ret (se_comp (own := [("call", 3), ("begin", 4), ("end", 5)]) (g := (.tup [3, 4, 5])) rfl scN (si_any (se_var (j := 0) rfl (.inl (by kernel_rfl)))) (blkOk_of (by kernel_rfl)) (fun _ _ _ _ _ => (sgc_tup rfl (sgn_cons (j := 3) scN rfl (.inl (by kernel_rfl)) (hf := .inr (by kernel_rfl)) (sgn_cons (j := 4) scN rfl (.inl (by kernel_rfl)) (hf := .inr (by kernel_rfl)) (sgn_cons (j := 5) scN rfl (.inl (by kernel_rfl)) (hf := .inr (by kernel_rfl)) sgn_nil))))) (fun _ _ _ _ _ => (sts_one (st_w (sw_and (st_cmp op_leD (se_var (j := 1) rfl (.inr (.inl (by kernel_rfl)))) (se_var (j := 4) rfl (.inl (by kernel_rfl))) (nomark _)) (sw_and1 (st_cmp op_leD (se_var (j := 5) rfl (.inl (by kernel_rfl))) (se_var (j := 2) rfl (.inr (.inl (by kernel_rfl)))) (nomark _))))))) (fun _ _ _ _ _ => (se_var (j := 3) rfl (.inl (by kernel_rfl))))))))
  exact ⟨fd, F, G⟩
theorem ok_full {P : Program} {w : World} {K : PySem.W.Frag} {mg : Str → Option Value} (h : Hyp K mg) : ∃ fd, FunD K "full" "full" (defArgs s_full) (defBody s_full) (defScope s_full) (d_full.dvs K) (d_full.kws K) (He.ga K "full") fd ∧ ∀ base : Heap, LamX.TabB base mg (He.cT K ("seated", none)).1 (He.cT K ("seated", none)).2 → FnG P w K mg base 2 (He.ga K "full") fd ["bench"] (spD ⟨K, P, w⟩ 1 den_full) := by
  obtain ⟨fd_checked_bench, F_checked_bench, G_checked_bench⟩ := ok_checked_bench (P := P) (w := w) h
  obtain ⟨fd_windows_of, F_windows_of, G_windows_of⟩ := ok_windows_of (P := P) (w := w) h
  obtain ⟨fd_holding, F_holding, G_holding⟩ := ok_holding (P := P) (w := w) h
  have cb0 : CallB ⟨K, P, w⟩ fd_checked_bench ["thing"] 1 [] [0] [] := callB_no (K := ⟨K, P, w⟩) F_checked_bench 1 [] [0] fun _ _ _ _ _ _ us ws h1 h2 => match us, h1, ws, h2 with | [_], _, [], _ => rfl
  have cb1 : CallB ⟨K, P, w⟩ fd_windows_of ["seats"] 1 [] [0] [] := callB_no (K := ⟨K, P, w⟩) F_windows_of 1 [] [0] fun _ _ _ _ _ _ us ws h1 h2 => match us, h1, ws, h2 with | [_], _, [], _ => rfl
  have cb2 : CallB ⟨K, P, w⟩ fd_holding ["people", "low", "high"] 3 [] [0, 1, 2] [] := callB_no (K := ⟨K, P, w⟩) F_holding 3 [] [0, 1, 2] fun _ _ _ _ _ _ us ws h1 h2 => match us, h1, ws, h2 with | [_, _, _], _, [], _ => rfl
  obtain ⟨fd, F⟩ := h.says.def_ 31 (d := d_full) rfl
  have scN := sc_full.nd
  have G := fun (base : Heap) (TB : LamX.TabB base mg (He.cT K ("seated", none)).1 (He.cT K ("seated", none)).2) => (fnG_body (P := P) (w := w) (mg := mg) (base := base) (N := ["bench", "found", "low", "high"]) (ps := ["bench"]) (k := 1) (b := b_full) F sc_full fun cdv A outer s H E hr hgd tk => by
    have hu := hr.units
    exact (sb_cons (ss_expr (se_call (G_checked_bench _ TB) (hr.mono (by decide)) hgd (gl_of (by kernel_rfl)) (h.glo 19 (x := "checked_bench") rfl) F_checked_bench.kp cb0 rfl tk (sal_cons (se_var (j := 0) rfl (.inr (.inl (by kernel_rfl)))) sal_nil)))
      (sb_cons (ss_set (j := 1) scN rfl (.inl (by kernel_rfl)) (hf := .inl rfl) (se_call (G_windows_of _ TB) (hr.mono (by decide)) hgd (gl_of (by kernel_rfl)) (h.glo 50 (x := "windows_of") rfl) F_windows_of.kp cb1 rfl tk (sal_cons (se_fld (se_var (j := 0) rfl (.inr (.inl (by kernel_rfl)))) (h.cls 15 (x := "Bench") rfl) (h.noat 16 (x := "Bench") (f := "seats") rfl)) sal_nil)))
      (sb_one (ss_ret (se_callTy cr_tuple (gl_of (by kernel_rfl)) (h.free 11 (x := "tuple") rfl) (by decide +kernel) (sa_cons (se_comp (own := [("low", 2), ("high", 3)]) (g := (.tup [2, 3])) rfl scN (si_any (se_var (j := 1) rfl (.inl (by kernel_rfl)))) (blkOk_of (by kernel_rfl)) (fun _ _ _ _ _ => (sgc_tup rfl (sgn_cons (j := 2) scN rfl (.inl (by kernel_rfl)) (hf := .inr (by kernel_rfl)) (sgn_cons (j := 3) scN rfl (.inl (by kernel_rfl)) (hf := .inr (by kernel_rfl)) sgn_nil)))) (fun _ _ _ _ _ => (sts_one (st_cmp (op_eqD' hu) (se_callB cr_len (gl_of (by kernel_rfl)) (h.free 0 (x := "len") rfl) (by decide +kernel) (sa_cons (se_call (G_holding _ TB) (hr.mono (by decide)) hgd (gl_of (by kernel_rfl)) (h.glo 51 (x := "holding") rfl) F_holding.kp cb2 rfl takes0 (sal_cons (se_fld (se_var (j := 0) rfl (.inr (.inl (by kernel_rfl)))) (h.cls 15 (x := "Bench") rfl) (h.noat 20 (x := "Bench") (f := "people") rfl)) (sal_cons (se_var (j := 2) rfl (.inl (by kernel_rfl))) (sal_cons (se_var (j := 3) rfl (.inl (by kernel_rfl))) sal_nil)))) sa_nil)) (se_bin op_addD (se_bin op_subD (se_var (j := 3) rfl (.inl (by kernel_rfl))) (se_var (j := 2) rfl (.inl (by kernel_rfl)))) se_int) (nomark _)))) (fun _ _ _ _ _ => (se_tup (sal_cons (se_var (j := 2) rfl (.inl (by kernel_rfl))) (sal_cons (se_var (j := 3) rfl (.inl (by kernel_rfl))) sal_nil))))) sa_nil)))))))
  exact ⟨fd, F, G⟩
theorem ok_held {P : Program} {w : World} {K : PySem.W.Frag} {mg : Str → Option Value} (h : Hyp K mg) : ∃ fd, FunD K "held" "held" (defArgs s_held) (defBody s_held) (defScope s_held) (d_held.dvs K) (d_held.kws K) (He.ga K "held") fd ∧ ∀ base : Heap, LamX.TabB base mg (He.cT K ("seated", none)).1 (He.cT K ("seated", none)).2 → FnG P w K mg base 4 (He.ga K "held") fd ["bench", "window"] (spD ⟨K, P, w⟩ 2 den_held) := by
  obtain ⟨fd_checked_bench, F_checked_bench, G_checked_bench⟩ := ok_checked_bench (P := P) (w := w) h
  obtain ⟨fd_is_stretch, F_is_stretch, G_is_stretch⟩ := ok_is_stretch (P := P) (w := w) h
  obtain ⟨fd_holding, F_holding, G_holding⟩ := ok_holding (P := P) (w := w) h
  have cb0 : CallB ⟨K, P, w⟩ fd_checked_bench ["thing"] 1 [] [0] [] := callB_no (K := ⟨K, P, w⟩) F_checked_bench 1 [] [0] fun _ _ _ _ _ _ us ws h1 h2 => match us, h1, ws, h2 with | [_], _, [], _ => rfl
  have cb1 : CallB ⟨K, P, w⟩ fd_is_stretch ["thing", "seats"] 2 [] [0, 1] [] := callB_no (K := ⟨K, P, w⟩) F_is_stretch 2 [] [0, 1] fun _ _ _ _ _ _ us ws h1 h2 => match us, h1, ws, h2 with | [_, _], _, [], _ => rfl
  have cb2 : CallB ⟨K, P, w⟩ fd_holding ["people", "low", "high"] 3 [] [0, 1, 2] [] := callB_no (K := ⟨K, P, w⟩) F_holding 3 [] [0, 1, 2] fun _ _ _ _ _ _ us ws h1 h2 => match us, h1, ws, h2 with | [_, _, _], _, [], _ => rfl
  obtain ⟨fd, F⟩ := h.says.def_ 32 (d := d_held) rfl
  have scN := sc_held.nd
  have G := fun (base : Heap) (TB : LamX.TabB base mg (He.cT K ("seated", none)).1 (He.cT K ("seated", none)).2) => (fnG_body (P := P) (w := w) (mg := mg) (base := base) (N := ["bench", "window", "low", "high"]) (ps := ["bench", "window"]) (k := 3) (b := b_held) F sc_held fun cdv A outer s H E hr hgd tk => by
    have hu := hr.units
    exact (sb_cons (ss_expr (se_call (G_checked_bench _ TB) (hr.mono (by decide)) hgd (gl_of (by kernel_rfl)) (h.glo 19 (x := "checked_bench") rfl) F_checked_bench.kp cb0 rfl tk (sal_cons (se_var (j := 0) rfl (.inl (by kernel_rfl))) sal_nil)))
      (sb_cons (ss_if (st_not (st_truth (se_call (G_is_stretch _ TB) (hr.mono (by decide)) hgd (gl_of (by kernel_rfl)) (h.glo 35 (x := "is_stretch") rfl) F_is_stretch.kp cb1 rfl tk (sal_cons (se_var (j := 1) rfl (.inl (by kernel_rfl))) (sal_cons (se_fld (se_var (j := 0) rfl (.inl (by kernel_rfl))) (h.cls 15 (x := "Bench") rfl) (h.noat 16 (x := "Bench") (f := "seats") rfl)) sal_nil))))) (sb_one ss_never) sb_nil)
      (sb_cons (ss_asg plain_gtup (se_var (j := 1) rfl (.inl (by kernel_rfl))) (sg_tup rfl (sgn_cons (j := 2) scN rfl (.inl (by kernel_rfl)) (hf := .inl rfl) (sgn_cons (j := 3) scN rfl (.inl (by kernel_rfl)) (hf := .inl rfl) sgn_nil))))
      (sb_one (ss_ret (se_callTy cr_tuple (gl_of (by kernel_rfl)) (h.free 11 (x := "tuple") rfl) (by decide +kernel) (sa_cons (se_callB cr_sort (gl_of (by kernel_rfl)) (h.free 24 (x := "sorted") rfl) (by decide +kernel) (sa_cons (se_call (G_holding _ TB) (hr.mono (by decide)) hgd (gl_of (by kernel_rfl)) (h.glo 51 (x := "holding") rfl) F_holding.kp cb2 rfl tk (sal_cons (se_fld (se_var (j := 0) rfl (.inl (by kernel_rfl))) (h.cls 15 (x := "Bench") rfl) (h.noat 20 (x := "Bench") (f := "people") rfl)) (sal_cons (se_var (j := 2) rfl (.inl (by kernel_rfl))) (sal_cons (se_var (j := 3) rfl (.inl (by kernel_rfl))) sal_nil)))) sa_nil)) sa_nil))))))))
  exact ⟨fd, F, G⟩
theorem ok__law_joined {P : Program} {w : World} {K : PySem.W.Frag} {mg : Str → Option Value} (h : Hyp K mg) : ∃ fd, FunD K "_law_joined" "_law_joined" (defArgs s__law_joined) (defBody s__law_joined) (defScope s__law_joined) (d__law_joined.dvs K) (d__law_joined.kws K) (He.ga K "_law_joined") fd ∧ ∀ base : Heap, LamX.TabB base mg (He.cT K ("seated", none)).1 (He.cT K ("seated", none)).2 → FnG P w K mg base 1 (He.ga K "_law_joined") fd ["_law_known", "_law_gap", "_law_mate"] (spD ⟨K, P, w⟩ 3 den__law_joined) := by
  obtain ⟨fd, F⟩ := h.says.def_ 33 (d := d__law_joined) rfl
  have scN := sc__law_joined.nd
  have G := fun (base : Heap) (TB : LamX.TabB base mg (He.cT K ("seated", none)).1 (He.cT K ("seated", none)).2) => (fnG_body (P := P) (w := w) (mg := mg) (base := base) (N := ["_law_known", "_law_gap", "_law_mate", "_law_low", "_law_high"]) (ps := ["_law_known", "_law_gap", "_law_mate"]) (k := 0) (b := b__law_joined) F sc__law_joined fun cdv A outer s H E hr hgd tk => by
    have hu := hr.units
    exact (sb_cons (ss_par2 (i := 3) (j := 4) rfl scN rfl rfl (by decide) (by kernel_rfl) (by kernel_rfl) (sx_v (se_callB (cr_max2 rfl) (gl_of (by kernel_rfl)) (h.free 2 (x := "max") rfl) (by decide +kernel) (sa_cons (se_ix ix_D (se_var (j := 1) rfl (.inl (by kernel_rfl))) se_int (fun _ _ => rfl)) (sa_cons (se_ix ix_D (se_var (j := 2) rfl (.inl (by kernel_rfl))) se_int (fun _ _ => rfl)) sa_nil))) (sx_v (se_callB (cr_min2 rfl) (gl_of (by kernel_rfl)) (h.free 1 (x := "min") rfl) (by decide +kernel) (sa_cons (se_ix ix_D (se_var (j := 1) rfl (.inl (by kernel_rfl))) se_int (fun _ _ => rfl)) (sa_cons (se_ix ix_D (se_var (j := 2) rfl (.inl (by kernel_rfl))) se_int (fun _ _ => rfl)) sa_nil))) sx_nil)) (by kernel_rfl))
      (sb_cons (ss_if (st_cmp op_gtD (se_var (j := 3) rfl (.inl (by kernel_rfl))) (se_var (j := 4) rfl (.inl (by kernel_rfl))) (nomark _)) (sb_one (ss_ret se_bl)) sb_nil)
      (sb_one (ss_ret (se_and (se_cmp (op_inN hu) (se_tup (sal_cons (se_var (j := 3) rfl (.inl (by kernel_rfl))) (sal_cons (se_var (j := 4) rfl (.inl (by kernel_rfl))) sal_nil))) (se_var (j := 0) rfl (.inl (by kernel_rfl))) rfl) (se_one (se_cmp (op_inN hu) (se_tup (sal_cons (se_callB (cr_min2 rfl) (gl_of (by kernel_rfl)) (h.free 1 (x := "min") rfl) (by decide +kernel) (sa_cons (se_ix ix_D (se_var (j := 1) rfl (.inl (by kernel_rfl))) se_int (fun _ _ => rfl)) (sa_cons (se_ix ix_D (se_var (j := 2) rfl (.inl (by kernel_rfl))) se_int (fun _ _ => rfl)) sa_nil))) (sal_cons (se_callB (cr_max2 rfl) (gl_of (by kernel_rfl)) (h.free 2 (x := "max") rfl) (by decide +kernel) (sa_cons (se_ix ix_D (se_var (j := 1) rfl (.inl (by kernel_rfl))) se_int (fun _ _ => rfl)) (sa_cons (se_ix ix_D (se_var (j := 2) rfl (.inl (by kernel_rfl))) se_int (fun _ _ => rfl)) sa_nil))) sal_nil))) (se_var (j := 0) rfl (.inl (by kernel_rfl))) rfl))))))))
  exact ⟨fd, F, G⟩
theorem ok__law_seated_right {P : Program} {w : World} {K : PySem.W.Frag} {mg : Str → Option Value} (h : Hyp K mg) : ∃ fd, FunD K "_law_seated_right" "_law_seated_right" (defArgs s__law_seated_right) (defBody s__law_seated_right) (defScope s__law_seated_right) (d__law_seated_right.dvs K) (d__law_seated_right.kws K) (He.ga K "_law_seated_right") fd ∧ ∀ base : Heap, LamX.TabB base mg (He.cT K ("seated", none)).1 (He.cT K ("seated", none)).2 → FnG P w K mg base 9 (He.ga K "_law_seated_right") fd ["_law_hand_here", "_law_plank", "_law_sat"] (spD ⟨K, P, w⟩ 3 den__law_seated_right) := by
  obtain ⟨fd_is_seating, F_is_seating, G_is_seating⟩ := ok_is_seating (P := P) (w := w) h
  obtain ⟨fd_seated, F_seated, G_seated⟩ := ok_seated (P := P) (w := w) h
  obtain ⟨fd_Bench_mirrored, F_Bench_mirrored, G_Bench_mirrored⟩ := ok_Bench_mirrored (P := P) (w := w) h
  obtain ⟨fd_Bench_eased, F_Bench_eased, G_Bench_eased⟩ := ok_Bench_eased (P := P) (w := w) h
  obtain ⟨fd__law_draw, F__law_draw, G__law_draw⟩ := ok__law_draw (P := P) (w := w) h
  obtain ⟨fd_about, F_about, G_about⟩ := ok_about (P := P) (w := w) h
  obtain ⟨fd_Bench_names, F_Bench_names, G_Bench_names⟩ := ok_Bench_names (P := P) (w := w) h
  obtain ⟨fd_Bench_without, F_Bench_without, G_Bench_without⟩ := ok_Bench_without (P := P) (w := w) h
  obtain ⟨fd_Bench_len, F_Bench_len, G_Bench_len⟩ := ok_Bench_len (P := P) (w := w) h
  obtain ⟨fd_Bench_plus, F_Bench_plus, G_Bench_plus⟩ := ok_Bench_plus (P := P) (w := w) h
  obtain ⟨fd__law_fresh, F__law_fresh, G__law_fresh⟩ := ok__law_fresh (P := P) (w := w) h
  obtain ⟨fd_full, F_full, G_full⟩ := ok_full (P := P) (w := w) h
  obtain ⟨fd_held, F_held, G_held⟩ := ok_held (P := P) (w := w) h
  obtain ⟨fd__law_joined, F__law_joined, G__law_joined⟩ := ok__law_joined (P := P) (w := w) h
  have cb0 : CallB ⟨K, P, w⟩ fd_is_seating ["bench", "thing"] 2 [] [0, 1] [] := callB_no (K := ⟨K, P, w⟩) F_is_seating 2 [] [0, 1] fun _ _ _ _ _ _ us ws h1 h2 => match us, h1, ws, h2 with | [_, _], _, [], _ => rfl
  have cb1 : CallB ⟨K, P, w⟩ fd_seated ["bench"] 1 [] [0] [] := callB_no (K := ⟨K, P, w⟩) F_seated 1 [] [0] fun _ _ _ _ _ _ us ws h1 h2 => match us, h1, ws, h2 with | [_], _, [], _ => rfl
  have cb2 : CallI ⟨K, P, w⟩ fd_Bench_mirrored ["self"] 0 [] [] [] := callI_no (K := ⟨K, P, w⟩) F_Bench_mirrored 0 [] [] fun _ _ _ _ _ _ _ us ws h1 h2 => match us, h1, ws, h2 with | [], _, [], _ => rfl
  have cb3 : CallI ⟨K, P, w⟩ fd_Bench_eased ["self", "more"] 1 [] [0] [] := callI_all (K := ⟨K, P, w⟩) F_Bench_eased (by simp [He.DefD.dvs, d_Bench_eased]) 1 [] [0] fun _ _ _ _ _ _ _ _ us ws its h1 h2 h3 => match us, h1, ws, h2, its, (show its.length = 1 from h3) with | [_], _, [], _, [_], _ => ⟨_, rfl, rfl⟩
  have cb4 : CallB ⟨K, P, w⟩ fd__law_draw ["_law_hand_here", "_law_top"] 2 [] [0, 1] [] := callB_no (K := ⟨K, P, w⟩) F__law_draw 2 [] [0, 1] fun _ _ _ _ _ _ us ws h1 h2 => match us, h1, ws, h2 with | [_, _], _, [], _ => rfl
  have cb5 : CallB ⟨K, P, w⟩ fd_about ["bench", "seating"] 2 [] [0, 1] [] := callB_no (K := ⟨K, P, w⟩) F_about 2 [] [0, 1] fun _ _ _ _ _ _ us ws h1 h2 => match us, h1, ws, h2 with | [_, _], _, [], _ => rfl
  have cb6 : CallI ⟨K, P, w⟩ fd_Bench_names ["self"] 0 [] [] [] := callI_no (K := ⟨K, P, w⟩) F_Bench_names 0 [] [] fun _ _ _ _ _ _ _ us ws h1 h2 => match us, h1, ws, h2 with | [], _, [], _ => rfl
  have cb7 : CallI ⟨K, P, w⟩ fd_Bench_without ["self", "name"] 1 [] [0] [] := callI_no (K := ⟨K, P, w⟩) F_Bench_without 1 [] [0] fun _ _ _ _ _ _ _ us ws h1 h2 => match us, h1, ws, h2 with | [_], _, [], _ => rfl
  have cb8 : CallI ⟨K, P, w⟩ fd_Bench_plus ["self", "person"] 1 [] [0] [] := callI_no (K := ⟨K, P, w⟩) F_Bench_plus 1 [] [0] fun _ _ _ _ _ _ _ us ws h1 h2 => match us, h1, ws, h2 with | [_], _, [], _ => rfl
  have cb9 : CallB ⟨K, P, w⟩ fd__law_fresh ["_law_plank"] 1 [] [0] [] := callB_no (K := ⟨K, P, w⟩) F__law_fresh 1 [] [0] fun _ _ _ _ _ _ us ws h1 h2 => match us, h1, ws, h2 with | [_], _, [], _ => rfl
  have cb10 : CallB ⟨K, P, w⟩ fd_full ["bench"] 1 [] [0] [] := callB_no (K := ⟨K, P, w⟩) F_full 1 [] [0] fun _ _ _ _ _ _ us ws h1 h2 => match us, h1, ws, h2 with | [_], _, [], _ => rfl
  have cb11 : CallB ⟨K, P, w⟩ fd_held ["bench", "window"] 2 [] [0, 1] [] := callB_no (K := ⟨K, P, w⟩) F_held 2 [] [0, 1] fun _ _ _ _ _ _ us ws h1 h2 => match us, h1, ws, h2 with | [_, _], _, [], _ => rfl
  have cb12 : CallB ⟨K, P, w⟩ fd__law_joined ["_law_known", "_law_gap", "_law_mate"] 3 [] [0, 1, 2] [] := callB_no (K := ⟨K, P, w⟩) F__law_joined 3 [] [0, 1, 2] fun _ _ _ _ _ _ us ws h1 h2 => match us, h1, ws, h2 with | [_, _, _], _, [], _ => rfl
  obtain ⟨fd, F⟩ := h.says.def_ 34 (d := d__law_seated_right) rfl
  have scN := sc__law_seated_right.nd
  have G := fun (base : Heap) (TB : LamX.TabB base mg (He.cT K ("seated", none)).1 (He.cT K ("seated", none)).2) => (fnG_body (P := P) (w := w) (mg := mg) (base := base) (N := ["_law_hand_here", "_law_plank", "_law_sat", "_law_wide", "_law_gaps", "_law_known", "_law_gap", "_law_call", "_law_mate"]) (ps := ["_law_hand_here", "_law_plank", "_law_sat"]) (k := 8) (b := b__law_seated_right) F sc__law_seated_right fun cdv A outer s H E hr hgd tk => by
    have hu := hr.units
    exact (sb_cons (ss_set (j := 3) scN rfl (.inl (by kernel_rfl)) (hf := .inl rfl) (se_fld (se_var (j := 1) rfl (.inr (.inl (by kernel_rfl)))) (h.cls 15 (x := "Bench") rfl) (h.noat 16 (x := "Bench") (f := "seats") rfl)))
      (sb_cons (ss_if (st_w (sw_or (st_not (st_truth (se_call (G_is_seating _ TB) (hr.mono (by decide)) hgd (gl_of (by kernel_rfl)) (h.glo 25 (x := "is_seating") rfl) F_is_seating.kp cb0 rfl tk (sal_cons (se_var (j := 1) rfl (.inr (.inl (by kernel_rfl)))) (sal_cons (se_var (j := 2) rfl (.inl (by kernel_rfl))) sal_nil))))) (sw_or1 (st_cmp (op_neD' hu) (se_ix ix_D (se_call (G_seated _ TB) (hr.mono (by decide)) hgd (gl_of (by kernel_rfl)) (h.glo 40 (x := "seated") rfl) F_seated.kp cb1 rfl tk (sal_cons (se_meth0 (se_var (j := 1) rfl (.inr (.inl (by kernel_rfl)))) (h.cls 15 (x := "Bench") rfl) (h.meth 39 (x := "Bench") (m := "mirrored") rfl) (G_Bench_mirrored _ TB) (hr.mono (by decide)) hgd cb2 rfl tk) sal_nil)) se_int (fun _ _ => rfl)) se_str (nomark _))))) (sb_one (ss_ret se_bl)) sb_nil)
      (sb_cons (ss_if (st_w (sw_or (st_not (st_truth (se_call (G_is_seating _ TB) (hr.mono (by decide)) hgd (gl_of (by kernel_rfl)) (h.glo 25 (x := "is_seating") rfl) F_is_seating.kp cb0 rfl tk (sal_cons (se_meth (se_var (j := 1) rfl (.inr (.inl (by kernel_rfl)))) (h.cls 15 (x := "Bench") rfl) (h.meth 41 (x := "Bench") (m := "eased") rfl) (G_Bench_eased _ TB) (hr.mono (by decide)) hgd cb3 rfl tk (sal_cons (se_call (G__law_draw _ TB) (hr.mono (by decide)) hgd (gl_of (by kernel_rfl)) (h.glo 8 (x := "_law_draw") rfl) F__law_draw.kp cb4 rfl tk (sal_cons (se_var (j := 0) rfl (.inl (by kernel_rfl))) (sal_cons se_int sal_nil))) sal_nil)) (sal_cons (se_var (j := 2) rfl (.inl (by kernel_rfl))) sal_nil))))) (sw_or1 (st_not (st_truth (se_call (G_is_seating _ TB) (hr.mono (by decide)) hgd (gl_of (by kernel_rfl)) (h.glo 25 (x := "is_seating") rfl) F_is_seating.kp cb0 rfl tk (sal_cons (se_meth0 (se_var (j := 1) rfl (.inr (.inl (by kernel_rfl)))) (h.cls 15 (x := "Bench") rfl) (h.meth 39 (x := "Bench") (m := "mirrored") rfl) (G_Bench_mirrored _ TB) (hr.mono (by decide)) hgd cb2 rfl tk) (sal_cons (se_call (G_about _ TB) (hr.mono (by decide)) hgd (gl_of (by kernel_rfl)) (h.glo 43 (x := "about") rfl) F_about.kp cb5 rfl tk (sal_cons (se_var (j := 1) rfl (.inr (.inl (by kernel_rfl)))) (sal_cons (se_var (j := 2) rfl (.inl (by kernel_rfl))) sal_nil))) sal_nil)))))))) (sb_one (ss_ret se_bl)) sb_nil)
      (sb_cons (ss_if (st_cmp (op_neD' hu) (se_ix ix_D (se_call (G_seated _ TB) (hr.mono (by decide)) hgd (gl_of (by kernel_rfl)) (h.glo 40 (x := "seated") rfl) F_seated.kp cb1 rfl tk (sal_cons (se_meth (se_var (j := 1) rfl (.inr (.inl (by kernel_rfl)))) (h.cls 15 (x := "Bench") rfl) (h.meth 41 (x := "Bench") (m := "eased") rfl) (G_Bench_eased _ TB) (hr.mono (by decide)) hgd cb3 rfl tk (sal_cons (se_call (G__law_draw _ TB) (hr.mono (by decide)) hgd (gl_of (by kernel_rfl)) (h.glo 8 (x := "_law_draw") rfl) F__law_draw.kp cb4 rfl tk (sal_cons (se_var (j := 0) rfl (.inl (by kernel_rfl))) (sal_cons se_int sal_nil))) sal_nil)) sal_nil)) se_int (fun _ _ => rfl)) se_str (nomark _)) (sb_one (ss_ret se_bl)) sb_nil)
      (sb_cons (ss_if (st_not (st_truth (se_callB (cr_allD rfl) (gl_of (by kernel_rfl)) (h.free 32 (x := "all") rfl) (by decide +kernel) (sa_cons (se_comp (own := [("_law_call", 7)]) (g := (.name 7)) rfl scN (si_any (se_meth0 (se_var (j := 1) rfl (.inr (.inl (by kernel_rfl)))) (h.cls 15 (x := "Bench") rfl) (h.meth 44 (x := "Bench") (m := "names") rfl) (G_Bench_names _ TB) (hr.mono (by decide)) hgd cb6 rfl tk)) (blkOk_of (by kernel_rfl)) (fun _ _ _ _ _ => (sgc_name (j := 7) scN rfl (.inl (by kernel_rfl)) (hf := .inr (by kernel_rfl)))) (fun _ _ _ _ _ => sts_nil) (fun _ _ _ _ _ => (se_cmp (op_eqD' hu) (se_ix ix_D (se_call (G_seated _ TB) (hr.mono (by decide)) hgd (gl_of (by kernel_rfl)) (h.glo 40 (x := "seated") rfl) F_seated.kp cb1 rfl takes0 (sal_cons (se_meth (se_var (j := 1) rfl (.inr (.inl (by kernel_rfl)))) (h.cls 15 (x := "Bench") rfl) (h.meth 46 (x := "Bench") (m := "without") rfl) (G_Bench_without _ TB) (hr.mono (by decide)) hgd cb7 rfl takes0 (sal_cons (se_var (j := 7) rfl (.inl (by kernel_rfl))) sal_nil)) sal_nil)) se_int (fun _ _ => rfl)) se_str (nomark _)))) sa_nil)))) (sb_one (ss_ret se_bl)) sb_nil)
      (sb_cons (ss_if (st_w (sw_and (st_cmp op_ltD (se_callB (cr_lenO (G_Bench_len _ TB) (h.meth 47 (x := "Bench") (m := "__len__") rfl).at_ (h.meth 47 (x := "Bench") (m := "__len__") rfl).fn (FunD.bindsN (ps := ["self"]) F_Bench_len (fun _ _ _ _ _ _ us hl => match us, hl with | [_], _ => rfl)) rfl (hr.mono (by decide)) hgd) (gl_of (by kernel_rfl)) (h.free 0 (x := "len") rfl) (by decide +kernel) (sa_cons (se_var (j := 1) rfl (.inr (.inl (by kernel_rfl)))) sa_nil)) (se_var (j := 3) rfl (.inl (by kernel_rfl))) (nomark _)) (sw_and1 (st_cmp (op_neD' hu) (se_ix ix_D (se_call (G_seated _ TB) (hr.mono (by decide)) hgd (gl_of (by kernel_rfl)) (h.glo 40 (x := "seated") rfl) F_seated.kp cb1 rfl tk (sal_cons (se_meth (se_var (j := 1) rfl (.inr (.inl (by kernel_rfl)))) (h.cls 15 (x := "Bench") rfl) (h.meth 49 (x := "Bench") (m := "plus") rfl) (G_Bench_plus _ TB) (hr.mono (by decide)) hgd cb8 rfl tk (sal_cons (se_tup (sal_cons (se_call (G__law_fresh _ TB) (hr.mono (by decide)) hgd (gl_of (by kernel_rfl)) (h.glo 48 (x := "_law_fresh") rfl) F__law_fresh.kp cb9 rfl tk (sal_cons (se_var (j := 1) rfl (.inr (.inl (by kernel_rfl)))) sal_nil)) (sal_cons se_int (sal_cons (se_bin op_subD (se_var (j := 3) rfl (.inl (by kernel_rfl))) se_int) sal_nil)))) sal_nil)) sal_nil)) se_int (fun _ _ => rfl)) se_str (nomark _))))) (sb_one (ss_ret se_bl)) sb_nil)
      (sb_cons (ss_set (j := 4) scN rfl (.inl (by kernel_rfl)) (hf := .inl rfl) (se_call (G_full _ TB) (hr.mono (by decide)) hgd (gl_of (by kernel_rfl)) (h.glo 52 (x := "full") rfl) F_full.kp cb10 rfl tk (sal_cons (se_var (j := 1) rfl (.inr (.inl (by kernel_rfl)))) sal_nil)))
      (sb_cons (ss_set (j := 5) scN rfl (.inr (by kernel_rfl)) (hf := .inl rfl) (se_callTy (cr_dictN rfl hu) (gl_of (by kernel_rfl)) (h.free 53 (x := "dict") rfl) (by decide +kernel) (sa_cons (se_kept [6] (se_comp (own := [("_law_gap", 6)]) (g := (.name 6)) rfl scN (si_any (se_bin op_addD (se_var (j := 4) rfl (.inl (by kernel_rfl))) (se_tup (sal_cons (se_tup (sal_cons se_int (sal_cons (se_bin op_subD (se_var (j := 3) rfl (.inl (by kernel_rfl))) se_int) sal_nil))) sal_nil)))) (blkOk_of (by kernel_rfl)) (fun _ _ _ _ _ => (sgc_name (j := 6) scN rfl (.inl (by kernel_rfl)) (hf := .inr (by kernel_rfl)))) (fun _ _ _ _ _ => sts_nil) (fun _ _ _ _ _ => (se_tup (sal_cons (se_var (j := 6) rfl (.inl (by kernel_rfl))) (sal_cons se_bl sal_nil)))))) sa_nil)))
      (sb_cons (ss_for (passes_of rfl) rfl (si_any (se_var (j := 4) rfl (.inl (by kernel_rfl)))) (sg_name (j := 6) scN rfl (.inr (by kernel_rfl)) (hf := .inl rfl)) (sb_cons (ss_if (st_cmp (op_neD' hu) (se_callTy cr_tuple (gl_of (by kernel_rfl)) (h.free 11 (x := "tuple") rfl) (by decide +kernel) (sa_cons (se_callB cr_sort (gl_of (by kernel_rfl)) (h.free 24 (x := "sorted") rfl) (by decide +kernel) (sa_cons (se_comp (own := [("_law_call", 7)]) (g := (.name 7)) rfl scN (si_any (se_slc (se_var (j := 2) rfl (.inl (by kernel_rfl))) (so_yes (se_ix ix_D (se_var (j := 6) rfl (.inr (.inl (by kernel_rfl)))) se_int (fun _ _ => rfl))) (so_yes (se_bin op_addD (se_ix ix_D (se_var (j := 6) rfl (.inr (.inl (by kernel_rfl)))) se_int (fun _ _ => rfl)) se_int)))) (blkOk_of (by kernel_rfl)) (fun _ _ _ _ _ => (sgc_name (j := 7) scN rfl (.inl (by kernel_rfl)) (hf := .inr (by kernel_rfl)))) (fun _ _ _ _ _ => sts_nil) (fun _ _ _ _ _ => (se_orV (se_var (j := 7) rfl (.inl (by kernel_rfl))) (se_one se_str)))) sa_nil)) sa_nil)) (se_call (G_held _ TB) (hr.mono (by decide)) hgd (gl_of (by kernel_rfl)) (h.glo 54 (x := "held") rfl) F_held.kp cb11 rfl tk (sal_cons (se_var (j := 1) rfl (.inr (.inl (by kernel_rfl)))) (sal_cons (se_var (j := 6) rfl (.inr (.inl (by kernel_rfl)))) sal_nil))) (nomark _)) (sb_one (ss_ret se_bl)) sb_nil)
      (sb_one (ss_if (st_not (st_truth (se_callB (cr_allD rfl) (gl_of (by kernel_rfl)) (h.free 32 (x := "all") rfl) (by decide +kernel) (sa_cons (se_comp (own := [("_law_mate", 8)]) (g := (.name 8)) rfl scN (si_any (se_stp5 (se_var (j := 4) rfl (.inl (by kernel_rfl))) (se_call (G__law_draw _ TB) (hr.mono (by decide)) hgd (gl_of (by kernel_rfl)) (h.glo 8 (x := "_law_draw") rfl) F__law_draw.kp cb4 rfl tk (sal_cons (se_var (j := 0) rfl (.inl (by kernel_rfl))) (sal_cons se_int sal_nil))))) (blkOk_of (by kernel_rfl)) (fun _ _ _ _ _ => (sgc_name (j := 8) scN rfl (.inl (by kernel_rfl)) (hf := .inr (by kernel_rfl)))) (fun _ _ _ _ _ => sts_nil) (fun _ _ _ _ _ => (se_call (G__law_joined _ TB) (hr.mono (by decide)) hgd (gl_of (by kernel_rfl)) (h.glo 55 (x := "_law_joined") rfl) F__law_joined.kp cb12 rfl takes0 (sal_cons (se_var (j := 5) rfl (.inr (.inl (by kernel_rfl)))) (sal_cons (se_var (j := 6) rfl (.inr (.inl (by kernel_rfl)))) (sal_cons (se_var (j := 8) rfl (.inl (by kernel_rfl))) sal_nil)))))) sa_nil)))) (sb_one (ss_ret se_bl)) sb_nil))))
      (sb_one (ss_ret se_bl))))))))))))
  exact ⟨fd, F, G⟩
theorem ok_Bench_stretch {P : Program} {w : World} {K : PySem.W.Frag} {mg : Str → Option Value} (h : Hyp K mg) : ∃ fd, FunD K "stretch" "Bench.stretch" (defArgs s_Bench_stretch) (defBody s_Bench_stretch) (defScope s_Bench_stretch) (d_Bench_stretch.dvs K) (d_Bench_stretch.kws K) (He.ma K (He.ga K "Bench") "stretch") fd ∧ ∀ base : Heap, LamX.TabB base mg (He.cT K ("seated", none)).1 (He.cT K ("seated", none)).2 → FnG P w K mg base 2 (He.ma K (He.ga K "Bench") "stretch") fd ["self", "name"] (spD ⟨K, P, w⟩ 2 den_Bench_stretch) := by
  obtain ⟨fd_Bench_turn_of, F_Bench_turn_of, G_Bench_turn_of⟩ := ok_Bench_turn_of (P := P) (w := w) h
  have cb0 : CallI ⟨K, P, w⟩ fd_Bench_turn_of ["self", "name"] 1 [] [0] [] := callI_no (K := ⟨K, P, w⟩) F_Bench_turn_of 1 [] [0] fun _ _ _ _ _ _ _ us ws h1 h2 => match us, h1, ws, h2 with | [_], _, [], _ => rfl
  obtain ⟨fd, F⟩ := h.says.def_ 35 (d := d_Bench_stretch) rfl
  have scN := sc_Bench_stretch.nd
  have G := fun (base : Heap) (TB : LamX.TabB base mg (He.cT K ("seated", none)).1 (He.cT K ("seated", none)).2) => (fnG_body (P := P) (w := w) (mg := mg) (base := base) (N := ["self", "name"]) (ps := ["self", "name"]) (k := 1) (b := b_Bench_stretch) F sc_Bench_stretch fun cdv A outer s H E hr hgd tk => by
    have hu := hr.units
    exact (sb_one (ss_ret (se_slc (se_ix ix_D (se_fld (se_var (j := 0) rfl (.inl (by kernel_rfl))) (h.cls 15 (x := "Bench") rfl) (h.noat 20 (x := "Bench") (f := "people") rfl)) (se_meth (se_var (j := 0) rfl (.inl (by kernel_rfl))) (h.cls 15 (x := "Bench") rfl) (h.meth 45 (x := "Bench") (m := "turn_of") rfl) (G_Bench_turn_of _ TB) (hr.mono (by decide)) hgd cb0 rfl tk (sal_cons (se_var (j := 1) rfl (.inl (by kernel_rfl))) sal_nil)) (fun _ _ => rfl)) (so_yes se_int) so_no))))
  exact ⟨fd, F, G⟩
theorem ok_Bench_led {P : Program} {w : World} {K : PySem.W.Frag} {mg : Str → Option Value} (h : Hyp K mg) : ∃ fd, FunD K "led" "Bench.led" (defArgs s_Bench_led) (defBody s_Bench_led) (defScope s_Bench_led) (d_Bench_led.dvs K) (d_Bench_led.kws K) (He.ma K (He.ga K "Bench") "led") fd ∧ ∀ base : Heap, LamX.TabB base mg (He.cT K ("seated", none)).1 (He.cT K ("seated", none)).2 → FnG P w K mg base 8 (He.ma K (He.ga K "Bench") "led") fd ["self", "name", "first", "last"] (spD ⟨K, P, w⟩ 4 den_Bench_led) := by
  obtain ⟨fd_Bench_turn_of, F_Bench_turn_of, G_Bench_turn_of⟩ := ok_Bench_turn_of (P := P) (w := w) h
  obtain ⟨fd_Bench_init, F_Bench_init, G_Bench_init⟩ := ok_Bench_init (P := P) (w := w) h
  have cb0 : CallI ⟨K, P, w⟩ fd_Bench_turn_of ["self", "name"] 1 [] [0] [] := callI_no (K := ⟨K, P, w⟩) F_Bench_turn_of 1 [] [0] fun _ _ _ _ _ _ _ us ws h1 h2 => match us, h1, ws, h2 with | [_], _, [], _ => rfl
  have cb1 : CallI ⟨K, P, w⟩ fd_Bench_init ["self", "seats", "people"] 2 [] [0, 1] [] := callI_all (K := ⟨K, P, w⟩) F_Bench_init (by simp [He.DefD.dvs, d_Bench_init]) 2 [] [0, 1] fun _ _ _ _ _ _ _ _ us ws its h1 h2 h3 => match us, h1, ws, h2, its, (show its.length = 1 from h3) with | [_, _], _, [], _, [_], _ => ⟨_, rfl, rfl⟩
  obtain ⟨fd, F⟩ := h.says.def_ 36 (d := d_Bench_led) rfl
  have scN := sc_Bench_led.nd
  have G := fun (base : Heap) (TB : LamX.TabB base mg (He.cT K ("seated", none)).1 (He.cT K ("seated", none)).2) => (fnG_body (P := P) (w := w) (mg := mg) (base := base) (N := ["self", "name", "first", "last", "turn"]) (ps := ["self", "name", "first", "last"]) (k := 7) (b := b_Bench_led) F sc_Bench_led fun cdv A outer s H E hr hgd tk => by
    have hu := hr.units
    exact (sb_cons (ss_set (j := 4) scN rfl (.inl (by kernel_rfl)) (hf := .inl rfl) (se_meth (se_var (j := 0) rfl (.inl (by kernel_rfl))) (h.cls 15 (x := "Bench") rfl) (h.meth 45 (x := "Bench") (m := "turn_of") rfl) (G_Bench_turn_of _ TB) (hr.mono (by decide)) hgd cb0 rfl tk (sal_cons (se_var (j := 1) rfl (.inl (by kernel_rfl))) sal_nil)))
      (sb_one (ss_ret (se_make blind_Bench_init (h.mkr 38 (x := "Bench") rfl) (G_Bench_init _ TB) (hr.mono (by decide)) hgd (gl_of (by kernel_rfl)) (h.glo 17 (x := "Bench") rfl) cb1 rfl tk (sal_cons (se_fld (se_var (j := 0) rfl (.inl (by kernel_rfl))) (h.cls 15 (x := "Bench") rfl) (h.noat 16 (x := "Bench") (f := "seats") rfl)) (sal_cons (se_bin op_addD (se_bin op_addD (se_slc (se_fld (se_var (j := 0) rfl (.inl (by kernel_rfl))) (h.cls 15 (x := "Bench") rfl) (h.noat 20 (x := "Bench") (f := "people") rfl)) so_no (so_yes (se_var (j := 4) rfl (.inl (by kernel_rfl))))) (se_tup (sal_cons (se_tup (sal_cons (se_var (j := 1) rfl (.inl (by kernel_rfl))) (sal_cons (se_var (j := 2) rfl (.inl (by kernel_rfl))) (sal_cons (se_var (j := 3) rfl (.inl (by kernel_rfl))) sal_nil)))) sal_nil))) (se_slc (se_fld (se_var (j := 0) rfl (.inl (by kernel_rfl))) (h.cls 15 (x := "Bench") rfl) (h.noat 20 (x := "Bench") (f := "people") rfl)) (so_yes (se_bin op_addD (se_var (j := 4) rfl (.inl (by kernel_rfl))) se_int)) so_no)) sal_nil)))))))
  exact ⟨fd, F, G⟩
theorem ok__law_crowded_right {P : Program} {w : World} {K : PySem.W.Frag} {mg : Str → Option Value} (h : Hyp K mg) : ∃ fd, FunD K "_law_crowded_right" "_law_crowded_right" (defArgs s__law_crowded_right) (defBody s__law_crowded_right) (defScope s__law_crowded_right) (d__law_crowded_right.dvs K) (d__law_crowded_right.kws K) (He.ga K "_law_crowded_right") fd ∧ ∀ base : Heap, LamX.TabB base mg (He.cT K ("seated", none)).1 (He.cT K ("seated", none)).2 → FnG P w K mg base 9 (He.ga K "_law_crowded_right") fd ["_law_hand_here", "_law_plank", "_law_gap"] (spD ⟨K, P, w⟩ 3 den__law_crowded_right) := by
  obtain ⟨fd_held, F_held, G_held⟩ := ok_held (P := P) (w := w) h
  obtain ⟨fd_seated, F_seated, G_seated⟩ := ok_seated (P := P) (w := w) h
  obtain ⟨fd_Bench_mirrored, F_Bench_mirrored, G_Bench_mirrored⟩ := ok_Bench_mirrored (P := P) (w := w) h
  obtain ⟨fd__law_draw, F__law_draw, G__law_draw⟩ := ok__law_draw (P := P) (w := w) h
  obtain ⟨fd_Bench_len, F_Bench_len, G_Bench_len⟩ := ok_Bench_len (P := P) (w := w) h
  obtain ⟨fd_Bench_plus, F_Bench_plus, G_Bench_plus⟩ := ok_Bench_plus (P := P) (w := w) h
  obtain ⟨fd__law_fresh, F__law_fresh, G__law_fresh⟩ := ok__law_fresh (P := P) (w := w) h
  obtain ⟨fd_Bench_stretch, F_Bench_stretch, G_Bench_stretch⟩ := ok_Bench_stretch (P := P) (w := w) h
  obtain ⟨fd_Bench_led, F_Bench_led, G_Bench_led⟩ := ok_Bench_led (P := P) (w := w) h
  obtain ⟨fd_Bench_without, F_Bench_without, G_Bench_without⟩ := ok_Bench_without (P := P) (w := w) h
  have cb0 : CallB ⟨K, P, w⟩ fd_held ["bench", "window"] 2 [] [0, 1] [] := callB_no (K := ⟨K, P, w⟩) F_held 2 [] [0, 1] fun _ _ _ _ _ _ us ws h1 h2 => match us, h1, ws, h2 with | [_, _], _, [], _ => rfl
  have cb1 : CallB ⟨K, P, w⟩ fd_seated ["bench"] 1 [] [0] [] := callB_no (K := ⟨K, P, w⟩) F_seated 1 [] [0] fun _ _ _ _ _ _ us ws h1 h2 => match us, h1, ws, h2 with | [_], _, [], _ => rfl
  have cb2 : CallI ⟨K, P, w⟩ fd_Bench_mirrored ["self"] 0 [] [] [] := callI_no (K := ⟨K, P, w⟩) F_Bench_mirrored 0 [] [] fun _ _ _ _ _ _ _ us ws h1 h2 => match us, h1, ws, h2 with | [], _, [], _ => rfl
  have cb3 : CallB ⟨K, P, w⟩ fd__law_draw ["_law_hand_here", "_law_top"] 2 [] [0, 1] [] := callB_no (K := ⟨K, P, w⟩) F__law_draw 2 [] [0, 1] fun _ _ _ _ _ _ us ws h1 h2 => match us, h1, ws, h2 with | [_, _], _, [], _ => rfl
  have cb4 : CallI ⟨K, P, w⟩ fd_Bench_plus ["self", "person"] 1 [] [0] [] := callI_no (K := ⟨K, P, w⟩) F_Bench_plus 1 [] [0] fun _ _ _ _ _ _ _ us ws h1 h2 => match us, h1, ws, h2 with | [_], _, [], _ => rfl
  have cb5 : CallB ⟨K, P, w⟩ fd__law_fresh ["_law_plank"] 1 [] [0] [] := callB_no (K := ⟨K, P, w⟩) F__law_fresh 1 [] [0] fun _ _ _ _ _ _ us ws h1 h2 => match us, h1, ws, h2 with | [_], _, [], _ => rfl
  have cb6 : CallI ⟨K, P, w⟩ fd_Bench_stretch ["self", "name"] 1 [] [0] [] := callI_no (K := ⟨K, P, w⟩) F_Bench_stretch 1 [] [0] fun _ _ _ _ _ _ _ us ws h1 h2 => match us, h1, ws, h2 with | [_], _, [], _ => rfl
  have cb7 : CallI ⟨K, P, w⟩ fd_Bench_led ["self", "name", "first", "last"] 3 [] [0, 1, 2] [] := callI_no (K := ⟨K, P, w⟩) F_Bench_led 3 [] [0, 1, 2] fun _ _ _ _ _ _ _ us ws h1 h2 => match us, h1, ws, h2 with | [_, _, _], _, [], _ => rfl
  have cb8 : CallI ⟨K, P, w⟩ fd_Bench_without ["self", "name"] 1 [] [0] [] := callI_no (K := ⟨K, P, w⟩) F_Bench_without 1 [] [0] fun _ _ _ _ _ _ _ us ws h1 h2 => match us, h1, ws, h2 with | [_], _, [], _ => rfl
  obtain ⟨fd, F⟩ := h.says.def_ 37 (d := d__law_crowded_right) rfl
  have scN := sc__law_crowded_right.nd
  have G := fun (base : Heap) (TB : LamX.TabB base mg (He.cT K ("seated", none)).1 (He.cT K ("seated", none)).2) => (fnG_body (P := P) (w := w) (mg := mg) (base := base) (N := ["_law_hand_here", "_law_plank", "_law_gap", "_law_wide", "_law_inside", "_law_low", "_law_wider", "_law_call", "_law_begin", "_law_end", "_law_pal"]) (ps := ["_law_hand_here", "_law_plank", "_law_gap"]) (k := 8) (b := b__law_crowded_right) F sc__law_crowded_right fun cdv A outer s H E hr hgd tk => by
    have hu := hr.units
    exact (sb_cons (ss_par2 (i := 3) (j := 4) rfl scN rfl rfl (by decide) (by kernel_rfl) (by kernel_rfl) (sx_v (se_fld (se_var (j := 1) rfl (.inl (by kernel_rfl))) (h.cls 15 (x := "Bench") rfl) (h.noat 16 (x := "Bench") (f := "seats") rfl)) (sx_v (se_call (G_held _ TB) (hr.mono (by decide)) hgd (gl_of (by kernel_rfl)) (h.glo 54 (x := "held") rfl) F_held.kp cb0 rfl tk (sal_cons (se_var (j := 1) rfl (.inl (by kernel_rfl))) (sal_cons (se_var (j := 2) rfl (.inl (by kernel_rfl))) sal_nil))) sx_nil)) (by kernel_rfl))
      (sb_cons (ss_if (st_w (sw_or (st_cmp (op_neD' hu) (se_ix ix_D (se_call (G_seated _ TB) (hr.mono (by decide)) hgd (gl_of (by kernel_rfl)) (h.glo 40 (x := "seated") rfl) F_seated.kp cb1 rfl tk (sal_cons (se_meth0 (se_var (j := 1) rfl (.inl (by kernel_rfl))) (h.cls 15 (x := "Bench") rfl) (h.meth 39 (x := "Bench") (m := "mirrored") rfl) (G_Bench_mirrored _ TB) (hr.mono (by decide)) hgd cb2 rfl tk) sal_nil)) se_int (fun _ _ => rfl)) se_str (nomark _)) (sw_or1 (st_cmp op_leD (se_callB cr_len (gl_of (by kernel_rfl)) (h.free 0 (x := "len") rfl) (by decide +kernel) (sa_cons (se_var (j := 4) rfl (.inl (by kernel_rfl))) sa_nil)) (se_bin op_addD (se_bin op_subD (se_ix ix_D (se_var (j := 2) rfl (.inl (by kernel_rfl))) se_int (fun _ _ => rfl)) (se_ix ix_D (se_var (j := 2) rfl (.inl (by kernel_rfl))) se_int (fun _ _ => rfl))) se_int) (nomark _))))) (sb_one (ss_ret se_bl)) sb_nil)
      (sb_cons (ss_set (j := 5) scN rfl (.inl (by kernel_rfl)) (hf := .inl rfl) (se_call (G__law_draw _ TB) (hr.mono (by decide)) hgd (gl_of (by kernel_rfl)) (h.glo 8 (x := "_law_draw") rfl) F__law_draw.kp cb3 rfl tk (sal_cons (se_var (j := 0) rfl (.inl (by kernel_rfl))) (sal_cons (se_var (j := 3) rfl (.inl (by kernel_rfl))) sal_nil))))
      (sb_cons (ss_if (st_cmp op_ltD (se_callB (cr_lenO (G_Bench_len _ TB) (h.meth 47 (x := "Bench") (m := "__len__") rfl).at_ (h.meth 47 (x := "Bench") (m := "__len__") rfl).fn (FunD.bindsN (ps := ["self"]) F_Bench_len (fun _ _ _ _ _ _ us hl => match us, hl with | [_], _ => rfl)) rfl (hr.mono (by decide)) hgd) (gl_of (by kernel_rfl)) (h.free 0 (x := "len") rfl) (by decide +kernel) (sa_cons (se_var (j := 1) rfl (.inl (by kernel_rfl))) sa_nil)) (se_var (j := 3) rfl (.inl (by kernel_rfl))) (nomark _)) (sb_cons (ss_set (j := 6) scN rfl (.inl (by kernel_rfl)) (hf := .inl rfl) (se_meth (se_var (j := 1) rfl (.inl (by kernel_rfl))) (h.cls 15 (x := "Bench") rfl) (h.meth 49 (x := "Bench") (m := "plus") rfl) (G_Bench_plus _ TB) (hr.mono (by decide)) hgd cb4 rfl tk (sal_cons (se_tup (sal_cons (se_call (G__law_fresh _ TB) (hr.mono (by decide)) hgd (gl_of (by kernel_rfl)) (h.glo 48 (x := "_law_fresh") rfl) F__law_fresh.kp cb5 rfl tk (sal_cons (se_var (j := 1) rfl (.inl (by kernel_rfl))) sal_nil)) (sal_cons (se_var (j := 5) rfl (.inl (by kernel_rfl))) (sal_cons (se_bin op_addD (se_var (j := 5) rfl (.inl (by kernel_rfl))) (se_call (G__law_draw _ TB) (hr.mono (by decide)) hgd (gl_of (by kernel_rfl)) (h.glo 8 (x := "_law_draw") rfl) F__law_draw.kp cb3 rfl tk (sal_cons (se_var (j := 0) rfl (.inl (by kernel_rfl))) (sal_cons (se_bin op_subD (se_var (j := 3) rfl (.inl (by kernel_rfl))) (se_var (j := 5) rfl (.inl (by kernel_rfl)))) sal_nil)))) sal_nil)))) sal_nil)))
      (sb_one (ss_if (st_w (sw_or (st_cmp (op_neD' hu) (se_ix ix_D (se_call (G_seated _ TB) (hr.mono (by decide)) hgd (gl_of (by kernel_rfl)) (h.glo 40 (x := "seated") rfl) F_seated.kp cb1 rfl tk (sal_cons (se_var (j := 6) rfl (.inl (by kernel_rfl))) sal_nil)) se_int (fun _ _ => rfl)) se_str (nomark _)) (sw_or1 (st_cmp op_ltD (se_callB cr_len (gl_of (by kernel_rfl)) (h.free 0 (x := "len") rfl) (by decide +kernel) (sa_cons (se_call (G_held _ TB) (hr.mono (by decide)) hgd (gl_of (by kernel_rfl)) (h.glo 54 (x := "held") rfl) F_held.kp cb0 rfl tk (sal_cons (se_var (j := 6) rfl (.inl (by kernel_rfl))) (sal_cons (se_var (j := 2) rfl (.inl (by kernel_rfl))) sal_nil))) sa_nil)) (se_callB cr_len (gl_of (by kernel_rfl)) (h.free 0 (x := "len") rfl) (by decide +kernel) (sa_cons (se_var (j := 4) rfl (.inl (by kernel_rfl))) sa_nil)) (nomark _))))) (sb_one (ss_ret se_bl)) sb_nil))) sb_nil)
      (sb_cons (ss_set (j := 7) scN rfl (.inr (by kernel_rfl)) (hf := .inl rfl) (se_ix ix_D (se_var (j := 4) rfl (.inl (by kernel_rfl))) (se_call (G__law_draw _ TB) (hr.mono (by decide)) hgd (gl_of (by kernel_rfl)) (h.glo 8 (x := "_law_draw") rfl) F__law_draw.kp cb3 rfl tk (sal_cons (se_var (j := 0) rfl (.inl (by kernel_rfl))) (sal_cons (se_callB cr_len (gl_of (by kernel_rfl)) (h.free 0 (x := "len") rfl) (by decide +kernel) (sa_cons (se_var (j := 4) rfl (.inl (by kernel_rfl))) sa_nil)) sal_nil))) (fun _ _ => rfl)))
      (sb_cons (ss_asg plain_gtup (se_meth (se_var (j := 1) rfl (.inl (by kernel_rfl))) (h.cls 15 (x := "Bench") rfl) (h.meth 57 (x := "Bench") (m := "stretch") rfl) (G_Bench_stretch _ TB) (hr.mono (by decide)) hgd cb6 rfl tk (sal_cons (se_var (j := 7) rfl (.inr (.inl (by kernel_rfl)))) sal_nil)) (sg_tup rfl (sgn_cons (j := 8) scN rfl (.inl (by kernel_rfl)) (hf := .inl rfl) (sgn_cons (j := 9) scN rfl (.inl (by kernel_rfl)) (hf := .inl rfl) sgn_nil))))
      (sb_cons (ss_if (st_cmp (op_neD' hu) (se_ix ix_D (se_call (G_seated _ TB) (hr.mono (by decide)) hgd (gl_of (by kernel_rfl)) (h.glo 40 (x := "seated") rfl) F_seated.kp cb1 rfl tk (sal_cons (se_meth (se_var (j := 1) rfl (.inl (by kernel_rfl))) (h.cls 15 (x := "Bench") rfl) (h.meth 58 (x := "Bench") (m := "led") rfl) (G_Bench_led _ TB) (hr.mono (by decide)) hgd cb7 rfl tk (sal_cons (se_var (j := 7) rfl (.inr (.inl (by kernel_rfl)))) (sal_cons (se_var (j := 8) rfl (.inl (by kernel_rfl))) (sal_cons (se_bin op_addD (se_var (j := 8) rfl (.inl (by kernel_rfl))) (se_call (G__law_draw _ TB) (hr.mono (by decide)) hgd (gl_of (by kernel_rfl)) (h.glo 8 (x := "_law_draw") rfl) F__law_draw.kp cb3 rfl tk (sal_cons (se_var (j := 0) rfl (.inl (by kernel_rfl))) (sal_cons (se_bin op_addD (se_bin op_subD (se_var (j := 9) rfl (.inl (by kernel_rfl))) (se_var (j := 8) rfl (.inl (by kernel_rfl)))) se_int) sal_nil)))) sal_nil)))) sal_nil)) se_int (fun _ _ => rfl)) se_str (nomark _)) (sb_one (ss_ret se_bl)) sb_nil)
      (sb_one (ss_ret (se_cmp (op_eqD' hu) (se_call (G_held _ TB) (hr.mono (by decide)) hgd (gl_of (by kernel_rfl)) (h.glo 54 (x := "held") rfl) F_held.kp cb0 rfl tk (sal_cons (se_meth (se_var (j := 1) rfl (.inl (by kernel_rfl))) (h.cls 15 (x := "Bench") rfl) (h.meth 46 (x := "Bench") (m := "without") rfl) (G_Bench_without _ TB) (hr.mono (by decide)) hgd cb8 rfl tk (sal_cons (se_var (j := 7) rfl (.inr (.inl (by kernel_rfl)))) sal_nil)) (sal_cons (se_var (j := 2) rfl (.inl (by kernel_rfl))) sal_nil))) (se_callTy cr_tuple (gl_of (by kernel_rfl)) (h.free 11 (x := "tuple") rfl) (by decide +kernel) (sa_cons (se_comp (own := [("_law_pal", 10)]) (g := (.name 10)) rfl scN (si_any (se_var (j := 4) rfl (.inl (by kernel_rfl)))) (blkOk_of (by kernel_rfl)) (fun _ _ _ _ _ => (sgc_name (j := 10) scN rfl (.inl (by kernel_rfl)) (hf := .inr (by kernel_rfl)))) (fun _ _ _ _ _ => (sts_one (st_cmp (op_neD' hu) (se_var (j := 10) rfl (.inl (by kernel_rfl))) (se_var (j := 7) rfl (.inr (.inl (by kernel_rfl)))) (nomark _)))) (fun _ _ _ _ _ => (se_var (j := 10) rfl (.inl (by kernel_rfl))))) sa_nil)) (nomark _))))))))))))
  exact ⟨fd, F, G⟩
theorem ok__law_right {P : Program} {w : World} {K : PySem.W.Frag} {mg : Str → Option Value} (h : Hyp K mg) : ∃ fd, FunD K "_law_right" "_law_right" (defArgs s__law_right) (defBody s__law_right) (defScope s__law_right) (d__law_right.dvs K) (d__law_right.kws K) (He.ga K "_law_right") fd ∧ ∀ base : Heap, LamX.TabB base mg (He.cT K ("seated", none)).1 (He.cT K ("seated", none)).2 → FnG P w K mg base 10 (He.ga K "_law_right") fd ["_law_hand_here", "_law_plank"] (spD ⟨K, P, w⟩ 2 den__law_right) := by
  obtain ⟨fd_seated, F_seated, G_seated⟩ := ok_seated (P := P) (w := w) h
  obtain ⟨fd__law_seated_right, F__law_seated_right, G__law_seated_right⟩ := ok__law_seated_right (P := P) (w := w) h
  obtain ⟨fd__law_crowded_right, F__law_crowded_right, G__law_crowded_right⟩ := ok__law_crowded_right (P := P) (w := w) h
  have cb0 : CallB ⟨K, P, w⟩ fd_seated ["bench"] 1 [] [0] [] := callB_no (K := ⟨K, P, w⟩) F_seated 1 [] [0] fun _ _ _ _ _ _ us ws h1 h2 => match us, h1, ws, h2 with | [_], _, [], _ => rfl
  have cb1 : CallB ⟨K, P, w⟩ fd__law_seated_right ["_law_hand_here", "_law_plank", "_law_sat"] 3 [] [0, 1, 2] [] := callB_no (K := ⟨K, P, w⟩) F__law_seated_right 3 [] [0, 1, 2] fun _ _ _ _ _ _ us ws h1 h2 => match us, h1, ws, h2 with | [_, _, _], _, [], _ => rfl
  have cb2 : CallB ⟨K, P, w⟩ fd__law_crowded_right ["_law_hand_here", "_law_plank", "_law_gap"] 3 [] [0, 1, 2] [] := callB_no (K := ⟨K, P, w⟩) F__law_crowded_right 3 [] [0, 1, 2] fun _ _ _ _ _ _ us ws h1 h2 => match us, h1, ws, h2 with | [_, _, _], _, [], _ => rfl
  obtain ⟨fd, F⟩ := h.says.def_ 38 (d := d__law_right) rfl
  have scN := sc__law_right.nd
  have G := fun (base : Heap) (TB : LamX.TabB base mg (He.cT K ("seated", none)).1 (He.cT K ("seated", none)).2) => (fnG_body (P := P) (w := w) (mg := mg) (base := base) (N := ["_law_hand_here", "_law_plank", "_law_word", "_law_found"]) (ps := ["_law_hand_here", "_law_plank"]) (k := 9) (b := b__law_right) F sc__law_right fun cdv A outer s H E hr hgd tk => by
    have hu := hr.units
    exact (sb_cons (ss_asg plain_gtup (se_call (G_seated _ TB) (hr.mono (by decide)) hgd (gl_of (by kernel_rfl)) (h.glo 40 (x := "seated") rfl) F_seated.kp cb0 rfl tk (sal_cons (se_var (j := 1) rfl (.inl (by kernel_rfl))) sal_nil)) (sg_tup rfl (sgn_cons (j := 2) scN rfl (.inl (by kernel_rfl)) (hf := .inl rfl) (sgn_cons (j := 3) scN rfl (.inl (by kernel_rfl)) (hf := .inl rfl) sgn_nil))))
      (sb_cons (ss_if (st_cmp (op_eqD' hu) (se_var (j := 2) rfl (.inl (by kernel_rfl))) se_str (nomark _)) (sb_one (ss_ret (se_call (G__law_seated_right _ TB) (hr.mono (by decide)) hgd (gl_of (by kernel_rfl)) (h.glo 56 (x := "_law_seated_right") rfl) F__law_seated_right.kp cb1 rfl tk (sal_cons (se_var (j := 0) rfl (.inl (by kernel_rfl))) (sal_cons (se_var (j := 1) rfl (.inl (by kernel_rfl))) (sal_cons (se_var (j := 3) rfl (.inl (by kernel_rfl))) sal_nil)))))) sb_nil)
      (sb_one (ss_ret (se_and (se_cmp (op_eqD' hu) (se_var (j := 2) rfl (.inl (by kernel_rfl))) se_str (nomark _)) (se_one (se_call (G__law_crowded_right _ TB) (hr.mono (by decide)) hgd (gl_of (by kernel_rfl)) (h.glo 59 (x := "_law_crowded_right") rfl) F__law_crowded_right.kp cb2 rfl tk (sal_cons (se_var (j := 0) rfl (.inl (by kernel_rfl))) (sal_cons (se_var (j := 1) rfl (.inl (by kernel_rfl))) (sal_cons (se_var (j := 3) rfl (.inl (by kernel_rfl))) sal_nil)))))))))))
  exact ⟨fd, F, G⟩
theorem ok__law_any_folk {P : Program} {w : World} {K : PySem.W.Frag} {mg : Str → Option Value} (h : Hyp K mg) : ∃ fd, FunD K "_law_any_folk" "_law_any_folk" (defArgs s__law_any_folk) (defBody s__law_any_folk) (defScope s__law_any_folk) (d__law_any_folk.dvs K) (d__law_any_folk.kws K) (He.ga K "_law_any_folk") fd ∧ ∀ base : Heap, LamX.TabB base mg (He.cT K ("seated", none)).1 (He.cT K ("seated", none)).2 → FnG P w K mg base 3 (He.ga K "_law_any_folk") fd ["_law_hand_here", "_law_wide"] (spD ⟨K, P, w⟩ 2 den__law_any_folk) := by
  obtain ⟨fd__law_draw, F__law_draw, G__law_draw⟩ := ok__law_draw (P := P) (w := w) h
  obtain ⟨fd__law_calls, F__law_calls, G__law_calls⟩ := ok__law_calls (P := P) (w := w) h
  have cb0 : CallB ⟨K, P, w⟩ fd__law_draw ["_law_hand_here", "_law_top"] 2 [] [0, 1] [] := callB_no (K := ⟨K, P, w⟩) F__law_draw 2 [] [0, 1] fun _ _ _ _ _ _ us ws h1 h2 => match us, h1, ws, h2 with | [_, _], _, [], _ => rfl
  have cb1 : CallB ⟨K, P, w⟩ fd__law_calls ["_law_hand_here", "_law_count"] 2 [] [0, 1] [] := callB_no (K := ⟨K, P, w⟩) F__law_calls 2 [] [0, 1] fun _ _ _ _ _ _ us ws h1 h2 => match us, h1, ws, h2 with | [_, _], _, [], _ => rfl
  obtain ⟨fd, F⟩ := h.says.def_ 39 (d := d__law_any_folk) rfl
  have scN := sc__law_any_folk.nd
  have G := fun (base : Heap) (TB : LamX.TabB base mg (He.cT K ("seated", none)).1 (He.cT K ("seated", none)).2) => (fnG_body (P := P) (w := w) (mg := mg) (base := base) (N := ["_law_hand_here", "_law_wide", "_law_found", "_law_grown", "_law_call", "_law_low", "_law_high"]) (ps := ["_law_hand_here", "_law_wide"]) (k := 2) (b := b__law_any_folk) F sc__law_any_folk fun cdv A outer s H E hr hgd tk => by
    have hu := hr.units
    exact (sb_cons (ss_par2 (i := 2) (j := 3) rfl scN rfl rfl (by decide) (by kernel_rfl) (by kernel_rfl) (sx_f (sf_lst sal_nil) (sx_v (se_call (G__law_draw _ TB) (hr.mono (by decide)) hgd (gl_of (by kernel_rfl)) (h.glo 8 (x := "_law_draw") rfl) F__law_draw.kp cb0 rfl tk (sal_cons (se_var (j := 0) rfl (.inl (by kernel_rfl))) (sal_cons se_int sal_nil))) sx_nil)) (by kernel_rfl))
      (sb_cons (ss_for (passes_of rfl) rfl (si_any (se_call (G__law_calls _ TB) (hr.mono (by decide)) hgd (gl_of (by kernel_rfl)) (h.glo 9 (x := "_law_calls") rfl) F__law_calls.kp cb1 rfl tk (sal_cons (se_var (j := 0) rfl (.inl (by kernel_rfl))) (sal_cons (se_callB (cr_max2 rfl) (gl_of (by kernel_rfl)) (h.free 2 (x := "max") rfl) (by decide +kernel) (sa_cons (se_call (G__law_draw _ TB) (hr.mono (by decide)) hgd (gl_of (by kernel_rfl)) (h.glo 8 (x := "_law_draw") rfl) F__law_draw.kp cb0 rfl tk (sal_cons (se_var (j := 0) rfl (.inl (by kernel_rfl))) (sal_cons (se_bin op_addD (se_var (j := 1) rfl (.inl (by kernel_rfl))) se_int) sal_nil))) (sa_cons (se_call (G__law_draw _ TB) (hr.mono (by decide)) hgd (gl_of (by kernel_rfl)) (h.glo 8 (x := "_law_draw") rfl) F__law_draw.kp cb0 rfl tk (sal_cons (se_var (j := 0) rfl (.inl (by kernel_rfl))) (sal_cons (se_bin op_addD (se_var (j := 1) rfl (.inl (by kernel_rfl))) se_int) sal_nil))) sa_nil))) sal_nil)))) (sg_name (j := 4) scN rfl (.inl (by kernel_rfl)) (hf := .inl rfl)) (sb_cons (ss_set (j := 5) scN rfl (.inl (by kernel_rfl)) (hf := .inl rfl) (se_call (G__law_draw _ TB) (hr.mono (by decide)) hgd (gl_of (by kernel_rfl)) (h.glo 8 (x := "_law_draw") rfl) F__law_draw.kp cb0 rfl tk (sal_cons (se_var (j := 0) rfl (.inl (by kernel_rfl))) (sal_cons (se_var (j := 1) rfl (.inl (by kernel_rfl))) sal_nil))))
      (sb_cons (ss_set (j := 6) scN rfl (.inl (by kernel_rfl)) (hf := .inl rfl) (se_bin op_addD (se_var (j := 5) rfl (.inl (by kernel_rfl))) (se_call (G__law_draw _ TB) (hr.mono (by decide)) hgd (gl_of (by kernel_rfl)) (h.glo 8 (x := "_law_draw") rfl) F__law_draw.kp cb0 rfl tk (sal_cons (se_var (j := 0) rfl (.inl (by kernel_rfl))) (sal_cons (se_bin op_subD (se_var (j := 1) rfl (.inl (by kernel_rfl))) (se_var (j := 5) rfl (.inl (by kernel_rfl)))) sal_nil)))))
      (sb_one (ss_expr (se_append (se_var (j := 2) rfl (.inl (by kernel_rfl))) (sal_cons (se_tup (sal_cons (se_var (j := 4) rfl (.inl (by kernel_rfl))) (sal_cons (se_callB (cr_max2 rfl) (gl_of (by kernel_rfl)) (h.free 2 (x := "max") rfl) (by decide +kernel) (sa_cons se_int (sa_cons (se_bin op_subD (se_var (j := 5) rfl (.inl (by kernel_rfl))) (se_bin op_mulD (se_var (j := 3) rfl (.inl (by kernel_rfl))) (se_call (G__law_draw _ TB) (hr.mono (by decide)) hgd (gl_of (by kernel_rfl)) (h.glo 8 (x := "_law_draw") rfl) F__law_draw.kp cb0 rfl tk (sal_cons (se_var (j := 0) rfl (.inl (by kernel_rfl))) (sal_cons se_int sal_nil))))) sa_nil))) (sal_cons (se_callB (cr_min2 rfl) (gl_of (by kernel_rfl)) (h.free 1 (x := "min") rfl) (by decide +kernel) (sa_cons (se_bin op_subD (se_var (j := 1) rfl (.inl (by kernel_rfl))) se_int) (sa_cons (se_bin op_addD (se_var (j := 6) rfl (.inl (by kernel_rfl))) (se_var (j := 3) rfl (.inl (by kernel_rfl)))) sa_nil))) sal_nil)))) sal_nil)))))))
      (sb_one (ss_ret (se_callTy cr_tuple (gl_of (by kernel_rfl)) (h.free 11 (x := "tuple") rfl) (by decide +kernel) (sa_cons (se_var (j := 2) rfl (.inl (by kernel_rfl))) sa_nil)))))))
  exact ⟨fd, F, G⟩
theorem ok_law {P : Program} {w : World} {K : PySem.W.Frag} {mg : Str → Option Value} (h : Hyp K mg) : ∃ fd, FunD K "law" "law" (defArgs s_law) (defBody s_law) (defScope s_law) (d_law.dvs K) (d_law.kws K) (He.ga K "law") fd ∧ ∀ base : Heap, LamX.TabB base mg (He.cT K ("seated", none)).1 (He.cT K ("seated", none)).2 → FnG P w K mg base 11 (He.ga K "law") fd ["_law_script"] (spD ⟨K, P, w⟩ 1 den_law) := by
  obtain ⟨fd__law_hand, F__law_hand, G__law_hand⟩ := ok__law_hand (P := P) (w := w) h
  obtain ⟨fd__law_cell, F__law_cell, G__law_cell⟩ := ok__law_cell (P := P) (w := w) h
  obtain ⟨fd__law_scene, F__law_scene, G__law_scene⟩ := ok__law_scene (P := P) (w := w) h
  obtain ⟨fd__law_seated_right, F__law_seated_right, G__law_seated_right⟩ := ok__law_seated_right (P := P) (w := w) h
  obtain ⟨fd_Bench_init, F_Bench_init, G_Bench_init⟩ := ok_Bench_init (P := P) (w := w) h
  obtain ⟨fd__law_right, F__law_right, G__law_right⟩ := ok__law_right (P := P) (w := w) h
  obtain ⟨fd__law_draw, F__law_draw, G__law_draw⟩ := ok__law_draw (P := P) (w := w) h
  obtain ⟨fd__law_any_folk, F__law_any_folk, G__law_any_folk⟩ := ok__law_any_folk (P := P) (w := w) h
  have cb0 : CallB ⟨K, P, w⟩ fd__law_hand ["_law_cell_here"] 1 [] [0] [] := callB_no (K := ⟨K, P, w⟩) F__law_hand 1 [] [0] fun _ _ _ _ _ _ us ws h1 h2 => match us, h1, ws, h2 with | [_], _, [], _ => rfl
  have cb1 : CallB ⟨K, P, w⟩ fd__law_cell ["_law_script", "_law_k"] 2 [] [0, 1] [] := callB_no (K := ⟨K, P, w⟩) F__law_cell 2 [] [0, 1] fun _ _ _ _ _ _ us ws h1 h2 => match us, h1, ws, h2 with | [_, _], _, [], _ => rfl
  have cb2 : CallB ⟨K, P, w⟩ fd__law_scene ["_law_hand_here", "_law_most_wide"] 2 [] [0, 1] [] := callB_no (K := ⟨K, P, w⟩) F__law_scene 2 [] [0, 1] fun _ _ _ _ _ _ us ws h1 h2 => match us, h1, ws, h2 with | [_, _], _, [], _ => rfl
  have cb3 : CallB ⟨K, P, w⟩ fd__law_seated_right ["_law_hand_here", "_law_plank", "_law_sat"] 3 [] [0, 1, 2] [] := callB_no (K := ⟨K, P, w⟩) F__law_seated_right 3 [] [0, 1, 2] fun _ _ _ _ _ _ us ws h1 h2 => match us, h1, ws, h2 with | [_, _, _], _, [], _ => rfl
  have cb4 : CallI ⟨K, P, w⟩ fd_Bench_init ["self", "seats", "people"] 2 [] [0, 1] [] := callI_all (K := ⟨K, P, w⟩) F_Bench_init (by simp [He.DefD.dvs, d_Bench_init]) 2 [] [0, 1] fun _ _ _ _ _ _ _ _ us ws its h1 h2 h3 => match us, h1, ws, h2, its, (show its.length = 1 from h3) with | [_, _], _, [], _, [_], _ => ⟨_, rfl, rfl⟩
  have cb5 : CallB ⟨K, P, w⟩ fd__law_right ["_law_hand_here", "_law_plank"] 2 [] [0, 1] [] := callB_no (K := ⟨K, P, w⟩) F__law_right 2 [] [0, 1] fun _ _ _ _ _ _ us ws h1 h2 => match us, h1, ws, h2 with | [_, _], _, [], _ => rfl
  have cb6 : CallB ⟨K, P, w⟩ fd__law_draw ["_law_hand_here", "_law_top"] 2 [] [0, 1] [] := callB_no (K := ⟨K, P, w⟩) F__law_draw 2 [] [0, 1] fun _ _ _ _ _ _ us ws h1 h2 => match us, h1, ws, h2 with | [_, _], _, [], _ => rfl
  have cb7 : CallB ⟨K, P, w⟩ fd__law_any_folk ["_law_hand_here", "_law_wide"] 2 [] [0, 1] [] := callB_no (K := ⟨K, P, w⟩) F__law_any_folk 2 [] [0, 1] fun _ _ _ _ _ _ us ws h1 h2 => match us, h1, ws, h2 with | [_, _], _, [], _ => rfl
  obtain ⟨fd, F⟩ := h.says.def_ 40 (d := d_law) rfl
  have scN := sc_law.nd
  have G := fun (base : Heap) (TB : LamX.TabB base mg (He.cT K ("seated", none)).1 (He.cT K ("seated", none)).2) => (fnG_body (P := P) (w := w) (mg := mg) (base := base) (N := ["_law_script", "_law_k", "_law_hand_here", "_law_wide", "_law_folk", "_law_sat", "_law_turn"]) (ps := ["_law_script"]) (k := 10) (b := b_law) F sc_law fun cdv A outer s H E hr hgd tk => by
    have hu := hr.units
    exact (sb_cons (ss_for (passes_of rfl) rfl (si_range1 (gl_of (by kernel_rfl)) (h.free 3 (x := "range") rfl) (sa_cons (se_callB (cr_max2 rfl) (gl_of (by kernel_rfl)) (h.free 2 (x := "max") rfl) (by decide +kernel) (sa_cons se_int (sa_cons (se_callB (cr_min2 rfl) (gl_of (by kernel_rfl)) (h.free 1 (x := "min") rfl) (by decide +kernel) (sa_cons (se_callB cr_len (gl_of (by kernel_rfl)) (h.free 0 (x := "len") rfl) (by decide +kernel) (sa_cons (se_var (j := 0) rfl (.inl (by kernel_rfl))) sa_nil)) (sa_cons se_int sa_nil))) sa_nil))) sa_nil)) (sg_name (j := 1) scN rfl (.inl (by kernel_rfl)) (hf := .inl rfl)) (sb_cons (ss_set (j := 2) scN rfl (.inl (by kernel_rfl)) (hf := .inl rfl) (se_call (G__law_hand _ TB) (hr.mono (by decide)) hgd (gl_of (by kernel_rfl)) (h.glo 6 (x := "_law_hand") rfl) F__law_hand.kp cb0 rfl tk (sal_cons (se_call (G__law_cell _ TB) (hr.mono (by decide)) hgd (gl_of (by kernel_rfl)) (h.glo 5 (x := "_law_cell") rfl) F__law_cell.kp cb1 rfl tk (sal_cons (se_var (j := 0) rfl (.inl (by kernel_rfl))) (sal_cons (se_var (j := 1) rfl (.inl (by kernel_rfl))) sal_nil))) sal_nil)))
      (sb_cons (ss_asg plain_gtup (se_call (G__law_scene _ TB) (hr.mono (by decide)) hgd (gl_of (by kernel_rfl)) (h.glo 14 (x := "_law_scene") rfl) F__law_scene.kp cb2 rfl tk (sal_cons (se_var (j := 2) rfl (.inl (by kernel_rfl))) (sal_cons se_int sal_nil))) (sg_tup rfl (sgn_cons (j := 3) scN rfl (.inl (by kernel_rfl)) (hf := .inl rfl) (sgn_cons (j := 4) scN rfl (.inl (by kernel_rfl)) (hf := .inl rfl) (sgn_cons (j := 5) scN rfl (.inl (by kernel_rfl)) (hf := .inl rfl) sgn_nil)))))
      (sb_cons (ss_if (st_w (sw_or (st_not (st_truth (se_call (G__law_seated_right _ TB) (hr.mono (by decide)) hgd (gl_of (by kernel_rfl)) (h.glo 56 (x := "_law_seated_right") rfl) F__law_seated_right.kp cb3 rfl tk (sal_cons (se_var (j := 2) rfl (.inl (by kernel_rfl))) (sal_cons (se_make blind_Bench_init (h.mkr 38 (x := "Bench") rfl) (G_Bench_init _ TB) (hr.mono (by decide)) hgd (gl_of (by kernel_rfl)) (h.glo 17 (x := "Bench") rfl) cb4 rfl tk (sal_cons (se_var (j := 3) rfl (.inl (by kernel_rfl))) (sal_cons (se_var (j := 4) rfl (.inl (by kernel_rfl))) sal_nil))) (sal_cons (se_var (j := 5) rfl (.inl (by kernel_rfl))) sal_nil)))))) (sw_or1 (st_not (st_truth (se_call (G__law_right _ TB) (hr.mono (by decide)) hgd (gl_of (by kernel_rfl)) (h.glo 60 (x := "_law_right") rfl) F__law_right.kp cb5 rfl tk (sal_cons (se_var (j := 2) rfl (.inl (by kernel_rfl))) (sal_cons (se_make blind_Bench_init (h.mkr 38 (x := "Bench") rfl) (G_Bench_init _ TB) (hr.mono (by decide)) hgd (gl_of (by kernel_rfl)) (h.glo 17 (x := "Bench") rfl) cb4 rfl tk (sal_cons (se_var (j := 3) rfl (.inl (by kernel_rfl))) (sal_cons (se_var (j := 4) rfl (.inl (by kernel_rfl))) sal_nil))) sal_nil)))))))) (sb_one (ss_ret se_bl)) sb_nil)
      (sb_one (ss_for (passes_of rfl) rfl (si_range1 (gl_of (by kernel_rfl)) (h.free 3 (x := "range") rfl) (sa_cons se_int sa_nil)) (sg_name (j := 6) scN rfl (.inl (by kernel_rfl)) (hf := .inl rfl)) (sb_cons (ss_set (j := 3) scN rfl (.inl (by kernel_rfl)) (hf := .inl rfl) (se_bin op_addD se_int (se_call (G__law_draw _ TB) (hr.mono (by decide)) hgd (gl_of (by kernel_rfl)) (h.glo 8 (x := "_law_draw") rfl) F__law_draw.kp cb6 rfl tk (sal_cons (se_var (j := 2) rfl (.inl (by kernel_rfl))) (sal_cons se_int sal_nil)))))
      (sb_one (ss_if (st_not (st_truth (se_call (G__law_right _ TB) (hr.mono (by decide)) hgd (gl_of (by kernel_rfl)) (h.glo 60 (x := "_law_right") rfl) F__law_right.kp cb5 rfl tk (sal_cons (se_var (j := 2) rfl (.inl (by kernel_rfl))) (sal_cons (se_make blind_Bench_init (h.mkr 38 (x := "Bench") rfl) (G_Bench_init _ TB) (hr.mono (by decide)) hgd (gl_of (by kernel_rfl)) (h.glo 17 (x := "Bench") rfl) cb4 rfl tk (sal_cons (se_var (j := 3) rfl (.inl (by kernel_rfl))) (sal_cons (se_call (G__law_any_folk _ TB) (hr.mono (by decide)) hgd (gl_of (by kernel_rfl)) (h.glo 61 (x := "_law_any_folk") rfl) F__law_any_folk.kp cb7 rfl tk (sal_cons (se_var (j := 2) rfl (.inl (by kernel_rfl))) (sal_cons (se_var (j := 3) rfl (.inl (by kernel_rfl))) sal_nil))) sal_nil))) sal_nil))))) (sb_one (ss_ret se_bl)) sb_nil)))))))))
      (sb_one (ss_ret se_bl))))
  exact ⟨fd, F, G⟩
end K22
open PySem PySem.W PySem.Calls PyProof.Rows L2 Bx in
theorem PySem.Challenge.cw_benchstretch_k22_whole_seated_stays_so_holds : PySem.Challenge.rw_benchstretch_k22_whole_seated_stays_so.Holds := by
  w_on; o_law
  refine HandSHeadRun.head_any (r := OpenLaw.row PySem.Challenge.rw_benchstretch_k22_whole_seated_stays_so) (q := view (OpenLaw.row PySem.Challenge.rw_benchstretch_k22_whole_seated_stays_so).prog [45]) (H := K22.hk) (ob := K22.ob) (M := 8000) (loose := K22.names) (d := HandSHeadRun.topDef (OpenLaw.row PySem.Challenge.rw_benchstretch_k22_whole_seated_stays_so).prog 45) (kwd := []) K22.ob_eq
    (by kernel_rfl) (fun s => by kernel_rfl) K22.run (by kernel_rfl) (by kernel_rfl) (by kernel_rfl) (by rfl) (by first | assumption | decide +kernel) (by decide +kernel) ⟨rfl, rfl, rfl, rfl, rfl, by decide +kernel⟩ ?hw ?hc
  case hw => w_witness2
  case hc =>
    refine Bx.walk_endT (p := ("seated", none)) (l := PySem.Challenge.rw_benchstretch_k22_whole_seated_stays_so) (n := 63) (k := 11) (x := "_law_script") rfl (by decide) (by kernel_rfl) ⟨rfl, by decide, by decide⟩ ?F
    intro w mg fa h Y G hmg0
    obtain ⟨K, KX, c⟩ := Y
    have hy : K22.Hyp K mg := ⟨⟨h, KX, G⟩, c.d, c.ex⟩
    have e1 : (HandSHeadRun.topDef (OpenLaw.row PySem.Challenge.rw_benchstretch_k22_whole_seated_stays_so).prog 45).name = ("law" : PySem.Str) := by kernel_rfl
    rw [e1] at hmg0
    have e2 := hmg0.symm.trans (hy.glo 62 (x := "law") rfl)
    cases e2
    obtain ⟨fd, F, GG⟩ := K22.ok_law (P := (PySem.Challenge.rw_benchstretch_k22_whole_seated_stays_so).prog) (w := w) hy
    exact ⟨K, fd, K22.den_law, KX, c.empty _ List.mem_cons_self, c.out _ List.mem_cons_self, c.hd _ List.mem_cons_self, fun s v => FunD.bindsA (ps := ["_law_script"]) F (fun _ _ _ _ _ _ us hl => match us, hl with | [_], _ => rfl) s [v] rfl, K22.law_true, fun base _ _ TB => GG base TB⟩
