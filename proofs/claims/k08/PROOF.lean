import PyProof.Rows.All
import Wide.All
import OpenK.AllK
import Wide.FinOn
import HandS.Base
import HandS.SetKeys
import KE.KeyNested
import KE.KDictDisplayH
import PyProof.DictRoadsH
import HandS.Head2
import HandS.HeadWalk
import PySem.Challenge.RW_benchstretch_k08_whole_any_text_of_a_ben
import HandS.HeadHook4
import PyProof.EqAt
import PyProof.EqKinds
import PyProof.TupleCall
import HandS.Call
import HandS.List
import HandS.Exc
import HandS.ExcOwn
import HandS.CallSlots
import HandS.Defaults
import HandS.HeadHook1
import HandS.HeadHook2
import HandS.Lambda
import HandS.TupAny
import HandS.Text
import HandS.IsInst
import HandS.Style
import HandS.Comp
import HandS.Iter
import HandS.Slots
import KE.KUnpackStar
import HandS.Ends
import HandS.HeadEnd
import KE.GoesMore
import KE.GoesEnum
import PyProof.EnumMake
import PyProof.Rows.SortShellAny
import PyProof.ReprRoads
import PyProof.Rows.TupMore
import HandS.Codes
import HandS.Words
import HandS.Dict
import HandS.DictComp
import HandS.RaiseMore
import PyProof.FString2
import HandS.More
import HandS.Strs
import HandS.ExcInit
import HandS.TryOnly
import HandS.ClsMeth
import KE.KExcInit
import KE.KTryMore
import PyProof.ExcBaseAll.RuntimeError
import KE.SortKeyHeap
import PyProof.TupleOfSeq
import HandS.Sort
import HandS.OwnEq
import HandS.HotCalls
import HandS.ExcField
import KE.KExcIs
import HandS.SetFor
import HandS.FStr
import KE.KCallOwn
import HandS.ReplaceLit
import HandS.TupMul
import KE.DataEq
import HandS.Set
import HandS.Small
import HandS.Conv
import HandS.Flow
import KE.DataMinMax
import KE.DataFind
import PyProof.DictUpdate
import HandS.NamedTupGet
import PyProof.FactsAll.set_3
import KE.GoesEnumKw
import PyProof.Rows.CallKwBuiltin
import PyProof.InstEq
import KE.KIntText
import HandS.DictEq
import PyProof.Rows.Range3
import HandS.WideBits
import HandS.NoneIn
import HandS.EndTab
import KE.SortUse
import HandS.ExcValue
import HandS.SortKw
import KE.KDictPairs
import KE.KDictKeyed
import HandS.Zip
import PyProof.StrOps
import KE.KDictCopyH
import KE.KDictList
import KE.KDictWalk
import HandS.SuiteRaise
import HandS.ExcInitHot
import HandS.Finally
import PyProof.SeqInW
import PyProof.MeetsIn
set_option Elab.async false
set_option linter.all false
set_option maxRecDepth 100000
set_option maxHeartbeats 4000000
namespace Bx
open PySem L2 PySem.Spec PyProof.Rows
def frB (n : Nat) (g : Addr → Option Obj) : PySem.W.Frag := He.frT g (cStatics :: sysModules :: He.asD g n)
abbrev AlB : Type := He.AlD × Bool
def obsB (n : Nat) (fa : List He.Fa) (fn : List He.DefD) (ex : PySem.W.Frag → Bool) (g : Addr → Option Obj) : AlB := (He.obsD fa fn (frB n g), ex (frB n g))
def hookB (n : Nat) (fa : List He.Fa) (fn : List He.DefD) (ex : PySem.W.Frag → Bool) : PySem.W.Hook where
  α := AlB
  obs := fun s => obsB n fa fn ex s.heap.get?
  val := fun _ => (He.valD fn, true)
  says := fun _ h => ∃ K : PySem.W.Frag, K.In h ∧ He.SaysD fa fn K ∧ ex K = true
  of := fun _ _ e => ⟨_, He.frT_in, congrArg (fun z : AlB => z.1) e, congrArg (fun z : AlB => z.2) e⟩
  keeps := fun _ _ _ ⟨K, hK, c⟩ k => ⟨K, PySem.W.Frag.In.keeps hK k, c⟩
theorem obsB_eq {n : Nat} {fa : List He.Fa} {fn : List He.DefD} {ex : PySem.W.Frag → Bool} {g : Addr → Option Obj} {s : Shared} (h : ∀ a, g a = s.heap.get? a) : obsB n fa fn ex g = (hookB n fa fn ex).obs s := by
  have e : g = s.heap.get? := funext h
  rw [e] <;> rfl
end Bx
namespace Bx
open PySem PySem.W L2 HandSHeadRun
/-- the run, and one look at its end -/
def RunOb (r : PySem.W.OpenRow) (M n : Nat) (fa : List He.Fa) (fn : List He.DefD) (ex : PySem.W.Frag → Bool) (w : World) : Prop :=
  ∀ os : OsState, (endF (stepQ (denQ HandSHeadRun.tabQ) r.prog w) M r.prog w os).map (fun s => obsB n fa fn ex (getT s)) = some (He.valD fn, true)
theorem obsB_join {n : Nat} {fa : List He.Fa} {fn : List He.DefD} {es : List (PySem.W.Frag → Bool)} {ex : PySem.W.Frag → Bool} {g : Addr → Option Obj} (h1 : obsB n fa [] (fun _ => true) g = (He.valD [], true)) (h2 : obsB n [] fn (fun _ => true) g = (He.valD fn, true))
    (h3 : ∀ e ∈ es, obsB n [] [] e g = (He.valD [], true)) (he : ∀ K, (∀ e ∈ es, e K = true) → ex K = true) : obsB n fa fn ex g = (He.valD fn, true) := by
  have a1 := congrArg (fun z : AlB => z.1.1) h1
  have a2 := congrArg (fun z : AlB => z.1.1) h2
  have a3 := congrArg (fun z : AlB => z.1.2) h2
  have a4 : ∀ e ∈ es, e (frB n g) = true := fun e m => congrArg (fun z : AlB => z.2) (h3 e m)
  simp only [obsB, He.obsD, He.valD, List.all_nil, Bool.and_true, Bool.true_and] at a1 a2 a3
  show ((((fa.all fun f => f.ok (frB n g)) && fn.all fun d => d.ok (frB n g)), fn.map fun d => He.fnW (frB n g) d.at_), ex (frB n g)) = ((true, fn.map He.DefD.val), true)
  rw [a1, a2, a3, he _ a4]
  rfl
theorem run_of {r : PySem.W.OpenRow} {q : Program} {M n : Nat} {loose : List PySem.Str} {w : World} {fa : List He.Fa} {fn : List He.DefD} {es : List (PySem.W.Frag → Bool)} {ex : PySem.W.Frag → Bool}
    (h1 : RunEq r q (hookB n fa [] fun _ => true) (fun s => obsB n fa [] (fun _ => true) (getT s)) M loose w) (h2 : RunOb r M n [] fn (fun _ => true) w) (h3 : ∀ e ∈ es, RunOb r M n [] [] e w)
    (he : ∀ K, (∀ e ∈ es, e K = true) → ex K = true) : RunEq r q (hookB n fa fn ex) (fun s => obsB n fa fn ex (getT s)) M loose w := fun os => by
  obtain ⟨s, hs, hv⟩ := Option.map_eq_some_iff.mp (h1 os)
  have hv : (looksF r.prog (boot_heap w.params) s.abs, seenQ q loose (importedModules r.prog.main.body) (fun s => xlAt q [] s && recOk r.toRowW.records s) s.abs, obsB n fa [] (fun _ => true) (getT s)) = (true, openGood q loose, (He.valD [], true)) := hv
  obtain ⟨l1, l2, l3⟩ : _ ∧ _ ∧ _ := by simpa only [Prod.mk.injEq] using hv
  have b2 := h2 os
  rw [hs] at b2
  have b2 : obsB n [] fn (fun _ => true) (getT s) = (He.valD fn, true) := Option.some.inj b2
  have b3 : ∀ e ∈ es, obsB n [] [] e (getT s) = (He.valD [], true) := fun e m => by
    have z := h3 e m os
    rw [hs] at z
    exact Option.some.inj z
  rw [hs]
  show some (looksF r.prog (boot_heap w.params) s.abs, seenQ q loose (importedModules r.prog.main.body) (fun s => xlAt q [] s && recOk r.toRowW.records s) s.abs, obsB n fa fn ex (getT s)) = some (true, openGood q loose, (He.valD fn, true))
  rw [l1, l2, obsB_join l3 b2 b3 he]
end Bx
namespace Bx
open PySem PySem.W L2 HandSHeadRun
end Bx
namespace K08
open PySem PySem.Spec PyProof.Rows L2 Bx
def fa : List He.Fa := [.free "len", .free "min", .free "max", .free "range", .free "divmod", .glo "_law_draw", .free "str", .glo "_law_row", .glo "_law_bent", .free "abs", .glo "_law_cell", .glo "_law_hand", .glo "_law_lines", .free "isinstance", .glo "BenchError", .glo "NoText", .free "int", .free "bool", .glo "is_whole", .int "MOST_SEATS" 12, .glo "NoSeats", .free "tuple", .glo "NoPeople", .free "set", .free "enumerate", .free "all", .glo "is_name", .glo "is_seat", .glo "is_stretch", .glo "is_person", .glo "first_odd", .cls "Bench", .noat "Bench" "seats", .noat "Bench" "people", .str "FIGURES" "0123456789", .glo "figured", .mkr "Bench", .glo "Bench", .glo "bare_bench", .meth "Bench" "plus", .glo "with_row", .glo "read_bench", .meth "Bench" "__str__", .glo "_law_told", .free "repr", .glo "_law_is_number", .glo "_law_is_name", .glo "_law_person", .glo "_law_due", .glo "law"]
def nm0 : List PySem.Str := ["_wall", "MOST_SEATS", "__name__", "BenchError", "NoSeats", "NoPeople", "NoName", "NoText", "is_whole", "is_name", "is_seat", "is_stretch", "is_person", "first_odd", "Bench", "FIGURES", "figured", "bare_bench", "with_row", "read_bench", "_law_cell", "_law_hand", "_law_draw", "_law_row", "_law_bent", "_law_lines", "_law_is_number", "_law_is_name", "_law_person", "_law_due"]
def nm1 : List PySem.Str := ["_law_told"]
def names : List PySem.Str := nm0 ++ nm1
abbrev RowR : PySem.W.OpenRow := PySem.W.OpenLaw.row PySem.Challenge.rw_benchstretch_k08_whole_any_text_of_a_ben
theorem runA (w : World) : HandSHeadRun.RunEq RowR (PySem.W.view RowR.prog [34]) (hookB 7 fa [] fun _ => true) (fun s => obsB 7 fa [] (fun _ => true) (HandSHeadRun.getT s)) 8000 names w := by
  intro os
  kernel_rfl
end K08
namespace Bx
open PySem L2 PySem.Spec PyProof.Rows
mutual
/-- the value is the key -/
def NkV (K : PySem.W.Frag) (H : Hp) : NestedKey → V → Prop
  | .none, v => v = .non
  | .num i, v => v = .int i
  | .text x, v => v = .str x
  | .tup ks, v => ∃ a vs, v = .ref a ∧ SqT K H a vs ∧ NkL K H ks vs
def NkL (K : PySem.W.Frag) (H : Hp) : List NestedKey → List V → Prop
  | [], vs => vs = []
  | k :: ks, vs => ∃ v r, vs = v :: r ∧ NkV K H k v ∧ NkL K H ks r
end
mutual
theorem NkV.mono {K : PySem.W.Frag} {H H' : Hp} (e : ∀ a xs, SqT K H a xs → SqT K H' a xs) : ∀ (k : NestedKey) (v : V), NkV K H k v → NkV K H' k v
  | .none, _, h => h
  | .num _, _, h => h
  | .text _, _, h => h
  | .tup ks, _, ⟨a, vs, q, s, r⟩ => ⟨a, vs, q, e a vs s, NkL.mono e ks vs r⟩
theorem NkL.mono {K : PySem.W.Frag} {H H' : Hp} (e : ∀ a xs, SqT K H a xs → SqT K H' a xs) : ∀ (k : List NestedKey) (v : List V), NkL K H k v → NkL K H' k v
  | [], _, h => h
  | k :: ks, _, ⟨v, r, q, h1, h2⟩ => ⟨v, r, q, NkV.mono e k v h1, NkL.mono e ks r h2⟩
end
abbrev NRow := NestedKey × Addr × V
def NT : List NRow → List (NestedKey × Addr × Value) → Prop := Paired fun p q => p.1 = q.1 ∧ p.2.1 = q.2.1 ∧ RelV p.2.2 q.2.2
/-- the dict at a: its rows, each a key, the key's place, a value -/
def DictP (P : Program) (w : World) (a : Addr) (rows : List NRow) (h : Heap) : Prop := rows.length ≤ sizeLine ∧ (a == sysModules) = false ∧ ∃ xs, NT rows xs ∧ ∃ o es ep, h.get? a = some o ∧ o.ExactDict ∧ o.data = .dict es ep ∧ es.toList = xs.map (entryOfKey (nestedKind P w)) ∧ (xs.map (·.1)).Nodup
def DictN (P : Program) (w : World) (a : Addr) (rows : List NRow) : HO := .ext (DictP P w a rows)
end Bx
namespace Bx
open PySem L2
/-- what stands by itself: the written part, the program, the world -/
structure KK where
  K : PySem.W.Frag
  P : Program
  w : World
abbrev kk (X : Cx) : KK := ⟨X.K, X.prog, X.w⟩
/-- a caught exception: where it stands, its class, where its dict stands -/
structure EX where
  a : Addr
  cn : Str
  dd : Option Addr
  deriving DecidableEq
inductive D where
  | non | bl (b : Bool) | int (i : Int) | str (x : Str)
  | tup (xs : List D) | lst (xs : List D) | dct (kvs : List (Key × D))
  | obj (c : Str) (fs : List (Str × D))
  | ref (i : Nat) | loc (j : Nat) | glo (x : Str) | ty (n : String) | scr (ns : List Int) | twk (xs : List D) | exv (e : EX) (fs : List (Str × D)) | dcn (kvs : List (NestedKey × D))
/-- what a changing object holds -/
inductive MO where
  | lst (xs : List D) | dct (kvs : List (Key × D)) | ins (c : Str) (fs : List (Str × D)) | set (ks : List Key) | slf (c : Str) (x dx : Addr) (fs : List (Str × D)) | dcn (kvs : List (NestedKey × D)) | tab (p : He.Defn)
inductive Sl where
  | no | val (d : D) | own (m : MO)
structure S where
  ρ : List Sl
  μ : List MO
/-- an exception: its class, its field -/
structure Xc where
  cls : Str
  fld : Option (Str × D)
inductive R (α : Type) where
  | ok (a : α) (s : S) | exc (x : Xc) (s : S) | bad
abbrev M (α : Type) := S → R α
def R.bind {α β : Type} (r : R α) (f : α → M β) : R β := match r with
  | .ok a s => f a s
  | .exc x s => .exc x s
  | .bad => .bad
def bnd {α β : Type} (m : M α) (f : α → M β) : M β := fun s => (m s).bind f
def pur {α : Type} (a : α) : M α := fun s => .ok a s
/-- a statement's end -/
inductive RS where
  | nx (s : S) | rt (d : D) (s : S) | bk (s : S) | ct (s : S) | exc (x : Xc) (s : S) | bad
abbrev MS := S → RS
def lockable : HO → Prop
  | .dK _ => True
  | .dT _ => True
  | .ext _ => True
  | _ => False
def Rx (F : Hp) (a : Addr) (u : HO) : Prop := F a = some u ∨ (lockable u ∧ ∃ o, F a = some (.frz o u))
def Ex (F F' : Hp) : Prop := ∀ a u, Rx F a u → Rx F' a u
theorem Ex.refl (F : Hp) : Ex F F := fun _ _ h => h
theorem Ex.trans {F G H : Hp} (a : Ex F G) (b : Ex G H) : Ex F H := fun x u h => b x u (a x u h)
theorem Ex.new {F : Hp} {p : Addr} {o : HO} (h : F p = none) : Ex F (upd F p o) := fun a u e => by
  have ne : a ≠ p := by
    rintro rfl
    rcases e with e | ⟨_, _, e⟩ <;> (rw [h] at e; cases e)
  rcases e with e | ⟨l, o', e⟩
  · exact .inl (by rw [upd_ne ne]; exact e)
  · exact .inr ⟨l, o', by rw [upd_ne ne]; exact e⟩
theorem Rx.some {F : Hp} {a : Addr} {u : HO} (h : Rx F a u) : F a ≠ none := by
  rcases h with e | ⟨_, _, e⟩ <;> (rw [e]; simp)
theorem Rx.rd {F : Hp} {a : Addr} {u : HO} (h : Rx F a u) : Rd F a u := by
  rcases h with e | ⟨_, o, e⟩
  · exact .inl e
  · exact .inr ⟨o, e⟩
theorem ex_l {K : PySem.W.Frag} {F F' : Hp} {a : Addr} {xs : List V} (e : Ex F F') (h : SqL K F a xs) : SqL K F' a xs := by
  rcases h with (h | ⟨o, h⟩) | h
  · exact .inl (e a _ (.inl h)).rd
  · rcases e a (.frz o (.lst xs)) (.inl h) with z | ⟨z, _⟩
    · exact .inl (.inr ⟨o, z⟩)
    · exact z.elim
  · exact .inr h
theorem ex_t {K : PySem.W.Frag} {F F' : Hp} {a : Addr} {xs : List V} (e : Ex F F') (h : SqT K F a xs) : SqT K F' a xs := by
  rcases h with (h | ⟨o, h⟩) | h
  · exact .inl (e a _ (.inl h)).rd
  · rcases e a (.frz o (.tup xs)) (.inl h) with z | ⟨z, _⟩
    · exact .inl (.inr ⟨o, z⟩)
    · exact z.elim
  · exact .inr h
/-- a tuple whose object has no dict -/
def SqX (K : PySem.W.Frag) (F : Hp) (a : Addr) (xs : List V) : Prop := (∃ o, F a = some (.frz o (.tup xs)) ∧ o.dict = none) ∨
  ∃ (o : Obj) (its : Array Value) (n : Nat), K.lookup a = some o ∧ o.cls = .type "tuple" ∧ o.data = .seq its n ∧ its.size ≤ sizeLine ∧ Vals xs its.toList ∧ o.dict = none
theorem SqX.t {K : PySem.W.Frag} {F : Hp} {a : Addr} {xs : List V} (h : SqX K F a xs) : SqT K F a xs := by
  rcases h with ⟨o, h, _⟩ | ⟨o, its, n, h1, h2, h3, h4, h5, _⟩
  · exact .inl (.inr ⟨o, h⟩)
  · exact .inr ⟨o, its, n, h1, h2, h3, h4, h5⟩
theorem SqX.of {K : PySem.W.Frag} {F : Hp} {a : Addr} {xs : List V} {o : Obj} (h : F a = some (.frz o (.tup xs))) (hd : o.dict = none) : SqX K F a xs := .inl ⟨o, h, hd⟩
theorem ex_x {K : PySem.W.Frag} {F F' : Hp} {a : Addr} {xs : List V} (e : Ex F F') (h : SqX K F a xs) : SqX K F' a xs := by
  rcases h with ⟨o, h, hd⟩ | h
  · rcases e a (.frz o (.tup xs)) (.inl h) with z | ⟨z, _⟩
    · exact .inl ⟨o, z, hd⟩
    · exact z.elim
  · exact .inr h
theorem ex_i {F F' : Hp} {a : Addr} {u : HO} (e : Ex F F') (hu : ¬ lockable u) (h : F a = some u) : F' a = some u := by
  rcases e a u (.inl h) with z | ⟨z, _⟩
  · exact z
  · exact (hu z).elim
mutual
/-- the value is the key, its tuples without dicts -/
def NkX (K : PySem.W.Frag) (H : Hp) : NestedKey → V → Prop
  | .none, v => v = .non
  | .num i, v => v = .int i
  | .text x, v => v = .str x
  | .tup ks, v => ∃ a vs, v = .ref a ∧ SqX K H a vs ∧ NkXL K H ks vs
def NkXL (K : PySem.W.Frag) (H : Hp) : List NestedKey → List V → Prop
  | [], vs => vs = []
  | k :: ks, vs => ∃ v r, vs = v :: r ∧ NkX K H k v ∧ NkXL K H ks r
end
section
variable {K : PySem.W.Frag} {H H' : Hp}
mutual
theorem NkX.mono (e : Ex H H') : ∀ (k : NestedKey) (v : V), NkX K H k v → NkX K H' k v
  | .none, _, h => h
  | .num _, _, h => h
  | .text _, _, h => h
  | .tup ks, _, ⟨a, vs, q, s, r⟩ => ⟨a, vs, q, ex_x e s, NkXL.mono e ks vs r⟩
theorem NkXL.mono (e : Ex H H') : ∀ (k : List NestedKey) (v : List V), NkXL K H k v → NkXL K H' k v
  | [], _, h => h
  | k :: ks, _, ⟨v, r, q, h1, h2⟩ => ⟨v, r, q, NkX.mono e k v h1, NkXL.mono e ks r h2⟩
theorem NkX.weak : ∀ (k : NestedKey) (v : V), NkX K H k v → NkV K H k v
  | .none, _, h => h
  | .num _, _, h => h
  | .text _, _, h => h
  | .tup ks, _, ⟨a, vs, q, s, r⟩ => ⟨a, vs, q, s.t, NkXL.weak ks vs r⟩
theorem NkXL.weak : ∀ (k : List NestedKey) (v : List V), NkXL K H k v → NkL K H k v
  | [], _, h => h
  | k :: ks, _, ⟨v, r, q, h1, h2⟩ => ⟨v, r, q, NkX.weak k v h1, NkXL.weak ks r h2⟩
end
end
/-- the dict of an exception -/
def xdAt (F : Hp) : Option Addr → List (Str × V) → Prop
  | none, fs => fs = []
  | some x, fs => F x = some (.xd fs)
theorem ex_xd {F F' : Hp} {d : Option Addr} {fs : List (Str × V)} (e : Ex F F') (h : xdAt F d fs) : xdAt F' d fs := by
  cases d with
  | none => exact h
  | some x => exact ex_i e (fun z => z) h
mutual
def Rp (K : KK) (F : Hp) (adr : List Addr) : D → V → Prop
  | .non, v => v = .non
  | .bl b, v => v = .bl b
  | .int i, v => v = .int i
  | .str x, v => v = .str x
  | .tup ds, v => ∃ a vs, v = .ref a ∧ SqX K.K F a vs ∧ RpL K F adr ds vs
  | .twk ds, v => ∃ a vs, v = .ref a ∧ SqT K.K F a vs ∧ RpL K F adr ds vs
  | .lst ds, v => ∃ a vs, v = .ref a ∧ F a = some (.lst vs) ∧ RpL K F adr ds vs
  | .dct kds, v => ∃ a kvs, v = .ref a ∧ Rx F a (.dK kvs) ∧ RpK K F adr kds kvs
  | .obj c fds, v => ∃ a dx fs, v = .ref a ∧ F a = some (.ins (He.ga K.K c) dx fs) ∧ RpF K F adr fds fs
  | .ref i, v => ∃ a, adr[i]? = some a ∧ v = .ref a
  | .loc _, _ => False
  | .glo x, v => v = .ref (He.ga K.K x)
  | .ty n, v => v = .ty n
  | .scr ns, v => ∃ a, v = .ref a ∧ SqL K.K F a (ns.map V.int)
  | .exv e fds, v => v = .ref e.a ∧ ∃ fs, xdAt F e.dd fs ∧ RpF K F adr fds fs
  | .dcn kds, v => ∃ a rows, v = .ref a ∧ Rx F a (DictN K.P K.w a rows) ∧ RpN K F adr kds rows
def RpL (K : KK) (F : Hp) (adr : List Addr) : List D → List V → Prop
  | [], vs => vs = []
  | d :: ds, vs => ∃ v r, vs = v :: r ∧ Rp K F adr d v ∧ RpL K F adr ds r
def RpK (K : KK) (F : Hp) (adr : List Addr) : List (Key × D) → List (Key × V) → Prop
  | [], kvs => kvs = []
  | (k, d) :: ds, kvs => ∃ v r, kvs = (k, v) :: r ∧ Rp K F adr d v ∧ RpK K F adr ds r
def RpF (K : KK) (F : Hp) (adr : List Addr) : List (Str × D) → List (Str × V) → Prop
  | [], kvs => kvs = []
  | (k, d) :: ds, kvs => ∃ v r, kvs = (k, v) :: r ∧ Rp K F adr d v ∧ RpF K F adr ds r
def RpN (K : KK) (F : Hp) (adr : List Addr) : List (NestedKey × D) → List NRow → Prop
  | [], rows => rows = []
  | (k, d) :: kvs, rows => ∃ b v r, rows = (k, b, v) :: r ∧ NkX K.K F k (.ref b) ∧ k.depth ≤ 8 ∧ Rp K F adr d v ∧ RpN K F adr kvs r
end
section
variable {K : KK} {F F' H H' : Hp} {adr adr' : List Addr}
theorem pre_get {i : Nat} {a : Addr} (p : adr <+: adr') (h : adr[i]? = some a) : adr'[i]? = some a := by
  obtain ⟨t, rfl⟩ := p
  rw [List.getElem?_append_left (List.getElem?_eq_some_iff.mp h).1]
  exact h
mutual
theorem Rp.mono (e : Ex F F') (p : adr <+: adr') : ∀ (d : D) (v : V), Rp K F adr d v → Rp K F' adr' d v
  | .non, _, h => h
  | .bl _, _, h => h
  | .int _, _, h => h
  | .str _, _, h => h
  | .tup ds, _, ⟨a, vs, q, s, r⟩ => ⟨a, vs, q, ex_x e s, RpL.mono e p ds vs r⟩
  | .twk ds, _, ⟨a, vs, q, s, r⟩ => ⟨a, vs, q, ex_t e s, RpL.mono e p ds vs r⟩
  | .lst ds, _, ⟨a, vs, q, s, r⟩ => ⟨a, vs, q, ex_i e (fun z => z) s, RpL.mono e p ds vs r⟩
  | .dct ds, _, ⟨a, vs, q, s, r⟩ => ⟨a, vs, q, e _ _ s, RpK.mono e p ds vs r⟩
  | .obj _ ds, _, ⟨a, dx, vs, q, s, r⟩ => ⟨a, dx, vs, q, ex_i e (fun z => z) s, RpF.mono e p ds vs r⟩
  | .ref i, _, ⟨a, q, s⟩ => ⟨a, pre_get p q, s⟩
  | .loc _, _, h => h.elim
  | .glo _, _, h => h
  | .ty _, _, h => h
  | .scr _, _, ⟨a, q, s⟩ => ⟨a, q, ex_l e s⟩
  | .exv _ ds, _, ⟨q, fs, s, r⟩ => ⟨q, fs, ex_xd e s, RpF.mono e p ds fs r⟩
  | .dcn ds, _, ⟨a, rows, q, s, r⟩ => ⟨a, rows, q, e _ _ s, RpN.mono e p ds rows r⟩
theorem RpL.mono (e : Ex F F') (p : adr <+: adr') : ∀ (d : List D) (v : List V), RpL K F adr d v → RpL K F' adr' d v
  | [], _, h => h
  | d :: ds, _, ⟨v, r, q, h1, h2⟩ => ⟨v, r, q, Rp.mono e p d v h1, RpL.mono e p ds r h2⟩
theorem RpK.mono (e : Ex F F') (p : adr <+: adr') : ∀ (d : List (Key × D)) (v : List (Key × V)), RpK K F adr d v → RpK K F' adr' d v
  | [], _, h => h
  | (_, d) :: ds, _, ⟨v, r, q, h1, h2⟩ => ⟨v, r, q, Rp.mono e p d v h1, RpK.mono e p ds r h2⟩
theorem RpF.mono (e : Ex F F') (p : adr <+: adr') : ∀ (d : List (Str × D)) (v : List (Str × V)), RpF K F adr d v → RpF K F' adr' d v
  | [], _, h => h
  | (_, d) :: ds, _, ⟨v, r, q, h1, h2⟩ => ⟨v, r, q, Rp.mono e p d v h1, RpF.mono e p ds r h2⟩
theorem RpN.mono (e : Ex F F') (p : adr <+: adr') : ∀ (d : List (NestedKey × D)) (rows : List NRow), RpN K F adr d rows → RpN K F' adr' d rows
  | [], _, h => h
  | (k, d) :: kvs, _, ⟨b, v, r, q, h1, h2, h3, h4⟩ => ⟨b, v, r, q, NkX.mono e k _ h1, h2, Rp.mono e p d v h3, RpN.mono e p kvs r h4⟩
end
/-- the items of a tuple -/
def unT : D → Option (List D)
  | .tup ds => some ds
  | .twk ds => some ds
  | _ => none
theorem unT_ok {d : D} {v : V} {ds : List D} (h : unT d = some ds) (r : Rp K F adr d v) : ∃ a vs, v = .ref a ∧ SqT K.K F a vs ∧ RpL K F adr ds vs := by
  cases d <;> first | (cases h; done) | skip
  case tup es => cases h; obtain ⟨a, vs, e, s, q⟩ := r; exact ⟨a, vs, e, s.t, q⟩
  case twk es => cases h; exact r
theorem RpL.length : ∀ {ds : List D} {vs : List V}, RpL K F adr ds vs → vs.length = ds.length
  | [], _, h => by cases h; rfl
  | d :: ds, _, ⟨v, r, q, h1, h2⟩ => by subst q; simp [RpL.length h2]
theorem RpL.get : ∀ {ds : List D} {vs : List V} {i : Nat} {d : D}, RpL K F adr ds vs → ds[i]? = some d → ∃ v, vs[i]? = some v ∧ Rp K F adr d v
  | [], _, _, _, _, e => by simp at e
  | d :: ds, _, 0, _, ⟨v, r, q, h1, h2⟩, e => by subst q; simp at e; subst e; exact ⟨v, rfl, h1⟩
  | d :: ds, _, i + 1, _, ⟨v, r, q, h1, h2⟩, e => by
    subst q
    obtain ⟨u, e1, e2⟩ := RpL.get (i := i) h2 (by simpa using e)
    exact ⟨u, by simpa using e1, e2⟩
theorem RpL.append : ∀ {ds es : List D} {vs ws : List V}, RpL K F adr ds vs → RpL K F adr es ws → RpL K F adr (ds ++ es) (vs ++ ws)
  | [], _, _, _, h, g => by cases h; exact g
  | d :: ds, _, _, _, ⟨v, r, q, h1, h2⟩, g => by subst q; exact ⟨v, _, rfl, h1, RpL.append h2 g⟩
theorem RpL.nil : RpL K F adr [] [] := rfl
theorem RpL.cons {d : D} {ds : List D} {v : V} {vs : List V} (h : Rp K F adr d v) (t : RpL K F adr ds vs) : RpL K F adr (d :: ds) (v :: vs) := ⟨v, vs, rfl, h, t⟩
theorem RpL.one {d : D} {v : V} (h : Rp K F adr d v) : RpL K F adr [d] [v] := .cons h .nil
theorem RpL.take : ∀ {ds : List D} {vs : List V} (n : Nat), RpL K F adr ds vs → RpL K F adr (ds.take n) (vs.take n)
  | _, _, 0, _ => by simp; exact .nil
  | [], _, _ + 1, h => by cases h; simp; exact .nil
  | d :: ds, _, n + 1, ⟨v, r, q, h1, h2⟩ => by subst q; simp; exact .cons h1 (RpL.take n h2)
theorem RpL.drop : ∀ {ds : List D} {vs : List V} (n : Nat), RpL K F adr ds vs → RpL K F adr (ds.drop n) (vs.drop n)
  | _, _, 0, h => by simpa using h
  | [], _, _ + 1, h => by cases h; simp; exact .nil
  | d :: ds, _, n + 1, ⟨v, r, q, h1, h2⟩ => by subst q; simp; exact RpL.drop n h2
theorem RpL.set : ∀ {ds : List D} {vs : List V} (i : Nat) {d : D} {v : V}, Rp K F adr d v → RpL K F adr ds vs → RpL K F adr (ds.set i d) (vs.set i v)
  | [], _, _, _, _, _, h => by cases h; exact .nil
  | d :: ds, _, 0, _, _, g, ⟨v, r, q, h1, h2⟩ => by subst q; exact .cons g h2
  | d :: ds, _, n + 1, _, _, g, ⟨v, r, q, h1, h2⟩ => by subst q; exact .cons h1 (RpL.set n g h2)
theorem RpL.reverse : ∀ {ds : List D} {vs : List V}, RpL K F adr ds vs → RpL K F adr ds.reverse vs.reverse
  | [], _, h => by cases h; exact .nil
  | d :: ds, _, ⟨v, r, q, h1, h2⟩ => by
    subst q
    rw [List.reverse_cons, List.reverse_cons]
    exact (RpL.reverse h2).append (.one h1)
end
def hasK (ks : List Key) (k : Key) : Bool := ks.any fun j => decide (j = k)
/-- the name that the code objects of a def's table bear -/
def tabQ (p : He.Defn) : Str := (p.1 ++ ".<locals>.") ++ "<lambda>"
def RpO (K : KK) (F : Hp) (adr : List Addr) (a : Addr) : MO → HO → Prop
  | .lst ds, o => ∃ vs, o = .lst vs ∧ RpL K F adr ds vs
  | .dct ds, o => ∃ kvs, o = .dK kvs ∧ RpK K F adr ds kvs
  | .ins c ds, o => ∃ dx fs, o = .ins (He.ga K.K c) dx fs ∧ RpF K F adr ds fs
  | .set ks, o => o = SetK K.P K.w a (hasK ks) ks.length
  | .slf c x dx ds, o => a = x ∧ ∃ fs, o = .ins (He.ga K.K c) dx fs ∧ RpF K F adr ds fs
  | .dcn kvs, o => ∃ rows, o = DictN K.P K.w a rows ∧ RpN K F adr kvs rows
  | .tab p, o => a = (He.cT K.K p).2 ∧ ∃ ps : Array Value, o = .tbl ps ∧ TriplesOk ps.toList ∧ ∀ (pos : Pos) (cv : Value), codeAmong pos ps.toList = some cv → ∃ c, cv = .ref c ∧ Rx F c (LamX.CodeO c (tabQ p))
theorem RpO.mono {K : KK} {F F' : Hp} {adr adr' : List Addr} {a : Addr} (e : Ex F F') (p : adr <+: adr') : ∀ {m : MO} {o : HO}, RpO K F adr a m o → RpO K F' adr' a m o
  | .lst _, _, ⟨vs, q, r⟩ => ⟨vs, q, r.mono e p⟩
  | .dct _, _, ⟨vs, q, r⟩ => ⟨vs, q, r.mono e p⟩
  | .ins _ _, _, ⟨dx, vs, q, r⟩ => ⟨dx, vs, q, r.mono e p⟩
  | .set _, _, h => h
  | .slf _ _ _ _, _, ⟨h, vs, q, r⟩ => ⟨h, vs, q, r.mono e p⟩
  | .dcn _, _, ⟨rows, q, r⟩ => ⟨rows, q, r.mono e p _ _⟩
  | .tab _, _, ⟨h, ps, q, r, f⟩ => ⟨h, ps, q, r, fun pos cv z => by
    obtain ⟨c, e1, e2⟩ := f pos cv z
    exact ⟨c, e1, e _ _ e2⟩⟩
def owns (s : S) (σ : L2.St) (a : Addr) : Prop := ∃ (j : Nat) (m : MO), s.ρ[j]? = some (Sl.own m) ∧ σ[j]? = some (some (V.ref a))
def Fp (adr : List Addr) (s : S) (σ : L2.St) (a : Addr) : Prop := a ∈ adr ∨ owns s σ a
/-- the heap's part: what is frozen stands, the store's objects stand at adr -/
structure AbsH (K : KK) (F : Hp) (adr : List Addr) (μ : List MO) (H : Hp) : Prop where
  sub : Ex F H
  len : adr.length = μ.length
  nd : adr.Nodup
  sto : ∀ (i : Nat) (a : Addr) (m : MO), adr[i]? = some a → μ[i]? = some m → F a = none ∧ ∃ o, H a = some o ∧ RpO K F adr a m o
structure Abs (K : KK) (F : Hp) (adr : List Addr) (s : S) (σ : L2.St) (H : Hp) : Prop extends AbsH K F adr s.μ H where
  lenr : σ.length = s.ρ.length
  slv : ∀ (j : Nat) (d : D), s.ρ[j]? = some (.val d) → ∃ v, σ[j]? = some (some v) ∧ Rp K F adr d v
  slo : ∀ (j : Nat) (m : MO), s.ρ[j]? = some (.own m) → ∃ l o, σ[j]? = some (some (.ref l)) ∧ F l = none ∧ l ∉ adr ∧ H l = some o ∧ RpO K F adr l m o
  dis : ∀ (j j' : Nat) (m m' : MO) (l : Addr), s.ρ[j]? = some (.own m) → s.ρ[j']? = some (.own m') → σ[j]? = some (some (.ref l)) → σ[j']? = some (some (.ref l)) → j = j'
structure Step (F : Hp) (adr : List Addr) (P : Addr → Prop) (H : Hp) (F' : Hp) (adr' : List Addr) (P' : Addr → Prop) (H' : Hp) : Prop where
  ex : Ex F F'
  pre : adr <+: adr'
  keep : ∀ a o, H a = some o → ¬ P a → F a = none → H' a = some o
  foot : ∀ a, P' a → P a ∨ H a = none
  frz : ∀ a, F' a ≠ none → F a ≠ none ∨ H a = none ∨ P a
  there : ∀ a, H a ≠ none → H' a ≠ none
theorem Step.refl {F : Hp} {adr : List Addr} {P : Addr → Prop} {H : Hp} : Step F adr P H F adr P H := ⟨.refl _, List.prefix_refl _, fun _ _ h _ _ => h, fun _ h => .inl h, fun _ h => .inl h, fun _ h => h⟩
theorem Step.trans {F F1 F2 : Hp} {adr adr1 adr2 : List Addr} {P P1 P2 : Addr → Prop} {H H1 H2 : Hp} (a : Step F adr P H F1 adr1 P1 H1) (b : Step F1 adr1 P1 H1 F2 adr2 P2 H2) : Step F adr P H F2 adr2 P2 H2 where
  ex := a.ex.trans b.ex
  pre := a.pre.trans b.pre
  keep := fun x o h n f => b.keep x o (a.keep x o h n f) (fun q => by
    rcases a.foot x q with z | z
    · exact n z
    · rw [z] at h; cases h) (by
    cases e : F1 x with
    | none => rfl
    | some u =>
      rcases a.frz x (by rw [e]; simp) with z | z | z
      · exact (z f).elim
      · rw [z] at h; cases h
      · exact (n z).elim)
  foot := fun x q => by
    rcases b.foot x q with z | z
    · exact a.foot x z
    · refine .inr ?_
      cases e : H x with
      | none => rfl
      | some o => exact absurd z (a.there x (by rw [e]; simp))
  frz := fun x q => by
    rcases b.frz x q with z | z | z
    · exact a.frz x z
    · refine .inr (.inl ?_)
      cases e : H x with
      | none => rfl
      | some o => exact absurd z (a.there x (by rw [e]; simp))
    · rcases a.foot x z with y | y
      · exact .inr (.inr y)
      · exact .inr (.inl y)
  there := fun x h => b.there x (a.there x h)
/-- a value may be a local changing thing -/
def RpV (K : KK) (F : Hp) (adr : List Addr) (σ : L2.St) : D → V → Prop
  | .loc j, v => σ[j]? = some (some v)
  | d, v => Rp K F adr d v
theorem RpV.of {K : KK} {F : Hp} {adr : List Addr} {σ : L2.St} {d : D} {v : V} (h : Rp K F adr d v) : RpV K F adr σ d v := by
  cases d <;> first | exact h | exact h.elim
theorem RpV.mono {K : KK} {F F' : Hp} {adr adr' : List Addr} {σ : L2.St} (e : Ex F F') (p : adr <+: adr') {d : D} {v : V} (h : RpV K F adr σ d v) : RpV K F' adr' σ d v := by
  cases d with
  | loc j => exact h
  | _ => exact RpV.of (Rp.mono e p _ _ (show Rp K F adr _ v from h))
/-- an exception's class, its dict -/
def RpX (K : KK) (F : Hp) (adr : List Addr) (x : Xc) (cls : Value) (dd : Option Addr) (H : Hp) : Prop :=
  cls = .ref (He.ga K.K x.cls) ∧ match x.fld with
    | none => dd = none
    | some (f, d) => ∃ e v, dd = some e ∧ F e = some (.xd [(f, v)]) ∧ Rp K F adr d v
section
variable (K : KK) (W : WX)
def PostG {α β : Type} (rel : Hp → List Addr → α → β → Prop) (F : Hp) (adr : List Addr) (s : S) (σ : L2.St) (H : Hp) (r : R α) (Q : β → Hp → Prop) : Prop := match r with
  | .ok d s' => ∀ v F' adr' H', Step F adr (Fp adr s σ) H F' adr' (Fp adr' s' σ) H' → Abs K F' adr' s' σ H' → rel F' adr' d v → Q v H'
  | .exc x s' => ∀ cls dd F' adr' H', Step F adr (Fp adr s σ) H F' adr' (Fp adr' s' σ) H' → Abs K F' adr' s' σ H' → RpX K F' adr' x cls dd H' → W cls dd σ H'
  | .bad => False
/-- a list of values -/
def RpVs (F : Hp) (adr : List Addr) (σ : L2.St) : List D → List V → Prop
  | [], vs => vs = []
  | d :: ds, vs => ∃ v r, vs = v :: r ∧ RpV K F adr σ d v ∧ RpVs F adr σ ds r
abbrev Post (F : Hp) (adr : List Addr) (s : S) (σ : L2.St) (H : Hp) (r : R D) (Q : VK) : Prop := PostG K W (fun F adr d v => RpV K F adr σ d v) F adr s σ H r Q
abbrev PostA (F : Hp) (adr : List Addr) (s : S) (σ : L2.St) (H : Hp) (r : R (List D)) (Q : List V → Hp → Prop) : Prop := PostG K W (fun F adr d v => RpVs K F adr σ d v) F adr s σ H r Q
abbrev PostT (F : Hp) (adr : List Addr) (s : S) (σ : L2.St) (H : Hp) (r : R Bool) (Q : Bool → Hp → Prop) : Prop := PostG K W (fun _ _ b c => c = b) F adr s σ H r Q
def tI (m : M D) : TE := fun σ H Q => ∃ F adr s, Abs K F adr s σ H ∧ Post K W F adr s σ H (m s) Q
def tA (m : M (List D)) : TA := fun σ H Q => ∃ F adr s, Abs K F adr s σ H ∧ PostA K W F adr s σ H (m s) Q
def tT (m : M Bool) : TT := fun σ H Q => ∃ F adr s, Abs K F adr s σ H ∧ PostT K W F adr s σ H (m s) Q
def PostS (F : Hp) (adr : List Addr) (s : S) (σ : L2.St) (H : Hp) (r : RS) (E : Ends) : Prop := match r with
  | .nx s' => ∀ σ' F' adr' H', Step F adr (Fp adr s σ) H F' adr' (Fp adr' s' σ') H' → Abs K F' adr' s' σ' H' → E.nx σ' H'
  | .bk s' => ∀ σ' F' adr' H', Step F adr (Fp adr s σ) H F' adr' (Fp adr' s' σ') H' → Abs K F' adr' s' σ' H' → E.bk σ' H'
  | .ct s' => ∀ σ' F' adr' H', Step F adr (Fp adr s σ) H F' adr' (Fp adr' s' σ') H' → Abs K F' adr' s' σ' H' → E.ct σ' H'
  | .rt d s' => ∀ σ' v F' adr' H', Step F adr (Fp adr s σ) H F' adr' (Fp adr' s' σ') H' → Abs K F' adr' s' σ' H' → Rp K F' adr' d v → E.rt v H'
  | .exc x s' => ∀ cls dd σ' F' adr' H', Step F adr (Fp adr s σ) H F' adr' (Fp adr' s' σ') H' → Abs K F' adr' s' σ' H' → RpX K F' adr' x cls dd H' → W cls dd σ' H'
  | .bad => False
def tS (m : MS) : TS := fun E σ H => ∃ F adr s, Abs K F adr s σ H ∧ PostS K W F adr s σ H (m s) E
end
/-- the judgements -/
def SE (X : Cx) (W : WX) (e : Expr) (m : M D) : Prop := PE X e (tI (kk X) W m)
def ST (X : Cx) (W : WX) (e : Expr) (m : M Bool) : Prop := PT X e (tT (kk X) W m)
def SA (X : Cx) (W : WX) (es : List Expr) (m : M (List D)) : Prop := PA X es (tA (kk X) W m)
def SS (X : Cx) (W : WX) (st : Stmt) (m : MS) : Prop := PS X st (tS (kk X) W m)
def SB (X : Cx) (W : WX) (st : List Stmt) (m : MS) : Prop := PSs X st (tS (kk X) W m)
section
variable {X : Cx} {W : WX} {K : KK}
theorem PE.imp {e : Expr} {t t' : TE} (h : PE X e t) (q : ∀ σ H Q, t' σ H Q → t σ H Q) : PE X e t' := ⟨fun pins s σ H Q I w => h.run pins s σ H Q I (q σ H Q w)⟩
theorem PT.imp {e : Expr} {t t' : TT} (h : PT X e t) (q : ∀ σ H Q, t' σ H Q → t σ H Q) : PT X e t' := ⟨fun pins s σ H Q I w => h.run pins s σ H Q I (q σ H Q w)⟩
theorem PA.imp {e : List Expr} {t t' : TA} (h : PA X e t) (q : ∀ σ H Q, t' σ H Q → t σ H Q) : PA X e t' := ⟨fun pos pins s σ H Q I w => h.run pos pins s σ H Q I (q σ H Q w)⟩
theorem PS.imp {e : Stmt} {t t' : TS} (h : PS X e t) (q : ∀ D σ H, t' D σ H → t D σ H) : PS X e t' := ⟨fun pins s σ H D I w => h.run pins s σ H D I (q D σ H w)⟩
theorem PSs.imp {e : List Stmt} {t t' : TS} (h : PSs X e t) (q : ∀ D σ H, t' D σ H → t D σ H) : PSs X e t' := ⟨fun pins s σ H D I w => h.run pins s σ H D I (q D σ H w)⟩
variable {F : Hp} {adr : List Addr} {s : S} {σ : L2.St} {H : Hp}
variable {α β γ δ : Type} {rel : Hp → List Addr → α → β → Prop} {rel' : Hp → List Addr → γ → δ → Prop}
theorem PostG.imp {r : R α} {Q Q' : β → Hp → Prop} (h : PostG K W rel F adr s σ H r Q) (q : ∀ v H', Q v H' → Q' v H') : PostG K W rel F adr s σ H r Q' := by
  cases r with
  | ok d s' => exact fun v F' adr' H' a b c => q _ _ (h v F' adr' H' a b c)
  | exc x s' => exact h
  | bad => exact h
/-- from a later state -/
theorem PostG.from {r : R α} {Q : β → Hp → Prop} {F1 : Hp} {adr1 : List Addr} {s1 : S} {H1 : Hp} (st : Step F adr (Fp adr s σ) H F1 adr1 (Fp adr1 s1 σ) H1) (h : PostG K W rel F adr s σ H r Q) : PostG K W rel F1 adr1 s1 σ H1 r Q := by
  cases r with
  | ok d2 s2 => exact fun v2 F2 adr2 H2 st2 ab2 rp2 => h v2 F2 adr2 H2 (st.trans st2) ab2 rp2
  | exc x s2 => exact fun c dd F2 adr2 H2 st2 ab2 rp2 => h c dd F2 adr2 H2 (st.trans st2) ab2 rp2
  | bad => exact h
/-- one expression, then what comes of its value -/
theorem PostG.bind {m : R α} {f : α → M γ} {Q : δ → Hp → Prop} (h : PostG K W rel' F adr s σ H (m.bind f) Q) :
    PostG K W rel F adr s σ H m fun v H1 => ∃ F1 adr1 d s1, Step F adr (Fp adr s σ) H F1 adr1 (Fp adr1 s1 σ) H1 ∧ Abs K F1 adr1 s1 σ H1 ∧ rel F1 adr1 d v ∧ PostG K W rel' F1 adr1 s1 σ H1 (f d s1) Q := by
  cases m with
  | ok d s1 =>
    intro v F1 adr1 H1 st ab rp
    exact ⟨F1, adr1, d, s1, st, ab, rp, PostG.from st h⟩
  | exc x s1 => exact h
  | bad => exact h
end
end Bx
namespace Bx
open PySem L2 PySem.Spec PyProof.Rows
section
variable {X : Cx} {es : List Expr} {t : TA} {pos : Pos}
def rCatX (K : PySem.W.Frag) : R2 := fun x y H Q => ∃ a b xs ys, x = .ref a ∧ y = .ref b ∧ SqT K H a xs ∧ SqT K H b ys ∧ xs.length + ys.length ≤ sizeLine ∧
  (xs = [] → Q (.ref b) H) ∧ (xs ≠ [] → ys = [] → Q (.ref a) H) ∧ (xs ≠ [] → ys ≠ [] → ∀ p o, o.dict = none → H p = none → Q (.ref p) (upd H p (.frz o (.tup (xs ++ ys)))))
theorem op_catX : OpR X (binaryOp .Add) (rCatX X.K) := by
  intro pins s σ H x y v u Q I rx ry h
  obtain ⟨a, b, xs, ys, rfl, rfl, ha, hb, hz, q0, q1, q2⟩ := h
  cases rx
  cases ry
  obtain ⟨its, r1, p1, _⟩ := I.tuple ha
  obtain ⟨its2, r2, p2, _⟩ := I.tuple hb
  by_cases hx : xs = []
  · subst hx
    cases r1
    exact cat_tup0 p1 p2 ⟨.ref b, H, I, rfl, q0 rfl⟩
  · refine HT.cat_tup p1 p2 (fun z => hx (r1.nil_iff.mp z)) (fun z => ⟨.ref a, H, I, rfl, q1 hx (r2.nil_iff.mp z)⟩) (fun z => ?_) (by rw [← r1.length, ← r2.length]; exact hz)
    refine ⟨.ref s.heap.objs.size, _, I.laid (t' := s.toks) (o := .frz _ (.tup (xs ++ ys))) (fun b ob q => Heap.get?_push_of_some _ q) (Nat.le_refl _) ⟨Heap.get?_push_size _ rfl, ?_⟩, rfl, q2 hx (fun w => z (r2.nil_iff.mpr w)) _ _ rfl (I.hok.fresh (Nat.le_refl _))⟩
    exact ⟨by rw [List.length_append]; exact hz, _, r1.append r2, IsTup.new _ _⟩
def rSlX (K : PySem.W.Frag) : V → Option Int → Option Int → Hp → VK → Prop := fun x lo hi H Q => ∃ a xs, x = .ref a ∧ SqT K H a xs ∧
  (HT.sIx xs.length 0 lo = 0 ∧ HT.sIx xs.length xs.length hi = xs.length → Q (.ref a) H) ∧ (¬ (HT.sIx xs.length 0 lo = 0 ∧ HT.sIx xs.length xs.length hi = xs.length) → ∀ p o, o.dict = none → H p = none → Q (.ref p) (upd H p (.frz o (.tup (cutV xs lo hi)))))
theorem sl_tupX : SlR X (rSlX X.K) := by
  intro pins s σ H x v vl vu lo hi sl Q I rx hs pl pu h
  obtain ⟨a, xs, rfl, hx, q1, q2⟩ := h
  cases rx
  obtain ⟨its, r, ht, hz⟩ := I.tuple hx
  have hlen : its.toArray.size = xs.length := by rw [List.size_toArray]; exact r.length.symm
  refine ⟨"tuple", _, PyProof.Rows.slot_tuple_getitem.lookup, ht.typeIs, ?_⟩
  by_cases hw : HT.sIx xs.length 0 lo = 0 ∧ HT.sIx xs.length xs.length hi = xs.length
  · exact getItem_tuple_whole ht hs pl pu (by rw [hlen]; exact hw) ⟨.ref a, H, I, rfl, q1 hw⟩
  · refine HT.getItem_tuple_cut ht hs pl pu (by rw [hlen]; exact hw) ?_ (by rw [hlen]; exact hz)
    rw [hlen]
    refine ⟨.ref s.heap.objs.size, _, I.laid (t' := s.toks) (o := .frz _ (.tup (cutV xs lo hi))) (fun b ob q => Heap.get?_push_of_some _ q) (Nat.le_refl _) ⟨Heap.get?_push_size _ rfl, ?_⟩, rfl, q2 hw _ _ rfl (I.hok.fresh (Nat.le_refl _))⟩
    exact ⟨Nat.le_trans (cutV_length xs lo hi) hz, _, (r.drop (HT.sIx xs.length 0 lo)).take (HT.sIx xs.length xs.length hi - HT.sIx xs.length 0 lo), IsTup.new _ _⟩
theorem call_tuple_X : CallR X (.type "tuple") (fun xs H Q => ∃ p ys, xs = [.ref p] ∧ ((SqL X.K H p ys ∧ ∀ l o, o.dict = none → H l = none → Q (.ref l) (upd H l (.frz o (.tup ys)))) ∨ (SqT X.K H p ys ∧ Q (.ref p) H))) := by
  intro pins s σ H xs us Q I r h
  obtain ⟨p, ys, rfl, h⟩ := h
  obtain ⟨u, rfl, rx⟩ := vals1 r
  cases rx
  rcases h with ⟨hq, q⟩ | ⟨hq, q⟩
  · obtain ⟨its, r', pl, hz⟩ := I.list hq
    have hlen := r'.length
    refine call_tuple_list pl.isList (fun h' kp => ?_) (by simp only [List.size_toArray] <;> omega)
    have I1 : Inv X pins σ H { s with heap := h' } := I.kept (t' := s.toks) kp
    have I2 : Inv X pins σ (upd H h'.objs.size (.frz { cls := .type "tuple", data := .seq its.toArray } (.tup ys))) { s with heap := h'.push { cls := .type "tuple", data := .seq its.toArray } } :=
      I1.laid (t' := s.toks) (fun b o e => Heap.get?_push_of_some _ e) (Nat.le_refl _) ⟨Heap.get?_push_size _ rfl, show ObjOk X.prog X.w _ _ _ (.tup ys) from ⟨hz, its, r', IsTup.new _ _⟩⟩
    exact ⟨.ref h'.objs.size, _, I2, rfl, q _ _ rfl (I1.hok.fresh (Nat.le_refl _))⟩
  · obtain ⟨its, r', pl, hz⟩ := I.tuple hq
    exact call_tuple_same pl ⟨.ref p, H, I, rfl, q⟩
def tTupX (t : TA) : TE := fun σ H Q => t σ H fun xs H1 => xs.length ≤ sizeLine ∧ ∀ p o, o.dict = none → H1 p = none → Q (.ref p) (upd H1 p (.frz o (.tup xs)))
theorem pe_tupX {x1} (h : PA X es t) : PE X (.Tuple es x1 pos) (tTupX t) := by
  refine ⟨fun pins s σ H Q I hq => ?_⟩
  refine wpAny_Tuple_spliced (thn (h.run pos pins s σ H _ I hq) fun us s1 ⟨xs, H1, I1, r, z, q⟩ => ⟨by rw [← r.length]; exact z, ?_⟩)
  have hf : H1 s1.heap.objs.size = none := I1.hok.fresh (Nat.le_refl _)
  refine ⟨.ref s1.heap.objs.size, _, I1.laid (t' := s1.toks) (o := .frz _ (.tup xs)) (fun b u e => Heap.get?_push_of_some _ e) (Nat.le_refl _) ⟨Heap.get?_push_size _ rfl, ?_⟩, rfl, q _ _ rfl hf⟩
  exact ⟨z, us, r, ⟨_, Heap.get?_push_size _ rfl, rfl, _, rfl⟩⟩
end
end Bx
namespace Bx
open PySem L2
section
variable {K : KK} {W : WX} {F F' H H' : Hp} {adr adr' : List Addr} {s s' : S} {σ σ' : L2.St} {p l : Addr} {o : HO} {d : D} {v : V}
theorem AbsH.fnone {μ : List MO} (ab : AbsH K F adr μ H) (h : H p = none) : F p = none := by
  cases e : F p with
  | none => rfl
  | some u => exact absurd h (ab.sub p u (.inl e)).some
theorem Abs.adrH (ab : Abs K F adr s σ H) {a : Addr} (h : a ∈ adr) : H a ≠ none ∧ F a = none := by
  obtain ⟨i, hi⟩ := List.getElem?_of_mem h
  have hl : i < s.μ.length := by rw [← ab.len]; exact (List.getElem?_eq_some_iff.mp hi).1
  obtain ⟨m, hm⟩ : ∃ m, s.μ[i]? = some m := ⟨_, List.getElem?_eq_getElem hl⟩
  obtain ⟨h1, o, h2, _⟩ := ab.sto i a m hi hm
  exact ⟨by rw [h2]; simp, h1⟩
theorem Abs.fpH (ab : Abs K F adr s σ H) {a : Addr} (h : Fp adr s σ a) : H a ≠ none ∧ F a = none := by
  rcases h with h | ⟨j, m, h1, h2⟩
  · exact ab.adrH h
  · obtain ⟨l, o, e1, e2, _, e3, _⟩ := ab.slo j m h1
    rw [h2] at e1
    cases e1
    exact ⟨by rw [e3]; simp, e2⟩
theorem Ex.upd2 (e : Ex F H) (h : H p = none) : Ex (upd F p o) (upd H p o) := fun a u r => by
  by_cases ha : a = p
  · subst ha
    rcases r with r | ⟨l, o', r⟩
    · exact .inl (by rw [upd_same] at r ⊢; exact r)
    · exact .inr ⟨l, o', by rw [upd_same] at r ⊢; exact r⟩
  · have r' : Rx F a u := by
      rcases r with r | ⟨l, o', r⟩
      · exact .inl (by rw [upd_ne ha] at r; exact r)
      · exact .inr ⟨l, o', by rw [upd_ne ha] at r; exact r⟩
    rcases e a u r' with r | ⟨l, o', r⟩
    · exact .inl (by rw [upd_ne ha]; exact r)
    · exact .inr ⟨l, o', by rw [upd_ne ha]; exact r⟩
/-- something new, not to be changed any more -/
theorem Abs.alloc (ab : Abs K F adr s σ H) (h : H p = none) : Step F adr (Fp adr s σ) H (upd F p o) adr (Fp adr s σ) (upd H p o) ∧ Abs K (upd F p o) adr s σ (upd H p o) := by
  have hF := ab.fnone h
  have e := Ex.new (o := o) hF
  refine ⟨⟨e, List.prefix_refl _, fun a u q _ _ => ?_, fun a q => .inl q, fun a q => ?_, fun a q => ?_⟩, ⟨⟨ab.sub.upd2 h, ab.len, ab.nd, fun i a m h1 h2 => ?_⟩, ab.lenr, fun j d q => ?_, fun j m q => ?_, ab.dis⟩⟩
  · rw [upd_ne (ne_of_none q h)]; exact q
  · by_cases ha : a = p
    · exact .inr (.inl (ha ▸ h))
    · rw [upd_ne ha] at q; exact .inl q
  · by_cases ha : a = p
    · subst ha; rw [upd_same]; simp
    · rw [upd_ne ha]; exact q
  · obtain ⟨f, u, q, r⟩ := ab.sto i a m h1 h2
    have ne : a ≠ p := ne_of_none q h
    exact ⟨by rw [upd_ne ne]; exact f, u, by rw [upd_ne ne]; exact q, r.mono e (List.prefix_refl _)⟩
  · obtain ⟨v, q1, q2⟩ := ab.slv j d q
    exact ⟨v, q1, q2.mono e (List.prefix_refl _)⟩
  · obtain ⟨l, u, q1, q2, q3, q4, q5⟩ := ab.slo j m q
    have ne : l ≠ p := ne_of_none q4 h
    exact ⟨l, u, q1, by rw [upd_ne ne]; exact q2, q3, by rw [upd_ne ne]; exact q4, q5.mono e (List.prefix_refl _)⟩
theorem Post.here {Q : VK} (ab : Abs K F adr s σ H) (h : Post K W F adr s σ H (.ok d s) Q) (r : RpV K F adr σ d v) : Q v H := h v F adr H .refl ab r
theorem Post.at {Q : VK} (ab : Abs K F adr s σ H) (h : Post K W F adr s σ H (.ok d s) Q) (r : Rp K F adr d v) : Q v H := h v F adr H .refl ab (.of r)
theorem Post.new {Q : VK} (ab : Abs K F adr s σ H) (h : Post K W F adr s σ H (.ok d s) Q) (hp : H p = none) (r : Rp K (upd F p o) adr d (.ref p)) : Q (.ref p) (upd H p o) :=
  h _ _ adr _ (ab.alloc hp).1 (ab.alloc hp).2 (.of r)
def rsl (s : S) : D → D
  | .loc j => match s.ρ[j]? with
    | some (.own (.lst xs)) => .lst xs
    | some (.own (.dct k)) => .dct k
    | some (.own (.dcn k)) => .dcn k
    | some (.val d) => d
    | _ => .loc j
  | .ref i => match s.μ[i]? with
    | some (.lst xs) => .lst xs
    | some (.dct k) => .dct k
    | some (.dcn k) => .dcn k
    | _ => .ref i
  | d => d
def RpT (K : KK) (F : Hp) (adr : List Addr) (H : Hp) : D → V → Prop
  | .lst ds, v => ∃ a vs, v = .ref a ∧ H a = some (.lst vs) ∧ RpL K F adr ds vs
  | .dct ds, v => ∃ a vs, v = .ref a ∧ Rx H a (.dK vs) ∧ RpK K F adr ds vs
  | .dcn ds, v => ∃ a rows, v = .ref a ∧ Rx H a (DictN K.P K.w a rows) ∧ RpN K F adr ds rows
  | .loc _, _ => True
  | d, v => Rp K F adr d v
theorem Rp.t (e : Ex F H) (h : Rp K F adr d v) : RpT K F adr H d v := by
  cases d with
  | lst ds => obtain ⟨a, vs, q, r, t⟩ := h; exact ⟨a, vs, q, ex_i e (fun z => z) r, t⟩
  | dct ds => obtain ⟨a, vs, q, r, t⟩ := h; exact ⟨a, vs, q, e _ _ r, t⟩
  | dcn ds => obtain ⟨a, vs, q, r, t⟩ := h; exact ⟨a, vs, q, e _ _ r, t⟩
  | loc j => trivial
  | _ => exact h
theorem Abs.t (ab : Abs K F adr s σ H) (h : RpV K F adr σ d v) : RpT K F adr H (rsl s d) v := by
  cases d with
  | loc j =>
    have h' : σ[j]? = some (some v) := h
    cases e : s.ρ[j]? with
    | none => simp only [rsl, e]; trivial
    | some sl =>
      cases sl with
      | no => simp only [rsl, e]; trivial
      | val d =>
        obtain ⟨v', q1, q2⟩ := ab.slv j d e
        rw [h'] at q1
        cases q1
        simp only [rsl, e]
        exact q2.t ab.sub
      | own m =>
        obtain ⟨l, u, q1, q2, q3, q4, q5⟩ := ab.slo j m e
        rw [h'] at q1
        cases q1
        cases m with
        | lst xs => obtain ⟨vs, rfl, r⟩ := q5; simp only [rsl, e]; exact ⟨l, vs, rfl, q4, r⟩
        | dct xs => obtain ⟨vs, rfl, r⟩ := q5; simp only [rsl, e]; exact ⟨l, vs, rfl, .inl q4, r⟩
        | ins c fs => simp only [rsl, e]; trivial
        | set ks => simp only [rsl, e]; trivial
        | slf c x dx fs => simp only [rsl, e]; trivial
        | dcn ks => obtain ⟨rows, rfl, r⟩ := q5; simp only [rsl, e]; exact ⟨l, rows, rfl, .inl q4, r⟩
        | tab p => simp only [rsl, e]; trivial
  | ref i =>
    have h' : Rp K F adr (.ref i) v := h
    obtain ⟨a, q, rfl⟩ := id h'
    cases e : s.μ[i]? with
    | none => simp only [rsl, e]; exact h'
    | some m =>
      obtain ⟨h1, o, h2, h3⟩ := ab.sto i a m q e
      cases m with
      | lst xs => obtain ⟨vs, rfl, r⟩ := h3; simp only [rsl, e]; exact ⟨a, vs, rfl, h2, r⟩
      | dct xs => obtain ⟨vs, rfl, r⟩ := h3; simp only [rsl, e]; exact ⟨a, vs, rfl, .inl h2, r⟩
      | ins c fs => simp only [rsl, e]; exact h'
      | set ks => simp only [rsl, e]; exact h'
      | slf c x dx fs => simp only [rsl, e]; exact h'
      | dcn ks => obtain ⟨rows, rfl, r⟩ := h3; simp only [rsl, e]; exact ⟨a, rows, rfl, .inl h2, r⟩
      | tab p => simp only [rsl, e]; exact h'
  | _ => exact Rp.t ab.sub h
end
section
variable {X : Cx} {W : WX}
theorem OpR.imp {f : Value → Value → Sem Value} {r r' : R2} (h : OpR X f r) (q : ∀ x y H Q, r' x y H Q → r x y H Q) : OpR X f r' := fun pins s σ H x y v u Q I a b c => h pins s σ H x y v u Q I a b (q _ _ _ _ c)
theorem IxR.imp {r r' : R2} (h : IxR X r) (q : ∀ x y H Q, r' x y H Q → r x y H Q) : IxR X r' :=
  fun vl sl pins s σ H x y v u Q I a b c hs => h vl sl pins s σ H x y v u Q I a b (q _ _ _ _ c) hs
theorem CallR.imp {f : Value} {r r' : List V → Hp → VK → Prop} (h : CallR X f r) (q : ∀ x H Q, r' x H Q → r x H Q) : CallR X f r' := fun pins s σ H xs us Q I a c => h pins s σ H xs us Q I a (q _ _ _ c)
theorem UnR.imp {f : Value → Sem Value} {r r' : V → Hp → VK → Prop} (h : UnR X f r) (q : ∀ x H Q, r' x H Q → r x H Q) : UnR X f r' := fun pins s σ H xs us Q I a c => h pins s σ H xs us Q I a (q _ _ _ c)
theorem SlR.imp {r r' : V → Option Int → Option Int → Hp → VK → Prop} (h : SlR X r) (q : ∀ x a b H Q, r' x a b H Q → r x a b H Q) : SlR X r' := by
  intro pins s σ H
  intros
  apply h <;> first | assumption | skip
  apply q; assumption
/-- two values -/
def r2I (K : KK) (W : WX) (f : D → D → M D) : R2 := fun x y H Q => ∃ F adr s σ d1 d2, Abs K F adr s σ H ∧ RpV K F adr σ d1 x ∧ RpV K F adr σ d2 y ∧ Post K W F adr s σ H (f d1 d2 s) Q
def r1I (K : KK) (W : WX) (f : D → M D) : V → Hp → VK → Prop := fun x H Q => ∃ F adr s σ d, Abs K F adr s σ H ∧ RpV K F adr σ d x ∧ Post K W F adr s σ H (f d s) Q
def rCI (K : KK) (W : WX) (f : List D → M D) : List V → Hp → VK → Prop := fun xs H Q => ∃ F adr s σ ds, Abs K F adr s σ H ∧ RpVs K F adr σ ds xs ∧ Post K W F adr s σ H (f ds s) Q
def bin (f : D → D → M D) (a b : M D) : M D := bnd a fun x => bnd b fun y => f x y
theorem t_bin {K : KK} {f : D → D → M D} {a b : M D} {σ : L2.St} {H : Hp} {Q : VK} (h : tI K W (bin f a b) σ H Q) : tOp (r2I K W f) (tI K W a) (tI K W b) σ H Q := by
  obtain ⟨F, adr, s, ab, po⟩ := h
  refine ⟨F, adr, s, ab, (PostG.bind po).imp ?_⟩
  rintro x H1 ⟨F1, adr1, d1, s1, st1, ab1, rp1, po1⟩
  refine ⟨F1, adr1, s1, ab1, (PostG.bind po1).imp ?_⟩
  rintro y H2 ⟨F2, adr2, d2, s2, st2, ab2, rp2, po2⟩
  exact ⟨F2, adr2, s2, σ, d1, d2, ab2, rp1.mono st2.ex st2.pre, rp2, po2⟩
variable {a b e : Expr} {ma mb : M D} {pos : Pos}
theorem se_bin {op : Operator} {f : D → D → M D} (ho : OpR X (binaryOp op) (r2I (kk X) W f)) (ha : SE X W a ma) (hb : SE X W b mb) : SE X W (.BinOp a op b pos) (bin f ma mb) := PE.imp (pe_op ho ha hb) fun _ _ _ => t_bin
theorem se_cmp {op : CmpOp} {f : D → D → M D} (ho : OpR X (compareOp op) (r2I (kk X) W f)) (ha : SE X W a ma) (hb : SE X W b mb) (hm : behindInMarks op b = false) : SE X W (.Compare a [op] [b] pos) (bin f ma mb) := PE.imp (pe_cmpR ho ha hb hm) fun _ _ _ => t_bin
theorem se_ix {f : D → D → M D} (ho : IxR X (r2I (kk X) W f)) (ha : SE X W a ma) (hb : SE X W b mb) (hs : PlainIx b) : SE X W (.Subscript a b pos) (bin f ma mb) := PE.imp (pe_ix ho ha hb hs) fun _ _ _ => t_bin
def var (j : Nat) : M D := fun s => match s.ρ[j]? with
  | some (.val d) => .ok d s
  | some (.own _) => .ok (.loc j) s
  | _ => .bad
theorem se_var {j : Nat} {x : Str} (hN : X.N[j]? = some x) (hv : Vis X.env.scope x) (hd : (x == ("__debug__" : Str)) = false := by decide) (hcd : (x == ("__classdict__" : Str)) = false := by decide) : SE X W (.Name x pos) (var j) :=
  PE.imp (pe_var hN hv hd hcd) fun σ H Q h => by
    obtain ⟨F, adr, s, ab, po⟩ := h
    unfold var at po
    cases e : s.ρ[j]? with
    | none => rw [e] at po; exact po.elim
    | some sl =>
      rw [e] at po
      cases sl with
      | no => exact po.elim
      | val d =>
        obtain ⟨v, q1, q2⟩ := ab.slv j d e
        exact ⟨v, q1, Post.at ab po q2⟩
      | own m =>
        obtain ⟨l, u, q1, q2, q3, q4, q5⟩ := ab.slo j m e
        exact ⟨_, q1, Post.here ab po q1⟩
def con (d : D) : M D := fun s => .ok d s
theorem t_con {K : KK} {d : D} {v : V} (h : ∀ F adr, Rp K F adr d v) {σ : L2.St} {H : Hp} {Q : VK} (t : tI K W (con d) σ H Q) : tC v σ H Q := by
  obtain ⟨F, adr, s, ab, po⟩ := t
  exact Post.at ab po (h F adr)
theorem se_int {i : Int} {j : Nat} : SE X W (.Constant (.int i) j pos) (con (.int i)) := PE.imp pe_int fun _ _ _ => t_con (d := .int i) (v := .int i) fun _ _ => rfl
theorem se_bl {i : Bool} {j : Nat} : SE X W (.Constant (.bool i) j pos) (con (.bl i)) := PE.imp pe_bl fun _ _ _ => t_con (d := .bl i) (v := .bl i) fun _ _ => rfl
theorem se_str {i : Str} {j : Nat} : SE X W (.Constant (.str i) j pos) (con (.str i)) := PE.imp pe_str fun _ _ _ => t_con (d := .str i) (v := .str i) fun _ _ => rfl
theorem se_non {j : Nat} : SE X W (.Constant .none j pos) (con .non) := PE.imp pe_non fun _ _ _ => t_con (d := .non) (v := .non) fun _ _ => rfl
/-- a module's number -/
theorem se_gint {x : Str} {i : Int} (hg : Gl X x) (hm : ∃ t, X.mg x = some (.int i t)) (hd : (x == ("__debug__" : Str)) = false := by decide) : SE X W (.Name x pos) (con (.int i)) := by
  obtain ⟨t, hm⟩ := hm
  exact PE.imp (pe_glob (v := .int i) hg hm ⟨t, rfl⟩ hd) fun _ _ _ => t_con (d := .int i) (v := .int i) fun _ _ => rfl
theorem se_glo {x : Str} (hg : Gl X x) (hm : X.mg x = some (.ref (He.ga X.K x))) (hd : (x == ("__debug__" : Str)) = false := by decide) : SE X W (.Name x pos) (con (.glo x)) :=
  PE.imp (pe_glob (v := .ref (He.ga X.K x)) hg hm rfl hd) fun _ _ _ => t_con (d := .glo x) fun _ _ => rfl
theorem se_ty {x : Str} {n : String} (hg : Gl X x) (hm : X.mg x = none) (hv : bootBuiltins x = some (.type n)) (hn : x ≠ "__name__" := by decide) (hd : (x == ("__debug__" : Str)) = false := by decide) : SE X W (.Name x pos) (con (.ty n)) :=
  PE.imp (pe_bltn (v := .ty n) hg hm hv rfl hn hd) fun _ _ _ => t_con (d := .ty n) (v := .ty n) fun _ _ => rfl
def settle (d : D) : M D := fun s => match d with
  | .loc j => match s.ρ[j]? with
    | some (.own (.lst xs)) => .ok (.lst xs) { s with ρ := s.ρ.set j (.val (.lst xs)) }
    | some (.own (.dct xs)) => .ok (.dct xs) { s with ρ := s.ρ.set j (.val (.dct xs)) }
    | some (.own (.dcn xs)) => .ok (.dcn xs) { s with ρ := s.ρ.set j (.val (.dcn xs)) }
    | some (.own (.ins c xs)) => .ok (.obj c xs) { s with ρ := s.ρ.set j (.val (.obj c xs)) }
    | some (.val (.loc _)) => .bad
    | some (.val d) => .ok d s
    | _ => .bad
  | d => .ok d s
theorem Abs.freeze {K : KK} {F H : Hp} {adr : List Addr} {s : S} {σ : L2.St} {j : Nat} {m : MO} {d : D} (ab : Abs K F adr s σ H) (hm : s.ρ[j]? = some (.own m))
    (hd : ∀ (F' : Hp) l o, F' l = some o → RpO K F' adr l m o → Rp K F' adr d (.ref l)) :
    ∃ F' l, σ[j]? = some (some (.ref l)) ∧ Step F adr (Fp adr s σ) H F' adr (Fp adr { s with ρ := s.ρ.set j (.val d) } σ) H ∧ Abs K F' adr { s with ρ := s.ρ.set j (.val d) } σ H ∧ Rp K F' adr d (.ref l) := by
  obtain ⟨l, u, q1, q2, q3, q4, q5⟩ := ab.slo j m hm
  have e := Ex.new (o := u) q2
  have hj : j < s.ρ.length := (List.getElem?_eq_some_iff.mp hm).1
  have back : ∀ (i : Nat) (x : Sl), (s.ρ.set j (.val d))[i]? = some x → (i = j ∧ x = .val d) ∨ (i ≠ j ∧ s.ρ[i]? = some x) := fun i x h => by
    by_cases hi : i = j
    · subst hi
      rw [List.getElem?_set_self hj] at h
      exact .inl ⟨rfl, (Option.some.inj h).symm⟩
    · rw [List.getElem?_set_ne (Ne.symm hi)] at h
      exact .inr ⟨hi, h⟩
  have rd : Rp K (upd F l u) adr d (.ref l) := hd _ l u upd_same (q5.mono e (List.prefix_refl _))
  refine ⟨upd F l u, l, q1, ⟨e, List.prefix_refl _, fun a o h _ _ => h, fun a h => ?_, fun a h => ?_, fun a h => h⟩, ⟨⟨fun a x h => ?_, ab.len, ab.nd, fun i a m' h1 h2 => ?_⟩, by simp [ab.lenr], fun i d' h => ?_, fun i m' h => ?_, fun i i' m1 m2 l' h1 h2 h3 h4 => ?_⟩, rd⟩
  · rcases h with h | ⟨i, m', h1, h2⟩
    · exact .inl (.inl h)
    · rcases back i _ h1 with ⟨_, z⟩ | ⟨_, z⟩
      · cases z
      · exact .inl (.inr ⟨i, m', z, h2⟩)
  · by_cases ha : a = l
    · exact .inr (.inr (.inr ⟨j, m, hm, by rw [ha]; exact q1⟩))
    · rw [upd_ne ha] at h; exact .inl h
  · by_cases ha : a = l
    · subst ha
      rcases h with h | ⟨lk, o, h⟩
      · rw [upd_same] at h
        exact .inl (by rw [← h]; exact q4)
      · rw [upd_same] at h
        exact .inr ⟨lk, o, by rw [← h]; exact q4⟩
    · refine ab.sub a x ?_
      rcases h with h | ⟨lk, o, h⟩
      · exact .inl (by rw [upd_ne ha] at h; exact h)
      · exact .inr ⟨lk, o, by rw [upd_ne ha] at h; exact h⟩
  · obtain ⟨f, o, h3, h4⟩ := ab.sto i a m' h1 h2
    have ne : a ≠ l := by
      rintro rfl
      exact q3 (List.mem_of_getElem? h1)
    exact ⟨by rw [upd_ne ne]; exact f, o, h3, h4.mono e (List.prefix_refl _)⟩
  · rcases back i _ h with ⟨z1, z2⟩ | ⟨_, z⟩
    · cases z2
      subst z1
      exact ⟨_, q1, rd⟩
    · obtain ⟨v, r1, r2⟩ := ab.slv i d' z
      exact ⟨v, r1, r2.mono e (List.prefix_refl _)⟩
  · rcases back i _ h with ⟨_, z2⟩ | ⟨ne, z⟩
    · cases z2
    · obtain ⟨l', o, r1, r2, r3, r4, r5⟩ := ab.slo i m' z
      have nl : l' ≠ l := by
        rintro rfl
        exact ne (ab.dis i j m' m l' z hm r1 q1)
      exact ⟨l', o, r1, by rw [upd_ne nl]; exact r2, r3, r4, r5.mono e (List.prefix_refl _)⟩
  · rcases back i _ h1 with ⟨_, z2⟩ | ⟨_, z⟩
    · cases z2
    · rcases back i' _ h2 with ⟨_, z2⟩ | ⟨_, z'⟩
      · cases z2
      · exact ab.dis i i' m1 m2 l' z z' h3 h4
theorem settle_ok {K : KK} {F H : Hp} {adr : List Addr} {s s' : S} {σ : L2.St} {d d' : D} {v : V} (ab : Abs K F adr s σ H) (r : RpV K F adr σ d v) (h : settle d s = .ok d' s') :
    ∃ F', Step F adr (Fp adr s σ) H F' adr (Fp adr s' σ) H ∧ Abs K F' adr s' σ H ∧ Rp K F' adr d' v := by
  cases d with
  | loc j =>
    have r' : σ[j]? = some (some v) := r
    have fin : ∀ (m : MO) (d0 : D), s.ρ[j]? = some (.own m) → (∀ (F' : Hp) l o, F' l = some o → RpO K F' adr l m o → Rp K F' adr d0 (.ref l)) → s' = { s with ρ := s.ρ.set j (.val d0) } → d' = d0 →
        ∃ F', Step F adr (Fp adr s σ) H F' adr (Fp adr s' σ) H ∧ Abs K F' adr s' σ H ∧ Rp K F' adr d' v := fun m d0 e hd e1 e2 => by
      obtain ⟨F', l, q1, q2, q3, q4⟩ := ab.freeze e hd
      rw [r'] at q1
      cases q1
      subst e1 e2
      exact ⟨F', q2, q3, q4⟩
    cases e : s.ρ[j]? with
    | none => simp only [settle, e] at h; cases h
    | some sl =>
      simp only [settle, e] at h
      cases sl with
      | no => cases h
      | val d1 =>
        obtain ⟨v', q1, q2⟩ := ab.slv j d1 e
        rw [r'] at q1
        cases q1
        cases d1 with
        | loc i => cases h
        | _ => cases h; exact ⟨F, .refl, ab, q2⟩
      | own m =>
        cases m with
        | lst xs => cases h; exact fin _ (.lst xs) e (fun F' l o q ⟨vs, e1, r1⟩ => ⟨l, vs, rfl, by rw [q, e1], r1⟩) rfl rfl
        | dct xs => cases h; exact fin _ (.dct xs) e (fun F' l o q ⟨vs, e1, r1⟩ => ⟨l, vs, rfl, .inl (by rw [q, e1]), r1⟩) rfl rfl
        | ins c xs => cases h; exact fin _ (.obj c xs) e (fun F' l o q ⟨dx, vs, e1, r1⟩ => ⟨l, dx, vs, rfl, by rw [q, e1], r1⟩) rfl rfl
        | set ks => cases h
        | slf c x dx xs => cases h
        | tab p => cases h
        | dcn ks => cases h; exact fin _ (.dcn ks) e (fun F' l o q ⟨rows, e1, r1⟩ => ⟨l, rows, rfl, .inl (by rw [q, e1]), r1⟩) rfl rfl
  | _ => cases h; exact ⟨F, .refl, ab, r⟩
theorem Post.settle {K : KK} {F H : Hp} {adr : List Addr} {s : S} {σ : L2.St} {d : D} {v : V} {f : D → M D} {Q : VK} (ab : Abs K F adr s σ H) (r : RpV K F adr σ d v) (h : Post K W F adr s σ H ((settle d s).bind f) Q) :
    ∃ F' d' s', Step F adr (Fp adr s σ) H F' adr (Fp adr s' σ) H ∧ Abs K F' adr s' σ H ∧ Rp K F' adr d' v ∧ Post K W F' adr s' σ H (f d' s') Q := by
  cases e : Bx.settle d s with
  | ok d' s' =>
    obtain ⟨F', q1, q2, q3⟩ := settle_ok ab r e
    rw [e] at h
    exact ⟨F', d', s', q1, q2, q3, PostG.from q1 h⟩
  | exc x s' => cases d <;> simp [Bx.settle] at e <;> (split at e <;> cases e)
  | bad => rw [e] at h; exact h.elim
def stl (m : M D) : M D := bnd m settle
theorem se_stl (h : SE X W e ma) : SE X W e (stl ma) := PE.imp h fun σ H Q t => by
  obtain ⟨F, adr, s, ab, po⟩ := t
  refine ⟨F, adr, s, ab, (PostG.bind po).imp ?_⟩
  rintro v H1 ⟨F1, adr1, d, s1, st, ab1, rp, po1⟩
  have po2 : Post (kk X) W F1 adr1 s1 σ H1 ((settle d s1).bind fun x => pur x) Q := by
    have e : (settle d s1).bind (fun x => pur x) = settle d s1 := by cases settle d s1 <;> rfl
    rw [e]; exact po1
  obtain ⟨F', d', s', q1, q2, q3, q4⟩ := Post.settle ab1 rp po2
  exact Post.at q2 q4 q3
end
end Bx
namespace Bx
open PySem L2
section
variable {X : Cx} {W : WX} {K : KK} {F H : Hp} {adr : List Addr} {s : S} {σ : L2.St} {d : D} {v : V}
theorem RpT.int {i : Int} (h : RpT K F adr H (.int i) v) : v = .int i := h
theorem RpT.str {i : Str} (h : RpT K F adr H (.str i) v) : v = .str i := h
theorem RpT.bl {i : Bool} (h : RpT K F adr H (.bl i) v) : v = .bl i := h
theorem RpT.non (h : RpT K F adr H .non v) : v = .non := h
theorem line5 : (100000 : Nat) ≤ sizeLine := by rw [sizeLine_eq]; decide
theorem sz {n : Nat} (h : n ≤ 100000) : n ≤ sizeLine := Nat.le_trans h line5
def ii (g : Int → Int → D) : D → D → M D := fun a b s => match rsl s a, rsl s b with
  | .int i, .int j => .ok (g i j) s
  | _, _ => .bad
def iic (C : Int → Int → Bool) (g : Int → Int → D) : D → D → M D := fun a b s => match rsl s a, rsl s b with
  | .int i, .int j => if C i j then .ok (g i j) s else .bad
  | _, _ => .bad
theorem ii_of {g : Int → Int → D} {x y : V} {Q : VK} (h : r2I K W (ii g) x y H Q) (gv : Int → Int → V) (hg : ∀ F adr i j, Rp K F adr (g i j) (gv i j)) : ∃ i j, x = .int i ∧ y = .int j ∧ Q (gv i j) H := by
  obtain ⟨F, adr, s, σ, d1, d2, ab, r1, r2, po⟩ := h
  have t1 := ab.t r1
  have t2 := ab.t r2
  unfold ii at po
  generalize rsl s d1 = e1 at *
  generalize rsl s d2 = e2 at *
  cases e1 <;> cases e2 <;> first | exact po.elim | exact ⟨_, _, t1, t2, Post.at ab po (hg _ _ _ _)⟩
theorem iic_of {C : Int → Int → Bool} {g : Int → Int → D} {x y : V} {Q : VK} (h : r2I K W (iic C g) x y H Q) (gv : Int → Int → V) (hg : ∀ F adr i j, Rp K F adr (g i j) (gv i j)) : ∃ i j, x = .int i ∧ y = .int j ∧ C i j = true ∧ Q (gv i j) H := by
  obtain ⟨F, adr, s, σ, d1, d2, ab, r1, r2, po⟩ := h
  have t1 := ab.t r1
  have t2 := ab.t r2
  unfold iic at po
  generalize rsl s d1 = e1 at *
  generalize rsl s d2 = e2 at *
  cases e1 <;> cases e2 <;> first | exact po.elim | skip
  rename_i i j
  by_cases hc : C i j = true
  · simp only [hc, if_true] at po
    exact ⟨i, j, t1, t2, hc, Post.at ab po (hg _ _ _ _)⟩
  · simp only [hc, if_false] at po
    exact po.elim
def addD : D → D → M D := fun a b s => match rsl s a, rsl s b with
  | .int i, .int j => .ok (.int (i + j)) s
  | .str x, .str y => if x.length + y.length ≤ 100000 then .ok (.str (x ++ y)) s else .bad
  | .lst x, .lst y => if x.length + y.length ≤ 100000 then .ok (.lst (x ++ y)) s else .bad
  | .tup x, .tup y => if x.length + y.length ≤ 100000 then .ok (.tup (x ++ y)) s else .bad
  | _, _ => .bad
theorem op_addD : OpR X (binaryOp .Add) (r2I (kk X) W addD) := by
  refine OpR.imp (op_add.or (op_add_str.or (op_cat.or op_catX))) fun x y H Q h => ?_
  obtain ⟨F, adr, s, σ, d1, d2, ab, r1, r2, po⟩ := h
  have t1 := ab.t r1
  have t2 := ab.t r2
  unfold addD at po
  generalize rsl s d1 = e1 at *
  generalize rsl s d2 = e2 at *
  cases e1 <;> cases e2 <;> try (exact po.elim)
  case int.int i j => exact .inl ⟨i, j, t1, t2, Post.at ab po rfl⟩
  case str.str i j =>
    by_cases hc : i.length + j.length ≤ 100000
    · simp only [hc, if_true] at po
      exact .inr (.inl ⟨i, j, t1, t2, sz hc, Post.at ab po rfl⟩)
    · simp only [hc, if_false] at po
      exact po.elim
  case lst.lst i j =>
    by_cases hc : i.length + j.length ≤ 100000
    · simp only [hc, if_true] at po
      obtain ⟨a, vs, rfl, h1, h2⟩ := t1
      obtain ⟨b, ws, rfl, h3, h4⟩ := t2
      refine .inr (.inr (.inl ⟨a, b, vs, ws, rfl, rfl, h1, h3, by rw [h2.length, h4.length]; exact sz hc, fun p hp => Post.new ab po hp ?_⟩))
      exact ⟨p, _, rfl, upd_same, (h2.append h4).mono (Ex.new (ab.fnone hp)) (List.prefix_refl _)⟩
    · simp only [hc, if_false] at po
      exact po.elim
  case tup.tup i j =>
    by_cases hc : i.length + j.length ≤ 100000
    · simp only [hc, if_true] at po
      obtain ⟨a, vs, rfl, h1, h2⟩ := t1
      obtain ⟨b, ws, rfl, h3, h4⟩ := t2
      refine .inr (.inr (.inr ⟨a, b, vs, ws, rfl, rfl, ex_t ab.sub h1.t, ex_t ab.sub h3.t, by rw [h2.length, h4.length]; exact sz hc, fun e => ?_, fun e e' => ?_, fun e e' p ob hd hp => Post.new ab po hp ?_⟩))
      · refine Post.at ab po ⟨b, _, rfl, h3, ?_⟩
        have z := h2.append h4
        rw [e] at z
        exact z
      · refine Post.at ab po ⟨a, _, rfl, h1, ?_⟩
        have z := h2.append h4
        rw [e', List.append_nil] at z
        exact z
      · exact ⟨p, _, rfl, .of upd_same hd, (h2.append h4).mono (Ex.new (ab.fnone hp)) (List.prefix_refl _)⟩
    · simp only [hc, if_false] at po
      exact po.elim
def subD : D → D → M D := ii fun i j => .int (i - j)
theorem op_subD : OpR X (binaryOp .Sub) (r2I (kk X) W subD) := OpR.imp op_sub fun x y H Q h => by
  obtain ⟨i, j, e1, e2, q⟩ := ii_of h (fun i j => .int (i - j)) (fun _ _ _ _ => rfl)
  exact ⟨i, j, e1, e2, q⟩
/-- a product: one factor below 2 ^ 64; a list of one thing, so many times -/
def mulOk (i j : Int) : Bool := (decide (-(2 ^ 64) < i) && decide (i < 2 ^ 64)) || (decide (-(2 ^ 64) < j) && decide (j < 2 ^ 64))
theorem mulOk_ok {i j : Int} (h : mulOk i j = true) : CMul i j := by
  unfold mulOk at h
  simp only [Bool.or_eq_true, Bool.and_eq_true, decide_eq_true_eq] at h
  exact h
def mulD : D → D → M D := fun a b s => match rsl s a, rsl s b with
  | .int i, .int j => if mulOk i j then .ok (.int (i * j)) s else .bad
  | .lst x, .int j => if 0 ≤ j ∧ j ≤ 1000 ∧ x.length ≤ 100 then .ok (.lst (List.replicate j.toNat x).flatten) s else .bad
  | _, _ => .bad
theorem RpL.rep {ds : List D} {vs : List V} (h : RpL K F adr ds vs) : ∀ n : Nat, RpL K F adr (List.replicate n ds).flatten (List.replicate n vs).flatten
  | 0 => .nil
  | n + 1 => by
    rw [List.replicate_succ, List.replicate_succ, List.flatten_cons, List.flatten_cons]
    exact h.append (RpL.rep h n)
theorem op_mulD : OpR X (binaryOp .Mult) (r2I (kk X) W mulD) := by
  refine OpR.imp (op_mul.or op_rep) fun x y H Q h => ?_
  obtain ⟨F, adr, s, σ, d1, d2, ab, r1, r2, po⟩ := h
  have t1 := ab.t r1
  have t2 := ab.t r2
  unfold mulD at po
  generalize rsl s d1 = e1 at *
  generalize rsl s d2 = e2 at *
  cases e1 <;> cases e2 <;> try (exact po.elim)
  case int.int i j =>
    by_cases hc : mulOk i j = true
    · simp only [hc, if_true] at po
      exact .inl ⟨i, j, t1, t2, mulOk_ok hc, Post.at ab po rfl⟩
    · simp only [hc, if_false] at po
      exact po.elim
  case lst.int i j =>
    by_cases hc : 0 ≤ j ∧ j ≤ 1000 ∧ i.length ≤ 100
    · simp only [hc, and_self, if_true] at po
      obtain ⟨a, vs, rfl, h1, h2⟩ := t1
      have h3 : y = .int j := t2
      subst h3
      have hl := h2.length
      refine .inr ⟨a, j, vs, rfl, rfl, h1, by omega, by omega, ?_, fun p hp => Post.new ab po hp ⟨p, _, rfl, upd_same, (RpL.rep h2 _).mono (Ex.new (ab.fnone hp)) (List.prefix_refl _)⟩⟩
      refine sz (Nat.le_trans (Nat.mul_le_mul (show vs.length ≤ 100 by omega) (show j.toNat ≤ 1000 by omega)) (by decide))
    · simp only [hc, if_false] at po
      exact po.elim
def modD : D → D → M D := iic (fun _ j => decide (0 < j)) fun i j => .int (i % j)
theorem op_modD : OpR X (binaryOp .Mod) (r2I (kk X) W modD) := OpR.imp op_mod fun x y H Q h => by
  obtain ⟨i, j, e1, e2, c, q⟩ := iic_of h (fun i j => .int (i % j)) (fun _ _ _ _ => rfl)
  exact ⟨i, j, e1, e2, of_decide_eq_true c, q⟩
def fdivD : D → D → M D := iic (fun _ j => decide (0 < j) && decide (j < 1073741824)) fun i j => .int (i / j)
theorem op_fdivD : OpR X (binaryOp .FloorDiv) (r2I (kk X) W fdivD) := OpR.imp op_fdiv fun x y H Q h => by
  obtain ⟨i, j, e1, e2, c, q⟩ := iic_of h (fun i j => .int (i / j)) (fun _ _ _ _ => rfl)
  simp only [Bool.and_eq_true, decide_eq_true_eq] at c
  exact ⟨i, j, e1, e2, c, q⟩
def powD : D → D → M D := iic (fun i j => decide (0 ≤ j) && decide (j ≤ 1000) && decide (i.natAbs < 2 ^ 64)) fun i j => .int (i ^ j.toNat)
theorem op_powD : OpR X (binaryOp .Pow) (r2I (kk X) W powD) := OpR.imp op_pow fun x y H Q h => by
  obtain ⟨i, j, e1, e2, c, q⟩ := iic_of h (fun i j => .int (i ^ j.toNat)) (fun _ _ _ _ => rfl)
  simp only [Bool.and_eq_true, decide_eq_true_eq] at c
  exact ⟨i, j, e1, e2, ⟨c.1.1, by omega, c.2⟩, q⟩
def negD : D → M D := fun a s => match rsl s a with
  | .int i => .ok (.int (-i)) s
  | _ => .bad
def ltD : D → D → M D := ii fun i j => .bl (decide (i < j))
def leD : D → D → M D := ii fun i j => .bl (decide (i ≤ j))
def gtD : D → D → M D := ii fun i j => .bl (decide (j < i))
def geD : D → D → M D := ii fun i j => .bl (decide (j ≤ i))
theorem op_ltD : OpR X (compareOp .Lt) (r2I (kk X) W ltD) := OpR.imp op_lt fun x y H Q h => ii_of h (fun i j => .bl (decide (i < j))) (fun _ _ _ _ => rfl)
theorem op_leD : OpR X (compareOp .LtE) (r2I (kk X) W leD) := OpR.imp op_le fun x y H Q h => ii_of h (fun i j => .bl (decide (i ≤ j))) (fun _ _ _ _ => rfl)
theorem op_gtD : OpR X (compareOp .Gt) (r2I (kk X) W gtD) := OpR.imp op_gt fun x y H Q h => ii_of h (fun i j => .bl (decide (j < i))) (fun _ _ _ _ => rfl)
theorem op_geD : OpR X (compareOp .GtE) (r2I (kk X) W geD) := OpR.imp op_ge fun x y H Q h => ii_of h (fun i j => .bl (decide (j ≤ i))) (fun _ _ _ _ => rfl)
def isND : D → D → M D := fun a b s => match b with
  | .non => match a with
    | .non => .ok (.bl true) s
    | .loc _ => .bad
    | _ => .ok (.bl false) s
  | _ => .bad
def notND : D → D → M D := fun a b s => match b with
  | .non => match a with
    | .non => .ok (.bl false) s
    | .loc _ => .bad
    | _ => .ok (.bl true) s
  | _ => .bad
def isNon : D → Bool
  | .non => true
  | _ => false
theorem Rp.notN (h : Rp K F adr d v) : isNon d = decide (v = .non) := by
  cases d with
  | non => rw [show v = .non from h]; rfl
  | bl b => rw [show v = .bl b from h]; rfl
  | int b => rw [show v = .int b from h]; rfl
  | str b => rw [show v = .str b from h]; rfl
  | tup b => obtain ⟨a, _, e, _⟩ := h; rw [e]; rfl
  | twk b => obtain ⟨a, _, e, _⟩ := h; rw [e]; rfl
  | lst b => obtain ⟨a, _, e, _⟩ := h; rw [e]; rfl
  | dcn b => obtain ⟨a, _, e, _⟩ := h; rw [e]; rfl
  | dct b => obtain ⟨a, _, e, _⟩ := h; rw [e]; rfl
  | obj c b => obtain ⟨a, _, _, e, _⟩ := h; rw [e]; rfl
  | ref i => obtain ⟨a, _, e⟩ := h; rw [e]; rfl
  | loc j => exact h.elim
  | glo b => rw [show v = .ref _ from h]; rfl
  | ty b => rw [show v = .ty b from h]; rfl
  | scr b => obtain ⟨a, e, _⟩ := h; rw [e]; rfl
  | exv b c => rw [show v = .ref _ from h.1]; rfl
theorem op_notND : OpR X (compareOp .IsNot) (r2I (kk X) W notND) := OpR.imp op_notN fun x y H Q h => by
  obtain ⟨F, adr, s, σ, d1, d2, ab, r1, r2, po⟩ := h
  cases d2 <;> try (exact po.elim)
  refine ⟨r2, ?_⟩
  cases d1 with
  | loc j => exact po.elim
  | _ => rw [← Rp.notN r1]; exact Post.at ab po rfl
mutual
def pd : D → Option PyData
  | .non => some .none
  | .bl b => some (.bool b)
  | .int i => some (.int i)
  | .str x => some (.str x)
  | .tup ds => (pdL ds).map .tuple
  | .lst ds => (pdL ds).map .list
  | _ => none
def pdL : List D → Option (List PyData)
  | [] => some []
  | d :: ds => match pd d, pdL ds with
    | some a, some b => some (a :: b)
    | _, _ => none
end
mutual
theorem dp_of (e : Ex F H) : ∀ (d : D) (v : V) (p : PyData), pd d = some p → Rp K F adr d v → Dp K.K H v p
  | .non, _, _, h, r => by cases h; cases r; exact .non
  | .bl b, _, _, h, r => by cases h; cases r; exact .bl b
  | .int b, _, _, h, r => by cases h; cases r; exact .int b
  | .str b, _, _, h, r => by cases h; cases r; exact .str b
  | .tup ds, _, _, h, ⟨a, vs, q, s, r⟩ => by
    obtain ⟨ps, h1, rfl⟩ := Option.map_eq_some_iff.mp (show (pdL ds).map PyData.tuple = some _ from h)
    subst q
    exact .tup (ex_t e s.t) (dpL_of e ds vs ps h1 r)
  | .lst ds, _, _, h, ⟨a, vs, q, s, r⟩ => by
    obtain ⟨ps, h1, rfl⟩ := Option.map_eq_some_iff.mp (show (pdL ds).map PyData.list = some _ from h)
    subst q
    exact .lst (SqL.of (ex_i e (fun z => z) s)) (dpL_of e ds vs ps h1 r)
  | .dct _, _, _, h, _ => nomatch h
  | .obj _ _, _, _, h, _ => nomatch h
  | .ref _, _, _, h, _ => nomatch h
  | .loc _, _, _, h, _ => nomatch h
  | .glo _, _, _, h, _ => nomatch h
  | .ty _, _, _, h, _ => nomatch h
  | .scr _, _, _, h, _ => nomatch h
  | .twk _, _, _, h, _ => nomatch h
  | .exv _ _, _, _, h, _ => nomatch h
theorem dpL_of (e : Ex F H) : ∀ (d : List D) (v : List V) (p : List PyData), pdL d = some p → RpL K F adr d v → DpAll K.K H v p
  | [], _, _, h, r => by cases h; cases r; exact .nil
  | d :: ds, _, _, h, ⟨v, r, q, h1, h2⟩ => by
    have h' : (match pd d, pdL ds with | some a, some b => some (a :: b) | _, _ => none) = some _ := h
    cases e1 : pd d with
    | none => rw [e1] at h'; cases h'
    | some a =>
      cases e2 : pdL ds with
      | none => rw [e1, e2] at h'; cases h'
      | some b =>
        rw [e1, e2] at h'
        cases h'
        subst q
        exact .cons (dp_of e d v a e1 h1) (dpL_of e ds r b e2 h2)
end
theorem dp_t (ab : Abs K F adr s σ H) {d : D} {v : V} {p : PyData} (h : pd d = some p) (r : RpT K F adr H d v) : Dp K.K H v p := by
  cases d with
  | lst ds =>
    obtain ⟨a, vs, q, z, r⟩ := r
    obtain ⟨ps, h1, rfl⟩ := Option.map_eq_some_iff.mp (show (pdL ds).map PyData.list = some _ from h)
    subst q
    exact .lst (SqL.of z) (dpL_of ab.sub ds vs ps h1 r)
  | dct _ => nomatch h
  | dcn _ => nomatch h
  | loc _ => nomatch h
  | _ => exact dp_of (K := K) (F := F) (adr := adr) ab.sub _ _ _ h r
/-- plain data that the library compares: not too deep -/
def okD (p : PyData) : Bool := SeqAt.shaped p
/-- two texts -/
def twoS : D → D → Option Bool
  | .str x, .str y => some (decide (x = y))
  | _, _ => none
theorem twoS_ok {d1 d2 : D} {b : Bool} (h : twoS d1 d2 = some b) : ∃ x y, d1 = .str x ∧ d2 = .str y ∧ b = decide (V.str x = V.str y) := by
  cases d1 <;> cases d2 <;> first | (cases h; done) | skip
  rename_i x y
  refine ⟨x, y, rfl, rfl, ?_⟩
  have h' : some (decide (x = y)) = some b := h
  rw [← Option.some.inj h']
  simp
def eqD : D → D → M D := fun a b s => match twoS (rsl s a) (rsl s b) with
  | some r => .ok (.bl r) s
  | none => match pd (rsl s a), pd (rsl s b) with
    | some p, some q => if okD p && okD q then .ok (.bl (PyData.eqv p q)) s else .bad
    | _, _ => .bad
def neD : D → D → M D := fun a b s => match twoS (rsl s a) (rsl s b) with
  | some r => .ok (.bl !r) s
  | none => match pd (rsl s a), pd (rsl s b) with
    | some p, some q => if okD p && okD q then .ok (.bl (!PyData.eqv p q)) s else .bad
    | _, _ => .bad
theorem op_eqD' (hu : X.A.units + 64 < cLine) : OpR X (compareOp .Eq) (r2I (kk X) W eqD) := OpR.imp (op_eq.or (op_eqD hu)) fun x y H Q h => by
  obtain ⟨F, adr, s, σ, d1, d2, ab, r1, r2, po⟩ := h
  have t1 := ab.t r1
  have t2 := ab.t r2
  unfold eqD at po
  cases h0 : twoS (rsl s d1) (rsl s d2) with
  | some r =>
    simp only [h0] at po
    obtain ⟨a, b, e1, e2, e3⟩ := twoS_ok h0
    rw [e1] at t1
    rw [e2] at t2
    rw [RpT.str t1, RpT.str t2]
    subst e3
    exact .inl ⟨rfl, Post.at ab po rfl⟩
  | none =>
    simp only [h0] at po
    cases h1 : pd (rsl s d1) with
    | none => rw [h1] at po; exact po.elim
    | some p =>
      cases h2 : pd (rsl s d2) with
      | none => rw [h1, h2] at po; exact po.elim
      | some q =>
        rw [h1, h2] at po
        by_cases hc : (okD p && okD q) = true
        · simp only [hc, if_true] at po
          obtain ⟨c1, c2⟩ := Bool.and_eq_true_iff.mp hc
          exact .inr ⟨p, q, dp_t ab h1 t1, dp_t ab h2 t2, c1, c2, Post.at ab po rfl⟩
        · simp only [hc, if_false] at po
          exact po.elim
theorem op_neD' (hu : X.A.units + 64 < cLine) : OpR X (compareOp .NotEq) (r2I (kk X) W neD) := OpR.imp (op_ne.or (op_neD hu)) fun x y H Q h => by
  obtain ⟨F, adr, s, σ, d1, d2, ab, r1, r2, po⟩ := h
  have t1 := ab.t r1
  have t2 := ab.t r2
  unfold neD at po
  cases h0 : twoS (rsl s d1) (rsl s d2) with
  | some r =>
    simp only [h0] at po
    obtain ⟨a, b, e1, e2, e3⟩ := twoS_ok h0
    rw [e1] at t1
    rw [e2] at t2
    rw [RpT.str t1, RpT.str t2]
    subst e3
    exact .inl ⟨rfl, Post.at ab po rfl⟩
  | none =>
    simp only [h0] at po
    cases h1 : pd (rsl s d1) with
    | none => rw [h1] at po; exact po.elim
    | some p =>
      cases h2 : pd (rsl s d2) with
      | none => rw [h1, h2] at po; exact po.elim
      | some q =>
        rw [h1, h2] at po
        by_cases hc : (okD p && okD q) = true
        · simp only [hc, if_true] at po
          obtain ⟨c1, c2⟩ := Bool.and_eq_true_iff.mp hc
          exact .inr ⟨p, q, dp_t ab h1 t1, dp_t ab h2 t2, c1, c2, Post.at ab po rfl⟩
        · simp only [hc, if_false] at po
          exact po.elim
end
end Bx
namespace Bx
open PySem L2
section
variable {X : Cx} {W : WX} {K : KK} {F H : Hp} {adr : List Addr} {s : S} {σ : L2.St} {d : D} {v : V}
theorem RpL.atI {ds : List D} {vs : List V} {i : Int} {d : D} (h : RpL K F adr ds vs) (e : atI ds i = some d) : ∃ v, atI vs i = some v ∧ Rp K F adr d v := by
  unfold L2.atI at *
  rw [h.length]
  cases hn : ixN ds.length i with
  | none => rw [hn] at e; cases e
  | some j =>
    rw [hn] at e
    exact h.get (i := j) e
def ixD : D → D → M D := fun a b s => match rsl s a, rsl s b with
  | .lst x, .int i => match atI x i with
    | some d => .ok d s
    | none => .bad
  | .tup x, .int i => match atI x i with
    | some d => .ok d s
    | none => .bad
  | .scr x, .int i => match atI x i with
    | some d => .ok (.int d) s
    | none => .bad
  | .str x, .int i => if x.length ≤ 100000 then (match atI x.cps.toList i with
    | some c => .ok (.str ⟨#[c]⟩) s
    | none => .bad) else .bad
  | _, _ => .bad
theorem ix_D : IxR X (r2I (kk X) W ixD) := IxR.imp ix_seq fun x y H Q h => by
  obtain ⟨F, adr, s, σ, d1, d2, ab, r1, r2, po⟩ := h
  have t1 := ab.t r1
  have t2 := ab.t r2
  unfold ixD at po
  generalize rsl s d1 = e1 at *
  generalize rsl s d2 = e2 at *
  cases e1 <;> cases e2 <;> try (exact po.elim)
  case lst.int xs i =>
    cases e : atI xs i with
    | none => simp only [e] at po; exact po.elim
    | some d =>
      simp only [e] at po
      obtain ⟨a, vs, rfl, h1, h2⟩ := t1
      obtain ⟨w, q1, q2⟩ := h2.atI e
      exact .inl ⟨a, vs, i, w, rfl, t2, SqL.of h1, q1, Post.at ab po q2⟩
  case tup.int xs i =>
    cases e : atI xs i with
    | none => simp only [e] at po; exact po.elim
    | some d =>
      simp only [e] at po
      obtain ⟨a, vs, rfl, h1, h2⟩ := t1
      obtain ⟨w, q1, q2⟩ := h2.atI e
      exact .inr (.inl ⟨a, vs, i, w, rfl, t2, ex_t ab.sub h1.t, q1, Post.at ab po q2⟩)
  case scr.int xs i =>
    cases e : atI xs i with
    | none => simp only [e] at po; exact po.elim
    | some d =>
      simp only [e] at po
      obtain ⟨a, rfl, h1⟩ := t1
      refine .inl ⟨a, _, i, .int d, rfl, t2, ex_l ab.sub h1, ?_, Post.at ab po rfl⟩
      unfold L2.atI at *
      rw [List.length_map]
      cases hn : ixN xs.length i with
      | none => rw [hn] at e; cases e
      | some j =>
        rw [hn] at e
        show (xs.map V.int)[j]? = _
        rw [List.getElem?_map, show xs[j]? = some d from e]
        rfl
  case str.int xs i =>
    by_cases hc : xs.length ≤ 100000
    · simp only [hc, if_true] at po
      cases e : atI xs.cps.toList i with
      | none => simp only [e] at po; exact po.elim
      | some d =>
        simp only [e] at po
        exact .inr (.inr ⟨xs, i, d, t1, t2, sz hc, e, Post.at ab po rfl⟩)
    · simp only [hc, if_false] at po
      exact po.elim
def cutD (xs : List D) (lo hi : Option Int) : List D := (xs.drop (HT.sIx xs.length 0 lo)).take (HT.sIx xs.length xs.length hi - HT.sIx xs.length 0 lo)
def cutI (xs : List Int) (lo hi : Option Int) : List Int := (xs.drop (HT.sIx xs.length 0 lo)).take (HT.sIx xs.length xs.length hi - HT.sIx xs.length 0 lo)
theorem RpL.cut {ds : List D} {vs : List V} (h : RpL K F adr ds vs) (lo hi : Option Int) : RpL K F adr (cutD ds lo hi) (cutV vs lo hi) := by
  unfold cutD cutV
  rw [h.length]
  exact (h.drop _).take _
theorem rpl_ints (ns : List Int) : RpL K F adr (ns.map D.int) (ns.map V.int) := by
  induction ns with
  | nil => exact .nil
  | cons n ns ih => exact .cons rfl ih
theorem cutV_ints (ns : List Int) (lo hi : Option Int) : cutV (ns.map V.int) lo hi = (cutI ns lo hi).map V.int := by
  unfold cutV cutI
  rw [List.length_map, List.map_take, List.map_drop]
def slD : D → Option Int → Option Int → M D := fun a lo hi s => match rsl s a with
  | .lst x => .ok (.lst (cutD x lo hi)) s
  | .scr x => .ok (.lst ((cutI x lo hi).map .int)) s
  | .tup x => .ok (.tup (cutD x lo hi)) s
  | .str x => if x.length ≤ 100000 then .ok (.str (cutS x lo hi)) s else .bad
  | _ => .bad
def sl_all (K : PySem.W.Frag) : V → Option Int → Option Int → Hp → VK → Prop := fun x lo hi H Q => rSlL K x lo hi H Q ∨ rSlX K x lo hi H Q ∨ rSlS x lo hi H Q
theorem sl_allR : SlR X (sl_all X.K) := sl_list.or (sl_tupX.or sl_str)
/-- an optional part -/
inductive MP where
  | no | yes (m : M D)
def tO (K : KK) (W : WX) : MP → TO
  | .no => tNoPart
  | .yes m => tPart (tI K W m)
def SO (X : Cx) (W : WX) (e : Option Expr) (m : MP) : Prop := PO X e (tO (kk X) W m)
theorem so_no : SO X W none .no := po_none
theorem so_yes {e : Expr} {m : M D} (h : SE X W e m) : SO X W (some e) (.yes m) := po_some h
def mpart : MP → (Option Int → M D) → M D
  | .no, f => f none
  | .yes m, f => bnd m fun d => match d with
    | .int i => f (some i)
    | _ => fun _ => .bad
def slc (a : M D) (l h : MP) : M D := bnd a fun x => mpart l fun lo => mpart h fun hi => slD x lo hi
theorem sl_fin {x : D} {lo hi : Option Int} {v : V} {Q : VK} (ab : Abs K F adr s σ H) (r : RpV K F adr σ x v) (po : Post K W F adr s σ H (slD x lo hi s) Q) : sl_all K.K v lo hi H Q := by
  have t := ab.t r
  unfold slD at po
  generalize rsl s x = e at *
  cases e <;> try (exact po.elim)
  case lst ds =>
    obtain ⟨a, vs, rfl, h1, h2⟩ := t
    exact .inl ⟨a, vs, rfl, SqL.of h1, fun p hp => Post.new ab po hp ⟨p, _, rfl, upd_same, (h2.cut lo hi).mono (Ex.new (ab.fnone hp)) (List.prefix_refl _)⟩⟩
  case scr ns =>
    obtain ⟨a, rfl, h1⟩ := t
    exact .inl ⟨a, _, rfl, ex_l ab.sub h1, fun p hp => Post.new ab po hp ⟨p, _, rfl, by rw [upd_same, cutV_ints], rpl_ints _⟩⟩
  case tup ds =>
    obtain ⟨a, vs, rfl, h1, h2⟩ := t
    refine .inr (.inl ⟨a, vs, rfl, ex_t ab.sub h1.t, fun e => Post.at ab po ⟨a, vs, rfl, h1, ?_⟩, fun e p ob hd hp => Post.new ab po hp ⟨p, _, rfl, .of upd_same hd, (h2.cut lo hi).mono (Ex.new (ab.fnone hp)) (List.prefix_refl _)⟩⟩)
    have e3 : cutV vs lo hi = vs := by
      unfold cutV
      rw [e.1, e.2]
      simp
    have z := h2.cut lo hi
    rw [e3] at z
    exact z
  case str x =>
    by_cases hc : x.length ≤ 100000
    · simp only [hc, if_true] at po
      exact .inr (.inr ⟨x, t, sz hc, Post.at ab po rfl⟩)
    · simp only [hc, if_false] at po
      exact po.elim
/-- a part, then what comes -/
theorem t_part {m : MP} {f : Option Int → M D} {Q : VK} {R : Option Int → Hp → Prop} (ab : Abs K F adr s σ H) (po : Post K W F adr s σ H (mpart m f s) Q)
    (k : ∀ i F1 adr1 s1 H1, Step F adr (Fp adr s σ) H F1 adr1 (Fp adr1 s1 σ) H1 → Abs K F1 adr1 s1 σ H1 → Post K W F1 adr1 s1 σ H1 (f i s1) Q → R i H1) : tO K W m σ H R := by
  cases m with
  | no => exact k none F adr s H .refl ab po
  | yes m =>
    refine ⟨F, adr, s, ab, (PostG.bind po).imp ?_⟩
    rintro y H1 ⟨F1, adr1, d1, s1, st1, ab1, rp1, po1⟩
    cases d1 <;> try (exact po1.elim)
    case int i => exact ⟨i, rp1, k (some i) F1 adr1 s1 H1 st1 ab1 po1⟩
theorem se_slc {a : Expr} {l h : Option Expr} {ma : M D} {ml mh : MP} {p2 pos : Pos} (ha : SE X W a ma) (hl : SO X W l ml) (hh : SO X W h mh) : SE X W (.Subscript a (.Slice l h none p2) pos) (slc ma ml mh) := by
  refine PE.imp (pe_slice sl_allR ha hl hh) fun σ H Q t => ?_
  obtain ⟨F, adr, s, ab, po⟩ := t
  refine ⟨F, adr, s, ab, (PostG.bind po).imp ?_⟩
  rintro x H1 ⟨F1, adr1, d1, s1, st1, ab1, rp1, po1⟩
  refine t_part ab1 po1 fun lo F2 adr2 s2 H2 st2 ab2 po2 => t_part ab2 po2 fun hi F3 adr3 s3 H3 st3 ab3 po3 => ?_
  exact sl_fin ab3 (rp1.mono (st2.trans st3).ex (st2.trans st3).pre) po3
def flatD : D → Bool
  | .non => true
  | .bl _ => true
  | .int _ => true
  | .str _ => true
  | _ => false
def toV : D → V
  | .bl b => .bl b
  | .int b => .int b
  | .str b => .str b
  | _ => .non
theorem Rp.flat (h : Rp K F adr d v) (f : flatD d = true) : v = toV d ∧ flatV v = true := by
  cases d <;> first | (cases f) | skip
  case non => have e : v = .non := h; subst e; exact ⟨rfl, rfl⟩
  case bl b => have e : v = .bl b := h; subst e; exact ⟨rfl, rfl⟩
  case int b => have e : v = .int b := h; subst e; exact ⟨rfl, rfl⟩
  case str b => have e : v = .str b := h; subst e; exact ⟨rfl, rfl⟩
theorem RpL.flat : ∀ {ds : List D} {vs : List V}, RpL K F adr ds vs → ds.all flatD = true → vs = ds.map toV ∧ vs.all flatV = true
  | [], _, h, _ => by cases h; exact ⟨rfl, rfl⟩
  | d :: ds, _, ⟨v, r, q, h1, h2⟩, f => by
    rw [List.all_cons, Bool.and_eq_true] at f
    obtain ⟨e1, f1⟩ := h1.flat f.1
    obtain ⟨e2, f2⟩ := RpL.flat h2 f.2
    subst q
    exact ⟨by rw [List.map_cons, e1, e2], by rw [List.all_cons, f1, f2]; rfl⟩
/-- x in xs, by Python's == of plain things -/
def memD (x : D) (xs : List D) : Bool := inV (toV x) (xs.map toV)
def inD (neg : Bool) : D → D → M D := fun a b s => match rsl s b with
  | .lst xs => if flatD a && xs.all flatD then .ok (.bl (if neg then !memD a xs else memD a xs)) s else .bad
  | .tup xs => if flatD a && xs.all flatD then .ok (.bl (if neg then !memD a xs else memD a xs)) s else .bad
  | .str x => match a with
    | .str y => match y.cps.toList with
      | [c] => .ok (.bl (if neg then !decide (c ∈ x.cps.toList) else decide (c ∈ x.cps.toList))) s
      | _ => .bad
    | _ => .bad
  | _ => .bad
theorem str_one {y : Str} {c : Nat} (h : y.cps.toList = [c]) : y = ⟨#[c]⟩ := by
  obtain ⟨a⟩ := y
  have e : a = #[c] := by
    apply Array.ext'
    exact h
  rw [e]
theorem in_fin (neg : Bool) {x y : V} {Q : VK} (h : r2I K W (inD neg) x y H Q) : rIn K.K neg x y H Q ∨ ∃ (c : Nat) (z : Str), x = .str ⟨#[c]⟩ ∧ y = .str z ∧ Q (.bl (if neg then !decide (c ∈ z.cps.toList) else decide (c ∈ z.cps.toList))) H := by
  obtain ⟨F, adr, s, σ, d1, d2, ab, r1, r2, po⟩ := h
  have t2 := ab.t r2
  unfold inD at po
  generalize rsl s d2 = e2 at *
  cases e2 <;> try (exact po.elim)
  case lst xs =>
    by_cases hc : (flatD d1 && xs.all flatD) = true
    · simp only [hc, if_true] at po
      obtain ⟨c1, c2⟩ := Bool.and_eq_true_iff.mp hc
      obtain ⟨a, vs, rfl, h1, h2⟩ := t2
      have r1' : Rp K F adr d1 x := by
        cases d1 <;> first | exact r1 | cases c1
      obtain ⟨e1, f1⟩ := r1'.flat c1
      obtain ⟨e3, f3⟩ := h2.flat c2
      exact .inl ⟨a, vs, rfl, .inl (SqL.of h1), f1, f3, Post.at ab po (by rw [e1, e3]; rfl)⟩
    · simp only [hc, if_false] at po
      exact po.elim
  case tup xs =>
    by_cases hc : (flatD d1 && xs.all flatD) = true
    · simp only [hc, if_true] at po
      obtain ⟨c1, c2⟩ := Bool.and_eq_true_iff.mp hc
      obtain ⟨a, vs, rfl, h1, h2⟩ := t2
      have r1' : Rp K F adr d1 x := by
        cases d1 <;> first | exact r1 | cases c1
      obtain ⟨e1, f1⟩ := r1'.flat c1
      obtain ⟨e3, f3⟩ := h2.flat c2
      exact .inl ⟨a, vs, rfl, .inr (ex_t ab.sub h1.t), f1, f3, Post.at ab po (by rw [e1, e3]; rfl)⟩
    · simp only [hc, if_false] at po
      exact po.elim
  case str z =>
    cases d1 <;> try (exact po.elim)
    case str w =>
      simp only at po
      cases e : w.cps.toList with
      | nil => simp only [e] at po; exact po.elim
      | cons c r =>
        cases r with
        | nil =>
          simp only [e] at po
          have r1' : x = .str w := r1
          exact .inr ⟨c, z, by rw [r1', str_one e], t2, Post.at ab po rfl⟩
        | cons c2 r2 => simp only [e] at po; exact po.elim
theorem op_inD : OpR X (compareOp .In) (r2I (kk X) W (inD false)) := OpR.imp (op_in_seq.or op_in_sign) fun x y H Q h => by
  rcases in_fin false h with z | ⟨c, w, z1, z2, z3⟩
  · exact .inl z
  · exact .inr ⟨c, w, z1, z2, z3⟩
end
end Bx
namespace Bx
open PySem L2 PySem.Spec PyProof.Rows
structure FnG (P : Program) (w : World) (K : PySem.W.Frag) (mg : Str → Option Value) (base : Heap) (k : Nat) (f : Addr) (fd : FuncData) (ps : List Str) (sp : Sp) : Prop where
  len : ∀ vs H Q E, sp vs H Q E → vs.length = ps.length
  run : ∀ (A : Around) (outer : List Env) (s : Shared) (H : Hp) (args : Args) (us : List Value) (vs : List V) (Q : VK) (E : XK), Room k A → A.guards = some [] → Env0 P w K mg base A outer s H →
    BindsTo s fd args (ps.zip us) → Vals vs us → sp vs H Q E → codeAny (model P w) A (.call (.ref f) args) (CR (L2.CX P w) outer P w H s Q E) s
theorem FnG.mono {P : Program} {w : World} {K : PySem.W.Frag} {mg : Str → Option Value} {base : Heap} {j k : Nat} {f : Addr} {fd : FuncData} {ps : List Str} {sp : Sp} (G : FnG P w K mg base j f fd ps sp) (h : j ≤ k) : FnG P w K mg base k f fd ps sp :=
  ⟨G.len, fun A outer s H args us vs Q E hr => G.run A outer s H args us vs Q E (hr.mono h)⟩
/-- a def by its body -/
theorem fnG_of {P : Program} {w : World} {K : PySem.W.Frag} {mg : Str → Option Value} {base : Heap} {k : Nat} {f : Addr} {x qual : Str} {params : Arguments} {body : List Stmt} {scope : Scope} {dvs : List V} {kws : List (Str × V)} {fd : FuncData}
    {N ps : List Str} {sp : Sp} (D : FunD K x qual params body scope dvs kws f fd) (S : FnScope N ps scope) (len : ∀ vs H Q E, sp vs H Q E → vs.length = ps.length)
    (hbody : ∀ (cdv : Value) (A : Around) (outer : List Env) (s : Shared) (H : Hp) (vs : List V) (Q : VK) (E : XK), Room k (A.deeper (envOfC qual scope s.heap.objs.size f cdv)) → A.guards = some [] → sp vs H Q E →
      ∃ t, PSs (cxOf (L2.CX P w) P w K mg base N qual scope f cdv A outer s H E) body t ∧ t { nx := fun _ H' => Q .non H', rt := Q } (start N vs) H) :
    FnG P w K mg base (k + 1) f fd ps sp := by
  obtain ⟨oc, od, dV, kV, doc, pm, an, cdv, ct, osl, rfl, lk, hcd, _, _⟩ := D.ex
  refine ⟨len, fun A outer s H args us vs Q E hr hgd e0 hb rv hsp => ?_⟩
  have kin : K.In s.heap := e0.mod.kin.keeps fun b o e => (e0.bs b o e).1
  have kinds : ∀ y ∈ ps.zip us, scope.names.lookup y.1 = some .local ∨ (scope.names.lookup y.1 = some .cell ∧ ((cellsFrom (s.heap.objs.size + 1) scope.names []).lookup y.1).isSome = true) := by
    rintro ⟨n, v⟩ hy
    rcases S.par n (List.of_mem_zip hy).1 with q | q
    · exact .inl q
    · exact .inr ⟨q, PySem.W.cellsFrom_some _ _ _ (.inl q)⟩
  refine codeAny_call_function hr.depth (kin _ _ lk) rfl S.co S.gen rfl (PySem.W.codeRec_of kin hcd) (hb _ _ _ _ ?_)
  refine wpAny_newFunctionEnv_cells S.kind kinds fun env he s1 ic => ?_
  subst he
  refine ⟨(e0.mod.nolimit.keeps fun b o e => (e0.bs b o e).1).keeps ic.toInCall.keep, codeAny_func ?_⟩
  obtain ⟨t, ht, hq⟩ := hbody cdv A outer s H vs Q E (hr.deeper _) hgd hsp
  have inv := inv_start (CX := L2.CX P w) (w := w) (N := N) (E := E) S hr.hd e0 (len _ _ _ _ hsp) rv ic
  refine wpAny_mono (ht.run [] s1 (start N vs) H _ inv hq) (fun fl s' hs => ?_) fun e s' hs => hs
  cases fl with
  | ret u => obtain ⟨v, σ', H', J, r1, q⟩ := hs; exact ⟨v, H', J.os, J.bare, J.base, J.hok, r1, q⟩
  | next => obtain ⟨σ', H', J, q⟩ := hs; exact ⟨V.non, H', J.os, J.bare, J.base, J.hok, rfl, q⟩
  | brk => obtain ⟨_, _, _, q⟩ := hs; exact q.elim
  | cont => obtain ⟨_, _, _, q⟩ := hs; exact q.elim
inductive RF where
  | ok (d : D) (μ : List MO) | exc (x : Xc) (μ : List MO) | bad
abbrev Den := List D → List MO → RF
def PostF (K : KK) (F : Hp) (adr : List Addr) (H : Hp) (r : RF) (Q : VK) (E : XK) : Prop := match r with
  | .ok d μ' => ∀ v F' adr' H', Step F adr (· ∈ adr) H F' adr' (· ∈ adr') H' → AbsH K F' adr' μ' H' → Rp K F' adr' d v → Q v H'
  | .exc x μ' => ∀ cls dd F' adr' H', Step F adr (· ∈ adr) H F' adr' (· ∈ adr') H' → AbsH K F' adr' μ' H' → RpX K F' adr' x cls dd H' → E cls dd H'
  | .bad => False
/-- the promise: n arguments -/
def spD (K : KK) (n : Nat) (den : Den) : Sp := fun vs H Q E => ∃ F adr μ ds, AbsH K F adr μ H ∧ RpL K F adr ds vs ∧ vs.length = n ∧ PostF K F adr H (den ds μ) Q E
section
variable {X : Cx} {W : WX} {K : KK} {F F' H H' : Hp} {adr adr' : List Addr} {s : S} {σ : L2.St} {d : D} {v : V}
theorem Abs.after {μ' : List MO} (ab : Abs K F adr s σ H) (st : Step F adr (· ∈ adr) H F' adr' (· ∈ adr') H') (ah : AbsH K F' adr' μ' H') :
    Step F adr (Fp adr s σ) H F' adr' (Fp adr' { s with μ := μ' } σ) H' ∧ Abs K F' adr' { s with μ := μ' } σ H' := by
  have own : ∀ a, owns s σ a → H a ≠ none ∧ F a = none ∧ a ∉ adr := fun a ⟨j, m, h1, h2⟩ => by
    obtain ⟨l, o, e1, e2, e3, e4, _⟩ := ab.slo j m h1
    rw [h2] at e1
    cases e1
    exact ⟨by rw [e4]; simp, e2, e3⟩
  refine ⟨⟨st.ex, st.pre, fun a o h n f => st.keep a o h (fun z => n (.inl z)) f, fun a h => ?_, fun a h => ?_, st.there⟩, ⟨ah, ab.lenr, fun j d h => ?_, fun j m h => ?_, ab.dis⟩⟩
  · rcases h with h | h
    · rcases st.foot a h with z | z
      · exact .inl (.inl z)
      · exact .inr z
    · exact .inl (.inr h)
  · rcases st.frz a h with z | z | z
    · exact .inl z
    · exact .inr (.inl z)
    · exact .inr (.inr (.inl z))
  · obtain ⟨v, q1, q2⟩ := ab.slv j d h
    exact ⟨v, q1, q2.mono st.ex st.pre⟩
  · obtain ⟨l, o, q1, q2, q3, q4, q5⟩ := ab.slo j m h
    have hl : H l ≠ none := by rw [q4]; simp
    refine ⟨l, o, q1, ?_, ?_, st.keep l o q4 q3 q2, q5.mono st.ex st.pre⟩
    · cases e : F' l with
      | none => rfl
      | some u =>
        rcases st.frz l (by rw [e]; simp) with z | z | z
        · exact absurd q2 z
        · exact absurd z hl
        · exact absurd z q3
    · intro z
      rcases st.foot l z with y | y
      · exact q3 y
      · exact hl y
def callD (den : Den) (ds : List D) : M D := fun s => match den ds s.μ with
  | .ok d μ' => .ok d { s with μ := μ' }
  | .exc x μ' => .exc x { s with μ := μ' }
  | .bad => .bad
theorem call_post {den : Den} {ds : List D} {Q : VK} (ab : Abs K F adr s σ H) (po : Post K W F adr s σ H (callD den ds s) Q) : PostF K F adr H (den ds s.μ) Q (fun cls dd H' => W cls dd σ H') := by
  unfold callD at po
  cases e : den ds s.μ with
  | ok d μ' =>
    rw [e] at po
    intro v F' adr' H' st ah rp
    exact po v F' adr' H' (ab.after st ah).1 (ab.after st ah).2 (.of rp)
  | exc x μ' =>
    rw [e] at po
    intro cls dd F' adr' H' st ah rp
    exact po cls dd F' adr' H' (ab.after st ah).1 (ab.after st ah).2 rp
  | bad => rw [e] at po; exact po
def margs : List (M D) → M (List D)
  | [] => pur []
  | m :: ms => bnd m fun d => bnd (margs ms) fun ds => pur (d :: ds)
theorem sa_nil : SA X W [] (margs []) := PA.imp pa_nil fun σ H Q t => by
  obtain ⟨F, adr, s, ab, po⟩ := t
  exact po [] F adr H .refl ab rfl
theorem sa_cons {e : Expr} {es : List Expr} {m : M D} {ms : List (M D)} (ha : SE X W e m) (hr : SA X W es (margs ms)) (hs : starEach (e :: es) X.env = (false, eval e X.env) :: starEach es X.env := by rfl) : SA X W (e :: es) (margs (m :: ms)) :=
  PA.imp (pa_cons ha hr hs) fun σ H Q t => by
    obtain ⟨F, adr, s, ab, po⟩ := t
    refine ⟨F, adr, s, ab, (PostG.bind po).imp ?_⟩
    rintro x H1 ⟨F1, adr1, d1, s1, st1, ab1, rp1, po1⟩
    refine ⟨F1, adr1, s1, ab1, (PostG.bind po1).imp ?_⟩
    rintro xs H2 ⟨F2, adr2, ds, s2, st2, ab2, rp2, po2⟩
    exact po2 (x :: xs) F2 adr2 H2 .refl ab2 ⟨x, xs, rfl, rp1.mono st2.ex st2.pre, rp2⟩
/-- arguments that stand still -/
def tAL (K : KK) (W : WX) (m : M (List D)) : TA := fun σ H Q => ∃ F adr s, Abs K F adr s σ H ∧ PostG K W (fun F adr ds vs => RpL K F adr ds vs) F adr s σ H (m s) Q
def SAL (X : Cx) (W : WX) (es : List Expr) (m : M (List D)) : Prop := PA X es (tAL (kk X) W m)
def mal : List (M D) → M (List D)
  | [] => pur []
  | m :: ms => bnd m fun d => bnd (settle d) fun d => bnd (mal ms) fun ds => pur (d :: ds)
theorem sal_nil : SAL X W [] (mal []) := PA.imp pa_nil fun σ H Q t => by
  obtain ⟨F, adr, s, ab, po⟩ := t
  exact po [] F adr H .refl ab rfl
/-- settled, with any relation behind -/
theorem settle_bind {γ δ : Type} {rel' : Hp → List Addr → γ → δ → Prop} {f : D → M γ} {Q : δ → Hp → Prop} (ab : Abs K F adr s σ H) (r : RpV K F adr σ d v) (h : PostG K W rel' F adr s σ H ((settle d s).bind f) Q) :
    ∃ F' d' s', Step F adr (Fp adr s σ) H F' adr (Fp adr s' σ) H ∧ Abs K F' adr s' σ H ∧ Rp K F' adr d' v ∧ PostG K W rel' F' adr s' σ H (f d' s') Q := by
  cases e : settle d s with
  | ok d' s' =>
    obtain ⟨F', q1, q2, q3⟩ := settle_ok ab r e
    rw [e] at h
    exact ⟨F', d', s', q1, q2, q3, PostG.from q1 h⟩
  | exc x s' => cases d <;> simp [settle] at e <;> (split at e <;> cases e)
  | bad => rw [e] at h; exact h.elim
theorem sal_cons {e : Expr} {es : List Expr} {m : M D} {ms : List (M D)} (ha : SE X W e m) (hr : SAL X W es (mal ms)) (hs : starEach (e :: es) X.env = (false, eval e X.env) :: starEach es X.env := by rfl) : SAL X W (e :: es) (mal (m :: ms)) :=
  PA.imp (pa_cons ha hr hs) fun σ H Q t => by
    obtain ⟨F, adr, s, ab, po⟩ := t
    refine ⟨F, adr, s, ab, (PostG.bind po).imp ?_⟩
    rintro x H1 ⟨F1, adr1, d1, s1, st1, ab1, rp1, po1⟩
    obtain ⟨F1', d1', s1', q1, q2, q3, q4⟩ := settle_bind ab1 rp1 po1
    refine ⟨F1', adr1, s1', q2, (PostG.bind q4).imp ?_⟩
    rintro xs H2 ⟨F2, adr2, ds, s2, st2, ab2, rp2, po2⟩
    exact po2 (x :: xs) F2 adr2 H2 .refl ab2 ⟨x, xs, rfl, q3.mono st2.ex st2.pre, rp2⟩
theorem PK.imp {e : List Keyword} {t t' : TA} (h : PK X e t) (q : ∀ σ H Q, t' σ H Q → t σ H Q) : PK X e t' := ⟨fun pos pins s σ H Q I w => h.run pos pins s σ H Q I (q σ H Q w)⟩
def pick {α : Type} (z : α) (ix : List Nat) (all : List α) : List α := ix.map fun i => all.getD i z
structure CallB (K : KK) (fd : FuncData) (ps : List Str) (n : Nat) (ks : List Str) (ix : List Nat) (dds : List D) : Prop where
  ex : ∃ (dfl : List Value) (dvs : List V), Vals dvs dfl ∧ (∀ F adr, RpL K F adr dds dvs) ∧
    ∀ (s : Shared) (us ws : List Value), K.K.In s.heap → us.length = n → ws.length = ks.length → BindsTo s fd ⟨us, ks.zip ws⟩ (ps.zip (pick .none ix (us ++ ws ++ dfl)))
theorem vals_pick : ∀ (ix : List Nat) {vs : List V} {us : List Value}, Vals vs us → Vals (pick V.non ix vs) (pick Value.none ix us)
  | [], _, _, _ => .nil
  | i :: ix, vs, us, r => by
    refine .cons ?_ (vals_pick ix r)
    show RelV (vs.getD i .non) (us.getD i .none)
    rw [List.getD_eq_getElem?_getD, List.getD_eq_getElem?_getD]
    cases e : vs[i]? with
    | none => rw [r.none_of e]; rfl
    | some x =>
      obtain ⟨u, h1, h2⟩ := r.get e
      rw [h1]
      exact h2
theorem rpl_pick : ∀ (ix : List Nat) {ds : List D} {vs : List V}, RpL K F adr ds vs → RpL K F adr (pick D.non ix ds) (pick V.non ix vs)
  | [], _, _, _ => .nil
  | i :: ix, ds, vs, r => by
    refine .cons ?_ (rpl_pick ix r)
    show Rp K F adr (ds.getD i .non) (vs.getD i .non)
    rw [List.getD_eq_getElem?_getD, List.getD_eq_getElem?_getD]
    cases e : ds[i]? with
    | none =>
      have : vs[i]? = none := List.getElem?_eq_none_iff.mpr (by rw [r.length]; exact List.getElem?_eq_none_iff.mp e)
      rw [this]
      rfl
    | some x =>
      obtain ⟨u, h1, h2⟩ := r.get e
      rw [h1]
      exact h2
/-- what the call of an own def asks -/
def callK (den : Den) (ix : List Nat) (dds : List D) (a k : M (List D)) : M D := bnd a fun ds => bnd k fun es => callD den (pick .non ix (ds ++ es ++ dds))
/-- the callee runs -/
theorem run_G {k n : Nat} {f : Addr} {fd : FuncData} {ps ks : List Str} {ix : List Nat} {dds : List D} {den : Den} {pins : List (Addr × Obj)} {sh : Shared} {Q : VK} {us ws : List Value} {vs zs : List V} {ds es : List D} {σ0 : L2.St}
    (G : FnG X.prog X.w X.K X.mg X.base k f fd ps (spD (kk X) ps.length den)) (hr : Room k X.A) (hgd : X.A.guards = some []) (hb : CallB (kk X) fd ps n ks ix dds) (hix : ix.length = ps.length) (tk : Takes X W)
    (I : Inv X pins σ H sh) (rv : Vals vs us) (rz : Vals zs ws) (l1 : ds.length = n) (l2 : es.length = ks.length)
    (ab : Abs (kk X) F adr s σ H) (r1 : RpL (kk X) F adr ds vs) (r2 : RpL (kk X) F adr es zs) (po : Post (kk X) W F adr s σ H (callD den (pick .non ix (ds ++ es ++ dds)) s) Q) :
    wpAny (model X.prog X.w) X.A (call (.ref f) us (ks.zip ws)) (EP X pins σ Q) X.xe sh := by
  obtain ⟨dfl, dvs, hv, hd, hbt⟩ := hb.ex
  have rAll : Vals (vs ++ zs ++ dvs) (us ++ ws ++ dfl) := (rv.append rz).append hv
  have dAll : RpL (kk X) F adr (ds ++ es ++ dds) (vs ++ zs ++ dvs) := (r1.append r2).append (hd F adr)
  have hlen : (pick V.non ix (vs ++ zs ++ dvs)).length = ps.length := by unfold pick; rw [List.length_map, hix]
  refine wpAny_call (codeAny_mono (G.run X.A X.stack sh H ⟨us, ks.zip ws⟩ (pick .none ix (us ++ ws ++ dfl)) (pick .non ix (vs ++ zs ++ dvs)) Q (fun c dd H' => W c dd σ H') hr hgd I.env0
    (hbt sh us ws I.kIn (by rw [← rv.length, r1.length, l1]) (by rw [← rz.length, r2.length, l2])) (vals_pick ix rAll) ⟨F, adr, s.μ, _, ab.toAbsH, rpl_pick ix dAll, hlen, call_post ab po⟩) fun r s' hq => ?_)
  cases r with
  | error e => exact tk e s' (XE.of_call I (fun _ _ _ h => h) hq)
  | ok fl =>
    cases fl with
    | ret u => exact I.after hq
    | next => exact hq.elim
    | brk => exact hq.elim
    | cont => exact hq.elim
theorem PostG.bindE {α β γ δ : Type} {rel : Hp → List Addr → α → β → Prop} {rel' : Hp → List Addr → γ → δ → Prop} {m : R α} {f : α → M γ} {Q : δ → Hp → Prop} (h : PostG K W rel' F adr s σ H (m.bind f) Q) :
    PostG K W rel F adr s σ H m fun v H1 => ∃ F1 adr1 d s1, m = .ok d s1 ∧ Step F adr (Fp adr s σ) H F1 adr1 (Fp adr1 s1 σ) H1 ∧ Abs K F1 adr1 s1 σ H1 ∧ rel F1 adr1 d v ∧ PostG K W rel' F1 adr1 s1 σ H1 (f d s1) Q := by
  cases m with
  | ok d s1 => exact fun v F1 adr1 H1 st ab rp => ⟨F1, adr1, d, s1, rfl, st, ab, rp, PostG.from st h⟩
  | exc x s1 => exact h
  | bad => exact h
theorem mal_len : ∀ {ms : List (M D)} {s s' : S} {ds : List D}, mal ms s = .ok ds s' → ds.length = ms.length
  | [], _, _, _, h => by cases h; rfl
  | m :: ms, s, s', ds, h => by
    have h' : (m s).bind (fun d => bnd (settle d) fun d => bnd (mal ms) fun ds => pur (d :: ds)) = .ok ds s' := h
    cases e1 : m s with
    | ok d s1 =>
      rw [e1] at h'
      have h2 : (settle d s1).bind (fun d => bnd (mal ms) fun ds => pur (d :: ds)) = .ok ds s' := h'
      cases e2 : settle d s1 with
      | ok d2 s2 =>
        rw [e2] at h2
        have h3 : (mal ms s2).bind (fun ds => pur (d2 :: ds)) = .ok ds s' := h2
        cases e3 : mal ms s2 with
        | ok ds3 s3 =>
          rw [e3] at h3
          cases h3
          rw [List.length_cons, mal_len e3, List.length_cons]
        | exc x s3 => rw [e3] at h3; cases h3
        | bad => rw [e3] at h3; cases h3
      | exc x s3 => rw [e2] at h2; cases h2
      | bad => rw [e2] at h2; cases h2
    | exc x s3 => rw [e1] at h'; cases h'
    | bad => rw [e1] at h'; cases h'
section
variable {k : Nat} {f : Addr} {fd : FuncData} {ps ks : List Str} {ix : List Nat} {dds : List D} {den : Den} {x : Str} {p pos : Pos} {e : Expr} {es : List Expr} {kws : List Keyword} {ms mk : List (M D)}
/-- f(e, ..) -/
theorem se_call (G : FnG X.prog X.w X.K X.mg X.base k f fd ps (spD (kk X) ps.length den)) (hr : Room k X.A) (hgd : X.A.guards = some []) (hg : Gl X x) (hm : X.mg x = some (.ref f)) (hk : PySem.W.keepIn X.K (.ref f) = true)
    (hb : CallB (kk X) fd ps ms.length [] ix dds) (hix : ix.length = ps.length) (tk : Takes X W) (ha : SAL X W (e :: es) (mal ms)) (hdb : (x == ("__debug__" : Str)) = false := by decide)
    (he : starEach (e :: es) X.env = (false, eval e X.env) :: starEach es X.env := by rfl) (hpl : (backTo pos (starEach es X.env)).any (·.1) = false := by rfl) :
    SE X W (.Call (.Name x p) (e :: es) [] pos) (callK den ix dds (mal ms) (mal [])) := by
  refine ⟨fun pins sh σ H Q I h => ?_⟩
  obtain ⟨F, adr, s, ab, po⟩ := h
  refine wpAny_Call_Name_kw (ld_glob I hg hm ?_ hdb)
  have hA := ha.run pos pins sh σ H _ I ⟨F, adr, s, ab, PostG.bindE po⟩
  refine PySem.W.callWith_K (h₀ := X.base) I.ok.mod.kin hk (thn hA fun us s1 ⟨vs, H1, I1, rv, F1, adr1, ds, s1', e1, st1, ab1, rp1, po1⟩ => ⟨I1.kIn, ?_⟩) he hpl
  exact run_G (ws := []) (zs := []) (es := []) (n := ms.length) (ks := []) (σ0 := σ) G hr hgd hb hix tk I1 rv .nil (mal_len e1) rfl ab1 rp1 rfl po1
theorem se_callB {id : String} {g : List D → M D} (hc : CallR X (.builtin id) (rCI (kk X) W g)) (hg : Gl X x) (hm : X.mg x = none) (hv : bootBuiltins x = some (.builtin id)) (ha : SA X W (e :: es) (margs ms)) (hn : x ≠ "__name__" := by decide) (hdb : (x == ("__debug__" : Str)) = false := by decide)
    (he : starEach (e :: es) X.env = (false, eval e X.env) :: starEach es X.env := by rfl) (hpl : (backTo pos (starEach es X.env)).any (·.1) = false := by rfl) : SE X W (.Call (.Name x p) (e :: es) [] pos) (bnd (margs ms) g) :=
  PE.imp (pe_callB hc hg hm hv ha hn hdb he hpl) fun σ H Q t => by
    obtain ⟨F, adr, s, ab, po⟩ := t
    refine ⟨F, adr, s, ab, (PostG.bind po).imp ?_⟩
    rintro xs H1 ⟨F1, adr1, ds, s1, st1, ab1, rp1, po1⟩
    exact ⟨F1, adr1, s1, σ, ds, ab1, rp1, po1⟩
theorem se_callTy {id : String} {g : List D → M D} (hc : CallR X (.type id) (rCI (kk X) W g)) (hg : Gl X x) (hm : X.mg x = none) (hv : bootBuiltins x = some (.type id)) (ha : SA X W (e :: es) (margs ms)) (hn : x ≠ "__name__" := by decide) (hdb : (x == ("__debug__" : Str)) = false := by decide)
    (he : starEach (e :: es) X.env = (false, eval e X.env) :: starEach es X.env := by rfl) (hpl : (backTo pos (starEach es X.env)).any (·.1) = false := by rfl) : SE X W (.Call (.Name x p) (e :: es) [] pos) (bnd (margs ms) g) :=
  PE.imp (pe_callTy hc hg hm hv ha hn hdb he hpl) fun σ H Q t => by
    obtain ⟨F, adr, s, ab, po⟩ := t
    refine ⟨F, adr, s, ab, (PostG.bind po).imp ?_⟩
    rintro xs H1 ⟨F1, adr1, ds, s1, st1, ab1, rp1, po1⟩
    exact ⟨F1, adr1, s1, σ, ds, ab1, rp1, po1⟩
end
end
end Bx
namespace Bx
open PySem L2 PySem.Spec PyProof.Rows
section
variable {X : Cx} {W : WX} {K : KK} {F F' H H' : Hp} {adr adr' : List Addr} {s : S} {σ : L2.St} {d : D} {v : V} {e a b c : Expr} {es : List Expr} {m ma mb mc : M D} {ms : List (M D)} {pos : Pos}
def mtup (ms : List (M D)) : M D := bnd (mal ms) fun ds => pur (.tup ds)
def mlst (ms : List (M D)) : M D := bnd (mal ms) fun ds => pur (.lst ds)
theorem se_tup {x1 : Nat} (h : SAL X W es (mal ms)) (hl : ms.length ≤ 100000 := by decide) : SE X W (.Tuple es x1 pos) (mtup ms) := PE.imp (pe_tupX h) fun σ H Q t => by
  obtain ⟨F, adr, s, ab, po⟩ := t
  refine ⟨F, adr, s, ab, (PostG.bindE po).imp ?_⟩
  rintro xs H1 ⟨F1, adr1, ds, s1, e1, st1, ab1, rp1, po1⟩
  refine ⟨sz (by rw [rp1.length, mal_len e1]; exact hl), fun p ob hd hp => Post.new ab1 po1 hp ⟨p, xs, rfl, .of upd_same hd, rp1.mono (Ex.new (ab1.fnone hp)) (List.prefix_refl _)⟩⟩
theorem se_lst (h : SAL X W es (mal ms)) (hl : ms.length ≤ 100000 := by decide) : SE X W (.List es pos) (mlst ms) := PE.imp (pe_lst h) fun σ H Q t => by
  obtain ⟨F, adr, s, ab, po⟩ := t
  refine ⟨F, adr, s, ab, (PostG.bindE po).imp ?_⟩
  rintro xs H1 ⟨F1, adr1, ds, s1, e1, st1, ab1, rp1, po1⟩
  refine ⟨sz (by rw [rp1.length, mal_len e1]; exact hl), fun p hp => Post.new ab1 po1 hp ⟨p, xs, rfl, upd_same, rp1.mono (Ex.new (ab1.fnone hp)) (List.prefix_refl _)⟩⟩
def lookD (f : Str) : List (Str × D) → Option D
  | [] => none
  | (g, d) :: r => if f = g then some d else lookD f r
theorem RpF.look {f : Str} : ∀ {ds : List (Str × D)} {fs : List (Str × V)} {d : D}, RpF K F adr ds fs → lookD f ds = some d → ∃ v, fs.lookup f = some v ∧ Rp K F adr d v
  | [], _, _, _, h => nomatch h
  | (g, d0) :: ds, _, d, ⟨v, r, q, h1, h2⟩, h => by
    subst q
    have h' : (if f = g then some d0 else lookD f ds) = some d := h
    by_cases hf : f = g
    · rw [if_pos hf] at h'
      cases h'
      exact ⟨v, by rw [hf, List.lookup_cons, beq_self_eq_true], h1⟩
    · rw [if_neg hf] at h'
      obtain ⟨u, e1, e2⟩ := RpF.look h2 h'
      exact ⟨u, by rw [List.lookup_cons, beq_eq_false_iff_ne.mpr hf]; exact e1, e2⟩
theorem RpF.lookN {f : Str} : ∀ {ds : List (Str × D)} {fs : List (Str × V)}, RpF K F adr ds fs → lookD f ds = none → fs.lookup f = none
  | [], _, r, _ => by cases r; rfl
  | (g, d0) :: ds, _, ⟨v, r, q, h1, h2⟩, h => by
    subst q
    have h' : (if f = g then some d0 else lookD f ds) = none := h
    by_cases hf : f = g
    · rw [if_pos hf] at h'; cases h'
    · rw [if_neg hf] at h'
      rw [List.lookup_cons, beq_eq_false_iff_ne.mpr hf]
      exact RpF.lookN h2 h'
/-- an object of the class c: still, in the store, one's own -/
def objOf (c : Str) (s : S) : D → Option (List (Str × D))
  | .obj c' fs => if c' = c then some fs else none
  | .ref i => match s.μ[i]? with
    | some (.ins c' fs) => if c' = c then some fs else none
    | _ => none
  | .loc j => match s.ρ[j]? with
    | some (.own (.ins c' fs)) => if c' = c then some fs else none
    | some (.own (.slf c' _ _ fs)) => if c' = c then some fs else none
    | some (.val (.obj c' fs)) => if c' = c then some fs else none
    | _ => none
  | _ => none
theorem Abs.obj {c : Str} {fs : List (Str × D)} (ab : Abs K F adr s σ H) (r : RpV K F adr σ d v) (h : objOf c s d = some fs) : ∃ a dx vs, v = .ref a ∧ H a = some (.ins (He.ga K.K c) dx vs) ∧ RpF K F adr fs vs := by
  have still : ∀ c' (v : V), Rp K F adr (.obj c' fs) v → c' = c → ∃ a dx vs, v = .ref a ∧ H a = some (.ins (He.ga K.K c) dx vs) ∧ RpF K F adr fs vs := fun c' v ⟨a, dx, vs, q, e, z⟩ hc => by
    subst hc
    exact ⟨a, dx, vs, q, ex_i ab.sub (fun z => z) e, z⟩
  cases d <;> first | (cases h; done) | skip
  case obj c' gs =>
    by_cases hc : c' = c
    · simp only [objOf, hc, if_true, Option.some.injEq] at h
      subst h
      exact still c' v r hc
    · simp only [objOf, hc, if_false] at h
      cases h
  case ref i =>
    obtain ⟨a, q, rfl⟩ := r
    cases e : s.μ[i]? with
    | none => simp only [objOf, e] at h; cases h
    | some m =>
      obtain ⟨h1, o, h2, h3⟩ := ab.sto i a m q e
      cases m <;> first | (simp only [objOf, e] at h; cases h; done) | skip
      case ins c' gs =>
        by_cases hc : c' = c
        · simp only [objOf, e, hc, if_true, Option.some.injEq] at h
          subst h hc
          obtain ⟨dx, vs, rfl, z⟩ := h3
          exact ⟨a, dx, vs, rfl, h2, z⟩
        · simp only [objOf, e, hc, if_false] at h
          cases h
  case loc j =>
    have r' : σ[j]? = some (some v) := r
    cases e : s.ρ[j]? with
    | none => simp only [objOf, e] at h; cases h
    | some sl =>
      cases sl with
      | no => simp only [objOf, e] at h; cases h
      | val d1 =>
        obtain ⟨v', q1, q2⟩ := ab.slv j d1 e
        rw [r'] at q1
        cases q1
        cases d1 <;> first | (simp only [objOf, e] at h; cases h; done) | skip
        case obj c' gs =>
          by_cases hc : c' = c
          · simp only [objOf, e, hc, if_true, Option.some.injEq] at h
            subst h
            exact still c' v q2 hc
          · simp only [objOf, e, hc, if_false] at h
            cases h
      | own m =>
        obtain ⟨l, o, q1, q2, q3, q4, q5⟩ := ab.slo j m e
        rw [r'] at q1
        cases q1
        cases m <;> first | (simp only [objOf, e] at h; cases h; done) | skip
        case ins c' gs =>
          by_cases hc : c' = c
          · simp only [objOf, e, hc, if_true, Option.some.injEq] at h
            subst h hc
            obtain ⟨dx, vs, rfl, z⟩ := q5
            exact ⟨l, dx, vs, rfl, q4, z⟩
          · simp only [objOf, e, hc, if_false] at h
            cases h
        case slf c' x dx gs =>
          by_cases hc : c' = c
          · simp only [objOf, e, hc, if_true, Option.some.injEq] at h
            subst h hc
            obtain ⟨_, vs, rfl, z⟩ := q5
            exact ⟨l, dx, vs, rfl, q4, z⟩
          · simp only [objOf, e, hc, if_false] at h
            cases h
def fldD (c f : Str) (d : D) : M D := fun s => match objOf c s d with
  | some fs => match lookD f fs with
    | some x => .ok x s
    | none => .bad
  | none => .bad
theorem se_fld {cn f : Str} (he : SE X W e m) (cl : Cls X.K (He.ga X.K cn)) (na : NoAttr X.K (He.ga X.K cn) f) (hb : attributeBase e f X.env (eval e X.env) = eval e X.env := by rfl) : SE X W (.Attribute e f pos) (bnd m (fldD cn f)) :=
  PE.imp (pe_fld he hb) fun σ H Q t => by
    obtain ⟨F, adr, s, ab, po⟩ := t
    refine ⟨F, adr, s, ab, (PostG.bind po).imp ?_⟩
    rintro x H1 ⟨F1, adr1, d1, s1, st1, ab1, rp1, po1⟩
    unfold fldD at po1
    cases h1 : objOf cn s1 d1 with
    | none => rw [h1] at po1; exact po1.elim
    | some fs =>
      rw [h1] at po1
      obtain ⟨a, dx, vs, q1, q2, q3⟩ := ab1.obj rp1 h1
      cases h2 : lookD f fs with
      | none => simp only [h2] at po1; exact po1.elim
      | some y =>
        simp only [h2] at po1
        obtain ⟨u, z1, z2⟩ := q3.look h2
        exact ⟨a, _, dx, vs, u, q1, q2, cl, na, z1, Post.at ab1 po1 z2⟩
def andD (a b : M D) : M D := bnd a fun d => match d with
  | .bl true => b
  | .bl false => pur (.bl false)
  | _ => fun _ => .bad
def orD (a b : M D) : M D := bnd a fun d => match d with
  | .bl false => b
  | .bl true => pur (.bl true)
  | _ => fun _ => .bad
def notD (a : M D) : M D := bnd a fun d => match d with
  | .bl x => pur (.bl !x)
  | _ => fun _ => .bad
theorem se_one {op : BoolOp} (h : SE X W a ma) : SE X W (.BoolOp op [a] pos) ma := PE.imp (pe_one h) fun _ _ _ t => t
theorem se_and {rest : List Expr} (ha : SE X W a ma) (hb : SE X W (.BoolOp .And (b :: rest) pos) mb) : SE X W (.BoolOp .And (a :: b :: rest) pos) (andD ma mb) := PE.imp (pe_and ha hb) fun σ H Q t => by
  obtain ⟨F, adr, s, ab, po⟩ := t
  refine ⟨F, adr, s, ab, (PostG.bind po).imp ?_⟩
  rintro x H1 ⟨F1, adr1, d1, s1, st1, ab1, rp1, po1⟩
  cases d1 <;> try (exact po1.elim)
  case bl k =>
    refine ⟨k, rp1, ?_⟩
    cases k with
    | true => exact ⟨F1, adr1, s1, ab1, po1⟩
    | false => exact Post.at ab1 po1 rfl
theorem se_not (ha : SE X W a ma) : SE X W (.UnaryOp .Not a pos) (notD ma) := PE.imp (pe_not ha) fun σ H Q t => by
  obtain ⟨F, adr, s, ab, po⟩ := t
  refine ⟨F, adr, s, ab, (PostG.bind po).imp ?_⟩
  rintro x H1 ⟨F1, adr1, d1, s1, st1, ab1, rp1, po1⟩
  cases d1 <;> try (exact po1.elim)
  case bl k => exact ⟨k, rp1, Post.at ab1 po1 rfl⟩
def SW (X : Cx) (W : WX) (e : Expr) (m : M Bool) : Prop := PW X e (tT (kk X) W m)
theorem PW.imp {e : Expr} {t t' : TT} (h : PW X e t) (q : ∀ σ H Q, t' σ H Q → t σ H Q) : PW X e t' := ⟨fun wh pins s σ H Q I w => h.run wh pins s σ H Q I (q σ H Q w)⟩
variable {ta tb tc : M Bool}
theorem st_w (h : SW X W e ta) : ST X W e ta := PW.pt h
theorem sw_and1 (ha : ST X W a ta) : SW X W (.BoolOp .And [a] pos) ta := PW.imp (pw_and1 ha) fun _ _ _ t => t
theorem sw_or1 (ha : ST X W a ta) : SW X W (.BoolOp .Or [a] pos) ta := PW.imp (pw_or1 ha) fun _ _ _ t => t
def andT (a b : M Bool) : M Bool := bnd a fun x => if x then b else pur false
def orT (a b : M Bool) : M Bool := bnd a fun x => if x then pur true else b
def notT (a : M Bool) : M Bool := bnd a fun x => pur !x
theorem PostG.done {α β : Type} {rel : Hp → List Addr → α → β → Prop} {x : α} {y : β} {Q : β → Hp → Prop} (ab : Abs K F adr s σ H) (po : PostG K W rel F adr s σ H (.ok x s) Q) (r : rel F adr x y) : Q y H := po y F adr H .refl ab r
theorem sw_and {rest : List Expr} (ha : ST X W a ta) (hb : SW X W (.BoolOp .And (b :: rest) pos) tb) : SW X W (.BoolOp .And (a :: b :: rest) pos) (andT ta tb) := PW.imp (pw_and ha hb) fun σ H Q t => by
  obtain ⟨F, adr, s, ab, po⟩ := t
  refine ⟨F, adr, s, ab, (PostG.bind po).imp ?_⟩
  rintro x H1 ⟨F1, adr1, d1, s1, st1, ab1, rp1, po1⟩
  have e1 : x = d1 := rp1
  subst e1
  cases x with
  | true => exact ⟨F1, adr1, s1, ab1, po1⟩
  | false => exact PostG.done ab1 po1 rfl
theorem sw_or {rest : List Expr} (ha : ST X W a ta) (hb : SW X W (.BoolOp .Or (b :: rest) pos) tb) : SW X W (.BoolOp .Or (a :: b :: rest) pos) (orT ta tb) := PW.imp (pw_or ha hb) fun σ H Q t => by
  obtain ⟨F, adr, s, ab, po⟩ := t
  refine ⟨F, adr, s, ab, (PostG.bind po).imp ?_⟩
  rintro x H1 ⟨F1, adr1, d1, s1, st1, ab1, rp1, po1⟩
  have e1 : x = d1 := rp1
  subst e1
  cases x with
  | true => exact PostG.done ab1 po1 rfl
  | false => exact ⟨F1, adr1, s1, ab1, po1⟩
theorem st_not (ha : ST X W a ta) : ST X W (.UnaryOp .Not a pos) (notT ta) := PT.imp (pt_not ha) fun σ H Q t => by
  obtain ⟨F, adr, s, ab, po⟩ := t
  refine ⟨F, adr, s, ab, (PostG.bind po).imp ?_⟩
  rintro x H1 ⟨F1, adr1, d1, s1, st1, ab1, rp1, po1⟩
  have e1 : x = d1 := rp1
  subst e1
  exact PostG.done ab1 po1 rfl
/-- a comparison that gives a truth -/
def tru (a : M D) : M Bool := bnd a fun d => match d with
  | .bl x => pur x
  | _ => fun _ => .bad
theorem t_tru {σ : L2.St} {H : Hp} {Q : Bool → Hp → Prop} (t : tT K W (tru m) σ H Q) : tI K W m σ H fun x H1 => ∃ k, x = .bl k ∧ Q k H1 := by
  obtain ⟨F, adr, s, ab, po⟩ := t
  refine ⟨F, adr, s, ab, (PostG.bind po).imp ?_⟩
  rintro x H1 ⟨F1, adr1, d1, s1, st1, ab1, rp1, po1⟩
  cases d1 <;> try (exact po1.elim)
  case bl k => exact ⟨k, rp1, PostG.done ab1 po1 rfl⟩
theorem st_cmp {op : CmpOp} {f : D → D → M D} (ho : OpR X (compareOp op) (r2I (kk X) W f)) (ha : SE X W a ma) (hb : SE X W b mb) (hm : behindInMarks op b = false) : ST X W (.Compare a [op] [b] pos) (tru (bin f ma mb)) :=
  PT.imp (pt_cmpR ho ha hb hm) fun σ H Q t => t_bin (t_tru t)
def chain (f g : D → D → M D) (a b c : M D) : M D := bnd a fun x => bnd b fun y => bnd (f x y) fun z => match z with
  | .bl true => bnd c fun w => g y w
  | .bl false => pur (.bl false)
  | _ => fun _ => .bad
theorem t_chain {f g : D → D → M D} {σ : L2.St} {H : Hp} {Q : VK} (t : tI K W (chain f g ma mb mc) σ H Q) : tChain (r2I K W f) (r2I K W g) (tI K W ma) (tI K W mb) (tI K W mc) σ H Q := by
  obtain ⟨F, adr, s, ab, po⟩ := t
  refine ⟨F, adr, s, ab, (PostG.bind po).imp ?_⟩
  rintro x H1 ⟨F1, adr1, d1, s1, st1, ab1, rp1, po1⟩
  refine ⟨F1, adr1, s1, ab1, (PostG.bind po1).imp ?_⟩
  rintro y H2 ⟨F2, adr2, d2, s2, st2, ab2, rp2, po2⟩
  refine ⟨F2, adr2, s2, σ, d1, d2, ab2, rp1.mono st2.ex st2.pre, rp2, (PostG.bind po2).imp ?_⟩
  rintro z H3 ⟨F3, adr3, d3, s3, st3, ab3, rp3, po3⟩
  cases d3 <;> try (exact po3.elim)
  case bl k =>
    refine ⟨k, rp3, ?_⟩
    cases k with
    | false => exact Post.at ab3 po3 rfl
    | true =>
      refine ⟨F3, adr3, s3, ab3, (PostG.bind po3).imp ?_⟩
      rintro w H4 ⟨F4, adr4, d4, s4, st4, ab4, rp4, po4⟩
      exact ⟨F4, adr4, s4, σ, d2, d4, ab4, rp2.mono (st3.trans st4).ex (st3.trans st4).pre, rp4, po4⟩
theorem se_chain {op op' : CmpOp} {f g : D → D → M D} (ho : OpR X (compareOp op) (r2I (kk X) W f)) (ho' : OpR X (compareOp op') (r2I (kk X) W g)) (ha : SE X W a ma) (hb : SE X W b mb) (hc : SE X W c mc)
    (hm : lastMarks [op, op'] [b, c] = false := by with_unfolding_all rfl) : SE X W (.Compare a [op, op'] [b, c] pos) (chain f g ma mb mc) := PE.imp (pe_chain ho ho' ha hb hc hm) fun _ _ _ => t_chain
theorem st_chain {op op' : CmpOp} {f g : D → D → M D} (ho : OpR X (compareOp op) (r2I (kk X) W f)) (ho' : OpR X (compareOp op') (r2I (kk X) W g)) (ha : SE X W a ma) (hb : SE X W b mb) (hc : SE X W c mc)
    (hm : lastMarks [op, op'] [b, c] = false := by with_unfolding_all rfl) : ST X W (.Compare a [op, op'] [b, c] pos) (tru (chain f g ma mb mc)) := PT.imp (pt_chain ho ho' ha hb hc hm) fun σ H Q t => t_chain (t_tru t)
/-- any value as a test, by its truth -/
def truthD (s : S) (d : D) : Option Bool := match rsl s d with
  | .non => some false
  | .bl b => some b
  | .int i => some (i != 0)
  | .str x => if x.length ≤ 100000 then some ((x.length : Int) != 0) else none
  | .lst xs => some (!xs.isEmpty)
  | .tup xs => some (!xs.isEmpty)
  | _ => none
def truth (a : M D) : M Bool := bnd a fun d s => match truthD s d with
  | some b => .ok b s
  | none => .bad
theorem RpL.isEmpty {ds : List D} {vs : List V} (h : RpL K F adr ds vs) : vs.isEmpty = ds.isEmpty := by
  have e := h.length
  cases ds <;> cases vs <;> first | rfl | simp at e
theorem truth_ok {k : Bool} (ab : Abs K F adr s σ H) (r : RpV K F adr σ d v) (h : truthD s d = some k) : TruV K.K v H k := by
  have t := ab.t r
  unfold truthD at h
  generalize rsl s d = e1 at *
  cases e1 <;> first | (cases h; done) | skip
  case non => cases h; rw [RpT.non t]; exact rfl
  case bl x => cases h; rw [RpT.bl t]; exact rfl
  case int x => cases h; rw [RpT.int t]; exact rfl
  case str x =>
    rw [RpT.str t]
    by_cases hc : x.length ≤ 100000
    · simp only [hc, if_true] at h; cases h; exact ⟨sz hc, rfl⟩
    · simp only [hc, if_false] at h; cases h
  case lst xs =>
    cases h
    obtain ⟨a, vs, rfl, h1, h2⟩ := t
    exact .inl ⟨vs, SqL.of h1, by rw [h2.isEmpty]⟩
  case tup xs =>
    cases h
    obtain ⟨a, vs, rfl, h1, h2⟩ := t
    exact .inr (.inl ⟨vs, ex_t ab.sub h1.t, by rw [h2.isEmpty]⟩)
theorem st_truth (ha : SE X W a ma) (he : ∀ whole, isTrue a X.env whole = (do let v ← whole; standAt a.pos; holding [v] (truthy v)) := by intro _; rfl) : ST X W a (truth ma) := PT.imp (pt_truth ha he) fun σ H Q t => by
  obtain ⟨F, adr, s, ab, po⟩ := t
  refine ⟨F, adr, s, ab, (PostG.bind po).imp ?_⟩
  rintro x H1 ⟨F1, adr1, d1, s1, st1, ab1, rp1, po1⟩
  cases e : truthD s1 d1 with
  | none => simp only [e] at po1; exact po1.elim
  | some k => simp only [e] at po1; exact ⟨k, truth_ok ab1 rp1 e, PostG.done ab1 po1 rfl⟩
def ifD (t : M Bool) (a b : M D) : M D := bnd t fun x => if x then a else b
theorem se_if (hc : ST X W c tc) (ha : SE X W a ma) (hb : SE X W b mb) : SE X W (.IfExp c a b pos) (ifD tc ma mb) := PE.imp (pe_ifExp hc ha hb) fun σ H Q t => by
  obtain ⟨F, adr, s, ab, po⟩ := t
  refine ⟨F, adr, s, ab, (PostG.bind po).imp ?_⟩
  rintro x H1 ⟨F1, adr1, d1, s1, st1, ab1, rp1, po1⟩
  have e1 : x = d1 := rp1
  subst e1
  cases x with
  | true => exact ⟨F1, adr1, s1, ab1, po1⟩
  | false => exact ⟨F1, adr1, s1, ab1, po1⟩
theorem RpVs.one {d : D} {vs : List V} (h : RpVs K F adr σ [d] vs) : ∃ v, vs = [v] ∧ RpV K F adr σ d v := by
  obtain ⟨v, r, q, h1, h2⟩ := h
  have e : r = [] := h2
  exact ⟨v, by rw [q, e], h1⟩
theorem RpVs.two {d e : D} {vs : List V} (h : RpVs K F adr σ [d, e] vs) : ∃ v u, vs = [v, u] ∧ RpV K F adr σ d v ∧ RpV K F adr σ e u := by
  obtain ⟨v, r, q, h1, h2⟩ := h
  obtain ⟨u, e2, h3⟩ := RpVs.one h2
  exact ⟨v, u, by rw [q, e2], h1, h3⟩
/-- a function of one value, of two -/
def f1 (g : D → M D) : List D → M D := fun ds => match ds with
  | [d] => g d
  | _ => fun _ => .bad
def f2 (g : D → D → M D) : List D → M D := fun ds => match ds with
  | [d, e] => g d e
  | _ => fun _ => .bad
theorem f1_of {g : D → M D} {xs : List V} {Q : VK} (h : rCI K W (f1 g) xs H Q) : ∃ x, xs = [x] ∧ r1I K W g x H Q := by
  obtain ⟨F, adr, s, σ, ds, ab, rp, po⟩ := h
  match ds, rp, po with
  | [], _, po => exact po.elim
  | [d], rp, po =>
    obtain ⟨v, e, r⟩ := RpVs.one rp
    exact ⟨v, e, F, adr, s, σ, d, ab, r, po⟩
  | _ :: _ :: _, _, po => exact po.elim
theorem f2_of {g : D → D → M D} {xs : List V} {Q : VK} (h : rCI K W (f2 g) xs H Q) : ∃ x y, xs = [x, y] ∧ r2I K W g x y H Q := by
  obtain ⟨F, adr, s, σ, ds, ab, rp, po⟩ := h
  match ds, rp, po with
  | [], _, po => exact po.elim
  | [_], _, po => exact po.elim
  | [d, e], rp, po =>
    obtain ⟨v, u, q, r1, r2⟩ := RpVs.two rp
    exact ⟨v, u, q, F, adr, s, σ, d, e, ab, r1, r2, po⟩
  | _ :: _ :: _ :: _, _, po => exact po.elim
def lenD (d : D) : M D := fun s => match rsl s d with
  | .str x => if x.length ≤ 100000 then .ok (.int x.length) s else .bad
  | .lst xs => .ok (.int xs.length) s
  | .tup xs => .ok (.int xs.length) s
  | .scr xs => .ok (.int xs.length) s
  | _ => .bad
theorem cr_len : CallR X (.builtin "len") (rCI (kk X) W (f1 lenD)) := CallR.imp call_len fun xs H Q h => by
  obtain ⟨x, rfl, F, adr, s, σ, d, ab, r, po⟩ := f1_of h
  have t := ab.t r
  unfold lenD at po
  generalize rsl s d = e1 at *
  cases e1 <;> try (exact po.elim)
  case str z =>
    by_cases hc : z.length ≤ 100000
    · simp only [hc, if_true] at po
      rw [RpT.str t]
      exact ⟨_, z.length, rfl, ⟨sz hc, rfl⟩, Post.at ab po rfl⟩
    · simp only [hc, if_false] at po; exact po.elim
  case lst ds =>
    obtain ⟨a, vs, rfl, h1, h2⟩ := t
    exact ⟨_, vs.length, rfl, .inl ⟨vs, SqL.of h1, rfl⟩, Post.at ab po (by rw [h2.length]; rfl)⟩
  case tup ds =>
    obtain ⟨a, vs, rfl, h1, h2⟩ := t
    exact ⟨_, vs.length, rfl, .inr ⟨vs, ex_t ab.sub h1.t, rfl⟩, Post.at ab po (by rw [h2.length]; rfl)⟩
  case scr ns =>
    obtain ⟨a, rfl, h1⟩ := t
    exact ⟨_, (ns.map V.int).length, rfl, .inl ⟨_, ex_l ab.sub h1, rfl⟩, Post.at ab po (by rw [List.length_map]; rfl)⟩
def absD (d : D) : M D := fun s => match rsl s d with
  | .int i => .ok (.int (if i < 0 then -i else i)) s
  | _ => .bad
theorem cr_abs : CallR X (.builtin "abs") (rCI (kk X) W (f1 absD)) := CallR.imp call_abs fun xs H Q h => by
  obtain ⟨x, rfl, F, adr, s, σ, d, ab, r, po⟩ := f1_of h
  have t := ab.t r
  unfold absD at po
  generalize rsl s d = e1 at *
  cases e1 <;> try (exact po.elim)
  case int i => rw [RpT.int t]; exact ⟨i, rfl, Post.at ab po rfl⟩
def maxD : D → D → M D := ii fun i j => .int (if j > i then j else i)
def minD : D → D → M D := ii fun i j => .int (if j < i then j else i)
theorem cr_max2 (hc : X.calm = true) : CallR X (.builtin "max") (rCI (kk X) W (f2 maxD)) := CallR.imp (call_max2 hc) fun xs H Q h => by
  obtain ⟨x, y, rfl, h2⟩ := f2_of h
  obtain ⟨i, j, rfl, rfl, q⟩ := ii_of h2 (fun i j => .int (if j > i then j else i)) fun _ _ _ _ => rfl
  exact ⟨i, j, rfl, q⟩
theorem cr_min2 (hc : X.calm = true) : CallR X (.builtin "min") (rCI (kk X) W (f2 minD)) := CallR.imp (call_min2 hc) fun xs H Q h => by
  obtain ⟨x, y, rfl, h2⟩ := f2_of h
  obtain ⟨i, j, rfl, rfl, q⟩ := ii_of h2 (fun i j => .int (if j < i then j else i)) fun _ _ _ _ => rfl
  exact ⟨i, j, rfl, q⟩
def intD (d : D) : M D := fun s => match rsl s d with
  | .int i => .ok (.int i) s
  | .bl k => .ok (.int (if k then 1 else 0)) s
  | _ => .bad
/-- a list of truths -/
def blsD : List D → Option (List Bool)
  | [] => some []
  | .bl b :: r => (blsD r).map (b :: ·)
  | _ => none
theorem RpL.bls : ∀ {ds : List D} {vs : List V} {bs : List Bool}, RpL K F adr ds vs → blsD ds = some bs → vs = bs.map V.bl
  | [], _, _, h, e => by cases e; exact h
  | d :: ds, _, _, ⟨v, r, q, h1, h2⟩, e => by
    cases d <;> first | (cases e; done) | skip
    case bl b =>
      obtain ⟨cs, e1, rfl⟩ := Option.map_eq_some_iff.mp (show (blsD ds).map (b :: ·) = some _ from e)
      rw [q, RpL.bls h2 e1, show v = .bl b from h1]
      rfl
def allD (d : D) : M D := fun s => match rsl s d with
  | .lst ds => match blsD ds with
    | some bs => .ok (.bl (bs.all id)) s
    | none => .bad
  | _ => .bad
theorem cr_allD (hc : X.calm = true) : CallR X (.builtin "all") (rCI (kk X) W (f1 allD)) := CallR.imp (cr_all hc) fun xs H Q h => by
  obtain ⟨x, rfl, F, adr, s, σ, d, ab, r, po⟩ := f1_of h
  have t := ab.t r
  unfold allD at po
  generalize rsl s d = e1 at *
  cases e1 <;> try (exact po.elim)
  case lst ds =>
    obtain ⟨a, vs, rfl, h1, h2⟩ := t
    cases e : blsD ds with
    | none => simp only [e] at po; exact po.elim
    | some bs => simp only [e] at po; exact ⟨a, bs, rfl, SqL.of (by rw [← h2.bls e]; exact h1), Post.at ab po rfl⟩
/-- tuple(..) -/
def tupleD (d : D) : M D := fun s => match rsl s d with
  | .lst xs => .ok (.tup xs) s
  | .tup xs => .ok (.tup xs) s
  | _ => .bad
theorem cr_tuple : CallR X (.type "tuple") (rCI (kk X) W (f1 tupleD)) := CallR.imp call_tuple_X fun xs H Q h => by
  obtain ⟨x, rfl, F, adr, s, σ, d, ab, r, po⟩ := f1_of h
  have t := ab.t r
  unfold tupleD at po
  generalize rsl s d = e1 at *
  cases e1 <;> try (exact po.elim)
  case lst ds =>
    obtain ⟨a, vs, rfl, h1, h2⟩ := t
    exact ⟨a, vs, rfl, .inl ⟨SqL.of h1, fun p ob hd hp => Post.new ab po hp ⟨p, vs, rfl, .of upd_same hd, h2.mono (Ex.new (ab.fnone hp)) (List.prefix_refl _)⟩⟩⟩
  case tup ds =>
    obtain ⟨a, vs, rfl, h1, h2⟩ := t
    exact ⟨a, vs, rfl, .inr ⟨ex_t ab.sub h1.t, Post.at ab po ⟨a, vs, rfl, h1, h2⟩⟩⟩
def listD (d : D) : M D := fun s => match rsl s d with
  | .lst xs => .ok (.lst xs) s
  | .tup xs => .ok (.lst xs) s
  | _ => .bad
end
end Bx
namespace Bx
open PySem L2 PySem.Spec PyProof.Rows
section
variable {X : Cx} {W : WX} {K : KK} {F F' H H' : Hp} {adr adr' : List Addr} {s s' : S} {σ σ' : L2.St} {d : D} {v : V} {e a b c : Expr} {es : List Expr} {m ma mb mc : M D} {ms : List (M D)} {pos : Pos} {E : Ends}
theorem PostS.from {r : RS} {F1 : Hp} {adr1 : List Addr} {s1 : S} {σ1 : L2.St} {H1 : Hp} (st : Step F adr (Fp adr s σ) H F1 adr1 (Fp adr1 s1 σ1) H1) (h : PostS K W F adr s σ H r E) : PostS K W F1 adr1 s1 σ1 H1 r E := by
  cases r with
  | nx s2 => exact fun σ2 F2 adr2 H2 st2 ab2 => h σ2 F2 adr2 H2 (st.trans st2) ab2
  | bk s2 => exact fun σ2 F2 adr2 H2 st2 ab2 => h σ2 F2 adr2 H2 (st.trans st2) ab2
  | ct s2 => exact fun σ2 F2 adr2 H2 st2 ab2 => h σ2 F2 adr2 H2 (st.trans st2) ab2
  | rt d s2 => exact fun σ2 v F2 adr2 H2 st2 ab2 => h σ2 v F2 adr2 H2 (st.trans st2) ab2
  | exc x s2 => exact fun c dd σ2 F2 adr2 H2 st2 ab2 => h c dd σ2 F2 adr2 H2 (st.trans st2) ab2
  | bad => exact h
def R.toS {α : Type} (r : R α) (f : α → MS) : RS := match r with
  | .ok x s => f x s
  | .exc x s => .exc x s
  | .bad => .bad
theorem S_bind {α β : Type} {rel : Hp → List Addr → α → β → Prop} {r : R α} {f : α → MS} (h : PostS K W F adr s σ H (r.toS f) E) :
    PostG K W rel F adr s σ H r fun v H1 => ∃ F1 adr1 d s1, Step F adr (Fp adr s σ) H F1 adr1 (Fp adr1 s1 σ) H1 ∧ Abs K F1 adr1 s1 σ H1 ∧ rel F1 adr1 d v ∧ PostS K W F1 adr1 s1 σ H1 (f d s1) E := by
  cases r with
  | ok d s1 => exact fun v F1 adr1 H1 st ab rp => ⟨F1, adr1, d, s1, st, ab, rp, PostS.from st h⟩
  | exc x s1 => exact fun c dd F1 adr1 H1 st ab rp => h c dd σ F1 adr1 H1 st ab rp
  | bad => exact h
def sq (a b : MS) : MS := fun s => match a s with
  | .nx s' => b s'
  | r => r
def skip : MS := fun s => .nx s
theorem sb_nil : SB X W [] skip := PSs.imp pss_nil fun E σ H t => by
  obtain ⟨F, adr, s, ab, po⟩ := t
  exact po σ F adr H .refl ab
theorem sb_cons {st : Stmt} {rest : List Stmt} {x y : MS} (h1 : SS X W st x) (h2 : SB X W rest y) : SB X W (st :: rest) (sq x y) := PSs.imp (pss_cons h1 h2) fun E σ H t => by
  obtain ⟨F, adr, s, ab, po⟩ := t
  refine ⟨F, adr, s, ab, ?_⟩
  unfold sq at po
  cases e : x s with
  | nx s1 => rw [e] at po; exact fun σ1 F1 adr1 H1 st1 ab1 => ⟨F1, adr1, s1, ab1, PostS.from st1 po⟩
  | _ => rw [e] at po; exact po
theorem sb_one {st : Stmt} {x : MS} (h1 : SS X W st x) : SB X W [st] x := PSs.imp (pss_one h1) fun E σ H t => t
def sbreak : MS := fun s => .bk s
def scont : MS := fun s => .ct s
def sexpr (m : M D) : MS := fun s => (m s).toS fun _ => skip
theorem ss_expr (he : SE X W e m) (hs : swapsWith e none pos.line X.env = pure false := by rfl) : SS X W (.Expr e pos) (sexpr m) := PS.imp (ps_expr he hs) fun E σ H t => by
  obtain ⟨F, adr, s, ab, po⟩ := t
  refine ⟨F, adr, s, ab, (S_bind po).imp ?_⟩
  rintro x H1 ⟨F1, adr1, d1, s1, st1, ab1, rp1, po1⟩
  exact po1 σ F1 adr1 H1 .refl ab1
def sret (m : M D) : MS := fun s => (stl m s).toS fun d s => .rt d s
theorem t_stl {σ : L2.St} {H : Hp} {f : D → MS} (ab : Abs K F adr s σ H) (po : PostS K W F adr s σ H ((stl m s).toS f) E) :
    Post K W F adr s σ H (m s) fun v H1 => ∃ F1 adr1 d s1, Step F adr (Fp adr s σ) H F1 adr1 (Fp adr1 s1 σ) H1 ∧ Abs K F1 adr1 s1 σ H1 ∧ Rp K F1 adr1 d v ∧ PostS K W F1 adr1 s1 σ H1 (f d s1) E := by
  unfold stl bnd at po
  cases e : m s with
  | ok d s1 =>
    rw [e] at po
    intro v F1 adr1 H1 st1 ab1 rp1
    have po' : PostS K W F adr s σ H ((settle d s1).toS f) E := po
    cases e2 : settle d s1 with
    | ok d2 s2 =>
      rw [e2] at po'
      obtain ⟨F2, q1, q2, q3⟩ := settle_ok ab1 rp1 e2
      exact ⟨F2, adr1, d2, s2, st1.trans q1, q2, q3, PostS.from (st1.trans q1) po'⟩
    | exc x s' => cases d <;> simp [settle] at e2 <;> (split at e2 <;> cases e2)
    | bad => rw [e2] at po'; exact po'.elim
  | exc x s1 => rw [e] at po; exact fun c dd F1 adr1 H1 st ab rp => po c dd σ F1 adr1 H1 st ab rp
  | bad => rw [e] at po; exact po
theorem ss_ret (he : SE X W e m) : SS X W (.Return (some e) pos) (sret m) := PS.imp (ps_ret he) fun E σ H t => by
  obtain ⟨F, adr, s, ab, po⟩ := t
  refine ⟨F, adr, s, ab, PostG.imp (t_stl ab po) ?_⟩
  rintro x H1 ⟨F1, adr1, d1, s1, st1, ab1, rp1, po1⟩
  exact po1 σ x F1 adr1 H1 .refl ab1 rp1
def sretN : MS := fun s => .rt .non s
def sif (t : M Bool) (x y : MS) : MS := fun s => (t s).toS fun b => if b then x else y
theorem ss_if {t : M Bool} {x y : MS} {p q : List Stmt} (hc : ST X W c t) (hx : SB X W p x) (hy : SB X W q y) : SS X W (.If c p q pos) (sif t x y) := PS.imp (ps_if hc hx hy) fun E σ H t => by
  obtain ⟨F, adr, s, ab, po⟩ := t
  refine ⟨F, adr, s, ab, (S_bind po).imp ?_⟩
  rintro z H1 ⟨F1, adr1, d1, s1, st1, ab1, rp1, po1⟩
  have e1 : z = d1 := rp1
  subst e1
  cases z with
  | true => exact ⟨F1, adr1, s1, ab1, po1⟩
  | false => exact ⟨F1, adr1, s1, ab1, po1⟩
def S.put (s : S) (j : Nat) (x : Sl) : S := { s with ρ := s.ρ.set j x }
theorem set_back {α : Type} {l : List α} {j i : Nat} {x y : α} (h : (l.set j x)[i]? = some y) : (i = j ∧ y = x ∧ j < l.length) ∨ (i ≠ j ∧ l[i]? = some y) := by
  by_cases hi : i = j
  · subst hi
    by_cases hl : i < l.length
    · rw [List.getElem?_set_self hl] at h
      exact .inl ⟨rfl, (Option.some.inj h).symm, hl⟩
    · rw [List.getElem?_eq_none (by simpa using hl)] at h
      cases h
  · rw [List.getElem?_set_ne (Ne.symm hi)] at h
    exact .inr ⟨hi, h⟩
/-- a slot holds what stands still -/
theorem Abs.setVal {j : Nat} (ab : Abs K F adr s σ H) (r : Rp K F adr d v) :
    Step F adr (Fp adr s σ) H F adr (Fp adr (s.put j (.val d)) (σ.set j (some v))) H ∧ Abs K F adr (s.put j (.val d)) (σ.set j (some v)) H := by
  have nown : ∀ i m, (s.ρ.set j (.val d))[i]? = some (.own m) → i ≠ j ∧ s.ρ[i]? = some (.own m) := fun i m h => by
    rcases set_back h with ⟨_, z, _⟩ | z
    · cases z
    · exact z
  have other : ∀ {i : Nat}, i ≠ j → (σ.set j (some v))[i]? = σ[i]? := fun h => List.getElem?_set_ne (Ne.symm h)
  refine ⟨⟨.refl _, List.prefix_refl _, fun _ _ h _ _ => h, fun a h => ?_, fun _ h => .inl h, fun _ h => h⟩, ⟨ab.toAbsH, ?_, fun i d' h => ?_, fun i m h => ?_, fun i i' m m' l h1 h2 h3 h4 => ?_⟩⟩
  · rcases h with h | ⟨i, m, h1, h2⟩
    · exact .inl (.inl h)
    · obtain ⟨n1, n2⟩ := nown i m h1
      rw [other n1] at h2
      exact .inl (.inr ⟨i, m, n2, h2⟩)
  · show (σ.set j (some v)).length = (s.ρ.set j _).length
    rw [List.length_set, List.length_set]; exact ab.lenr
  · rcases set_back h with ⟨e1, e2, e3⟩ | ⟨n1, n2⟩
    · cases e2
      subst e1
      exact ⟨v, by rw [List.getElem?_set_self (by rw [ab.lenr]; exact e3)], r⟩
    · rw [other n1]
      exact ab.slv i d' n2
  · obtain ⟨n1, n2⟩ := nown i m h
    rw [other n1]
    exact ab.slo i m n2
  · obtain ⟨n1, n2⟩ := nown i m h1
    obtain ⟨n3, n4⟩ := nown i' m' h2
    rw [other n1] at h3
    rw [other n3] at h4
    exact ab.dis i i' m m' l n2 n4 h3 h4
/-- something new that nobody else has -/
structure Fresh (K : KK) (F : Hp) (adr : List Addr) (s : S) (σ : L2.St) (H : Hp) (l : Addr) (m : MO) : Prop where
  fn : F l = none
  na : ¬ Fp adr s σ l
  ob : ∃ o, H l = some o ∧ RpO K F adr l m o
theorem Fresh.step {F1 : Hp} {adr1 : List Addr} {s1 : S} {σ1 : L2.St} {H1 : Hp} {l : Addr} {m : MO} (fr : Fresh K F adr s σ H l m) (st : Step F adr (Fp adr s σ) H F1 adr1 (Fp adr1 s1 σ1) H1) : Fresh K F1 adr1 s1 σ1 H1 l m := by
  obtain ⟨o, h1, h2⟩ := fr.ob
  have hl : H l ≠ none := by rw [h1]; simp
  refine ⟨?_, fun z => ?_, o, st.keep l o h1 fr.na fr.fn, h2.mono st.ex st.pre⟩
  · cases e : F1 l with
    | none => rfl
    | some u =>
      rcases st.frz l (by rw [e]; simp) with z | z | z
      · exact absurd fr.fn z
      · exact absurd z hl
      · exact absurd z fr.na
  · rcases st.foot l z with y | y
    · exact fr.na y
    · exact hl y
/-- a slot owns a new thing; F0 .. H0: a state ahead of its making -/
theorem Abs.setOwn {j : Nat} {l : Addr} {m : MO} {F0 H0 : Hp} {adr0 : List Addr} {P0 : Addr → Prop} (ab : Abs K F adr s σ H) (fr : Fresh K F adr s σ H l m) (h0 : H0 l = none) (st : Step F0 adr0 P0 H0 F adr (Fp adr s σ) H) :
    Step F0 adr0 P0 H0 F adr (Fp adr (s.put j (.own m)) (σ.set j (some (.ref l)))) H ∧ Abs K F adr (s.put j (.own m)) (σ.set j (some (.ref l))) H := by
  have other : ∀ {i : Nat}, i ≠ j → (σ.set j (some (.ref l)))[i]? = σ[i]? := fun h => List.getElem?_set_ne (Ne.symm h)
  have self : j < s.ρ.length → (σ.set j (some (V.ref l)))[j]? = some (some (.ref l)) := fun h => List.getElem?_set_self (by rw [ab.lenr]; exact h)
  refine ⟨⟨st.ex, st.pre, st.keep, fun a h => ?_, st.frz, st.there⟩, ⟨ab.toAbsH, ?_, fun i d' h => ?_, fun i m' h => ?_, fun i i' m1 m2 l' h1 h2 h3 h4 => ?_⟩⟩
  · rcases h with h | ⟨i, m', h1, h2⟩
    · exact st.foot a (.inl h)
    · rcases set_back h1 with ⟨e1, e2, e3⟩ | ⟨n1, n2⟩
      · subst e1
        rw [self e3] at h2
        cases h2
        exact .inr h0
      · rw [other n1] at h2
        exact st.foot a (.inr ⟨i, m', n2, h2⟩)
  · show (σ.set j _).length = (s.ρ.set j _).length
    rw [List.length_set, List.length_set]; exact ab.lenr
  · rcases set_back h with ⟨e1, e2, e3⟩ | ⟨n1, n2⟩
    · cases e2
    · rw [other n1]
      exact ab.slv i d' n2
  · rcases set_back h with ⟨e1, e2, e3⟩ | ⟨n1, n2⟩
    · cases e2
      subst e1
      obtain ⟨o, q1, q2⟩ := fr.ob
      exact ⟨l, o, self e3, fr.fn, fun z => fr.na (.inl z), q1, q2⟩
    · rw [other n1]
      exact ab.slo i m' n2
  · have key : ∀ i m, i ≠ j → s.ρ[i]? = some (Sl.own m) → σ[i]? = some (some (V.ref l')) → ∀ i' m', i' = j → (s.ρ.set j (.own m))[i']? = some (.own m') → l' = l → False := fun i m _ n2 h3 _ _ _ _ e => fr.na (.inr ⟨i, m, n2, by rw [← e]; exact h3⟩)
    rcases set_back h1 with ⟨e1, e2, e3⟩ | ⟨n1, n2⟩
    · rcases set_back h2 with ⟨e4, e5, e6⟩ | ⟨n3, n4⟩
      · rw [e1, e4]
      · subst e1
        rw [self e3] at h3
        cases h3
        rw [other n3] at h4
        exact absurd (.inr ⟨i', m2, n4, h4⟩) fr.na
    · rcases set_back h2 with ⟨e4, e5, e6⟩ | ⟨n3, n4⟩
      · subst e4
        rw [self e6] at h4
        cases h4
        rw [other n1] at h3
        exact absurd (.inr ⟨i, m1, n2, h3⟩) fr.na
      · rw [other n1] at h3
        rw [other n3] at h4
        exact ab.dis i i' m1 m2 l' n2 n4 h3 h4
def sset (j : Nat) (m : M D) : MS := fun s => (stl m s).toS fun d s => .nx (s.put j (.val d))
theorem ss_set {j : Nat} {x : Str} {pos' : Pos} (hN : X.N.Nodup) (hi : X.N[j]? = some x) (hx : Loc X.env.scope x) (he : SE X W e m) (hs : swapsWith e (some (.Name x pos')) pos.line X.env = pure false := by rfl)
    (hf : X.fn x = true ∨ X.env.scope.names.lookup x = some .local := by first | exact .inl rfl | exact .inr rfl | assumption) : SS X W (.Assign [.Name x pos'] e pos) (sset j m) := PS.imp (ps_set hN hi hx he hs hf) fun E σ H t => by
  obtain ⟨F, adr, s, ab, po⟩ := t
  refine ⟨F, adr, s, ab, PostG.imp (t_stl ab po) ?_⟩
  rintro x H1 ⟨F1, adr1, d1, s1, st1, ab1, rp1, po1⟩
  exact po1 _ F1 adr1 H1 (ab1.setVal rp1).1 (ab1.setVal rp1).2
end
end Bx
namespace Bx
open PySem L2 PySem.Spec PyProof.Rows
section
variable {X : Cx} {W : WX} {K : KK} {F F' H H' : Hp} {adr adr' : List Addr} {s s' : S} {σ σ' : L2.St} {d : D} {v : V} {e a b c : Expr} {es : List Expr} {m ma mb mc : M D} {ms : List (M D)} {pos : Pos} {E : Ends}
def PostN (K : KK) (W : WX) (F : Hp) (adr : List Addr) (s : S) (σ : L2.St) (H : Hp) (r : R MO) (Q : VK) : Prop := match r with
  | .ok mo s' => ∀ l F' adr' H', Step F adr (Fp adr s σ) H F' adr' (Fp adr' s' σ) H' → Abs K F' adr' s' σ H' → H l = none → Fresh K F' adr' s' σ H' l mo → Q (.ref l) H'
  | .exc x s' => ∀ cls dd F' adr' H', Step F adr (Fp adr s σ) H F' adr' (Fp adr' s' σ) H' → Abs K F' adr' s' σ H' → RpX K F' adr' x cls dd H' → W cls dd σ H'
  | .bad => False
def tN (K : KK) (W : WX) (m : M MO) : TE := fun σ H Q => ∃ F adr s, Abs K F adr s σ H ∧ PostN K W F adr s σ H (m s) Q
def SF (X : Cx) (W : WX) (e : Expr) (m : M MO) : Prop := PE X e (tN (kk X) W m)
theorem Abs.allocM {p : Addr} {o : HO} {mo : MO} (ab : Abs K F adr s σ H) (h : H p = none) :
    Step F adr (Fp adr s σ) H F adr (Fp adr s σ) (upd H p o) ∧ Abs K F adr s σ (upd H p o) ∧ (RpO K F adr p mo o → Fresh K F adr s σ (upd H p o) p mo) := by
  have hF := ab.fnone h
  have sub : Ex F (upd H p o) := fun a u r => by
    have ne : a ≠ p := by
      rintro rfl
      exact r.some hF
    rcases ab.sub a u r with z | ⟨l, o', z⟩
    · exact .inl (by rw [upd_ne ne]; exact z)
    · exact .inr ⟨l, o', by rw [upd_ne ne]; exact z⟩
  refine ⟨⟨.refl _, List.prefix_refl _, fun a u q _ _ => by rw [upd_ne (ne_of_none q h)]; exact q, fun a q => .inl q, fun a q => .inl q, fun a q => ?_⟩, ⟨⟨sub, ab.len, ab.nd, fun i a m h1 h2 => ?_⟩, ab.lenr, ab.slv, fun j m q => ?_, ab.dis⟩, fun r => ⟨hF, fun z => (ab.fpH z).1 h, o, upd_same, r⟩⟩
  · by_cases ha : a = p
    · subst ha; rw [upd_same]; simp
    · rw [upd_ne ha]; exact q
  · obtain ⟨f, u, q, r⟩ := ab.sto i a m h1 h2
    exact ⟨f, u, by rw [upd_ne (ne_of_none q h)]; exact q, r⟩
  · obtain ⟨l, u, q1, q2, q3, q4, q5⟩ := ab.slo j m q
    exact ⟨l, u, q1, q2, q3, by rw [upd_ne (ne_of_none q4 h)]; exact q4, q5⟩
/-- a new thing in the very state -/
theorem PostN.new {p : Addr} {o : HO} {mo : MO} {Q : VK} (ab : Abs K F adr s σ H) (po : PostN K W F adr s σ H (.ok mo s) Q) (h : H p = none) (r : RpO K F adr p mo o) : Q (.ref p) (upd H p o) :=
  po p F adr _ (ab.allocM (mo := mo) h).1 (ab.allocM (mo := mo) h).2.1 h ((ab.allocM h).2.2 r)
theorem N_bind {α β : Type} {rel : Hp → List Addr → α → β → Prop} {r : R α} {f : α → M MO} {Q : VK} (h : PostN K W F adr s σ H (r.bind f) Q) :
    PostG K W rel F adr s σ H r fun v H1 => ∃ F1 adr1 d s1, r = .ok d s1 ∧ Step F adr (Fp adr s σ) H F1 adr1 (Fp adr1 s1 σ) H1 ∧ Abs K F1 adr1 s1 σ H1 ∧ rel F1 adr1 d v ∧ PostN K W F1 adr1 s1 σ H1 (f d s1) Q := by
  cases r with
  | ok d s1 =>
    intro v F1 adr1 H1 st ab rp
    refine ⟨F1, adr1, d, s1, rfl, st, ab, rp, ?_⟩
    have h' : PostN K W F adr s σ H (f d s1) Q := h
    cases e2 : f d s1 with
    | ok mo s2 =>
      rw [e2] at h'
      intro l F2 adr2 H2 st2 ab2 hl fr
      refine h' l F2 adr2 H2 (st.trans st2) ab2 ?_ fr
      cases e3 : H l with
      | none => rfl
      | some o => exact absurd hl (st.there l (by rw [e3]; simp))
    | exc x s2 => rw [e2] at h'; exact fun c dd F2 adr2 H2 st2 ab2 rp2 => h' c dd F2 adr2 H2 (st.trans st2) ab2 rp2
    | bad => rw [e2] at h'; exact h'
  | exc x s1 => exact h
  | bad => exact h
def nlst (ms : List (M D)) : M MO := bnd (mal ms) fun ds => pur (.lst ds)
theorem sf_lst (h : SAL X W es (mal ms)) (hl : ms.length ≤ 100000 := by decide) : SF X W (.List es pos) (nlst ms) := PE.imp (pe_lst h) fun σ H Q t => by
  obtain ⟨F, adr, s, ab, po⟩ := t
  refine ⟨F, adr, s, ab, (N_bind po).imp ?_⟩
  rintro xs H1 ⟨F1, adr1, ds, s1, e1, st1, ab1, rp1, po1⟩
  exact ⟨sz (by rw [rp1.length, mal_len e1]; exact hl), fun p hp => PostN.new ab1 po1 hp ⟨xs, rfl, rp1⟩⟩
def ndct : M MO := pur (.dct [])
def nset : M MO := pur (.set [])
theorem sf_set {p : Pos} (hg : Gl X "set") (hm : X.mg "set" = none) : SF X W (.Call (.Name "set" p) [] [] pos) nset := PE.imp (pe_callTy0 cr_set0K hg hm (by decide +kernel)) fun σ H Q t => by
  obtain ⟨F, adr, s, ab, po⟩ := t
  exact ⟨rfl, fun p hp => PostN.new ab po hp rfl⟩
/-- name = a new thing, one's own -/
def ssetO (j : Nat) (m : M MO) : MS := fun s => (m s).toS fun mo s => .nx (s.put j (.own mo))
theorem tN_S {f : MO → MS} {mm : M MO} (po : PostS K W F adr s σ H ((mm s).toS f) E) : PostN K W F adr s σ H (mm s) fun v H1 => ∃ F1 adr1 l mo s1, v = .ref l ∧ Step F adr (Fp adr s σ) H F1 adr1 (Fp adr1 s1 σ) H1 ∧ Abs K F1 adr1 s1 σ H1 ∧ H l = none ∧ Fresh K F1 adr1 s1 σ H1 l mo ∧ PostS K W F adr s σ H (f mo s1) E := by
  cases e : mm s with
  | ok mo s1 => rw [e] at po; exact fun l F1 adr1 H1 st ab hl fr => ⟨F1, adr1, l, mo, s1, rfl, st, ab, hl, fr, po⟩
  | exc x s1 => rw [e] at po; exact fun c dd F1 adr1 H1 st ab rp => po c dd σ F1 adr1 H1 st ab rp
  | bad => rw [e] at po; exact po
theorem PostN.imp {r : R MO} {Q Q' : VK} (h : PostN K W F adr s σ H r Q) (q : ∀ v H', Q v H' → Q' v H') : PostN K W F adr s σ H r Q' := by
  cases r with
  | ok d s' => exact fun v F' adr' H' a b c d => q _ _ (h v F' adr' H' a b c d)
  | exc x s' => exact h
  | bad => exact h
theorem ss_setO {j : Nat} {x : Str} {pos' : Pos} {mm : M MO} (hN : X.N.Nodup) (hi : X.N[j]? = some x) (hx : Loc X.env.scope x) (he : SF X W e mm) (hs : swapsWith e (some (.Name x pos')) pos.line X.env = pure false := by rfl)
    (hf : X.fn x = true ∨ X.env.scope.names.lookup x = some .local := by first | exact .inl rfl | exact .inr rfl | assumption) : SS X W (.Assign [.Name x pos'] e pos) (ssetO j mm) := PS.imp (ps_set hN hi hx he hs hf) fun E σ H t => by
  obtain ⟨F, adr, s, ab, po⟩ := t
  refine ⟨F, adr, s, ab, (tN_S po).imp ?_⟩
  rintro x H1 ⟨F1, adr1, l, mo, s1, rfl, st1, ab1, hl, fr, po1⟩
  obtain ⟨z1, z2⟩ := ab1.setOwn (j := j) fr hl st1
  exact po1 _ F1 adr1 H1 z1 z2
inductive MX where
  | v (m : M D) | f (m : M MO)
def mmix : List MX → M (List Sl)
  | [] => pur []
  | .v m :: r => bnd m fun d => bnd (settle d) fun d => bnd (mmix r) fun xs => pur (.val d :: xs)
  | .f m :: r => bnd m fun o => bnd (mmix r) fun xs => pur (.own o :: xs)
def SlsOk (K : KK) (H0 : Hp) (F : Hp) (adr : List Addr) (s : S) (σ : L2.St) (H : Hp) : List Sl → List V → Prop
  | [], vs => vs = []
  | .val d :: xs, vs => ∃ v r, vs = v :: r ∧ Rp K F adr d v ∧ SlsOk K H0 F adr s σ H xs r
  | .own o :: xs, vs => ∃ l r, vs = .ref l :: r ∧ H0 l = none ∧ Fresh K F adr s σ H l o ∧ (∀ (i : Nat) (o' : MO), xs[i]? = some (.own o') → r[i]? ≠ some (.ref l)) ∧ SlsOk K H0 F adr s σ H xs r
  | .no :: _, _ => False
theorem SlsOk.length {H0 : Hp} : ∀ {xs : List Sl} {vs : List V}, SlsOk K H0 F adr s σ H xs vs → vs.length = xs.length
  | [], _, h => by cases h; rfl
  | .val d :: xs, _, ⟨v, r, q, _, h⟩ => by subst q; simp [SlsOk.length h]
  | .own d :: xs, _, ⟨v, r, q, _, _, _, h⟩ => by subst q; simp [SlsOk.length h]
  | .no :: _, _, h => h.elim
theorem SlsOk.mono {H0 H0' : Hp} {F1 : Hp} {adr1 : List Addr} {s1 : S} {σ1 : L2.St} {H1 : Hp} (h0 : ∀ l, H0 l = none → H0' l = none) (st : Step F adr (Fp adr s σ) H F1 adr1 (Fp adr1 s1 σ1) H1) :
    ∀ {xs : List Sl} {vs : List V}, SlsOk K H0 F adr s σ H xs vs → SlsOk K H0' F1 adr1 s1 σ1 H1 xs vs
  | [], _, h => h
  | .val d :: xs, _, ⟨v, r, q, h1, h2⟩ => ⟨v, r, q, h1.mono st.ex st.pre, SlsOk.mono h0 st h2⟩
  | .own d :: xs, _, ⟨l, r, q, h1, h2, h3, h4⟩ => ⟨l, r, q, h0 l h1, h2.step st, h3, SlsOk.mono h0 st h4⟩
  | .no :: _, _, h => h.elim
theorem SlsOk.mem {H0 : Hp} : ∀ {xs : List Sl} {vs : List V} {i : Nat} {o : MO}, SlsOk K H0 F adr s σ H xs vs → xs[i]? = some (.own o) → ∃ l, vs[i]? = some (.ref l) ∧ H0 l = none
  | [], _, _, _, _, e => by simp at e
  | .val d :: xs, _, 0, _, _, e => by simp at e
  | .val d :: xs, _, i + 1, o, ⟨v, r, q, _, h⟩, e => by
    subst q
    obtain ⟨l, h1, h2⟩ := SlsOk.mem (i := i) h (by simpa using e)
    exact ⟨l, by simpa using h1, h2⟩
  | .own d :: xs, _, 0, _, ⟨l, r, q, h1, _⟩, e => by subst q; exact ⟨l, rfl, h1⟩
  | .own d :: xs, _, i + 1, o, ⟨v, r, q, _, _, _, h⟩, e => by
    subst q
    obtain ⟨l, h1, h2⟩ := SlsOk.mem (i := i) h (by simpa using e)
    exact ⟨l, by simpa using h1, h2⟩
  | .no :: _, _, _, _, h, _ => h.elim
def PostM (K : KK) (W : WX) (F : Hp) (adr : List Addr) (s : S) (σ : L2.St) (H : Hp) (r : R (List Sl)) (Q : List V → Hp → Prop) : Prop := match r with
  | .ok xs s' => ∀ vs F' adr' H', Step F adr (Fp adr s σ) H F' adr' (Fp adr' s' σ) H' → Abs K F' adr' s' σ H' → SlsOk K H F' adr' s' σ H' xs vs → Q vs H'
  | .exc x s' => ∀ cls dd F' adr' H', Step F adr (Fp adr s σ) H F' adr' (Fp adr' s' σ) H' → Abs K F' adr' s' σ H' → RpX K F' adr' x cls dd H' → W cls dd σ H'
  | .bad => False
def tMx (K : KK) (W : WX) (m : M (List Sl)) : TA := fun σ H Q => ∃ F adr s, Abs K F adr s σ H ∧ PostM K W F adr s σ H (m s) Q
def SX (X : Cx) (W : WX) (es : List Expr) (m : List MX) : Prop := PA X es (tMx (kk X) W (mmix m))
theorem sx_nil : SX X W [] [] := PA.imp pa_nil fun σ H Q t => by
  obtain ⟨F, adr, s, ab, po⟩ := t
  exact po [] F adr H .refl ab rfl
theorem there_none {F1 : Hp} {adr1 : List Addr} {P P1 : Addr → Prop} {H1 : Hp} (st : Step F adr P H F1 adr1 P1 H1) {l : Addr} (h : H1 l = none) : H l = none := by
  cases e3 : H l with
  | none => rfl
  | some o => exact absurd h (st.there l (by rw [e3]; simp))
/-- from a state on, with the tail's values put behind one slot -/
theorem M_tail {x : Sl} {v : V} {r : R (List Sl)} {Q : List V → Hp → Prop} {F1 : Hp} {adr1 : List Addr} {s1 : S} {H1 : Hp} (st : Step F adr (Fp adr s σ) H F1 adr1 (Fp adr1 s1 σ) H1)
    (hx : ∀ vs xs F2 adr2 s2 H2, Step F1 adr1 (Fp adr1 s1 σ) H1 F2 adr2 (Fp adr2 s2 σ) H2 → SlsOk K H1 F2 adr2 s2 σ H2 xs vs → SlsOk K H F2 adr2 s2 σ H2 (x :: xs) (v :: vs))
    (po : PostM K W F adr s σ H (r.bind fun xs => pur (x :: xs)) Q) : PostM K W F1 adr1 s1 σ H1 r fun vs H2 => Q (v :: vs) H2 := by
  cases r with
  | ok xs s2 =>
    intro vs F2 adr2 H2 st2 ab2 ok2
    exact po (v :: vs) F2 adr2 H2 (st.trans st2) ab2 (hx vs xs F2 adr2 s2 H2 st2 ok2)
  | exc x s2 => exact fun c dd F2 adr2 H2 st2 ab2 rp2 => po c dd F2 adr2 H2 (st.trans st2) ab2 rp2
  | bad => exact po
theorem sx_v {e : Expr} {es : List Expr} {m : M D} {ms : List MX} (ha : SE X W e m) (hr : SX X W es ms) (hs : starEach (e :: es) X.env = (false, eval e X.env) :: starEach es X.env := by rfl) : SX X W (e :: es) (.v m :: ms) :=
  PA.imp (pa_cons ha hr hs) fun σ H Q t => by
    obtain ⟨F, adr, s, ab, po⟩ := t
    refine ⟨F, adr, s, ab, ?_⟩
    have po0 : PostM (kk X) W F adr s σ H ((m s).bind fun d => bnd (settle d) fun d => bnd (mmix ms) fun xs => pur (.val d :: xs)) Q := po
    cases e1 : m s with
    | ok d s1 =>
      rw [e1] at po0
      intro v F1 adr1 H1 st1 ab1 rp1
      have po1 : PostM (kk X) W F adr s σ H ((settle d s1).bind fun d => bnd (mmix ms) fun xs => pur (.val d :: xs)) Q := po0
      cases e2 : settle d s1 with
      | ok d2 s2 =>
        rw [e2] at po1
        obtain ⟨F2, q1, q2, q3⟩ := settle_ok ab1 rp1 e2
        refine ⟨F2, adr1, s2, q2, M_tail (x := .val d2) (st1.trans q1) (fun vs xs F3 adr3 s3 H3 st3 ok3 => ?_) po1⟩
        have st0 : Step F2 adr1 (Fp adr1 s2 σ) H1 F3 adr3 (Fp adr3 s3 σ) H3 := st3
        exact ⟨v, vs, rfl, q3.mono st3.ex st3.pre, SlsOk.mono (fun l h => there_none st1 h) .refl ok3⟩
      | exc x s' => cases d <;> simp [settle] at e2 <;> (split at e2 <;> cases e2)
      | bad => rw [e2] at po1; exact po1.elim
    | exc x s1 => rw [e1] at po0; exact po0
    | bad => rw [e1] at po0; exact po0
/-- the slots at js -/
def S.puts (s : S) : List Nat → List Sl → S
  | j :: js, x :: xs => (s.put j x).puts js xs
  | _, _ => s
def sets (σ : L2.St) : List Nat → List V → L2.St
  | j :: js, v :: vs => sets (σ.set j (some v)) js vs
  | _, _ => σ
theorem Abs.setAll {F0 H0 : Hp} {adr0 : List Addr} {P0 : Addr → Prop} : ∀ {js : List Nat} {xs : List Sl} {vs : List V} {s : S} {σ : L2.St}, Abs K F adr s σ H → Step F0 adr0 P0 H0 F adr (Fp adr s σ) H → SlsOk K H0 F adr s σ H xs vs →
    Step F0 adr0 P0 H0 F adr (Fp adr (s.puts js xs) (sets σ js vs)) H ∧ Abs K F adr (s.puts js xs) (sets σ js vs) H
  | [], xs, vs, s, σ, ab, st, ok => by
    have e1 : s.puts [] xs = s := by cases xs <;> rfl
    have e2 : sets σ [] vs = σ := by cases vs <;> rfl
    rw [e1, e2]
    exact ⟨st, ab⟩
  | j :: js, [], vs, s, σ, ab, st, ok => by cases ok; exact ⟨st, ab⟩
  | j :: js, .val d :: xs, _, s, σ, ab, st, ⟨v, r, q, h1, h2⟩ => by
    subst q
    obtain ⟨z1, z2⟩ := ab.setVal (j := j) h1
    exact Abs.setAll (js := js) (xs := xs) (vs := r) (s := s.put j (.val d)) (σ := σ.set j (some v)) z2 (st.trans z1) (SlsOk.mono (fun _ h => h) z1 h2)
  | j :: js, .own o :: xs, _, s, σ, ab, st, ⟨l, r, q, h1, h2, h3, h4⟩ => by
    subst q
    obtain ⟨z1, z2⟩ := ab.setOwn (j := j) h2 h1 st
    refine Abs.setAll (js := js) (xs := xs) (vs := r) (s := s.put j (.own o)) (σ := σ.set j (some (.ref l))) z2 z1 ?_
    -- the others stay new
    have hl : H l ≠ none := by obtain ⟨u, z, _⟩ := h2.ob; rw [z]; simp
    have gen : ∀ {xs : List Sl} {r : List V}, (∀ (i : Nat) (o' : MO), xs[i]? = some (.own o') → r[i]? ≠ some (.ref l)) → SlsOk K H0 F adr s σ H xs r → SlsOk K H0 F adr (s.put j (.own o)) (σ.set j (some (.ref l))) H xs r := by
      intro xs
      induction xs with
      | nil => intro r _ h; exact h
      | cons x xs ih =>
        intro r hn h
        cases x with
        | no => exact h.elim
        | val d =>
          obtain ⟨v, r', q, g1, g2⟩ := h
          subst q
          exact ⟨v, r', rfl, g1, ih (fun i o' hi => by have := hn (i + 1) o' (by simpa using hi); simpa using this) g2⟩
        | own o2 =>
          obtain ⟨l2, r', q, g1, g2, g3, g4⟩ := h
          subst q
          have ne : l2 ≠ l := fun z => hn 0 o2 rfl (by rw [z]; rfl)
          refine ⟨l2, r', rfl, g1, ⟨g2.fn, fun z => ?_, g2.ob⟩, g3, ih (fun i o' hi => by have := hn (i + 1) o' (by simpa using hi); simpa using this) g4⟩
          rcases z with z | ⟨i, m', y1, y2⟩
          · exact g2.na (.inl z)
          · rcases set_back y1 with ⟨e1, e2, e3⟩ | ⟨n1, n2⟩
            · subst e1
              rw [List.getElem?_set_self (by rw [ab.lenr]; exact e3)] at y2
              cases y2
              exact ne rfl
            · rw [List.getElem?_set_ne (Ne.symm n1)] at y2
              exact g2.na (.inr ⟨i, m', n2, y2⟩)
    exact gen h3 h4
  | j :: js, .no :: xs, _, _, _, _, _, h => h.elim
def spar (js : List Nat) (ms : List MX) : MS := fun s => (mmix ms s).toS fun xs s => .nx (s.puts js xs)
theorem mmix_len : ∀ {ms : List MX} {s s' : S} {xs : List Sl}, mmix ms s = .ok xs s' → xs.length = ms.length
  | [], _, _, _, h => by cases h; rfl
  | .v m :: ms, s, s', xs, h => by
    have h' : (m s).bind (fun d => bnd (settle d) fun d => bnd (mmix ms) fun xs => pur (.val d :: xs)) = .ok xs s' := h
    cases e1 : m s with
    | ok d s1 =>
      rw [e1] at h'
      have h2 : (settle d s1).bind (fun d => bnd (mmix ms) fun xs => pur (.val d :: xs)) = .ok xs s' := h'
      cases e2 : settle d s1 with
      | ok d2 s2 =>
        rw [e2] at h2
        have h3 : (mmix ms s2).bind (fun xs => pur (.val d2 :: xs)) = .ok xs s' := h2
        cases e3 : mmix ms s2 with
        | ok ds3 s3 => rw [e3] at h3; cases h3; rw [List.length_cons, mmix_len e3, List.length_cons]
        | exc x s3 => rw [e3] at h3; cases h3
        | bad => rw [e3] at h3; cases h3
      | exc x s3 => rw [e2] at h2; cases h2
      | bad => rw [e2] at h2; cases h2
    | exc x s3 => rw [e1] at h'; cases h'
    | bad => rw [e1] at h'; cases h'
  | .f m :: ms, s, s', xs, h => by
    have h' : (m s).bind (fun d => bnd (mmix ms) fun xs => pur (.own d :: xs)) = .ok xs s' := h
    cases e1 : m s with
    | ok d s1 =>
      rw [e1] at h'
      have h3 : (mmix ms s1).bind (fun xs => pur (.own d :: xs)) = .ok xs s' := h'
      cases e3 : mmix ms s1 with
      | ok ds3 s3 => rw [e3] at h3; cases h3; rw [List.length_cons, mmix_len e3, List.length_cons]
      | exc x s3 => rw [e3] at h3; cases h3
      | bad => rw [e3] at h3; cases h3
    | exc x s3 => rw [e1] at h'; cases h'
    | bad => rw [e1] at h'; cases h'
theorem spar_fin {js : List Nat} {mx : List MX} (ab : Abs K F adr s σ H) (po : PostS K W F adr s σ H (spar js mx s) E) : PostM K W F adr s σ H (mmix mx s) fun vs H1 => vs.length = mx.length ∧ (E.nx (sets σ js vs) H1 ∧ ∀ p o, H1 p = none → E.nx (sets σ js vs) (upd H1 p o)) := by
  unfold spar at po
  cases e : mmix mx s with
  | ok xs s1 =>
    rw [e] at po
    intro vs F1 adr1 H1 st1 ab1 ok1
    obtain ⟨z1, z2⟩ := Abs.setAll (js := js) ab1 st1 ok1
    refine ⟨by rw [ok1.length, mmix_len e], po _ F1 adr1 H1 z1 z2, fun p o hp => ?_⟩
    obtain ⟨y1, y2, _⟩ := z2.allocM (p := p) (o := o) (mo := .lst []) hp
    exact po _ F1 adr1 _ (z1.trans y1) y2
  | exc x s1 => rw [e] at po; exact fun c dd F1 adr1 H1 st ab rp => po c dd σ F1 adr1 H1 st ab rp
  | bad => rw [e] at po; exact po
theorem PostM.imp {r : R (List Sl)} {Q Q' : List V → Hp → Prop} (h : PostM K W F adr s σ H r Q) (q : ∀ v H', Q v H' → Q' v H') : PostM K W F adr s σ H r Q' := by
  cases r with
  | ok d s' => exact fun v F' adr' H' a b c => q _ _ (h v F' adr' H' a b c)
  | exc x s' => exact h
  | bad => exact h
theorem ss_par2 {i j : Nat} {x y : Str} {x1 x2 : MX} {px py pt : Pos} {kt k2 pt2} (hc : X.calm = true) (hN : X.N.Nodup) (hi : X.N[i]? = some x) (hj : X.N[j]? = some y) (hij : i ≠ j)
    (hx : X.env.scope.names.lookup x = some .local) (hy : X.env.scope.names.lookup y = some .local) (ha : SX X W [a, b] [x1, x2])
    (hw : swappedStores [.Tuple [.Name x px, .Name y py] kt pt] (.Tuple [a, b] k2 pt2) X.env = pure (some [x, y]))
    (hs : swapsWithSole [.Tuple [.Name x px, .Name y py] kt pt] (.Tuple [a, b] k2 pt2) pos.line X.env = pure false := by rfl) :
    SS X W (.Assign [.Tuple [.Name x px, .Name y py] kt pt] (.Tuple [a, b] k2 pt2) pos) (spar [i, j] [x1, x2]) := PS.imp (ps_par hc hN hi hj hij hx hy ha hw hs) fun E σ H t => by
  obtain ⟨F, adr, s, ab, po⟩ := t
  refine ⟨F, adr, s, ab, (spar_fin ab po).imp ?_⟩
  rintro vs H1 ⟨hl, h1, _⟩
  match vs, hl with
  | [v, w], _ => exact ⟨v, w, rfl, h1⟩
end
end Bx
namespace Bx
open PySem L2 PySem.Spec PyProof.Rows
section
variable {X : Cx} {W : WX} {K : KK} {F F' H H' : Hp} {adr adr' : List Addr} {s s' : S} {σ σ' : L2.St} {d : D} {v : V} {e a b c tg : Expr} {es : List Expr} {m ma mb mc : M D} {ms : List (M D)} {pos : Pos} {E : Ends}
def PostA1 (K : KK) (F : Hp) (adr : List Addr) (s : S) (σ : L2.St) (H : Hp) (r : RS) (Q : L2.St → Hp → Prop) : Prop := match r with
  | .nx s' => ∀ σ' F' adr' H', Step F adr (Fp adr s σ) H F' adr' (Fp adr' s' σ') H' → Abs K F' adr' s' σ' H' → Q σ' H'
  | _ => False
def gI (K : KK) (asg : D → MS) : TG := fun v σ H Q => ∃ F adr s d, Abs K F adr s σ H ∧ Rp K F adr d v ∧ PostA1 K F adr s σ H (asg d s) Q
def SG (X : Cx) (tg : Expr) (asg : D → MS) : Prop := PG X tg (gI (kk X) asg)
theorem PG.imp {t t' : TG} (h : PG X tg t) (q : ∀ v σ H Q, t' v σ H Q → t v σ H Q) : PG X tg t' := ⟨fun pins s σ H v u Q I r w => h.run pins s σ H v u Q I r (q v σ H Q w)⟩
theorem PGs.imp {t t' : TGs} (h : PGs X es t) (q : ∀ v σ H Q, t' v σ H Q → t v σ H Q) : PGs X es t' := ⟨fun pins s σ H v u Q I r w => h.run pins s σ H v u Q I r (q v σ H Q w)⟩
def gset (j : Nat) : D → MS := fun d s => .nx (s.put j (.val d))
theorem sg_name {j : Nat} {x : Str} (hN : X.N.Nodup) (hi : X.N[j]? = some x) (hx : Loc X.env.scope x) (hf : X.fn x = true ∨ X.env.scope.names.lookup x = some .local := by first | exact .inl rfl | exact .inr rfl | assumption) : SG X (.Name x pos) (gset j) :=
  PG.imp (pg_name hN hi hx hf) fun v σ H Q t => by
    obtain ⟨F, adr, s, d, ab, r, po⟩ := t
    exact po _ F adr H (ab.setVal r).1 (ab.setVal r).2
def gN (js : List Nat) : TGs := fun vs σ H Q => vs.length = js.length ∧ Q (sets σ js vs) H
def SGn (X : Cx) (es : List Expr) (js : List Nat) : Prop := PGs X es (gN js)
theorem sgn_nil : SGn X [] [] := PGs.imp pgs_nil fun v σ H Q t => by
  obtain ⟨h1, h2⟩ := t
  have e1 : v = [] := List.length_eq_zero_iff.mp h1
  subst e1
  exact ⟨rfl, h2⟩
theorem sgn_cons {j : Nat} {js : List Nat} {y : Str} {p : Pos} (hN : X.N.Nodup) (hi : X.N[j]? = some y) (hx : Loc X.env.scope y) (h2 : SGn X es js) (hf : X.fn y = true ∨ X.env.scope.names.lookup y = some .local := by first | exact .inl rfl | exact .inr rfl | assumption)
    (hs : (assignEach (.Name y p :: es) X.env).map (·.2) = assign (.Name y p) X.env :: (assignEach es X.env).map (·.2) := by rfl) : SGn X (.Name y p :: es) (j :: js) :=
  PGs.imp (pgs_cons (pg_name hN hi hx hf) h2 hs) fun v σ H Q t => by
    obtain ⟨h1, h2⟩ := t
    match v, h1 with
    | x :: r, h1 => exact ⟨x, r, rfl, by simpa using h1, h2⟩
def gtup (js : List Nat) : D → MS := fun d s => match unT d with
  | some ds => if ds.length = js.length then .nx (s.puts js (ds.map .val)) else .bad
  | none => .bad
theorem slsOk_vals {H0 : Hp} : ∀ {ds : List D} {vs : List V}, RpL K F adr ds vs → SlsOk K H0 F adr s σ H (ds.map .val) vs
  | [], _, h => h
  | d :: ds, _, ⟨v, r, q, h1, h2⟩ => ⟨v, r, q, h1, slsOk_vals h2⟩
theorem sg_tup {k : Nat} {js : List Nat} (hc : X.calm = true) (h : SGn X es js) (hn : (assignEach es X.env).length = js.length := by rfl) (hst : (assignEach es X.env).findIdx? (·.1) = none := by rfl) : SG X (.Tuple es k pos) (gtup js) :=
  PG.imp (pg_tup hc h hn hst) fun v σ H Q t => by
    obtain ⟨F, adr, s, d, ab, r, po⟩ := t
    unfold gtup at po
    cases hd : unT d with
    | none => rw [hd] at po; exact po.elim
    | some ds =>
      rw [hd] at po
      obtain ⟨a, vs, rfl, h1, h2⟩ := unT_ok hd r
      by_cases hl : ds.length = js.length
      · simp only [hl, if_true] at po
        have hv : vs.length = js.length := by rw [h2.length, hl]
        obtain ⟨z1, z2⟩ := Abs.setAll (js := js) (xs := ds.map .val) (vs := vs) ab .refl (slsOk_vals h2)
        exact ⟨a, vs, rfl, ex_t ab.sub h1, hv, hv, po _ F adr H z1 z2⟩
      · simp only [hl, if_false] at po
        exact po.elim
/-- targets = value -/
def sasg (asg : D → MS) (m : M D) : MS := fun s => (stl m s).toS asg
/-- a target's store goes on, or is none -/
def Plain (asg : D → MS) : Prop := ∀ d s, (∃ s', asg d s = .nx s') ∨ asg d s = .bad
theorem plain_gtup {js : List Nat} : Plain (gtup js) := fun d s => by
  unfold gtup
  cases hd : unT d with
  | none => exact .inr rfl
  | some ds =>
    by_cases hl : ds.length = js.length
    · exact .inl ⟨s.puts js (ds.map .val), by simp only [hl, if_true]⟩
    · exact .inr (by simp only [hl, if_false])
theorem PostS.plain {asg : D → MS} (pl : Plain asg) (h : PostS K W F adr s σ H (asg d s) E) : PostA1 K F adr s σ H (asg d s) E.nx := by
  rcases pl d s with ⟨s', e⟩ | e
  · rw [e] at h ⊢; exact h
  · rw [e] at h ⊢; exact h
theorem ss_asg {asg : D → MS} (pl : Plain asg) (he : SE X W e m) (hg : SG X tg asg) (hs : swapsWithSole [tg] e pos.line X.env = pure false := by rfl) (hw : swappedStores [tg] e X.env = pure none := by rfl)
    (h1 : (assignEach [tg] X.env).map (·.2) = [assign tg X.env] := by rfl) : SS X W (.Assign [tg] e pos) (sasg asg m) := PS.imp (ps_asg he hg hs hw h1) fun E σ H t => by
  obtain ⟨F, adr, s, ab, po⟩ := t
  refine ⟨F, adr, s, ab, PostG.imp (t_stl ab po) ?_⟩
  rintro x H1 ⟨F1, adr1, d1, s1, st1, ab1, rp1, po1⟩
  exact ⟨F1, adr1, s1, d1, ab1, rp1, PostS.plain pl po1⟩
structure Walks (K : KK) (F : Hp) (adr : List Addr) (J : It) (items : List D) : Prop where
  go : ∀ F' adr' H', Ex F F' → adr <+: adr' → Ex F' H' → ∀ (i : Nat) (d : D), items[i]? = some d → J.go i H' ∧ ∀ x H'', J.yld i H' x H'' → (H'' = H' ∧ Rp K F' adr' d x) ∨ ∃ T o, H' T = none ∧ H'' = upd H' T o ∧ ∀ (hF : F' T = none), Rp K (upd F' T o) adr' d x
  stop : ∀ F' adr' H', Ex F F' → adr <+: adr' → Ex F' H' → J.stop items.length H'
def tIt (K : KK) (W : WX) (m : M (List D)) : TI := fun σ H R => ∃ F adr s, Abs K F adr s σ H ∧ PostG K W (fun F adr items J => Walks K F adr J items) F adr s σ H (m s) R
def SI (X : Cx) (W : WX) (tg iter : Expr) (m : M (List D)) : Prop := PI X tg iter (tIt (kk X) W m)
theorem PI.imp {t t' : TI} (h : PI X tg e t) (q : ∀ σ H Q, t' σ H Q → t σ H Q) : PI X tg e t' := ⟨fun pins s σ H Q I w => h.run pins s σ H Q I (q σ H Q w)⟩
/-- a list, a tuple, a text, by its value -/
def rAnyIt (K : PySem.W.Frag) (x : V) (H : Hp) (R : It → Hp → Prop) : Prop :=
  (∃ a xs, x = .ref a ∧ SqL K H a xs ∧ R (Itl K a) H) ∨ (∃ a xs, x = .ref a ∧ SqT K H a xs ∧ R (Itt K a) H) ∨ ∃ z, x = .str z ∧ R (Its z) H
theorem pi_any {te : TE} (he : PE X e te) : PI X tg e (fun σ H R => te σ H fun x H1 => rAnyIt X.K x H1 R) := by
  refine ⟨fun pins sh σ H R I h => thn (he.run pins sh σ H _ I h) fun u s1 ⟨x, H1, I1, r1, q1⟩ => ?_⟩
  rcases q1 with ⟨a, xs, ex, hq, q⟩ | ⟨a, xs, ex, hq, q⟩ | ⟨z, ex, q⟩
  · subst ex; cases r1
    obtain ⟨its, rv, pl, _⟩ := I1.list hq
    exact wpAny_pyIter_list pl.isList (pi_one (tk := s1.toks) I1 _ (turn_list a _) ⟨_, Heap.get?_push_size _ rfl, rfl, rfl⟩ q)
  · subst ex; cases r1
    obtain ⟨its, rv, pl, _⟩ := I1.tuple hq
    exact wpAny_pyIter_tuple (show s1.heap.IsTuple a its.toArray from pl) (pi_one (tk := s1.toks) I1 _ (turn_tuple a _) ⟨_, Heap.get?_push_size _ rfl, rfl, rfl⟩ q)
  · subst ex
    obtain ⟨t, rfl⟩ := r1
    cases ha : z.cps.all (· < 128)
    · exact wpAny_pyIter_wide ha (pi_one (tk := s1.toks) I1 _ (turn_str _ z t "str_iterator" (.inr rfl)) ⟨_, Heap.get?_push_size _ rfl, rfl, rfl⟩ q)
    · exact wpAny_pyIter_ascii ha (pi_one (tk := s1.toks) I1 _ (turn_str _ z t "str_ascii_iterator" (.inl rfl)) ⟨_, Heap.get?_push_size _ rfl, rfl, rfl⟩ q)
/-- its items -/
def itemsD (d : D) : M (List D) := fun s => match d with
  | .lst xs => .ok xs s
  | .tup xs => .ok xs s
  | .scr ns => .ok (ns.map .int) s
  | .str x => .ok (x.cps.toList.map fun c => .str ⟨#[c]⟩) s
  | _ => .bad
theorem walks_l {a0 : Addr} {vs : List V} {ds : List D} (h1 : F a0 = some (.lst vs)) (h2 : RpL K F adr ds vs) : Walks K F adr (Itl K.K a0) ds where
  go := fun F' adr' H' e p eh i d hi => by
    have hL : SqL K.K H' a0 vs := SqL.of (ex_i eh (fun z => z) (ex_i e (fun z => z) h1))
    obtain ⟨w, q1, q2⟩ := (h2.mono e p).get hi
    refine ⟨⟨vs, w, hL, q1⟩, fun x H'' y => .inl ⟨y.1, ?_⟩⟩
    have z := y.2 vs hL
    rw [q1] at z
    cases z
    exact q2
  stop := fun F' adr' H' e p eh => ⟨vs, SqL.of (ex_i eh (fun z => z) (ex_i e (fun z => z) h1)), by rw [h2.length]; exact Nat.le_refl _⟩
theorem walks_s {a0 : Addr} {ns : List Int} (h1 : SqL K.K F a0 (ns.map V.int)) : Walks K F adr (Itl K.K a0) (ns.map .int) where
  go := fun F' adr' H' e p eh i d hi => by
    have hL : SqL K.K H' a0 (ns.map V.int) := ex_l eh (ex_l e h1)
    obtain ⟨w, q1, q2⟩ := (rpl_ints (K := K) (F := F') (adr := adr') ns).get hi
    refine ⟨⟨_, w, hL, q1⟩, fun x H'' y => .inl ⟨y.1, ?_⟩⟩
    have z := y.2 _ hL
    rw [q1] at z
    cases z
    exact q2
  stop := fun F' adr' H' e p eh => ⟨_, ex_l eh (ex_l e h1), by simp⟩
theorem walks_t {a0 : Addr} {vs : List V} {ds : List D} (h1 : SqT K.K F a0 vs) (h2 : RpL K F adr ds vs) : Walks K F adr (Itt K.K a0) ds where
  go := fun F' adr' H' e p eh i d hi => by
    have hL : SqT K.K H' a0 vs := ex_t eh (ex_t e h1)
    obtain ⟨w, q1, q2⟩ := (h2.mono e p).get hi
    refine ⟨⟨vs, w, hL, q1⟩, fun x H'' y => .inl ⟨y.1, ?_⟩⟩
    have z := y.2 vs hL
    rw [q1] at z
    cases z
    exact q2
  stop := fun F' adr' H' e p eh => ⟨vs, ex_t eh (ex_t e h1), by rw [h2.length]; exact Nat.le_refl _⟩
theorem walks_str {z : Str} : Walks K F adr (Its z) (z.cps.toList.map fun c => .str ⟨#[c]⟩) where
  go := fun F' adr' H' e p eh i d hi => by
    rw [List.getElem?_map] at hi
    obtain ⟨c, hc, rfl⟩ := Option.map_eq_some_iff.mp hi
    have hlt : i < z.cps.size := by have := (List.getElem?_eq_some_iff.mp hc).1; simpa using this
    refine ⟨hlt, fun x H'' y => .inl ⟨y.1, ?_⟩⟩
    obtain ⟨c', h1, h2⟩ := y.2
    have h3 : z.cps[i]? = some c := by rw [← hc]; simp
    rw [h3] at h1
    cases h1
    exact h2
  stop := fun F' adr' H' e p eh => by show z.cps.size ≤ _; simp
def mits (m : M D) : M (List D) := bnd m fun d => bnd (settle d) itemsD
theorem si_any (he : SE X W e m) : SI X W tg e (mits m) := PI.imp (pi_any he) fun σ H R t => by
  obtain ⟨F, adr, s, ab, po⟩ := t
  refine ⟨F, adr, s, ab, (PostG.bind po).imp ?_⟩
  rintro x H1 ⟨F1, adr1, d1, s1, st1, ab1, rp1, po1⟩
  obtain ⟨F2, d2, s2, q1, q2, q3, q4⟩ := settle_bind ab1 rp1 po1
  cases d2 <;> try (exact q4.elim)
  case lst ds =>
    obtain ⟨a, vs, rfl, h1, h2⟩ := q3
    exact .inl ⟨a, vs, rfl, SqL.of (ex_i q2.sub (fun z => z) h1), PostG.done q2 q4 (walks_l h1 h2)⟩
  case scr ns =>
    obtain ⟨a, rfl, h1⟩ := q3
    exact .inl ⟨a, _, rfl, ex_l q2.sub h1, PostG.done q2 q4 (walks_s h1)⟩
  case tup ds =>
    obtain ⟨a, vs, rfl, h1, h2⟩ := q3
    exact .inr (.inl ⟨a, vs, rfl, ex_t q2.sub h1.t, PostG.done q2 q4 (walks_t h1.t h2)⟩)
  case str z => exact .inr (.inr ⟨z, q3, PostG.done q2 q4 walks_str⟩)
/-- range -/
def rangeI (lo : Int) (n : Nat) : List D := (List.range n).map fun (i : Nat) => D.int (lo + i)
theorem walks_r {lo : Int} {n : Nat} : Walks K F adr (Itr lo n) (rangeI lo n) where
  go := fun F' adr' H' e p eh i d hi => by
    unfold rangeI at hi
    rw [List.getElem?_map] at hi
    obtain ⟨c, hc, rfl⟩ := Option.map_eq_some_iff.mp hi
    have hlt : i < n := by have := (List.getElem?_eq_some_iff.mp hc).1; simpa using this
    have e2 : c = i := by rw [List.getElem?_range hlt] at hc; exact (Option.some.inj hc).symm
    subst e2
    exact ⟨hlt, fun x H'' y => .inl ⟨y.1, y.2⟩⟩
  stop := fun F' adr' H' e p eh => by show n ≤ _; simp [rangeI]
def inRg (i : Int) : Bool := decide (-(2 ^ 62) ≤ i) && decide (i < 2 ^ 62)
def rg1 : D → M (List D)
  | .int j => fun s => if inRg j then .ok (rangeI 0 j.toNat) s else .bad
  | _ => fun _ => .bad
def rg2 : D → D → M (List D)
  | .int i, .int j => fun s => if inRg i && inRg j then .ok (rangeI i (j - i).toNat) s else .bad
  | _, _ => fun _ => .bad
def on1 {α : Type} (f : D → M α) : List D → M α
  | [d] => f d
  | _ => fun _ => .bad
def on2 {α : Type} (f : D → D → M α) : List D → M α
  | [d, e] => f d e
  | _ => fun _ => .bad
def mrange1 (ms : List (M D)) : M (List D) := bnd (margs ms) (on1 rg1)
def mrange2 (ms : List (M D)) : M (List D) := bnd (margs ms) (on2 rg2)
theorem inRg_ok {i : Int} (h : inRg i = true) : -(2 ^ 62) ≤ i ∧ i < 2 ^ 62 := by
  unfold inRg at h
  simp only [Bool.and_eq_true, decide_eq_true_eq] at h
  exact h
theorem si_range1 {p : Pos} (hg : Gl X "range") (hm : X.mg "range" = none) (ha : SA X W [a] (margs ms)) (hs : starEach [a] X.env = [(false, eval a X.env)] := by rfl) : SI X W tg (.Call (.Name "range" p) [a] [] pos) (mrange1 ms) :=
  PI.imp (pi_range1 hg hm ha hs) fun σ H R t => by
    obtain ⟨F, adr, s, ab, po⟩ := t
    refine ⟨F, adr, s, ab, (PostG.bind po).imp ?_⟩
    rintro xs H1 ⟨F1, adr1, ds, s1, st1, ab1, rp1, po1⟩
    cases ds with
    | nil => exact po1.elim
    | cons d0 r0 =>
      cases r0 with
      | cons _ _ => exact po1.elim
      | nil =>
        obtain ⟨v, q, r⟩ := RpVs.one rp1
        cases d0 <;> first | exact po1.elim | skip
        case int j =>
          have r' : v = .int j := r
          have po2 : PostG (kk X) W (fun F adr items J => Walks (kk X) F adr J items) F1 adr1 s1 σ H1 (if inRg j = true then .ok (rangeI 0 j.toNat) s1 else .bad) R := po1
          by_cases hc : inRg j = true
          · rw [if_pos hc] at po2
            exact ⟨j, by rw [q, r'], (inRg_ok hc).1, (inRg_ok hc).2, PostG.done ab1 po2 walks_r⟩
          · rw [if_neg hc] at po2
            exact po2.elim
theorem si_range2 {p : Pos} (hg : Gl X "range") (hm : X.mg "range" = none) (ha : SA X W [a, b] (margs ms)) (hs : starEach [a, b] X.env = [(false, eval a X.env), (false, eval b X.env)] := by rfl) (hs2 : starEach [b] X.env = [(false, eval b X.env)] := by rfl) :
    SI X W tg (.Call (.Name "range" p) [a, b] [] pos) (mrange2 ms) := PI.imp (pi_range2 hg hm ha hs hs2) fun σ H R t => by
  obtain ⟨F, adr, s, ab, po⟩ := t
  refine ⟨F, adr, s, ab, (PostG.bind po).imp ?_⟩
  rintro xs H1 ⟨F1, adr1, ds, s1, st1, ab1, rp1, po1⟩
  cases ds with
  | nil => exact po1.elim
  | cons d0 r0 =>
    cases r0 with
    | nil => exact po1.elim
    | cons d1 r1 =>
      cases r1 with
      | cons _ _ => exact po1.elim
      | nil =>
        obtain ⟨v, u, q, r1, r2⟩ := RpVs.two rp1
        cases d0 <;> first | exact po1.elim | skip
        case int i =>
          cases d1 <;> first | exact po1.elim | skip
          case int j =>
            have r1' : v = .int i := r1
            have r2' : u = .int j := r2
            have po2 : PostG (kk X) W (fun F adr items J => Walks (kk X) F adr J items) F1 adr1 s1 σ H1 (if (inRg i && inRg j) = true then .ok (rangeI i (j - i).toNat) s1 else .bad) R := po1
            by_cases hc : (inRg i && inRg j) = true
            · rw [if_pos hc] at po2
              obtain ⟨c1, c2⟩ := Bool.and_eq_true_iff.mp hc
              exact ⟨i, j, by rw [q, r1', r2'], ⟨(inRg_ok c1).1, (inRg_ok c1).2, (inRg_ok c2).1, (inRg_ok c2).2⟩, PostG.done ab1 po2 walks_r⟩
            · rw [if_neg hc] at po2
              exact po2.elim
def floop (asg : D → MS) (body : MS) : List D → MS
  | [], s => .nx s
  | d :: r, s => match asg d s with
    | .nx s1 => match body s1 with
      | .nx s2 => floop asg body r s2
      | .ct s2 => floop asg body r s2
      | .bk s2 => .nx s2
      | r => r
    | _ => .bad
def sfor (it : M (List D)) (asg : D → MS) (body : MS) : MS := fun s => (it s).toS (floop asg body)
theorem walk_one {J : It} {items : List D} {i : Nat} (wk : Walks K F adr J items) {F1 : Hp} {adr1 : List Addr} {s1 : S} {σ1 : L2.St} {H1 : Hp} (st : Ex F F1 ∧ adr <+: adr1) (ab : Abs K F1 adr1 s1 σ1 H1) (hi : items[i]? = some d) :
    J.go i H1 ∧ ∀ x H2, J.yld i H1 x H2 → ∃ F2, Step F1 adr1 (Fp adr1 s1 σ1) H1 F2 adr1 (Fp adr1 s1 σ1) H2 ∧ Abs K F2 adr1 s1 σ1 H2 ∧ Rp K F2 adr1 d x := by
  obtain ⟨h1, h2⟩ := wk.go F1 adr1 H1 st.1 st.2 ab.sub i d hi
  refine ⟨h1, fun x H2 y => ?_⟩
  rcases h2 x H2 y with ⟨rfl, r⟩ | ⟨T, o, hT, rfl, r⟩
  · exact ⟨F1, .refl, ab, r⟩
  · exact ⟨upd F1 T o, (ab.alloc hT).1, (ab.alloc hT).2, r (ab.fnone hT)⟩
theorem ss_for {iter : Expr} {body : List Stmt} {it : M (List D)} {asg : D → MS} {mb : MS} (hp : PassesOwn (model X.prog X.w) X.A X.env X.xe) (hc : X.calm = true) (hi : SI X W tg iter it) (hg : SG X tg asg) (hb : SB X W body mb)
    (hs : ∀ x, foldedSetIterable iter X.env x = pure x := by intro _; rfl) : SS X W (.For tg iter body [] pos) (sfor it asg mb) := PS.imp (ps_for hp hc hi hg hb hs) fun E σ H t => by
  obtain ⟨F, adr, s, ab, po⟩ := t
  refine ⟨F, adr, s, ab, (S_bind po).imp ?_⟩
  rintro J H1 ⟨F1, adr1, items, s1, st1, ab1, wk, po1⟩
  refine ⟨fun i m σ' H' => m = items.length - i ∧ i ≤ items.length ∧ ∃ F' adr' s', (Ex F1 F' ∧ adr1 <+: adr') ∧ Abs (kk X) F' adr' s' σ' H' ∧ PostS (kk X) W F' adr' s' σ' H' (floop asg mb (items.drop i) s') E,
    ⟨items.length, by simp, Nat.zero_le _, F1, adr1, s1, ⟨.refl _, List.prefix_refl _⟩, ab1, by simpa using po1⟩, ?_⟩
  rintro i m σ2 H2 ⟨rfl, hil, F2, adr2, s2, st2, ab2, po2⟩
  by_cases hlt : i < items.length
  · obtain ⟨d, hd⟩ : ∃ d, items[i]? = some d := ⟨_, List.getElem?_eq_getElem hlt⟩
    have hdrop : items.drop i = d :: items.drop (i + 1) := by
      rw [List.drop_eq_getElem_cons hlt]
      rw [List.getElem?_eq_getElem hlt] at hd
      rw [Option.some.inj hd]
    rw [hdrop] at po2
    obtain ⟨g1, g2⟩ := walk_one wk st2 ab2 hd
    refine .inr ⟨g1, fun σ' H' => ∃ F' adr' s', (Ex F1 F' ∧ adr1 <+: adr') ∧ Abs (kk X) F' adr' s' σ' H' ∧ PostS (kk X) W F' adr' s' σ' H' (floop asg mb (items.drop (i + 1)) s') E, fun σ' H' h => ⟨items.length - (i + 1), by omega, rfl, hlt, h⟩, fun x H3 y => ?_⟩
    obtain ⟨F3, st3, ab3, rp3⟩ := g2 x H3 y
    refine ⟨F3, adr2, s2, d, ab3, rp3, ?_⟩
    have po3 := PostS.from st3 po2
    unfold floop at po3
    cases e1 : asg d s2 with
    | nx s3 =>
      rw [e1] at po3
      intro σ4 F4 adr4 H4 st4 ab4
      refine ⟨F4, adr4, s3, ab4, ?_⟩
      have po4 := PostS.from st4 po3
      have ex4 : Ex F1 F4 ∧ adr1 <+: adr4 := ⟨st2.1.trans (st3.trans st4).ex, st2.2.trans (st3.trans st4).pre⟩
      simp only at po4
      cases e2 : mb s3 with
      | nx s5 => rw [e2] at po4; exact fun σ5 F5 adr5 H5 st5 ab5 => ⟨F5, adr5, s5, ⟨ex4.1.trans st5.ex, ex4.2.trans st5.pre⟩, ab5, PostS.from st5 po4⟩
      | ct s5 => rw [e2] at po4; exact fun σ5 F5 adr5 H5 st5 ab5 => ⟨F5, adr5, s5, ⟨ex4.1.trans st5.ex, ex4.2.trans st5.pre⟩, ab5, PostS.from st5 po4⟩
      | bk s5 => rw [e2] at po4; exact po4
      | rt d5 s5 => rw [e2] at po4; exact po4
      | exc x5 s5 => rw [e2] at po4; exact po4
      | bad => rw [e2] at po4; exact po4
    | _ => rw [e1] at po3; exact po3
  · have e : i = items.length := by omega
    subst e
    rw [List.drop_length] at po2
    exact .inl ⟨wk.stop F2 adr2 H2 st2.1 st2.2 ab2.sub, po2 σ2 F2 adr2 H2 .refl ab2⟩
end
end Bx
namespace Bx
open PySem L2 PySem.Spec PyProof.Rows
section
variable {X : Cx} {W : WX} {K : KK} {F F' H H' : Hp} {adr adr' : List Addr} {s s' : S} {σ σ' : L2.St} {d : D} {v : V} {e a b c tg o : Expr} {es : List Expr} {m ma mb mc : M D} {ms : List (M D)} {pos apos : Pos} {E : Ends}
def S.mo (s : S) : D → Option MO
  | .loc j => match s.ρ[j]? with
    | some (.own m) => some m
    | _ => none
  | .ref i => s.μ[i]?
  | _ => none
def S.mut (s : S) (d : D) (m : MO) : S := match d with
  | .loc j => s.put j (.own m)
  | .ref i => { s with μ := s.μ.set i m }
  | _ => s
theorem Ex.wr {p : Addr} {o : HO} (e : Ex F H) (h : F p = none) : Ex F (upd H p o) := fun a u r => by
  have ne : a ≠ p := by
    rintro rfl
    exact r.some h
  rcases e a u r with z | ⟨l, o', z⟩
  · exact .inl (by rw [upd_ne ne]; exact z)
  · exact .inr ⟨l, o', by rw [upd_ne ne]; exact z⟩
theorem Abs.mut {mo : MO} (ab : Abs K F adr s σ H) (r : RpV K F adr σ d v) (h : s.mo d = some mo) :
    ∃ a o, v = .ref a ∧ H a = some o ∧ RpO K F adr a mo o ∧ ∀ mo' o', RpO K F adr a mo' o' → Step F adr (Fp adr s σ) H F adr (Fp adr (s.mut d mo') σ) (upd H a o') ∧ Abs K F adr (s.mut d mo') σ (upd H a o') := by
  -- a write at a place of ours
  have wr : ∀ (a : Addr) (o' : HO) (s2 : S), Fp adr s σ a → (∀ x, Fp adr s2 σ x → Fp adr s σ x) → Step F adr (Fp adr s σ) H F adr (Fp adr s2 σ) (upd H a o') := fun a o' s2 ha hs =>
    ⟨.refl _, List.prefix_refl _, fun x u q n _ => by
      have ne : x ≠ a := fun z => n (by rw [z]; exact ha)
      rw [upd_ne ne]; exact q, fun x q => .inl (hs x q), fun x q => .inl q, fun x q => by
      by_cases hx : x = a
      · subst hx; rw [upd_same]; simp
      · rw [upd_ne hx]; exact q⟩
  cases d <;> first | (cases h; done) | skip
  case ref i =>
    obtain ⟨a, q, rfl⟩ := r
    have h' : s.μ[i]? = some mo := h
    obtain ⟨h1, o, h2, h3⟩ := ab.sto i a mo q h'
    have fpa : Fp adr s σ a := .inl (List.mem_of_getElem? q)
    refine ⟨a, o, rfl, h2, h3, fun mo' o' r' => ⟨wr a o' _ fpa (fun x z => z), ⟨⟨ab.sub.wr h1, by simp [S.mut, ab.len], ab.nd, fun k b m' g1 g2 => ?_⟩, ab.lenr, ab.slv, fun j m' g => ?_, ab.dis⟩⟩⟩
    · rcases set_back (show (s.μ.set i mo')[k]? = some m' from g2) with ⟨e1, e2, e3⟩ | ⟨n1, n2⟩
      · subst e1 e2
        rw [q] at g1
        cases g1
        exact ⟨h1, o', upd_same, r'⟩
      · obtain ⟨f, u, y1, y2⟩ := ab.sto k b m' g1 n2
        have ne : b ≠ a := by
          rintro rfl
          exact n1 ((List.getElem?_inj (List.getElem?_eq_some_iff.mp g1).1 ab.nd).mp (g1.trans q.symm))
        exact ⟨f, u, by rw [upd_ne ne]; exact y1, y2⟩
    · obtain ⟨l, u, y1, y2, y3, y4, y5⟩ := ab.slo j m' g
      have ne : l ≠ a := by
        rintro rfl
        exact y3 (List.mem_of_getElem? q)
      exact ⟨l, u, y1, y2, y3, by rw [upd_ne ne]; exact y4, y5⟩
  case loc j =>
    have r' : σ[j]? = some (some v) := r
    have h' : s.ρ[j]? = some (.own mo) := by
      cases e : s.ρ[j]? with
      | none => simp only [S.mo, e] at h; cases h
      | some sl =>
        cases sl with
        | no => simp only [S.mo, e] at h; cases h
        | val d1 => simp only [S.mo, e] at h; cases h
        | own m1 => simp only [S.mo, e] at h; rw [Option.some.inj h]
    obtain ⟨l, u, y1, y2, y3, y4, y5⟩ := ab.slo j mo h'
    rw [r'] at y1
    cases y1
    have fpa : Fp adr s σ l := .inr ⟨j, mo, h', r'⟩
    have hj : j < s.ρ.length := (List.getElem?_eq_some_iff.mp h').1
    refine ⟨l, u, rfl, y4, y5, fun mo' o' q' => ⟨wr l o' _ fpa (fun x z => ?_), ⟨⟨ab.sub.wr y2, ab.len, ab.nd, fun k b m' g1 g2 => ?_⟩, by simp [S.mut, S.put, ab.lenr], fun i d' g => ?_, fun i m' g => ?_, fun i i' m1 m2 l' g1 g2 g3 g4 => ?_⟩⟩⟩
    · rcases z with z | ⟨i, m', z1, z2⟩
      · exact .inl z
      · rcases set_back (show (s.ρ.set j (.own mo'))[i]? = some (.own m') from z1) with ⟨e1, e2, e3⟩ | ⟨n1, n2⟩
        · subst e1; exact .inr ⟨i, mo, h', z2⟩
        · exact .inr ⟨i, m', n2, z2⟩
    · obtain ⟨f, u, x1, x2⟩ := ab.sto k b m' g1 g2
      have ne : b ≠ l := by
        rintro rfl
        exact y3 (List.mem_of_getElem? g1)
      exact ⟨f, u, by rw [upd_ne ne]; exact x1, x2⟩
    · rcases set_back (show (s.ρ.set j (.own mo'))[i]? = some (.val d') from g) with ⟨e1, e2, e3⟩ | ⟨n1, n2⟩
      · cases e2
      · exact ab.slv i d' n2
    · rcases set_back (show (s.ρ.set j (.own mo'))[i]? = some (.own m') from g) with ⟨e1, e2, e3⟩ | ⟨n1, n2⟩
      · cases e2
        subst e1
        exact ⟨l, o', r', y2, y3, upd_same, q'⟩
      · obtain ⟨l2, u2, x1, x2, x3, x4, x5⟩ := ab.slo i m' n2
        have ne : l2 ≠ l := by
          rintro rfl
          exact n1 (ab.dis i j m' mo l2 n2 h' x1 r')
        exact ⟨l2, u2, x1, x2, x3, by rw [upd_ne ne]; exact x4, x5⟩
    · have b1 : ∀ (i : Nat) (m1 : MO), (s.ρ.set j (Sl.own mo'))[i]? = some (Sl.own m1) → ∃ m0 : MO, s.ρ[i]? = some (Sl.own m0) := fun i m1 g => by
        rcases set_back g with ⟨e1, e2, e3⟩ | ⟨n1, n2⟩
        · subst e1; exact ⟨mo, h'⟩
        · exact ⟨m1, n2⟩
      obtain ⟨m3, k3⟩ := b1 i m1 g1
      obtain ⟨m4, k4⟩ := b1 i' m2 g2
      exact ab.dis i i' m3 m4 l' k3 k4 g3 g4
/-- a value that is a list now -/
def isL (s : S) (d : D) : Bool := match rsl s d with
  | .lst _ => true
  | _ => false
theorem isL_ok (ab : Abs K F adr s σ H) (r : RpV K F adr σ d v) (h : isL s d = true) : tyV K.K "list" v H := by
  have t := ab.t r
  unfold isL at h
  generalize rsl s d = e1 at *
  cases e1 <;> first | (cases h; done) | skip
  case lst xs =>
    obtain ⟨a, vs, rfl, h1, h2⟩ := t
    exact .inl ⟨rfl, vs, SqL.of h1⟩
def chk (f : S → D → Bool) (d : D) : M D := fun s => if f s d then .ok d s else .bad
/-- xs.append(e) -/
def appD (d x : D) : M D := fun s => match s.mo d with
  | some (.lst xs) => if xs.length < 100000 then .ok .non (s.mut d (.lst (xs ++ [x]))) else .bad
  | _ => .bad
def mapp (m a : M D) : M D := bnd m fun d => bnd (chk isL d) fun d => bnd (mal [a]) (on1 (appD d))
theorem chk_bind {γ δ : Type} {f : S → D → Bool} {rel' : Hp → List Addr → γ → δ → Prop} {k : D → M γ} {Q : δ → Hp → Prop} (h : PostG K W rel' F adr s σ H ((chk f d s).bind k) Q) : f s d = true ∧ PostG K W rel' F adr s σ H (k d s) Q := by
  unfold chk at h
  by_cases hc : f s d = true
  · rw [if_pos hc] at h; exact ⟨hc, h⟩
  · rw [if_neg hc] at h; exact h.elim
theorem on1_ok {α β : Type} {rel : Hp → List Addr → α → β → Prop} {f : D → M α} {ds : List D} {Q : β → Hp → Prop} (h : PostG K W rel F adr s σ H (on1 f ds s) Q) : ∃ d, ds = [d] ∧ PostG K W rel F adr s σ H (f d s) Q := by
  match ds, h with
  | [], h => exact h.elim
  | [d], h => exact ⟨d, rfl, h⟩
  | _ :: _ :: _, h => exact h.elim
theorem se_append (ho : SE X W o m) (ha : SAL X W [e] (mal [ma])) (hbase : attributeBase o "append" X.env (eval o X.env) = eval o X.env := by rfl)
    (hfew : ((backTo pos (starEach [e] X.env)).all (fun x => !x.1) && (backToKw pos (keywordEach [] X.env)).all (fun x => x.1.isSome) && decide ([e].length + ([] : List Keyword).length + (if ([] : List Keyword).isEmpty then 0 else 1) < 30)) = true := by rfl)
    (hline : (apos.endLine == pos.line) = true := by rfl) (hs : starEach [e] X.env = (false, eval e X.env) :: starEach [] X.env := by rfl) (hplain : (backTo pos (starEach [] X.env)).any (·.1) = false := by rfl) :
    SE X W (.Call (.Attribute o "append" apos) [e] [] pos) (mapp m ma) :=
  PE.imp (pe_bm PySem.F.plainAttrs_list PySem.F.slot_list_append PySem.F.type_list_append mt_append ho ha hbase hfew hline hs hplain) fun σ H Q t => by
    obtain ⟨F, adr, s, ab, po⟩ := t
    refine ⟨F, adr, s, ab, (PostG.bind po).imp ?_⟩
    rintro x H1 ⟨F1, adr1, d1, s1, st1, ab1, rp1, po1⟩
    obtain ⟨hc, po2⟩ := chk_bind po1
    refine ⟨isL_ok ab1 rp1 hc, F1, adr1, s1, ab1, (PostG.bind po2).imp ?_⟩
    rintro xs H2 ⟨F2, adr2, ds, s2, st2, ab2, rp2, po3⟩
    obtain ⟨y, rfl, po4⟩ := on1_ok po3
    obtain ⟨v, r, q, g1, g2⟩ := rp2
    have e0 : r = [] := g2
    subst e0 q
    have rp1' := rp1.mono st2.ex st2.pre
    unfold appD at po4
    cases e1 : s2.mo d1 with
    | none => rw [e1] at po4; exact po4.elim
    | some mo =>
      rw [e1] at po4
      obtain ⟨p, u, hp, z1, z2, z3⟩ := ab2.mut rp1' e1
      cases mo <;> try (exact po4.elim)
      case lst zs =>
        obtain ⟨vs, rfl, zr⟩ := z2
        by_cases hl : zs.length < 100000
        · simp only [hl, if_true] at po4
          refine ⟨p, vs, v, hp, rfl, z1, by rw [zr.length]; exact Nat.lt_of_lt_of_le hl line5, ?_⟩
          obtain ⟨y1, y2⟩ := z3 (.lst (zs ++ [y])) (.lst (vs ++ [v])) ⟨_, rfl, zr.append (.one g1)⟩
          exact po4 .non F2 adr2 _ y1 y2 rfl
        · simp only [hl, if_false] at po4
          exact po4.elim
/-- xs[i] = e -/
def setD (d i x : D) : S → RS := fun s => match s.mo d, i with
  | some (.lst xs), .int k => match ixN xs.length k with
    | some j => .nx (s.mut d (.lst (xs.set j x)))
    | none => .bad
  | _, _ => .bad
def ssub (m o i : M D) : MS := fun s => (stl m s).toS fun x s => (o s).toS fun d s => (i s).toS fun k s => setD d k x s
theorem ss_sub {i : Expr} {mo mi : M D} {tpos : Pos} (he : SE X W e m) (ho : SE X W o mo) (hi : SE X W i mi) (hs : swapsWithSole [.Subscript o i tpos] e pos.line X.env = pure false := by rfl) (hw : swappedStores [.Subscript o i tpos] e X.env = pure none := by rfl)
    (h1 : (assignEach [.Subscript o i tpos] X.env).map (·.2) = [assign (.Subscript o i tpos) X.env] := by rfl)
    (ha : ∀ v, assign (.Subscript o i tpos) X.env v = (do
      let ov ← holding [v] (eval o X.env)
      let iv ← holding [v, ov] (eval i X.env)
      standAt tpos
      holding [v, ov, iv] (setItem ov iv v)
      release [v, ov, iv] []) := by intro _; rfl) : SS X W (.Assign [.Subscript o i tpos] e pos) (ssub m mo mi) :=
  PS.imp (ps_asg he (pg_sub ho hi set_list ha) hs hw h1) fun E σ H t => by
    obtain ⟨F, adr, s, ab, po⟩ := t
    refine ⟨F, adr, s, ab, PostG.imp (t_stl ab po) ?_⟩
    rintro x H1 ⟨F1, adr1, d1, s1, st1, ab1, rp1, po1⟩
    refine ⟨F1, adr1, s1, ab1, (S_bind po1).imp ?_⟩
    rintro y H2 ⟨F2, adr2, d2, s2, st2, ab2, rp2, po2⟩
    refine ⟨F2, adr2, s2, ab2, (S_bind po2).imp ?_⟩
    rintro z H3 ⟨F3, adr3, d3, s3, st3, ab3, rp3, po3⟩
    have rp1' := rp1.mono (st2.trans st3).ex (st2.trans st3).pre
    have rp2' := rp2.mono st3.ex st3.pre
    unfold setD at po3
    cases e1 : s3.mo d2 with
    | none => rw [e1] at po3; exact po3.elim
    | some mo =>
      rw [e1] at po3
      obtain ⟨p, u, hp, z1, z2, z3⟩ := ab3.mut rp2' e1
      cases mo <;> try (exact po3.elim)
      case lst zs =>
        cases d3 <;> try (exact po3.elim)
        case int k =>
          obtain ⟨vs, rfl, zr⟩ := z2
          simp only at po3
          cases e2 : ixN zs.length k with
          | none => rw [e2] at po3; exact po3.elim
          | some j =>
            rw [e2] at po3
            obtain ⟨y1, y2⟩ := z3 (.lst (zs.set j d1)) (.lst (vs.set j x)) ⟨_, rfl, zr.set j rp1'⟩
            exact ⟨p, vs, k, j, hp, rp3, z1, by rw [zr.length]; exact e2, po3 σ F3 adr3 _ y1 y2⟩
def keyD : D → Option Key
  | .int i => some (.inl i)
  | .str x => some (.inr x)
  | _ => none
theorem keyD_ok {k : Key} (h : keyD d = some k) (r : RpV K F adr σ d v) : v = kV k := by
  cases d <;> first | (cases h; done) | skip
  case int i => cases h; exact r
  case str i => cases h; exact r
def addK (ks : List Key) (k : Key) : List Key := if hasK ks k then ks else ks ++ [k]
theorem hasK_self {ks : List Key} {k j : Key} (h : hasK ks k = true) : (hasK ks j || decide (j = k)) = hasK ks j := by
  by_cases e : j = k
  · subst e; rw [h]; rfl
  · rw [decide_eq_false e, Bool.or_false]
theorem addK_set {P : Program} {w : World} {a : Addr} (ks : List Key) (k : Key) : SetK P w a (fun j => hasK ks j || decide (j = k)) (if hasK ks k = true then ks.length else ks.length + 1) = SetK P w a (hasK (addK ks k)) (addK ks k).length := by
  unfold addK
  by_cases h : hasK ks k = true
  · rw [if_pos h, if_pos h, show (fun j => hasK ks j || decide (j = k)) = hasK ks from funext fun j => hasK_self h]
  · rw [if_neg h, if_neg h, List.length_append, show (fun j => hasK ks j || decide (j = k)) = hasK (ks ++ [k]) from funext fun j => ?_]
    · rfl
    · unfold hasK
      rw [List.any_append]
      simp [eq_comm]
def isSet (s : S) (d : D) : Bool := match s.mo d with
  | some (.set _) => true
  | _ => false
def sadD (d x : D) : M D := fun s => match s.mo d, keyD x with
  | some (.set ks), some k => if ks.length < 1000 then .ok .non (s.mut d (.set (addK ks k))) else .bad
  | _, _ => .bad
def msadd (m a : M D) : M D := bnd m fun d => bnd (chk isSet d) fun d => bnd (mal [a]) (on1 (sadD d))
theorem se_sadd (ho : SE X W o m) (ha : SAL X W [e] (mal [ma])) (hbase : attributeBase o "add" X.env (eval o X.env) = eval o X.env := by rfl)
    (hfew : ((backTo pos (starEach [e] X.env)).all (fun x => !x.1) && (backToKw pos (keywordEach [] X.env)).all (fun x => x.1.isSome) && decide ([e].length + ([] : List Keyword).length + (if ([] : List Keyword).isEmpty then 0 else 1) < 30)) = true := by rfl)
    (hline : (apos.endLine == pos.line) = true := by rfl) (hs : starEach [e] X.env = (false, eval e X.env) :: starEach [] X.env := by rfl) (hplain : (backTo pos (starEach [] X.env)).any (·.1) = false := by rfl) :
    SE X W (.Call (.Attribute o "add" apos) [e] [] pos) (msadd m ma) := PE.imp (pe_saddK ho ha hbase hfew hline hs hplain) fun σ H Q t => by
  obtain ⟨F, adr, s, ab, po⟩ := t
  refine ⟨F, adr, s, ab, (PostG.bind po).imp ?_⟩
  rintro x H1 ⟨F1, adr1, d1, s1, st1, ab1, rp1, po1⟩
  obtain ⟨hc, po2⟩ := chk_bind po1
  refine ⟨?_, F1, adr1, s1, ab1, (PostG.bind po2).imp ?_⟩
  · unfold isSet at hc
    cases e1 : s1.mo d1 with
    | none => rw [e1] at hc; cases hc
    | some mo =>
      rw [e1] at hc
      cases mo <;> first | (cases hc; done) | skip
      case set ks =>
        obtain ⟨p, u, hp, z1, z2, _⟩ := ab1.mut rp1 e1
        exact ⟨p, _, _, hp, by rw [z1, show u = _ from z2]⟩
  rintro xs H2 ⟨F2, adr2, ds, s2, st2, ab2, rp2, po3⟩
  obtain ⟨y, rfl, po4⟩ := on1_ok po3
  obtain ⟨v, r, q, g1, g2⟩ := rp2
  have e0 : r = [] := g2
  subst e0 q
  have rp1' := rp1.mono st2.ex st2.pre
  unfold sadD at po4
  cases e1 : s2.mo d1 with
  | none => rw [e1] at po4; exact po4.elim
  | some mo =>
    rw [e1] at po4
    obtain ⟨p, u, hp, z1, z2, z3⟩ := ab2.mut rp1' e1
    cases mo <;> try (exact po4.elim)
    case set ks =>
      cases e3 : keyD y with
      | none => simp only [e3] at po4; exact po4.elim
      | some k =>
        simp only [e3] at po4
        by_cases hl : ks.length < 1000
        · simp only [hl, if_true] at po4
          refine ⟨p, k, hasK ks, ks.length, hp, by rw [keyD_ok (K := kk X) (σ := σ) e3 (.of g1)], by rw [z1, show u = _ from z2], by show ks.length + 1 < 4096; omega, ?_⟩
          rw [addK_set]
          obtain ⟨y1, y2⟩ := z3 (.set (addK ks k)) _ rfl
          exact po4 .non F2 adr2 _ y1 y2 rfl
        · simp only [hl, if_false] at po4
          exact po4.elim
def inA (neg : Bool) : D → D → M D := fun x y s => match s.mo y with
  | some (.set ks) => match keyD x with
    | some k => .ok (.bl (if neg then !hasK ks k else hasK ks k)) s
    | none => .bad
  | _ => inD neg x y s
theorem inA_fin (neg : Bool) {x y : V} {Q : VK} (h : r2I K W (inA neg) x y H Q) : rSInK K.P K.w neg x y H Q ∨ r2I K W (inD neg) x y H Q := by
  obtain ⟨F, adr, s, σ, d1, d2, ab, r1, r2, po⟩ := h
  unfold inA at po
  cases e1 : s.mo d2 with
  | none => rw [e1] at po; exact .inr ⟨F, adr, s, σ, d1, d2, ab, r1, r2, po⟩
  | some mo =>
    rw [e1] at po
    cases mo with
    | set ks =>
      simp only at po
      obtain ⟨p, u, hp, z1, z2, _⟩ := ab.mut r2 e1
      cases e3 : keyD d1 with
      | none => simp only [e3] at po; exact po.elim
      | some k =>
        simp only [e3] at po
        exact .inl ⟨k, p, hasK ks, ks.length, keyD_ok e3 r1, hp, by rw [z1, show u = _ from z2], Post.at ab po rfl⟩
    | _ => exact .inr ⟨F, adr, s, σ, d1, d2, ab, r1, r2, po⟩
theorem op_inA : OpR X (compareOp .In) (r2I (kk X) W (inA false)) := OpR.imp (or_sinK.or op_inD) fun x y H Q h => inA_fin false h
end
end Bx
namespace Bx
open PySem L2 PySem.Spec PyProof.Rows
section
variable {X : Cx} {W : WX} {K : KK} {F F' H H' : Hp} {adr adr' : List Addr} {s s' : S} {σ σ' : L2.St} {d : D} {v : V} {e a b c tg o iter elt : Expr} {es : List Expr} {m ma mb mc : M D} {ms : List (M D)} {pos apos : Pos} {E : Ends}
def wipeR (ρ : List Sl) : List Nat → List Sl
  | [] => ρ
  | v :: vs => (wipeR ρ vs).set v .no
def wipeS (vs : List Nat) (s : S) : S := { s with ρ := wipeR s.ρ vs }
theorem wipeR_len (ρ : List Sl) : ∀ vs : List Nat, (wipeR ρ vs).length = ρ.length
  | [] => rfl
  | v :: vs => by unfold wipeR; rw [List.length_set, wipeR_len ρ vs]
theorem wipeR_get {ρ : List Sl} {i : Nat} {x : Sl} : ∀ {vs : List Nat}, (wipeR ρ vs)[i]? = some x → x ≠ .no → i ∉ vs ∧ ρ[i]? = some x
  | [], h, _ => ⟨by simp, h⟩
  | v :: vs, h, n => by
    unfold wipeR at h
    rcases set_back h with ⟨e1, e2, e3⟩ | ⟨n1, n2⟩
    · exact absurd e2 n
    · obtain ⟨z1, z2⟩ := wipeR_get n2 n
      exact ⟨by simp only [List.mem_cons, not_or]; exact ⟨n1, z1⟩, z2⟩
/-- the block's state, and back -/
theorem Abs.wiped {vs : List Nat} {σ1 σ2 : L2.St} (ab : Abs K F adr s σ1 H) (hl : σ2.length = σ1.length) (hσ : ∀ i : Nat, i ∉ vs → σ2[i]? = σ1[i]?) :
    (∀ x, Fp adr (wipeS vs s) σ2 x → Fp adr s σ1 x) ∧ Abs K F adr (wipeS vs s) σ2 H := by
  have back : ∀ (i : Nat) (x : Sl), (wipeR s.ρ vs)[i]? = some x → x ≠ .no → s.ρ[i]? = some x ∧ σ2[i]? = σ1[i]? := fun i x h n => by
    obtain ⟨h1, h2⟩ := wipeR_get h n
    exact ⟨h2, hσ i h1⟩
  refine ⟨fun x h => ?_, ⟨ab.toAbsH, by show σ2.length = (wipeR s.ρ vs).length; rw [wipeR_len, hl, ab.lenr], fun j d h => ?_, fun j m h => ?_, fun j j' m m' l h1 h2 h3 h4 => ?_⟩⟩
  · rcases h with h | ⟨i, m, h1, h2⟩
    · exact .inl h
    · obtain ⟨z1, z2⟩ := back i _ h1 (fun z => nomatch z)
      exact .inr ⟨i, m, z1, by rw [← z2]; exact h2⟩
  · obtain ⟨z1, z2⟩ := back j _ h (fun z => nomatch z)
    rw [z2]; exact ab.slv j d z1
  · obtain ⟨z1, z2⟩ := back j _ h (fun z => nomatch z)
    rw [z2]; exact ab.slo j m z1
  · obtain ⟨z1, z2⟩ := back j _ h1 (fun z => nomatch z)
    obtain ⟨z3, z4⟩ := back j' _ h2 (fun z => nomatch z)
    rw [z2] at h3
    rw [z4] at h4
    exact ab.dis j j' m m' l z1 z3 h3 h4
theorem Step.less {F1 : Hp} {adr1 : List Addr} {P P1 P2 : Addr → Prop} {H1 : Hp} (st : Step F adr P H F1 adr1 P1 H1) (h : ∀ x, P2 x → P1 x) : Step F adr P H F1 adr1 P2 H1 := ⟨st.ex, st.pre, st.keep, fun a q => st.foot a (h a q), st.frz, st.there⟩
/-- a write at something newer than the start -/
theorem Step.wrNew {F1 : Hp} {adr1 : List Addr} {P P1 : Addr → Prop} {H1 : Hp} {p : Addr} {o : HO} (st : Step F adr P H F1 adr1 P1 H1) (h : H p = none) : Step F adr P H F1 adr1 P1 (upd H1 p o) :=
  ⟨st.ex, st.pre, fun a u q n f => by rw [upd_ne (ne_of_none q h)]; exact st.keep a u q n f, st.foot, st.frz, fun a q => by
    by_cases ha : a = p
    · subst ha; rw [upd_same]; simp
    · rw [upd_ne ha]; exact st.there a q⟩
theorem Abs.wrFresh {p : Addr} {o : HO} (ab : Abs K F adr s σ H) (h1 : F p = none) (h2 : ¬ Fp adr s σ p) : Abs K F adr s σ (upd H p o) := by
  refine ⟨⟨ab.sub.wr h1, ab.len, ab.nd, fun i x m g1 g2 => ?_⟩, ab.lenr, ab.slv, fun j m q => ?_, ab.dis⟩
  · obtain ⟨f, u, q, r⟩ := ab.sto i x m g1 g2
    have ne : x ≠ p := fun z => h2 (.inl (by rw [← z]; exact List.mem_of_getElem? g1))
    exact ⟨f, u, by rw [upd_ne ne]; exact q, r⟩
  · obtain ⟨l, u, q1, q2, q3, q4, q5⟩ := ab.slo j m q
    have ne : l ≠ p := fun z => h2 (.inr ⟨j, m, q, by rw [← z]; exact q1⟩)
    exact ⟨l, u, q1, q2, q3, by rw [upd_ne ne]; exact q4, q5⟩
theorem keep_fresh {F1 : Hp} {adr1 : List Addr} {s1 : S} {σ1 : L2.St} {H1 : Hp} {p : Addr} {u : HO} (st : Step F adr (Fp adr s σ) H F1 adr1 (Fp adr1 s1 σ1) H1) (h1 : F p = none) (h2 : ¬ Fp adr s σ p) (h3 : H p = some u) : F1 p = none ∧ ¬ Fp adr1 s1 σ1 p ∧ H1 p = some u := by
  have hp : H p ≠ none := by rw [h3]; simp
  refine ⟨?_, fun z => ?_, st.keep p u h3 h2 h1⟩
  · cases e : F1 p with
    | none => rfl
    | some y =>
      rcases st.frz p (by rw [e]; simp) with z | z | z
      · exact absurd h1 z
      · exact absurd z hp
      · exact absurd z h2
  · rcases st.foot p z with y | y
    · exact h2 y
    · exact hp y
def W0 : WX := fun _ _ _ _ => False
def cloop (vs : List Nat) (asg : D → MS) (t : M Bool) (el : M D) : List D → List D → S → R D
  | [], acc, s => .ok (.lst acc) (wipeS vs s)
  | d :: r, acc, s => match asg d s with
    | .nx s1 => match t s1 with
      | .ok true s2 => match stl el s2 with
        | .ok y s3 => if acc.length < 100000 then cloop vs asg t el r (acc ++ [y]) (wipeS vs s3) else .bad
        | _ => .bad
      | .ok false s2 => cloop vs asg t el r acc (wipeS vs s2)
      | _ => .bad
    | _ => .bad
def mcomp (vs : List Nat) (it : M (List D)) (asg : D → MS) (t : M Bool) (el : M D) : M D := bnd it fun items s => cloop vs asg t el items [] (wipeS vs s)
def STs (X : Cx) (W : WX) (ifs : List Expr) (m : M Bool) : Prop := PTs X ifs (tT (kk X) W m)
def yes : M Bool := pur true
theorem sts_nil : STs X W [] yes := ⟨fun pins sh σ H Q I t => by
  obtain ⟨F, adr, s, ab, po⟩ := t
  exact pts_nil.run pins sh σ H Q I (PostG.done ab po rfl)⟩
theorem wipe_in {σ : L2.St} {i : Nat} : ∀ {vs : List Nat}, i ∈ vs → (wipe σ vs)[i]? = if i < σ.length then some none else none
  | [], h => nomatch h
  | v :: vs, h => by
    unfold wipe
    by_cases hv : v = i
    · subst hv
      by_cases hl : v < σ.length
      · rw [List.getElem?_set_self (by rw [wipe_length]; exact hl), if_pos hl]
      · rw [if_neg hl, List.getElem?_eq_none (by simpa [wipe_length] using hl)]
    · rw [List.getElem?_set_ne hv]
      exact wipe_in (by rcases List.mem_cons.mp h with z | z; exact absurd z.symm hv; exact z)
theorem wipe_out' {σ : L2.St} {i : Nat} {vs : List Nat} (h : i ∉ vs) : (wipe σ vs)[i]? = σ[i]? := wipe_out h
theorem wipe_ext {σ1 σ2 : L2.St} {vs : List Nat} (hl : σ1.length = σ2.length) (h : ∀ i : Nat, i ∉ vs → σ1[i]? = σ2[i]?) : wipe σ1 vs = wipe σ2 vs := by
  apply List.ext_getElem?
  intro i
  by_cases hi : i ∈ vs
  · rw [wipe_in hi, wipe_in hi, hl]
  · rw [wipe_out' hi, wipe_out' hi]; exact h i hi
/-- a comprehension's target -/
inductive Tgt where
  | name (j : Nat) | tup (js : List Nat)
def Tgt.slots : Tgt → List Nat
  | .name j => [j]
  | .tup js => js
def Tgt.asg : Tgt → D → MS
  | .name j => gset j
  | .tup js => gtup js
def Tgt.tr (K : PySem.W.Frag) : Tgt → TG
  | .name j => gName j
  | .tup js => gTup K js.length (gN js)
def SGc (X : Cx) (tg : Expr) (g : Tgt) : Prop := PG X tg (g.tr X.K)
theorem sgc_name {j : Nat} {x : Str} (hN : X.N.Nodup) (hi : X.N[j]? = some x) (hx : Loc X.env.scope x) (hf : X.fn x = true ∨ X.env.scope.names.lookup x = some .local := by first | exact .inl rfl | exact .inr rfl | assumption) : SGc X (.Name x pos) (.name j) := pg_name hN hi hx hf
theorem sgc_tup {k : Nat} {js : List Nat} (hc : X.calm = true) (h : SGn X es js) (hn : (assignEach es X.env).length = js.length := by rfl) (hst : (assignEach es X.env).findIdx? (·.1) = none := by rfl) : SGc X (.Tuple es k pos) (.tup js) := pg_tup hc h hn hst
theorem sets_len : ∀ (js : List Nat) (σ : L2.St) (vs : List V), (sets σ js vs).length = σ.length
  | [], σ, vs => by cases vs <;> rfl
  | j :: js, σ, [] => rfl
  | j :: js, σ, v :: vs => by show (sets (σ.set j (some v)) js vs).length = _; rw [sets_len js, List.length_set]
theorem sets_out {i : Nat} : ∀ {js : List Nat} {σ : L2.St} {vs : List V}, i ∉ js → (sets σ js vs)[i]? = σ[i]?
  | [], σ, vs, _ => by cases vs <;> rfl
  | j :: js, σ, [], _ => rfl
  | j :: js, σ, v :: vs, h => by
    simp only [List.mem_cons, not_or] at h
    show (sets (σ.set j (some v)) js vs)[i]? = _
    rw [sets_out h.2, List.getElem?_set_ne (fun z => h.1 z.symm)]
theorem Tgt.run {g : Tgt} {Q : L2.St → Hp → Prop} (ab : Abs K F adr s σ H) (r : Rp K F adr d v) (h : g.asg d s = .nx s')
    (q : ∀ σ', σ'.length = σ.length → (∀ i : Nat, i ∉ g.slots → σ'[i]? = σ[i]?) → Step F adr (Fp adr s σ) H F adr (Fp adr s' σ') H → Abs K F adr s' σ' H → Q σ' H) : g.tr K.K v σ H Q := by
  cases g with
  | name j =>
    cases h
    exact q _ (by simp) (fun i hi => List.getElem?_set_ne (fun z => hi (by rw [z]; exact List.mem_singleton.mpr rfl))) (ab.setVal r).1 (ab.setVal r).2
  | tup js =>
    have h' : gtup js d s = .nx s' := h
    unfold gtup at h'
    cases hd : unT d with
    | none => rw [hd] at h'; cases h'
    | some ds =>
      rw [hd] at h'
      obtain ⟨a, vs, rfl, h1, h2⟩ := unT_ok hd r
      by_cases hl : ds.length = js.length
      · simp only [hl, if_true] at h'
        cases h'
        have hv : vs.length = js.length := by rw [h2.length, hl]
        obtain ⟨z1, z2⟩ := Abs.setAll (js := js) (xs := ds.map .val) (vs := vs) ab .refl (slsOk_vals h2)
        exact ⟨a, vs, rfl, ex_t ab.sub h1, hv, hv, q _ (sets_len _ _ _) (fun i hi => sets_out hi) z1 z2⟩
      · simp only [hl, if_false] at h'
        cases h'
theorem settle_noloc {j : Nat} (h : settle d s = .ok (.loc j) s') : False := by
  cases d <;> first | (cases h; done) | skip
  case loc i =>
    cases e : s.ρ[i]? with
    | none => simp only [settle, e] at h; cases h
    | some sl =>
      simp only [settle, e] at h
      cases sl with
      | no => cases h
      | val d1 => cases d1 <;> cases h
      | own m => cases m <;> cases h
theorem stl_noloc {j : Nat} {el : M D} (h : stl el s = .ok (.loc j) s') : False := by
  have h' : (el s).bind settle = .ok (.loc j) s' := h
  cases e : el s with
  | ok d0 s0 => rw [e] at h'; exact settle_noloc h'
  | exc x0 s0 => rw [e] at h'; cases h'
  | bad => rw [e] at h'; cases h'
theorem t_comp {vs : List Nat} {it : M (List D)} {g : Tgt} {t : M Bool} {el : M D} {σ : L2.St} {H : Hp} {Q : VK} (hg : ∀ i ∈ g.slots, i ∈ vs) (h : tI K W (mcomp vs it g.asg t el) σ H Q) :
    tLc (tIt K W it) (g.tr K.K) (tT K W0 t) (tI K W0 (stl el)) vs σ H Q := by
  obtain ⟨F, adr, s, ab, po⟩ := h
  refine ⟨F, adr, s, ab, (PostG.bind po).imp ?_⟩
  rintro J H1 ⟨F1, adr1, items, s1, st1, ab1, wk, po1⟩
  intro p hp
  -- the start, behind the new list
  have hFp := ab1.fnone hp
  have npp : ¬ Fp adr1 s1 σ p := fun z => (ab1.fpH z).1 hp
  refine ⟨fun i m' H' => m' = items.length - i ∧ i ≤ items.length ∧ ∃ F' adr' s' acc av, Step F1 adr1 (Fp adr1 s1 σ) H1 F' adr' (Fp adr' s' (wipe σ vs)) H' ∧ Abs K F' adr' s' (wipe σ vs) H' ∧ F' p = none ∧ ¬ Fp adr' s' (wipe σ vs) p ∧ H' p = some (.lst av) ∧
      RpL K F' adr' acc av ∧ Post K W F1 adr1 s1 σ H1 (cloop vs g.asg t el (items.drop i) acc s') Q, ⟨items.length, by simp, Nat.zero_le _, ?_⟩, ?_⟩
  · obtain ⟨y1, y2⟩ := ab1.wiped (vs := vs) (σ2 := wipe σ vs) (wipe_length σ vs) (fun i hi => wipe_out' hi)
    have st0 : Step F1 adr1 (Fp adr1 s1 σ) H1 F1 adr1 (Fp adr1 (wipeS vs s1) (wipe σ vs)) H1 := Step.less .refl y1
    exact ⟨F1, adr1, wipeS vs s1, [], [], st0.wrNew hp, y2.wrFresh hFp (fun z => npp (y1 _ z)), hFp, fun z => npp (y1 _ z), upd_same, rfl, by simpa using po1⟩
  · rintro i m' H2 ⟨rfl, hil, F2, adr2, s2, acc, av, st2, ab2, f2, n2, h2, r2, po2⟩
    by_cases hlt : i < items.length
    · obtain ⟨d, hd⟩ : ∃ d, items[i]? = some d := ⟨_, List.getElem?_eq_getElem hlt⟩
      have hdrop : items.drop i = d :: items.drop (i + 1) := by
        rw [List.drop_eq_getElem_cons hlt]
        rw [List.getElem?_eq_getElem hlt] at hd
        rw [Option.some.inj hd]
      rw [hdrop] at po2
      obtain ⟨g1, g2⟩ := walk_one wk ⟨st2.ex, st2.pre⟩ ab2 hd
      refine .inr ⟨g1, fun H' => ∃ F' adr' s' acc av, Step F1 adr1 (Fp adr1 s1 σ) H1 F' adr' (Fp adr' s' (wipe σ vs)) H' ∧ Abs K F' adr' s' (wipe σ vs) H' ∧ F' p = none ∧ ¬ Fp adr' s' (wipe σ vs) p ∧ H' p = some (.lst av) ∧
        RpL K F' adr' acc av ∧ Post K W F1 adr1 s1 σ H1 (cloop vs g.asg t el (items.drop (i + 1)) acc s') Q, fun H' z => ⟨items.length - (i + 1), by omega, rfl, hlt, z⟩, fun x H3 y => ?_⟩
      obtain ⟨F3, st3, ab3, rp3⟩ := g2 x H3 y
      obtain ⟨f3, n3, h3⟩ := keep_fresh st3 f2 n2 h2
      unfold cloop at po2
      cases e1 : g.asg d s2 with
      | nx s3 =>
        simp only [e1] at po2
        refine Tgt.run ab3 rp3 e1 fun σ4 hl4 ho4 st4 ab4 => ?_
        have wz : wipe σ4 vs = wipe σ vs := wipe_ext (by rw [hl4, wipe_length]) (fun j hj => by rw [ho4 j (fun z => hj (hg j z)), wipe_out' hj])
        refine ⟨wz, F3, adr2, s3, ab4, ?_⟩
        obtain ⟨f4, n4, h4⟩ := keep_fresh st4 f3 n3 h3
        -- behind a turn: the slots forgotten again
        have fin : ∀ {F5 : Hp} {adr5 : List Addr} {s5 : S} {H5 : Hp}, Step F3 adr2 (Fp adr2 s3 σ4) H3 F5 adr5 (Fp adr5 s5 σ4) H5 → Abs K F5 adr5 s5 σ4 H5 →
            Step F1 adr1 (Fp adr1 s1 σ) H1 F5 adr5 (Fp adr5 (wipeS vs s5) (wipe σ vs)) H5 ∧ Abs K F5 adr5 (wipeS vs s5) (wipe σ vs) H5 ∧ F5 p = none ∧ ¬ Fp adr5 (wipeS vs s5) (wipe σ vs) p ∧ H5 p = some (.lst av) ∧ RpL K F5 adr5 acc av := fun {F5 adr5 s5 H5} st5 ab5 => by
          obtain ⟨y1, y2⟩ := ab5.wiped (vs := vs) (σ2 := wipe σ vs) (by rw [wipe_length, hl4, wipe_length]) (fun j hj => by rw [wipe_out' hj, ho4 j (fun z => hj (hg j z)), wipe_out' hj])
          obtain ⟨f5, n5, h5⟩ := keep_fresh st5 f4 n4 h4
          have stA := (st2.trans st3).trans (st4.trans st5)
          exact ⟨Step.less stA y1, y2, f5, fun z => n5 (y1 _ z), h5, r2.mono ((st3.trans st4).trans st5).ex ((st3.trans st4).trans st5).pre⟩
        cases e2 : t s3 with
        | ok bb s5 =>
          simp only [e2] at po2
          intro b' F5 adr5 H5 st5 ab5 hb
          have hb' : b' = bb := hb
          subst hb'
          cases b' with
          | false =>
            obtain ⟨q1, q2, q3, q4, q5, q6⟩ := fin st5 ab5
            exact ⟨F5, adr5, _, acc, av, q1, q2, q3, q4, q5, q6, po2⟩
          | true =>
            refine ⟨F5, adr5, s5, ab5, ?_⟩
            simp only at po2
            cases e3 : stl el s5 with
            | ok yv s6 =>
              simp only [e3] at po2
              intro w F6 adr6 H6 st6 ab6 rp6
              obtain ⟨q1, q2, q3, q4, q5, q6⟩ := fin (st5.trans st6) ab6
              by_cases hz : acc.length < 100000
              · simp only [hz, if_true] at po2
                refine ⟨av, q5, by rw [r2.length]; exact Nat.lt_of_lt_of_le hz line5, F6, adr6, wipeS vs s6, acc ++ [yv], av ++ [w], q1.wrNew hp, q2.wrFresh q3 q4, q3, q4, upd_same, q6.append (.one ?_), po2⟩
                cases yv with
                | loc j => exact (stl_noloc e3).elim
                | _ => exact rp6
              · simp only [hz, if_false] at po2
                exact po2.elim
            | exc x6 s6 => simp only [e3] at po2; exact po2.elim
            | bad => simp only [e3] at po2; exact po2.elim
        | exc x5 s5 => simp only [e2] at po2; exact po2.elim
        | bad => simp only [e2] at po2; exact po2.elim
      | _ => simp only [e1] at po2; exact po2.elim
    · have e : i = items.length := by omega
      subst e
      rw [List.drop_length] at po2
      refine .inl ⟨wk.stop F2 adr2 H2 st2.ex st2.pre ab2.sub, ?_⟩
      obtain ⟨y1, y2⟩ := ab2.wiped (vs := vs) (σ2 := σ) (wipe_length σ vs).symm (fun j hj => (wipe_out' hj).symm)
      have po3 : Post K W F1 adr1 s1 σ H1 (.ok (.lst acc) (wipeS vs s2)) Q := po2
      have ex := Ex.new (o := .lst av) f2
      refine po3 (.ref p) (upd F2 p (.lst av)) adr2 H2 ⟨st2.ex.trans ex, st2.pre, st2.keep, fun x z => st2.foot x (y1 _ z), fun x z => ?_, st2.there⟩ ?_ ?_
      · by_cases hx : x = p
        · exact .inr (.inl (by rw [hx]; exact hp))
        · rw [upd_ne hx] at z; exact st2.frz x z
      · refine ⟨⟨fun x u r => ?_, y2.len, y2.nd, fun k x m' k1 k2 => ?_⟩, y2.lenr, fun j d' q => ?_, fun j m' q => ?_, y2.dis⟩
        · by_cases hx : x = p
          · subst hx
            rcases r with r | ⟨lk, o', r⟩
            · rw [upd_same] at r; exact .inl (by rw [← r]; exact h2)
            · rw [upd_same] at r; exact .inr ⟨lk, o', by rw [← r]; exact h2⟩
          · refine y2.sub x u ?_
            rcases r with r | ⟨lk, o', r⟩
            · exact .inl (by rw [upd_ne hx] at r; exact r)
            · exact .inr ⟨lk, o', by rw [upd_ne hx] at r; exact r⟩
        · obtain ⟨z1, u, z2, z3⟩ := y2.sto k x m' k1 k2
          have ne : x ≠ p := fun z => n2 (.inl (by rw [← z]; exact List.mem_of_getElem? k1))
          exact ⟨by rw [upd_ne ne]; exact z1, u, z2, z3.mono ex (List.prefix_refl _)⟩
        · obtain ⟨w, z1, z2⟩ := y2.slv j d' q
          exact ⟨w, z1, z2.mono ex (List.prefix_refl _)⟩
        · obtain ⟨l, u, z1, z2, z3, z4, z5⟩ := y2.slo j m' q
          have ne : l ≠ p := fun z => n2 (y1 _ (.inr ⟨j, m', q, by rw [← z]; exact z1⟩) |> fun h => h)
          exact ⟨l, u, z1, by rw [upd_ne ne]; exact z2, z3, z4, z5.mono ex (List.prefix_refl _)⟩
      · exact ⟨p, av, rfl, upd_same, r2.mono ex (List.prefix_refl _)⟩
theorem se_comp {ifs : List Expr} {scope : Scope} {own : List (Str × Nat)} {it : M (List D)} {g : Tgt} {t : M Bool} {el : M D} (hc : X.calm = true) (hN : X.N.Nodup) (hi : SI X W tg iter it) (ok : BlkOk X.N X.env.scope scope own)
    (hg : ∀ (s : Shared) (H : Hp) (C : Addr) (cl : List (Str × Addr)) (fp : List Addr), SGc (X.blk s H scope (compEnvC scope cl C X.env) fp) tg g) (ht : ∀ (s : Shared) (H : Hp) (C : Addr) (cl : List (Str × Addr)) (fp : List Addr), STs (X.blk s H scope (compEnvC scope cl C X.env) fp) W0 ifs t)
    (he : ∀ (s : Shared) (H : Hp) (C : Addr) (cl : List (Str × Addr)) (fp : List Addr), SE (X.blk s H scope (compEnvC scope cl C X.env) fp) W0 elt el) (hsl : g.slots.all (fun i => (own.map (·.2)).contains i) = true := by rfl) (hs : ∀ x, foldedSetIterable iter X.env x = pure x := by intro _; rfl) :
    SE X W (.ListComp elt [⟨tg, iter, ifs, 0⟩] scope pos) (mcomp (own.map (·.2)) it g.asg t el) :=
  PE.imp (pe_lc (g := g.tr X.K) (tt := tT (kk X) W0 t) (te := tI (kk X) W0 (stl el)) hc hN hi ok hg ht (fun s H C cl fp => se_stl (he s H C cl fp)) hs) fun σ H Q h => t_comp (fun i hi => by have := List.all_eq_true.mp hsl i hi; simpa using this) h
/-- name = [..] -/
theorem ss_comp {j : Nat} {y : Str} {py : Pos} {ifs : List Expr} {scope : Scope} {own : List (Str × Nat)} {spos : Pos} {it : M (List D)} {g : Tgt} {t : M Bool} {el : M D} (hc : X.calm = true) (hN : X.N.Nodup) (hy : X.N[j]? = some y) (hyl : X.env.scope.names.lookup y = some .local)
    (hsw : swapsWith (.ListComp elt [⟨tg, iter, ifs, 0⟩] scope pos) (some (.Name y py)) spos.line X.env = pure true) (hi : SI X W tg iter it) (ok : BlkOk X.N X.env.scope scope own)
    (hg : ∀ (s : Shared) (H : Hp) (C : Addr) (cl : List (Str × Addr)) (fp : List Addr), SGc (X.blk s H scope (compEnvC scope cl C X.env) fp) tg g) (ht : ∀ (s : Shared) (H : Hp) (C : Addr) (cl : List (Str × Addr)) (fp : List Addr), STs (X.blk s H scope (compEnvC scope cl C X.env) fp) W0 ifs t)
    (he : ∀ (s : Shared) (H : Hp) (C : Addr) (cl : List (Str × Addr)) (fp : List Addr), SE (X.blk s H scope (compEnvC scope cl C X.env) fp) W0 elt el) (hsl : g.slots.all (fun i => (own.map (·.2)).contains i) = true := by rfl) (hs : ∀ x, foldedSetIterable iter X.env x = pure x := by intro _; rfl) :
    SS X W (.Assign [.Name y py] (.ListComp elt [⟨tg, iter, ifs, 0⟩] scope pos) spos) (sset j (mcomp (own.map (·.2)) it g.asg t el)) :=
  PS.imp (ps_setLc (g := g.tr X.K) (tt := tT (kk X) W0 t) (te := tI (kk X) W0 (stl el)) hc hN hy hyl hsw hi ok hg ht (fun s H C cl fp => se_stl (he s H C cl fp)) hs) fun E σ H h => by
    obtain ⟨F, adr, s, ab, po⟩ := h
    refine t_comp (K := kk X) (W := W) (fun i hi => by have := List.all_eq_true.mp hsl i hi; simpa using this) ⟨F, adr, s, ab, PostG.imp (t_stl ab po) ?_⟩
    rintro x H1 ⟨F1, adr1, d1, s1, st1, ab1, rp1, po1⟩
    exact po1 _ F1 adr1 H1 (ab1.setVal rp1).1 (ab1.setVal rp1).2
end
end Bx
namespace Bx
open PySem L2 PySem.Spec PyProof.Rows
inductive RI where
  | ok (fs : List (Str × D)) (μ : List MO) | exc (x : Xc) (μ : List MO) | bad
abbrev DenI := Addr → Addr → List D → List MO → RI
def PostI (K : KK) (cn : Str) (F : Hp) (adr : List Addr) (H : Hp) (x : Addr) (dx : Addr) (r : RI) (Q : VK) (E : XK) : Prop := match r with
  | .ok fs μ' => ∀ F' adr' H' fv, Step F adr (fun a => a ∈ adr ∨ a = x) H F' adr' (fun a => a ∈ adr' ∨ a = x) H' → AbsH K F' adr' μ' H' → F' x = none → x ∉ adr' → H' x = some (.ins (He.ga K.K cn) dx fv) → RpF K F' adr' fs fv → Q .non H'
  | .exc y μ' => ∀ cls dd F' adr' H', Step F adr (fun a => a ∈ adr ∨ a = x) H F' adr' (fun a => a ∈ adr' ∨ a = x) H' → AbsH K F' adr' μ' H' → F' x = none → x ∉ adr' → RpX K F' adr' y cls dd H' → E cls dd H'
  | .bad => False
def spI (K : KK) (cn : Str) (n : Nat) (den : DenI) : Sp := fun vs H Q E => ∃ F adr μ ds x dx r, vs = .ref x :: r ∧ H x = some (.ins (He.ga K.K cn) dx []) ∧ F x = none ∧ x ∉ adr ∧ AbsH K F adr μ H ∧ RpL K F adr ds r ∧ vs.length = n ∧ PostI K cn F adr H x dx (den x dx ds μ) Q E
section
variable {X : Cx} {W : WX} {K : KK} {F F' H H' : Hp} {adr adr' : List Addr} {s s' : S} {σ σ' : L2.St} {d : D} {v : V} {e a b c tg o iter elt : Expr} {es : List Expr} {m ma mb mc : M D} {ms : List (M D)} {pos apos : Pos} {E : Ends}
def makeD (cn : Str) (den : DenI) (ds : List D) : M D := fun s => match den 0 0 ds s.μ with
  | .ok fs μ' => .ok (.obj cn fs) { s with μ := μ' }
  | .exc x μ' => .exc x { s with μ := μ' }
  | .bad => .bad
/-- something new comes to stand still -/
theorem Abs.adopt {p : Addr} {o : HO} (ab : Abs K F adr s σ H) (h1 : F p = none) (h2 : ¬ Fp adr s σ p) (h3 : H p = some o) : Abs K (upd F p o) adr s σ H := by
  have ex := Ex.new (o := o) h1
  refine ⟨⟨fun x u r => ?_, ab.len, ab.nd, fun k x m' k1 k2 => ?_⟩, ab.lenr, fun j d' q => ?_, fun j m' q => ?_, ab.dis⟩
  · by_cases hx : x = p
    · subst hx
      rcases r with r | ⟨lk, o', r⟩
      · rw [upd_same] at r; exact .inl (by rw [← r]; exact h3)
      · rw [upd_same] at r; exact .inr ⟨lk, o', by rw [← r]; exact h3⟩
    · refine ab.sub x u ?_
      rcases r with r | ⟨lk, o', r⟩
      · exact .inl (by rw [upd_ne hx] at r; exact r)
      · exact .inr ⟨lk, o', by rw [upd_ne hx] at r; exact r⟩
  · obtain ⟨z1, u, z2, z3⟩ := ab.sto k x m' k1 k2
    have ne : x ≠ p := fun z => h2 (.inl (by rw [← z]; exact List.mem_of_getElem? k1))
    exact ⟨by rw [upd_ne ne]; exact z1, u, z2, z3.mono ex (List.prefix_refl _)⟩
  · obtain ⟨w, z1, z2⟩ := ab.slv j d' q
    exact ⟨w, z1, z2.mono ex (List.prefix_refl _)⟩
  · obtain ⟨l, u, z1, z2, z3, z4, z5⟩ := ab.slo j m' q
    have ne : l ≠ p := fun z => h2 (.inr ⟨j, m', q, by rw [← z]; exact z1⟩)
    exact ⟨l, u, z1, by rw [upd_ne ne]; exact z2, z3, z4, z5.mono ex (List.prefix_refl _)⟩
theorem Step.adopt {F1 : Hp} {adr1 : List Addr} {P P1 : Addr → Prop} {H1 : Hp} {p : Addr} {o : HO} (st : Step F adr P H F1 adr1 P1 H1) (h : H p = none) (h1 : F1 p = none) : Step F adr P H (upd F1 p o) adr1 P1 H1 :=
  ⟨st.ex.trans (Ex.new h1), st.pre, st.keep, st.foot, fun x z => by
    by_cases hx : x = p
    · exact .inr (.inl (by rw [hx]; exact h))
    · rw [upd_ne hx] at z; exact st.frz x z, st.there⟩
/-- the addresses do not matter -/
def Blind (den : DenI) : Prop := ∀ x dx ds μ, den x dx ds μ = den 0 0 ds μ
theorem make_post {cn : Str} {den : DenI} {ds : List D} {Q : VK} {x dx : Addr} (bl : Blind den) (ab : Abs K F adr s σ H) (hx : H x = none) (hdx : H dx = none) (ne : dx ≠ x) (po : Post K W F adr s σ H (makeD cn den ds s) Q) :
    PostI K cn F adr (upd (upd H dx (.own x)) x (.ins (He.ga K.K cn) dx [])) x dx (den x dx ds s.μ) (fun v H2 => v = .non ∧ Q (.ref x) H2) (fun cls dd H' => W cls dd σ H') := by
  have old : ∀ y u, H y = some u → (upd (upd H dx (.own x)) x (.ins (He.ga K.K cn) dx [])) y = some u := fun y u q => by rw [upd_ne (ne_of_none q hx), upd_ne (ne_of_none q hdx)]; exact q
  have oldn : ∀ y, (upd (upd H dx (.own x)) x (.ins (He.ga K.K cn) dx [])) y = none → H y = none := fun y q => by
    cases e : H y with
    | none => rfl
    | some u => rw [old y u e] at q; cases q
  have look : ∀ {F' : Hp} {adr' : List Addr} {H' : Hp} {μ' : List MO}, Step F adr (fun a => a ∈ adr ∨ a = x) (upd (upd H dx (.own x)) x (.ins (He.ga K.K cn) dx [])) F' adr' (fun a => a ∈ adr' ∨ a = x) H' → AbsH K F' adr' μ' H' → x ∉ adr' →
      Step F adr (Fp adr s σ) H F' adr' (Fp adr' { s with μ := μ' } σ) H' ∧ Abs K F' adr' { s with μ := μ' } σ H' := fun {F' adr' H' μ'} st ah nx => by
    refine Abs.after ab ⟨st.ex, st.pre, fun y u q n f => st.keep y u (old y u q) (fun z => ?_) f, fun y z => ?_, fun y z => ?_, fun y z => st.there y (fun w => z (oldn y w))⟩ ah
    · rcases z with z | z
      · exact n z
      · rw [z, hx] at q; cases q
    · rcases st.foot y (.inl z) with (w | w) | w
      · exact .inl w
      · exact absurd (by rw [← w]; exact z) nx
      · exact .inr (oldn y w)
    · rcases st.frz y z with w | w | (w | w)
      · exact .inl w
      · exact .inr (.inl (oldn y w))
      · exact .inr (.inr w)
      · exact .inr (.inl (by rw [w]; exact hx))
  unfold makeD at po
  rw [bl x dx ds s.μ]
  cases e : den 0 0 ds s.μ with
  | ok fs μ' =>
    rw [e] at po
    intro F' adr' H' fv st ah fx nx hv rf
    obtain ⟨z1, z2⟩ := look st ah nx
    have nfp : ¬ Fp adr' { s with μ := μ' } σ x := fun z => by
      rcases z with z | ⟨j, mo, y1, y2⟩
      · exact nx z
      · obtain ⟨l, u, g1, _, _, g4, _⟩ := ab.slo j mo y1
        rw [y2] at g1
        cases g1
        rw [hx] at g4
        cases g4
    exact ⟨rfl, po (.ref x) (upd F' x (.ins (He.ga K.K cn) dx fv)) adr' H' (z1.adopt hx fx) (z2.adopt fx nfp hv) ⟨x, dx, fv, rfl, upd_same, rf.mono (Ex.new fx) (List.prefix_refl _)⟩⟩
  | exc y μ' =>
    rw [e] at po
    intro cls dd F' adr' H' st ah fx nx rx
    obtain ⟨z1, z2⟩ := look st ah nx
    exact po cls dd F' adr' H' z1 z2 rx
  | bad => rw [e] at po; exact po
/-- C(e, ..) -/
def mkK (cn : Str) (den : DenI) (ix : List Nat) (dds : List D) (a k : M (List D)) : M D := bnd a fun ds => bnd k fun es => makeD cn den (pick .non ix (ds ++ es ++ dds))
/-- binding of __init__: self ahead -/
structure CallI (K : KK) (fd : FuncData) (ps : List Str) (n : Nat) (ks : List Str) (ix : List Nat) (dds : List D) : Prop where
  ex : ∃ (dfl : List Value) (dvs : List V), Vals dvs dfl ∧ (∀ F adr, RpL K F adr dds dvs) ∧
    ∀ (s : Shared) (x : Value) (us ws : List Value), K.K.In s.heap → us.length = n → ws.length = ks.length → BindsTo s fd ⟨x :: us, ks.zip ws⟩ (ps.zip (x :: pick .none ix (us ++ ws ++ dfl)))
/-- the receiver is an object of the class, the method no field of it -/
def recv (cn mn : Str) (d : D) : M D := fun s => match objOf cn s d with
  | some fs => match lookD mn fs with
    | none => .ok d s
    | some _ => .bad
  | none => .bad
def methK (cn mn : Str) (den : Den) (ix : List Nat) (dds : List D) (o : M D) (a k : M (List D)) : M D := bnd o fun d => bnd (settle d) fun d => bnd (recv cn mn d) fun d => bnd a fun ds => bnd k fun es => callD den (d :: pick .non ix (ds ++ es ++ dds))
theorem recv_ok {γ δ : Type} {cn mn : Str} {rel' : Hp → List Addr → γ → δ → Prop} {k : D → M γ} {Q : δ → Hp → Prop} (ab : Abs K F adr s σ H) (r : Rp K F adr d v) (h : PostG K W rel' F adr s σ H ((recv cn mn d s).bind k) Q) :
    (∃ a dx vs, v = .ref a ∧ H a = some (.ins (He.ga K.K cn) dx vs) ∧ vs.lookup mn = none) ∧ PostG K W rel' F adr s σ H (k d s) Q := by
  unfold recv at h
  cases e1 : objOf cn s d with
  | none => simp only [e1] at h; exact h.elim
  | some fs =>
    simp only [e1] at h
    cases e2 : lookD mn fs with
    | some y => simp only [e2] at h; exact h.elim
    | none =>
      simp only [e2] at h
      obtain ⟨a, dx, vs, q1, q2, q3⟩ := ab.obj (.of r) e1
      exact ⟨⟨a, dx, vs, q1, q2, q3.lookN e2⟩, h⟩
def putD (f : Str) (x : D) : List (Str × D) → List (Str × D)
  | [] => [(f, x)]
  | (g, y) :: r => if g = f then (g, x) :: r else (g, y) :: putD f x r
theorem RpF.put {f : Str} {x : D} {v : V} (hv : Rp K F adr x v) : ∀ {ds : List (Str × D)} {fs : List (Str × V)}, RpF K F adr ds fs → RpF K F adr (putD f x ds) (putF f v fs)
  | [], _, h => by cases h; exact ⟨v, [], rfl, hv, rfl⟩
  | (g, y) :: ds, _, ⟨u, r, q, h1, h2⟩ => by
    subst q
    show RpF K F adr (if g = f then (g, x) :: ds else (g, y) :: putD f x ds) (if g = f then (g, v) :: r else (g, u) :: putF f v r)
    by_cases hg : g = f
    · rw [if_pos hg, if_pos hg]; exact ⟨v, r, rfl, hv, h2⟩
    · rw [if_neg hg, if_neg hg]; exact ⟨u, _, rfl, h1, RpF.put hv h2⟩
theorem RpF.length : ∀ {ds : List (Str × D)} {fs : List (Str × V)}, RpF K F adr ds fs → fs.length = ds.length
  | [], _, h => by cases h; rfl
  | (g, y) :: ds, _, ⟨u, r, q, h1, h2⟩ => by subst q; simp [RpF.length h2]
def setF (cn f : Str) (d x : D) : MS := fun s => match s.mo d with
  | some (.ins c fs) => if c = cn ∧ fs.length < 100 then .nx (s.mut d (.ins c (putD f x fs))) else .bad
  | some (.slf c y dx fs) => if c = cn ∧ fs.length < 100 then .nx (s.mut d (.slf c y dx (putD f x fs))) else .bad
  | _ => .bad
def sfld (cn f : Str) (o v : M D) : MS := fun s => (stl v s).toS fun x s => (o s).toS fun d s => setF cn f d x s
theorem ss_fld {cn f : Str} {mo mv : M D} {val : Expr} {pos' : Pos} (cl : Cls X.K (He.ga X.K cn)) (na : NoAttr X.K (He.ga X.K cn) f) (ho : SE X W o mo) (hv : SE X W val mv) (hs : swapsWith val (some (.Attribute o f pos')) pos.line X.env = pure false := by rfl) :
    SS X W (.Assign [.Attribute o f pos'] val pos) (sfld cn f mo mv) := PS.imp (ps_fld ho hv hs) fun E σ H t => by
  obtain ⟨F, adr, s, ab, po⟩ := t
  refine ⟨F, adr, s, ab, PostG.imp (t_stl ab po) ?_⟩
  rintro x H1 ⟨F1, adr1, d1, s1, st1, ab1, rp1, po1⟩
  refine ⟨F1, adr1, s1, ab1, (S_bind po1).imp ?_⟩
  rintro y H2 ⟨F2, adr2, d2, s2, st2, ab2, rp2, po2⟩
  have rp1' := rp1.mono st2.ex st2.pre
  unfold setF at po2
  cases e1 : s2.mo d2 with
  | none => rw [e1] at po2; exact po2.elim
  | some mo =>
    rw [e1] at po2
    obtain ⟨p, u, hp, z1, z2, z3⟩ := ab2.mut rp2 e1
    cases mo <;> try (exact po2.elim)
    case ins c0 fs =>
      by_cases hc : c0 = cn ∧ fs.length < 100
      · simp only [hc, and_self, if_true] at po2
        obtain ⟨hc1, hc2⟩ := hc
        subst hc1
        obtain ⟨dx, vs, rfl, zr⟩ := z2
        obtain ⟨y1, y2⟩ := z3 (.ins c0 (putD f d1 fs)) (.ins (He.ga X.K c0) dx (putF f x vs)) ⟨dx, _, rfl, zr.put rp1'⟩
        exact ⟨p, _, dx, vs, hp, z1, cl, na, by rw [zr.length]; omega, po2 σ F2 adr2 _ y1 y2⟩
      · simp only [hc, if_false] at po2
        exact po2.elim
    case slf c0 x0 dx fs =>
      by_cases hc : c0 = cn ∧ fs.length < 100
      · simp only [hc, and_self, if_true] at po2
        obtain ⟨hc1, hc2⟩ := hc
        subst hc1
        obtain ⟨hx0, vs, rfl, zr⟩ := z2
        obtain ⟨y1, y2⟩ := z3 (.slf c0 x0 dx (putD f d1 fs)) (.ins (He.ga X.K c0) dx (putF f x vs)) ⟨hx0, _, rfl, zr.put rp1'⟩
        exact ⟨p, _, dx, vs, hp, z1, cl, na, by rw [zr.length]; omega, po2 σ F2 adr2 _ y1 y2⟩
      · simp only [hc, if_false] at po2
        exact po2.elim
def sretS (m : M MO) : MS := fun s => (m s).toS fun mo s => .rt (.ref s.μ.length) { s with μ := s.μ ++ [mo] }
theorem ss_retS {mm : M MO} (he : SF X W e mm) : SS X W (.Return (some e) pos) (sretS mm) := PS.imp (ps_ret he) fun E σ H t => by
  obtain ⟨F, adr, s, ab, po⟩ := t
  refine ⟨F, adr, s, ab, (tN_S po).imp ?_⟩
  rintro x H1 ⟨F1, adr1, l, mo, s1, rfl, st1, ab1, hl, fr, po1⟩
  have nl : l ∉ adr1 := fun z => fr.na (.inl z)
  have pre : adr1 <+: adr1 ++ [l] := List.prefix_append _ _
  have ab2 : Abs (kk X) F1 (adr1 ++ [l]) { s1 with μ := s1.μ ++ [mo] } σ H1 := by
    refine ⟨⟨ab1.sub, by simp [ab1.len], by
      rw [List.nodup_append]
      exact ⟨ab1.nd, by simp, fun a ha b hb => by simp at hb; subst hb; exact fun z => nl (z ▸ ha)⟩, fun i a m' h1 h2 => ?_⟩, ab1.lenr, fun j d h => ?_, fun j m' h => ?_, ab1.dis⟩
    · by_cases hi : i < adr1.length
      · rw [List.getElem?_append_left hi] at h1
        have h2' : s1.μ[i]? = some m' := by
          have := h2
          rw [show (s1.μ ++ [mo])[i]? = s1.μ[i]? from List.getElem?_append_left (by rw [← ab1.len]; exact hi)] at this
          exact this
        obtain ⟨z1, u, z2, z3⟩ := ab1.sto i a m' h1 h2'
        exact ⟨z1, u, z2, z3.mono (.refl _) pre⟩
      · have e1 : i = adr1.length := by
          have := (List.getElem?_eq_some_iff.mp h1).1
          simp at this
          omega
        subst e1
        rw [List.getElem?_append_right (Nat.le_refl _)] at h1
        simp at h1
        subst h1
        have h2' : (s1.μ ++ [mo])[adr1.length]? = some m' := h2
        rw [ab1.len, List.getElem?_append_right (Nat.le_refl _)] at h2'
        simp at h2'
        subst h2'
        obtain ⟨u, z1, z2⟩ := fr.ob
        exact ⟨fr.fn, u, z1, z2.mono (.refl _) pre⟩
    · obtain ⟨v, z1, z2⟩ := ab1.slv j d h
      exact ⟨v, z1, z2.mono (.refl _) pre⟩
    · obtain ⟨l', u, z1, z2, z3, z4, z5⟩ := ab1.slo j m' h
      refine ⟨l', u, z1, z2, fun z => ?_, z4, z5.mono (.refl _) pre⟩
      rcases List.mem_append.mp z with z | z
      · exact z3 z
      · simp at z
        exact fr.na (.inr ⟨j, m', h, by rw [← z]; exact z1⟩)
  refine po1 σ (.ref l) F1 (adr1 ++ [l]) H1 ⟨st1.ex, st1.pre.trans pre, st1.keep, fun a z => ?_, st1.frz, st1.there⟩ ab2 ⟨l, by rw [← ab1.len, List.getElem?_append_right (Nat.le_refl _)]; simp, rfl⟩
  rcases z with z | z
  · rcases List.mem_append.mp z with z | z
    · exact st1.foot a (.inl z)
    · simp at z
      exact .inr (by rw [z]; exact hl)
  · exact st1.foot a (.inr z)
end
end Bx
namespace Bx
open PySem L2 PySem.Spec PyProof.Rows
def frame (n : Nat) (ds : List D) : List Sl := ds.map Sl.val ++ List.replicate (n - ds.length) Sl.no
def runB (n : Nat) (b : MS) : Den := fun ds μ => match b ⟨frame n ds, μ⟩ with
  | .nx s => .ok .non s.μ
  | .rt d s => .ok d s.μ
  | .exc x s => .exc x s.μ
  | _ => .bad
section
variable {K : KK} {F F' H H' : Hp} {adr adr' : List Addr}
theorem start_get {N : List Str} {vs : List V} {j : Nat} {v : V} (h : vs[j]? = some v) : (L2.start N vs)[j]? = some (some v) := by
  have hj : j < vs.length := (List.getElem?_eq_some_iff.mp h).1
  unfold L2.start
  rw [List.getElem?_append_left (by rw [List.length_map]; exact hj), List.getElem?_map, h]
  rfl
theorem frame_val {n j : Nat} {ds : List D} {d : D} (h : (frame n ds)[j]? = some (.val d)) : ds[j]? = some d := by
  unfold frame at h
  by_cases hj : j < ds.length
  · rw [List.getElem?_append_left (by rw [List.length_map]; exact hj), List.getElem?_map] at h
    cases e : ds[j]? with
    | none => rw [e] at h; cases h
    | some x => rw [e] at h; cases h; rfl
  · rw [List.getElem?_append_right (by rw [List.length_map]; omega), List.getElem?_replicate] at h
    split at h <;> cases h
theorem frame_own {n j : Nat} {ds : List D} {m : MO} : ¬ (frame n ds)[j]? = some (.own m) := fun h => by
  unfold frame at h
  by_cases hj : j < ds.length
  · rw [List.getElem?_append_left (by rw [List.length_map]; exact hj), List.getElem?_map] at h
    cases e : ds[j]? with
    | none => rw [e] at h; cases h
    | some x => rw [e] at h; cases h
  · rw [List.getElem?_append_right (by rw [List.length_map]; omega), List.getElem?_replicate] at h
    split at h <;> cases h
theorem Abs.begin {N : List Str} {vs : List V} {ds : List D} {μ : List MO} (ah : AbsH K F adr μ H) (r : RpL K F adr ds vs) : Abs K F adr ⟨frame N.length ds, μ⟩ (L2.start N vs) H := by
  refine ⟨ah, ?_, fun j d h => ?_, fun j m h => (frame_own h).elim, fun j j' m m' l h => (frame_own h).elim⟩
  · show (L2.start N vs).length = (frame N.length ds).length
    unfold L2.start frame
    rw [List.length_append, List.length_append, List.length_map, List.length_map, List.length_replicate, List.length_replicate, r.length]
  · obtain ⟨v, e1, e2⟩ := r.get (frame_val h)
    exact ⟨v, start_get e1, e2⟩
theorem Step.bare {n : Nat} {ds : List D} {μ : List MO} {σ σ' : L2.St} {s' : S} (st : Step F adr (Fp adr ⟨frame n ds, μ⟩ σ) H F' adr' (Fp adr' s' σ') H') : Step F adr (· ∈ adr) H F' adr' (· ∈ adr') H' := by
  have fp : ∀ a, Fp adr ⟨frame n ds, μ⟩ σ a → a ∈ adr := fun a h => by
    rcases h with h | ⟨j, m, h1, _⟩
    · exact h
    · exact (frame_own h1).elim
  exact ⟨st.ex, st.pre, fun a o h q f => st.keep a o h (fun z => q (fp a z)) f, fun a h => (st.foot a (.inl h)).imp (fp a) id, fun a h => (st.frz a h).imp id (Or.imp id (fp a)), st.there⟩
end
theorem fnG_body {P : Program} {w : World} {K : PySem.W.Frag} {mg : Str → Option Value} {base : Heap} {k : Nat} {f : Addr} {x qual : Str} {params : Arguments} {body : List Stmt} {scope : Scope} {dvs : List V} {kws : List (Str × V)} {fd : FuncData}
    {N ps : List Str} {b : MS} (D : FunD K x qual params body scope dvs kws f fd) (S : FnScope N ps scope)
    (hb : ∀ (cdv : Value) (A : Around) (outer : List Env) (s : Shared) (H : Hp) (E : XK), Room k (cxOf (L2.CX P w) P w K mg base N qual scope f cdv A outer s H E).A → (cxOf (L2.CX P w) P w K mg base N qual scope f cdv A outer s H E).A.guards = some [] →
      Takes (cxOf (L2.CX P w) P w K mg base N qual scope f cdv A outer s H E) (fun cls d _ H => E cls d H) →
      SB (cxOf (L2.CX P w) P w K mg base N qual scope f cdv A outer s H E) (fun cls d _ H => E cls d H) body b) :
    FnG P w K mg base (k + 1) f fd ps (spD ⟨K, P, w⟩ ps.length (runB N.length b)) := by
  refine fnG_of D S (fun vs H Q E ⟨_, _, _, _, _, _, h, _⟩ => h) fun cdv A outer s H vs Q E hr hgd ⟨F, adr, μ, ds, ah, rl, hl, po⟩ => ⟨_, hb cdv A outer s H E hr hgd (takes_of rfl rfl rfl rfl), F, adr, ⟨frame N.length ds, μ⟩, Abs.begin ah rl, ?_⟩
  unfold runB at po
  cases e : b ⟨frame N.length ds, μ⟩ with
  | nx s' => rw [e] at po; exact fun σ' F' adr' H' st ab => po .non F' adr' H' st.bare ab.toAbsH rfl
  | rt d s' => rw [e] at po; exact fun σ' v F' adr' H' st ab rp => po v F' adr' H' st.bare ab.toAbsH rp
  | exc x s' => rw [e] at po; exact fun cls dd σ' F' adr' H' st ab rp => po cls dd F' adr' H' st.bare ab.toAbsH rp
  | bk s' => rw [e] at po; exact po.elim
  | ct s' => rw [e] at po; exact po.elim
  | bad => rw [e] at po; exact po.elim
def frameI (cn : Str) (n : Nat) (x dx : Addr) (ds : List D) : List Sl := Sl.own (.slf cn x dx []) :: frame (n - 1) ds
def slfOf (cn : Str) (x dx : Addr) (s : Bx.S) : Option (List (Str × D)) := match (s.ρ[0]? : Option Sl) with
  | some (.own (.slf c y dy fs)) => if c = cn ∧ y = x ∧ dy = dx then some fs else none
  | _ => none
def runI (cn : Str) (n : Nat) (b : MS) : DenI := fun x dx ds μ => match b ⟨frameI cn n x dx ds, μ⟩ with
  | .nx s => match slfOf cn x dx s with
    | some fs => .ok fs s.μ
    | none => .bad
  | .exc y s => match slfOf cn x dx s with
    | some fs => .exc y s.μ
    | none => .bad
  | _ => .bad
section
variable {K : KK} {F F' H H' : Hp} {adr adr' : List Addr} {cn : Str} {n : Nat} {x dx : Addr}
theorem Abs.beginI {N : List Str} {vs : List V} {ds : List D} {μ : List MO} (ah : AbsH K F adr μ H) (r : RpL K F adr ds vs) (hx : H x = some (.ins (He.ga K.K cn) dx [])) (fx : F x = none) (nx : x ∉ adr) (hN : N ≠ []) :
    Abs K F adr ⟨frameI cn N.length x dx ds, μ⟩ (L2.start N (.ref x :: vs)) H := by
  have hn : 0 < N.length := List.length_pos_iff.mpr hN
  have one : ∀ (j : Nat) (m : MO), (frameI cn N.length x dx ds)[j]? = some (.own m) → j = 0 ∧ m = .slf cn x dx [] := fun j m h => by
    cases j with
    | zero => cases h; exact ⟨rfl, rfl⟩
    | succ j => exact (frame_own (by simpa [frameI] using h)).elim
  refine ⟨ah, ?_, fun j d h => ?_, fun j m h => ?_, fun j j' m m' l h1 h2 _ _ => by rw [(one j m h1).1, (one j' m' h2).1]⟩
  · show (L2.start N (.ref x :: vs)).length = (frameI cn N.length x dx ds).length
    unfold L2.start frameI frame
    simp only [List.length_append, List.length_map, List.length_replicate, List.length_cons, r.length]
    omega
  · cases j with
    | zero => cases h
    | succ j =>
      obtain ⟨v, e1, e2⟩ := r.get (frame_val (by simpa [frameI] using h))
      exact ⟨v, start_get (by simpa using e1), e2⟩
  · obtain ⟨rfl, rfl⟩ := one j m h
    exact ⟨x, _, start_get rfl, fx, nx, hx, rfl, [], rfl, rfl⟩
theorem Step.bareI {N : List Str} {vs : List V} {ds : List D} {μ : List MO} {σ' : L2.St} {s' : S} (st : Step F adr (Fp adr ⟨frameI cn n x dx ds, μ⟩ (L2.start N (.ref x :: vs))) H F' adr' (Fp adr' s' σ') H') (h0 : σ'[0]? = some (some (.ref x))) (hs : ∃ m, s'.ρ[0]? = some (.own m)) :
    Step F adr (fun a => a ∈ adr ∨ a = x) H F' adr' (fun a => a ∈ adr' ∨ a = x) H' := by
  have fp : ∀ a, Fp adr ⟨frameI cn n x dx ds, μ⟩ (L2.start N (.ref x :: vs)) a → a ∈ adr ∨ a = x := fun a h => by
    rcases h with h | ⟨j, m, h1, h2⟩
    · exact .inl h
    · cases j with
      | zero =>
        rw [start_get (v := .ref x) rfl] at h2
        cases h2
        exact .inr rfl
      | succ j => exact (frame_own (by simpa [frameI] using h1)).elim
  refine ⟨st.ex, st.pre, fun a o h q f => st.keep a o h (fun z => q (fp a z)) f, fun a h => ?_, fun a h => (st.frz a h).imp id (Or.imp id (fp a)), st.there⟩
  rcases h with h | h
  · exact (st.foot a (.inl h)).imp (fp a) id
  · exact .inl (.inr h)
theorem slf_at {s : S} {σ : L2.St} {fs : List (Str × D)} (ab : Abs K F adr s σ H) (h : slfOf cn x dx s = some fs) : σ[0]? = some (some (.ref x)) ∧ (∃ m, s.ρ[0]? = some (.own m)) ∧ F x = none ∧ x ∉ adr ∧ ∃ fv, H x = some (.ins (He.ga K.K cn) dx fv) ∧ RpF K F adr fs fv := by
  unfold slfOf at h
  split at h
  case h_1 c y dy fs' e =>
    split at h
    case isTrue hc =>
      cases h
      obtain ⟨rfl, rfl, rfl⟩ := hc
      obtain ⟨l, o, q1, q2, q3, q4, q5⟩ := ab.slo 0 _ e
      obtain ⟨rfl, fv, rfl, q6⟩ := q5
      exact ⟨q1, ⟨_, e⟩, q2, q3, fv, q4, q6⟩
    case isFalse => cases h
  case h_2 => cases h
end
end Bx
namespace Bx
open PySem L2 PySem.Spec PyProof.Rows
section
variable {X : Cx} {W : WX} {K : KK} {F F' H H' : Hp} {adr adr' : List Addr} {s s' : S} {σ σ' : L2.St} {d : D} {v : V} {e a b c tg : Expr} {es : List Expr} {m ma mb mc : M D} {ms : List (M D)} {pos : Pos} {E : Ends}
theorem objOk_at {P : Program} {w : World} {h : Heap} {p : Addr} {o : HO} (x : ObjOk P w H h p o) : ∃ ob, h.get? p = some ob := by
  cases o
  case lst => let ⟨_, _, _, _, z⟩ := x; exact ⟨_, z⟩
  case tup => let ⟨_, _, _, ⟨_, z, _⟩⟩ := x; exact ⟨_, z⟩
  case dK => let ⟨_, _, _, _, _, _, _, z, _⟩ := x; exact ⟨_, z⟩
  case dT => let ⟨_, _, _, _, _, _, _, z, _⟩ := x; exact ⟨_, z⟩
  case set => let ⟨_, _, _, _, z, _⟩ := x; exact ⟨_, z⟩
  case ins => let ⟨_, _, _, z, _⟩ := x; exact ⟨_, z⟩
  case own => let ⟨_, z⟩ := x; exact ⟨_, z⟩
  case xd => let ⟨_, ⟨_, _, _, z, _⟩, _⟩ := x; exact ⟨_, z⟩
  case rng => let ⟨_, _, _, z⟩ := x; exact ⟨_, z⟩
  case frz => let ⟨z, _⟩ := x; exact ⟨_, z⟩
  case tbl => exact ⟨_, x⟩
  case met => exact ⟨_, x⟩
  case ext => let ⟨_, ⟨_, z⟩, _⟩ := x; exact ⟨_, z⟩
/-- a new list, laid by a rule of frames and news -/
theorem Inv.fresh_list {pins : List (Addr × Obj)} {sh : Shared} {T : Addr} {h' : Heap} {tk : Nat} {mp : Str → Option Value} {its : List Value} {xs : List V} (I : Inv X pins σ H sh) (hn : sh.heap.Ns X.env.locals mp)
    (F' : Fr X.base X.env.locals h' mp) (N' : News X.base X.env.locals h' ((T, PySem.W.listOf its.toArray 0) :: allNews X.base sh.heap X.env.locals)) (hT : ∀ p ∈ allNews X.base sh.heap X.env.locals, p.1 < T) (r : Vals xs its) (hz : xs.length ≤ sizeLine) :
    H T = none ∧ Inv X pins σ (upd H T (.lst xs)) { sh with heap := h', toks := tk } := by
  obtain ⟨g1, g2, g3⟩ := N' _ (List.mem_cons_self ..)
  have kept : ∀ b o, b ≠ X.env.locals → sh.heap.get? b = some o → h'.get? b = some o := fun b o hb q => by
    cases z : X.base.get? b with
    | some u =>
      have := I.bk b u z
      rw [q] at this
      cases this
      exact F'.keep b _ z
    | none => exact (N' (b, o) (List.mem_cons_of_mem _ (mem_allNews hb z q))).1
  have newT : sh.heap.get? T = none := by
    cases q : sh.heap.get? T with
    | none => rfl
    | some o => exact absurd (hT _ (mem_allNews g2 g3 q)) (Nat.lt_irrefl _)
  have hH : ∀ b u, H b = some u → ∃ o, sh.heap.get? b = some o := fun b u q => objOk_at (I.hok b u q)
  have HT : H T = none := by
    cases q : H T with
    | none => rfl
    | some u => obtain ⟨o, z⟩ := hH T u q; rw [newT] at z; cases z
  have tr : ∀ b u, H b = some u → b ≠ X.env.locals := fun b u q z => by rw [z, I.free] at q; cases q
  refine ⟨HT, I.step (g' := sh.gens) (d' := sh.drawn) (ch := []) (fun _ z => nomatch z) (fun b o hb _ _ q _ => kept b o hb q) (fun b o hb _ _ q _ => ⟨o.slots, kept b o hb q⟩) (fun b o _ q n => ?_) (fun b o _ q => ?_) (fun b ys q => ?_) (fun b o u q => ?_) (fun b ps q => ⟨#[], ?_⟩) (fun m' hm => ?_) (fun b u q => ?_) I.bare⟩
  · rw [upd_ne (fun z => by rw [z, newT] at q; cases q)]; exact n
  · by_cases hb : b = X.env.locals
    · obtain ⟨o', _, _, q', _⟩ := F'.ns
      exact ⟨o', by rw [hb]; exact q'⟩
    · exact ⟨o, kept b o hb q⟩
  · rw [upd_ne (ne_of_none q HT)]; exact q
  · rw [upd_ne (ne_of_none q HT)]; exact q
  · rw [upd_ne (ne_of_none q HT), q]; simp
  · rw [SlX.ns_only hm hn]; exact F'.ns
  · by_cases hb : b = T
    · subst hb
      rw [upd_same] at q
      cases q
      exact ⟨hz, its, 0, r, g1⟩
    · rw [upd_ne hb] at q
      refine (I.hok b u q).stay (fun c w' hc z => kept c w' ?_ z) (fun c z => by rw [upd_ne (ne_of_none z HT)]; exact z) fun c ys z => by rw [upd_ne (ne_of_none z HT)]; exact z
      rcases hc with z | z
      · rw [z]; exact tr b u q
      · exact tr c _ z
def gStar (K : PySem.W.Frag) (i n : Nat) (t : TGs) : TG := fun v σ H Q => ∃ a xs, v = .ref a ∧ (SqT K H a xs ∨ SqL K H a xs) ∧ i < n ∧ n ≤ xs.length + 1 ∧ xs.length ≤ 16384 ∧
  ∀ T, H T = none → t (xs.take i ++ [V.ref T] ++ (xs.drop i).drop (xs.length + 1 - n)) σ (upd H T (.lst ((xs.drop i).take (xs.length + 1 - n)))) Q
theorem pg_star {es' : List Expr} {k i n : Nat} {t : TGs} (hc : X.calm = true) (h : PGs X es' t) (hs : (assignEach es X.env).map (·.2) = (assignEach es' X.env).map (·.2) := by rfl)
    (hn : (assignEach es X.env).length = n := by rfl) (hst : (assignEach es X.env).findIdx? (·.1) = some i := by rfl) : PG X (.Tuple es k pos) (gStar X.K i n t) := by
  refine ⟨fun pins sh σ H v u Q I r hw => ?_⟩
  obtain ⟨a, xs, e1, hq, hi, hl, hz, hw⟩ := hw
  subst e1
  cases r
  obtain ⟨mp, F0⟩ := I.fr
  have fin : ∀ (its : List Value), Vals xs its → ∀ T h' tk, Fr X.base X.env.locals h' mp → News X.base X.env.locals h' ((T, PySem.W.listOf ((its.drop i).take (its.length + 1 - n)).toArray 0) :: allNews X.base sh.heap X.env.locals) → (∀ p ∈ allNews X.base sh.heap X.env.locals, p.1 < T) →
      wpAny (model X.prog X.w) X.A (assignInOrder ((assignEach es X.env).map (·.2)) (its.take i ++ [.ref T] ++ (its.drop i).drop (its.length + 1 - n))) (fun _ s' => ∃ σ' H', Inv X pins σ' H' s' ∧ Q σ' H') X.xe { sh with heap := h', toks := tk } := fun its rv T h' tk F' N' hT => by
    have le := rv.length
    obtain ⟨z1, z2⟩ := Inv.fresh_list (tk := tk) I F0.ns F' N' hT ((rv.drop i).take (its.length + 1 - n)) (by rw [List.length_take, List.length_drop, sizeLine_eq]; omega)
    rw [hs]
    rw [← le] at z2 ⊢
    exact h.run pins _ σ _ _ _ Q z2 (((rv.take i).append (.cons (show RelV (V.ref T) (Value.ref T) from rfl) .nil)).append ((rv.drop i).drop _)) (hw T z1)
  rcases hq with hq | hq
  · obtain ⟨its, rv, ht, _⟩ := I.tuple hq
    have le := rv.length
    exact PySem.W.kun_assignT F0 news_all ht (I.ok.hd hc) hn hst hi (by simp only [List.size_toArray]; omega) (by simp only [List.size_toArray]; omega) rfl rfl rfl fun T h' tk F' N' hT => by simpa using fin its rv T h' tk F' (by simpa using N') hT
  · obtain ⟨its, rv, pl, _⟩ := I.list hq
    have le := rv.length
    exact PySem.W.kun_assignL F0 news_all pl.isList (I.ok.hd hc) hn hst hi (by simp only [List.size_toArray]; omega) (by simp only [List.size_toArray]; omega) rfl rfl rfl fun T h' tk F' N' hT => by simpa using fin its rv T h' tk F' (by simpa using N') hT
def starOf (i : Nat) (js : List Nat) (ds : List D) : MS := fun s => if i < js.length ∧ js.length ≤ ds.length + 1 ∧ ds.length ≤ 16384 then .nx (s.puts js ((ds.take i ++ [D.lst ((ds.drop i).take (ds.length + 1 - js.length))] ++ (ds.drop i).drop (ds.length + 1 - js.length)).map .val)) else .bad
def gstar (i : Nat) (js : List Nat) : D → MS := fun d => match d with
  | .tup ds => starOf i js ds
  | .lst ds => starOf i js ds
  | _ => fun _ => .bad
theorem plain_gstar {i : Nat} {js : List Nat} : Plain (gstar i js) := fun d s => by
  have go : ∀ ds, (∃ s', starOf i js ds s = .nx s') ∨ starOf i js ds s = .bad := fun ds => by
    unfold starOf
    split
    · exact .inl ⟨_, rfl⟩
    · exact .inr rfl
  cases d <;> first | exact .inr rfl | exact go _
theorem sg_star {es' : List Expr} {k i : Nat} {js : List Nat} (hc : X.calm = true) (h : SGn X es' js) (hs : (assignEach es X.env).map (·.2) = (assignEach es' X.env).map (·.2) := by rfl) (hn : (assignEach es X.env).length = js.length := by rfl) (hst : (assignEach es X.env).findIdx? (·.1) = some i := by rfl) : SG X (.Tuple es k pos) (gstar i js) :=
  PG.imp (pg_star hc h hs hn hst) fun v σ H Q t => by
    obtain ⟨F, adr, s, d, ab, r, po⟩ := t
    have go : ∀ (a : Addr) (vs : List V) (ds : List D), v = .ref a → (SqT (kk X).K H a vs ∨ SqL (kk X).K H a vs) → RpL (kk X) F adr ds vs → PostA1 (kk X) F adr s σ H (starOf i js ds s) Q → gStar X.K i js.length (gN js) v σ H Q := fun a vs ds ev hq h2 po => by
      by_cases hg : i < js.length ∧ js.length ≤ ds.length + 1 ∧ ds.length ≤ 16384
      · unfold starOf at po
        rw [if_pos hg] at po
        obtain ⟨g1, g2, g3⟩ := hg
        have le := h2.length
        refine ⟨a, vs, ev, hq, g1, by omega, by omega, fun T hT => ⟨by simp only [List.length_append, List.length_take, List.length_drop, List.length_cons, List.length_nil]; omega, ?_⟩⟩
        obtain ⟨y1, y2⟩ := ab.alloc (o := .lst ((vs.drop i).take (vs.length + 1 - js.length))) hT
        have h3 := h2.mono y1.ex y1.pre
        have rl : RpL (kk X) (upd F T (.lst ((vs.drop i).take (vs.length + 1 - js.length)))) adr (ds.take i ++ [D.lst ((ds.drop i).take (ds.length + 1 - js.length))] ++ (ds.drop i).drop (ds.length + 1 - js.length)) (vs.take i ++ [V.ref T] ++ (vs.drop i).drop (vs.length + 1 - js.length)) := by
          rw [← le]
          exact ((h3.take i).append (.one (show Rp (kk X) _ adr (.lst _) (.ref T) from ⟨T, _, rfl, upd_same, (h3.drop i).take _⟩))).append ((h3.drop i).drop _)
        obtain ⟨z1, z2⟩ := Abs.setAll (js := js) y2 y1 (slsOk_vals rl)
        exact po _ _ adr _ z1 z2
      · unfold starOf at po
        rw [if_neg hg] at po
        exact po.elim
    cases d <;> try (exact po.elim)
    case tup ds => obtain ⟨a, vs, ev, h1, h2⟩ := r; exact go a vs ds ev (.inl (ex_t ab.sub h1.t)) h2 po
    case lst ds => obtain ⟨a, vs, ev, h1, h2⟩ := r; exact go a vs ds ev (.inr (SqL.of (ex_i ab.sub (fun z => z) h1))) h2 po
end
end Bx
namespace Bx
open PySem L2 PySem.Spec PyProof.Rows
theorem enum_new1 {v : Value} {o : Obj} {H : Heap → Prop} (B : Begins v o H) :
    Meets (Builtin.«enumerate.__new__» ⟨[.type "enumerate", v], []⟩) (fun _ R s => H s.heap ∧
      R (.ok (.ret (.ref (s.heap.push o).objs.size))) { s with heap := (s.heap.push o).push { cls := .type "enumerate", data := .fields #[.none, .bool false, .ref s.heap.objs.size, rawInt 0, .none, .none] } }) :=
  .of_wp fun prog w A R s hyp => by
    obtain ⟨hp, g, d, tk, os⟩ := s; obtain ⟨h1, hyp⟩ := hyp
    have hsub := sub_enumerate
    have go : ∀ {A' : Around} {E : Value → Shared → Prop} {Q : Value → Shared → Prop}, Q (.ref hp.objs.size) ⟨hp.push o, g, d, tk, os⟩ → wpAny (model prog w) A' (pyIter v) Q E ⟨hp, g, d, tk, os⟩ := fun q => B.iter prog w _ _ ⟨hp, g, d, tk, os⟩ _ h1 q
    wp_walk using go
    refine wpAny_stack_any fun st => wpAny_pure ?_
    split
    · rename_i c _ _ _ _ _
      cases (c == Value.type "enumerate") <;> (wp_walk using go; exact ⟨_, rfl, hyp⟩)
    · wp_walk using go
      exact ⟨_, rfl, hyp⟩
theorem call_enum1 {prog : Program} {w : World} {A : Around} {E : Value → Shared → Prop} {s : Shared} {v : Value} {o : Obj} {H : Heap → Prop} {Q : Value → Shared → Prop} (B : Begins v o H) (h1 : H s.heap)
    (h : ∀ h', IsEnum h' (s.heap.objs.size + 1) s.heap.objs.size 0 .none → h'.get? s.heap.objs.size = some o → (∀ b o, s.heap.get? b = some o → h'.get? b = some o) → Q (.ref (s.heap.objs.size + 1)) { s with heap := h' }) :
    wpAny (model prog w) A (call (.type "enumerate") [v]) Q E s := by
  refine callType_new F.called_enumerate (by decide) (F.typeCall_enumerate_1 _) (F.newCall_enumerate_1 _) (fun obj => F.args_object_init_2 obj _) F.entry_enumerate_new (enum_new1 B) ⟨h1, ?_⟩
  have hz : (s.heap.push o).objs.size = s.heap.objs.size + 1 := Heap.size_push ..
  show _ ∧ _
  rw [hz]
  have he := Heap.get?_push_size (s.heap.push o) (o := { cls := .type "enumerate", data := .fields #[.none, .bool false, .ref s.heap.objs.size, rawInt 0, .none, .none] }) rfl
  rw [hz] at he
  exact ⟨⟨_, he, rfl⟩, h _ he (Heap.get?_push_of_some _ (Heap.get?_push_size _ B.free)) fun b o x => Heap.get?_push_of_some _ (Heap.get?_push_of_some _ x)⟩
def Itet (K : PySem.W.Frag) (a : Addr) : It :=
  ⟨fun i H => ∃ (xs : List V) (x : V), SqT K H a xs ∧ xs[i]? = some x, fun i H v H' => ∃ T x, v = .ref T ∧ H T = none ∧ H' = upd H T (.tup [.int (i : Nat), x]) ∧ ∀ xs, SqT K H a xs → xs[i]? = some x, fun i H => ∃ xs : List V, SqT K H a xs ∧ i = xs.length⟩
theorem turn_enumT {P : Program} {w : World} {K : PySem.W.Frag} {elts : List Expr} {kk : Nat} {tpos : Pos} (a e it : Addr) :
    Turn P w K (.Tuple elts kk tpos) (Itet K a) [e, it] e (fun i h => (∃ old, IsEnum h e it ((i : Nat) : Int) old) ∧ h.IsTupleIter it a i ∧ e ≠ it) where
  mem := List.mem_cons_self ..
  obj := fun i h st b hb => by
    obtain ⟨⟨old, he⟩, ⟨o, ho, hc, hd⟩, _⟩ := st
    rcases List.mem_cons.mp hb with z | hb
    · cases z; exact ⟨_, he, fun v q => nomatch q⟩
    · exact ⟨o, by rw [List.mem_singleton.mp hb]; exact ho, fun v q => by rw [hd] at q; cases q⟩
  keep := fun i h h' st k => let ⟨⟨old, he⟩, hi, hne⟩ := st; ⟨⟨old, k e (List.mem_cons_self ..) _ he⟩, hi.at fun o q => k it (by simp) o q, hne⟩
  item := by
    intro X hP hw hK hc i pins s σ H E I hf st hg
    subst hP hw hK
    obtain ⟨⟨old, he⟩, hit, hne⟩ := st
    obtain ⟨xs, x, hq, hx⟩ := hg
    obtain ⟨its, rv, p, hz⟩ := I.tuple hq
    have pT : s.heap.IsTuple a its.toArray := p
    have le := rv.length
    have hi : i < xs.length := (List.getElem?_eq_some_iff.mp hx).1
    have nea : e ≠ a := fun z => by
      obtain ⟨o, q1, q2, _⟩ := pT
      have he' : s.heap.get? e = some _ := he
      rw [z, q1] at he'
      cases he'
      simp at q2
    have nit : a ≠ it := fun z => by
      obtain ⟨o, q1, q2, _⟩ := pT
      obtain ⟨o', q3, q4, _⟩ := hit
      rw [z, q3] at q1
      cases q1
      rw [q4] at q2
      simp at q2
    have hel : e < s.heap.objs.size := Heap.lt_size he
    have hil : it < s.heap.objs.size := by obtain ⟨_, q, _⟩ := hit; exact Heap.lt_size q
    refine wpAny_pyNext_enum_itemD (Draws.tuple (A := X.A.in1) (I.ok.hd hc) it a nit its.toArray) he ⟨hit, pT⟩ (by simp; omega) hne (by simp [hne, nea]) fun u h' tk hu ho hst' hT hsz hk => ?_
    have hu' : its[i]? = some u := by simpa using hu
    have ru : RelV x u := by
      obtain ⟨u', q1, q2⟩ := rv.get hx
      rw [hu'] at q1
      cases q1
      exact q2
    refine ⟨_, rfl, wpAny_letOwnedTupleGo_enum (s := { s with heap := h', toks := tk + 1 }) ho fun h'' he' sb => ?_⟩
    have hT2 := (sb.2 _ (Nat.ne_of_gt hel)).trans hT
    have new : ObjOk X.prog X.w (upd H s.heap.objs.size (.tup [.int (i : Nat), x])) h'' s.heap.objs.size (.tup [.int (i : Nat), x]) := ⟨by show 2 ≤ sizeLine; decide, [.int i tk, u], .cons ⟨_, rfl⟩ (.cons ru .nil), ⟨_, hT2, rfl, _, rfl⟩⟩
    have I1 : Inv X pins σ (upd H s.heap.objs.size (.tup [.int (i : Nat), x])) { s with heap := h'', toks := tk + 1 } :=
      I.turnedNew (ch := [e, it]) (fun b ob hb q => (sb.2 b (fun z => hb (by simp [z]))).trans (hk b ob (fun z => hb (by simp [z])) (fun z => hb (by simp [z])) q)) hf (Nat.le_refl _) new
    refine ⟨.ref s.heap.objs.size, _, I1, rfl, ⟨_, x, rfl, I.hok.fresh (Nat.le_refl _), rfl, fun ys hy => by rw [I.tuple_inj hy hq]; exact hx⟩, ⟨⟨u, by rw [Int.natCast_succ]; exact he'⟩, hst'.1.at fun o q => (sb.2 it (Ne.symm hne)).trans q, hne⟩, fun b hb => ?_⟩
    have hb' : b < s.heap.objs.size := by
      rcases List.mem_cons.mp hb with z | z
      · rw [z]; exact hel
      · rw [List.mem_singleton.mp z]; exact hil
    rw [upd_ne (Nat.ne_of_lt hb')]
    exact (hf b hb).1
  done := by
    intro X hP hw hK hc i pins s σ H E I hf st hg
    subst hP hw hK
    obtain ⟨⟨old, he⟩, hit, hne⟩ := st
    obtain ⟨xs, hq, hx⟩ := hg
    obtain ⟨its, rv, p, hz⟩ := I.tuple hq
    have pT : s.heap.IsTuple a its.toArray := p
    have le := rv.length
    have nit : a ≠ it := fun z => by
      obtain ⟨o, q1, q2, _⟩ := pT
      obtain ⟨o', q3, q4, _⟩ := hit
      rw [z, q3] at q1
      cases q1
      rw [q4] at q2
      simp at q2
    obtain ⟨f0, f1, f2, f3, f4, f5⟩ := hf it (by simp)
    refine wpAny_pyNext_enum_endD (Draws.tuple (A := X.A.in1) (I.ok.hd hc) it a nit its.toArray) he ⟨?_, pT⟩ fun h' eb => ⟨rfl, I.turned (t' := s.toks) (fun b o hb q => eb b o hb q) f0 f1 f3 f4 f5⟩
    have e1 : its.toArray.size = i := by simp; omega
    rw [e1]
    exact hit
  self := fun A i s Q E st h => let ⟨⟨_, he⟩, _⟩ := st; wpAny_pyIter_enum he h
section
variable {X : Cx} {W : WX} {K : KK} {F F' H H' : Hp} {adr adr' : List Addr} {s s' : S} {σ σ' : L2.St} {d : D} {v : V} {e a b c tg : Expr} {es : List Expr} {m ma mb mc : M D} {ms : List (M D)} {pos : Pos} {E : Ends}
def iEnumA (K : PySem.W.Frag) (ta : TA) : TI := fun σ H R => ta σ H fun vs H1 => (∃ a xs, vs = [.ref a] ∧ SqT K H1 a xs ∧ R (Itet K a) H1) ∨ ∃ a xs, vs = [.ref a] ∧ SqL K H1 a xs ∧ R (Ite K a) H1
theorem pi_enumA {ta : TA} {p tpos : Pos} {elts : List Expr} {kk : Nat} (hg : Gl X "enumerate") (hm : X.mg "enumerate" = none) (ha : PA X [e] ta) (hs : starEach [e] X.env = [(false, eval e X.env)] := by rfl) :
    PI X (.Tuple elts kk tpos) (.Call (.Name "enumerate" p) [e] [] pos) (iEnumA X.K ta) := by
  refine ⟨fun pins s σ H R I h => Call_ (ld_blt I hg hm boot_enumerate (PyProof.Rows.callWith_type1 (thn (ha.run pos pins s σ H _ I h) fun us s1 ⟨vs, H1, I1, r1, q1⟩ => ?_) hs rfl))⟩
  have fp : ∀ b ∈ [s1.heap.objs.size + 1, s1.heap.objs.size], FpOk X pins H1 b := fun b hb => by
    have hle : s1.heap.objs.size ≤ b := by
      rcases List.mem_cons.mp hb with z | z
      · omega
      · rw [List.mem_singleton.mp z]; exact Nat.le_refl _
    exact I1.fpOk hle (I1.hok.fresh hle)
  rcases q1 with ⟨a, xs, ex, hq, q⟩ | ⟨a, xs, ex, hq, q⟩
  · subst ex
    obtain rfl := r1.ref1
    obtain ⟨its, rv, p', hz⟩ := I1.tuple hq
    refine call_enum1 (begins_tuple a its.toArray) p' fun h' he hit hk => wpAny_pyIter_enum he ?_
    exact ⟨s1.heap.objs.size + 1, [s1.heap.objs.size + 1, s1.heap.objs.size], _, _, H1, rfl, I1.kept (t' := s1.toks) hk, turn_enumT a (s1.heap.objs.size + 1) s1.heap.objs.size, ⟨⟨.none, he⟩, ⟨_, hit, rfl, rfl⟩, Nat.succ_ne_self _⟩, fp, q⟩
  · subst ex
    obtain rfl := r1.ref1
    obtain ⟨its, rv, p', hz⟩ := I1.list hq
    refine call_enum1 (begins_list a its.toArray) p'.isList fun h' he hit hk => wpAny_pyIter_enum he ?_
    exact ⟨s1.heap.objs.size + 1, [s1.heap.objs.size + 1, s1.heap.objs.size], _, _, H1, rfl, I1.kept (t' := s1.toks) hk, turn_enum a (s1.heap.objs.size + 1) s1.heap.objs.size, ⟨⟨.none, he⟩, ⟨_, hit, rfl, rfl⟩, Nat.succ_ne_self _⟩, fp, q⟩
/-- numbered -/
def nums : Nat → List D → List D
  | _, [] => []
  | i, d :: ds => .twk [.int i, d] :: nums (i + 1) ds
theorem nums_len : ∀ {i : Nat} {ds : List D}, (nums i ds).length = ds.length
  | _, [] => rfl
  | i, d :: ds => by simp [nums, nums_len]
theorem nums_get : ∀ {ds : List D} {k i : Nat} {x : D}, (nums k ds)[i]? = some x → ∃ d, ds[i]? = some d ∧ x = .twk [.int ((k + i : Nat) : Int), d]
  | [], _, _, _, h => by simp [nums] at h
  | d :: ds, k, 0, x, h => by simp [nums] at h; exact ⟨d, rfl, by rw [← h]; rfl⟩
  | d :: ds, k, i + 1, x, h => by
    obtain ⟨y, q1, q2⟩ := nums_get (k := k + 1) (i := i) (by simpa [nums] using h)
    exact ⟨y, by simpa using q1, by rw [q2, show k + 1 + i = k + (i + 1) by omega]⟩
theorem rp_pair {T : Addr} {i : Int} {x : V} {F' : Hp} (hF : F' T = none) (r : Rp K F' adr d x) : Rp K (upd F' T (.tup [.int i, x])) adr (.twk [.int i, d]) (.ref T) :=
  ⟨T, [.int i, x], rfl, .inl (.inl upd_same), .cons (show V.int i = V.int i from rfl) (.one (r.mono (Ex.new hF) (List.prefix_refl _)))⟩
theorem walks_enT {a0 : Addr} {vs : List V} {ds : List D} (h1 : SqT K.K F a0 vs) (h2 : RpL K F adr ds vs) : Walks K F adr (Itet K.K a0) (nums 0 ds) where
  go := fun F' adr' H' e p eh i d hi => by
    have hL := ex_t eh (ex_t e h1)
    obtain ⟨y, q1, rfl⟩ := nums_get hi
    obtain ⟨w, q2, q3⟩ := (h2.mono e p).get q1
    refine ⟨⟨vs, w, hL, q2⟩, fun x H'' ⟨T, x', z1, z2, z3, z4⟩ => .inr ⟨T, _, z2, z3, fun hF => ?_⟩⟩
    have := z4 vs hL
    rw [q2] at this
    cases this
    subst z1
    rw [Nat.zero_add]
    exact rp_pair hF q3
  stop := fun F' adr' H' e p eh => ⟨vs, ex_t eh (ex_t e h1), by rw [h2.length, nums_len]⟩
theorem walks_enL {a0 : Addr} {vs : List V} {ds : List D} (h1 : F a0 = some (.lst vs)) (h2 : RpL K F adr ds vs) : Walks K F adr (Ite K.K a0) (nums 0 ds) where
  go := fun F' adr' H' e p eh i d hi => by
    have hL : SqL K.K H' a0 vs := SqL.of (ex_i eh (fun z => z) (ex_i e (fun z => z) h1))
    obtain ⟨y, q1, rfl⟩ := nums_get hi
    obtain ⟨w, q2, q3⟩ := (h2.mono e p).get q1
    refine ⟨⟨vs, w, hL, q2⟩, fun x H'' ⟨T, x', z1, z2, z3, z4⟩ => .inr ⟨T, _, z2, z3, fun hF => ?_⟩⟩
    have := z4 vs hL
    rw [q2] at this
    cases this
    subst z1
    rw [Nat.zero_add]
    exact rp_pair hF q3
  stop := fun F' adr' H' e p eh => ⟨vs, SqL.of (ex_i eh (fun z => z) (ex_i e (fun z => z) h1)), by rw [h2.length, nums_len]; exact Nat.le_refl _⟩
def enumD (d : D) : M (List D) := fun s => match d with
  | .lst xs => .ok (nums 0 xs) s
  | .tup xs => .ok (nums 0 xs) s
  | _ => .bad
def menum (m : M D) : M (List D) := bnd (mal [m]) fun ds => enumD (ds.headD .non)
theorem si_enum {p tpos : Pos} {elts : List Expr} {kk : Nat} (hg : Gl X "enumerate") (hm : X.mg "enumerate" = none) (ha : SAL X W [e] (mal [m])) (hs : starEach [e] X.env = [(false, eval e X.env)] := by rfl) :
    SI X W (.Tuple elts kk tpos) (.Call (.Name "enumerate" p) [e] [] pos) (menum m) := PI.imp (pi_enumA hg hm ha hs) fun σ H Q t => by
  obtain ⟨F, adr, s, ab, po⟩ := t
  refine ⟨F, adr, s, ab, (PostG.bindE po).imp ?_⟩
  rintro xs H1 ⟨F1, adr1, ds, s1, e1, st1, ab1, rp1, po1⟩
  have hl := mal_len e1
  match ds, hl with
  | [d], _ =>
    obtain ⟨v, r, rfl, r1, r2⟩ := rp1
    cases r2
    cases d with
    | lst ys =>
      obtain ⟨a, vs, rfl, h1, h2⟩ := r1
      exact .inr ⟨a, vs, rfl, SqL.of (ex_i ab1.sub (fun z => z) h1), po1 _ F1 adr1 H1 .refl ab1 (walks_enL h1 h2)⟩
    | tup ys =>
      obtain ⟨a, vs, rfl, h1, h2⟩ := r1
      exact .inl ⟨a, vs, rfl, ex_t ab1.sub h1.t, po1 _ F1 adr1 H1 .refl ab1 (walks_enT h1.t h2)⟩
    | _ => exact po1.elim
end
end Bx
namespace Bx
open PySem L2 PySem.Spec PyProof.Rows
def tyN : List String := ["NoneType", "bool", "int", "str", "tuple", "list", "dict"]
def tyD : D → Option String
  | .non => some "NoneType"
  | .bl _ => some "bool"
  | .int _ => some "int"
  | .str _ => some "str"
  | .tup _ => some "tuple"
  | .lst _ => some "list"
  | .dct _ => some "dict"
  | .scr _ => some "list"
  | _ => none
def isT (n T : String) : Bool := n == T || (n == "bool" && T == "int")
theorem isT_ok : ∀ n ∈ tyN, ∀ T ∈ tyN, T ≠ "NoneType" → kitB n T = some (isT n T) := by decide +kernel
structure IsC (K : PySem.W.Frag) (C : Str) : Prop where
  cl : Cls K (He.ga K C)
  ha : PySem.W.findIn K (.ref (He.ga K C)) "__class__" = some (some (.builtin "object.__class__"))
  hn : PySem.W.specialIn K (.builtin "object.__class__") "__get__" = some (some (.builtin "getset_descriptor.__get__"))
  htk : PySem.W.takesIn K (.builtin "object.__class__") = some true
  hm : PySem.W.mroIn K (He.ga K C) (.type "object") = some true
  ofB : ∀ n ∈ tyN, PySem.W.kitOne K (.type n) (.ref (He.ga K C)) = some false
  toB : ∀ n ∈ tyN, n ≠ "NoneType" → PySem.W.kitOne K (.ref (He.ga K C)) (.type n) = some false
def eqB (a b : Option Bool) : Bool := decide (a = b)
def isB (K : PySem.W.Frag) (C : Str) : Bool := He.eqO (PySem.W.findIn K (.ref (He.ga K C)) "__class__") (some (some (.builtin "object.__class__"))) && (He.eqO (PySem.W.specialIn K (.builtin "object.__class__") "__get__") (some (some (.builtin "getset_descriptor.__get__"))) &&
  (eqB (PySem.W.takesIn K (.builtin "object.__class__")) (some true) && (eqB (PySem.W.mroIn K (He.ga K C) (.type "object")) (some true) && ((tyN.all fun n => eqB (PySem.W.kitOne K (.type n) (.ref (He.ga K C))) (some false)) && (tyN.all fun n => n == "NoneType" || eqB (PySem.W.kitOne K (.ref (He.ga K C)) (.type n)) (some false))))))
theorem isB_ok {K : PySem.W.Frag} {C : Str} (cl : Cls K (He.ga K C)) (h : isB K C = true) : IsC K C := by
  unfold isB at h
  obtain ⟨h1, h⟩ := He.ba h
  obtain ⟨h2, h⟩ := He.ba h
  obtain ⟨h3, h⟩ := He.ba h
  obtain ⟨h4, h⟩ := He.ba h
  obtain ⟨h5, h6⟩ := He.ba h
  refine ⟨cl, He.eqO_ok h1, He.eqO_ok h2, of_decide_eq_true h3, of_decide_eq_true h4, fun n hn => of_decide_eq_true (List.all_eq_true.mp h5 n hn), fun n hn hne => ?_⟩
  have := List.all_eq_true.mp h6 n hn
  rcases Bool.or_eq_true _ _ ▸ this with z | z
  · exact absurd (beq_iff_eq.mp z) hne
  · exact of_decide_eq_true z
def isiD (cs : List Str) (d c : D) : M D := fun s => match c with
  | .ty T => if T ∈ tyN ∧ T ≠ "NoneType" then match rsl s d with
      | .obj cn _ => if cn ∈ cs then .ok (.bl false) s else .bad
      | x => match tyD x with
        | some n => .ok (.bl (isT n T)) s
        | none => .bad
    else .bad
  | .glo C => if C ∈ cs then match rsl s d with
      | .obj cn _ => if cn = C then .ok (.bl true) s else .bad
      | x => match tyD x with
        | some _ => .ok (.bl false) s
        | none => .bad
    else .bad
  | _ => .bad
section
variable {X : Cx} {W : WX} {K : KK} {F F' H H' : Hp} {adr adr' : List Addr} {s s' : S} {σ σ' : L2.St} {d : D} {v : V}
theorem tyD_mem {n : String} (h : tyD d = some n) : n ∈ tyN := by
  cases d <;> simp [tyD] at h <;> subst h <;> decide
theorem tyX_sq {a : Addr} {xs : List V} (h : SqT K.K H a xs) : TyX K.K H (.ref a) (.type "tuple") := by
  rcases h with (h | ⟨o, h⟩) | ⟨o, its, n, h1, h2, _⟩
  · exact .base (.tup h)
  · exact .fTuple h
  · exact .kTuple h1 h2
theorem tyX_sl {a : Addr} {xs : List V} (h : SqL K.K H a xs) : TyX K.K H (.ref a) (.type "list") := by
  rcases h with (h | ⟨o, h⟩) | ⟨o, its, n, h1, h2, _⟩
  · exact .base (.lst h)
  · exact .base (.frz h)
  · exact .kList h1 h2
theorem tyX_of {n : String} (e : Ex F H) (t : RpT K F adr H d v) (h : tyD d = some n) : TyX K.K H v (.type n) := by
  cases d <;> simp [tyD] at h <;> subst h
  case non => rw [show v = .non from t]; exact .base .non
  case bl b => rw [show v = .bl b from t]; exact .base (.bl b)
  case int b => rw [show v = .int b from t]; exact .base (.int b)
  case str b => rw [show v = .str b from t]; exact .base (.str b)
  case tup ds => obtain ⟨a, vs, rfl, h1, _⟩ := t; exact tyX_sq (ex_t e h1.t)
  case lst ds => obtain ⟨a, vs, rfl, h1, _⟩ := t; exact .base (.lst h1)
  case dct ds =>
    obtain ⟨a, vs, rfl, h1, _⟩ := t
    rcases h1 with h1 | ⟨_, o, h1⟩
    · exact .base (.dK h1)
    · exact .fDict h1
  case scr ns => obtain ⟨a, rfl, h1⟩ := t; exact tyX_sl (ex_l e h1)
theorem cr_isi {cs : List Str} (ok : ∀ C ∈ cs, IsC X.K C) : CallR X (.builtin "isinstance") (rCI (kk X) W (f2 (isiD cs))) := CallR.imp call_isi fun xs H Q h => by
  obtain ⟨x, y, rfl, F, adr, s, σ, d1, d2, ab, r1, r2, po⟩ := f2_of h
  have t := ab.t r1
  unfold isiD at po
  cases d2 <;> try (exact po.elim)
  case ty T =>
    have ey : y = .ty T := r2
    subst ey
    by_cases hT : T ∈ tyN ∧ T ≠ "NoneType"
    · simp only [hT, and_self, ne_eq, not_false_eq_true, if_true] at po
      obtain ⟨hT1, hT2⟩ := hT
      have tyGo : ∀ n, tyD (rsl s d1) = some n → Post (kk X) W F adr s σ H (.ok (.bl (isT n T)) s) Q → rIsi X.K [x, .ty T] H Q := fun n hn po => ⟨x, _, _, _, isT n T, rfl, .ty T, tyX_of (K := kk X) ab.sub t hn, kit_ty (isT_ok n (tyD_mem hn) T hT1 hT2), Post.at ab po rfl⟩
      generalize rsl s d1 = e1 at *
      cases e1
      case obj cn fs =>
        by_cases hc : cn ∈ cs
        · simp only [hc, if_true] at po
          obtain ⟨a, dx, vs, rfl, h1, h2⟩ := t
          have k := ok cn hc
          exact ⟨_, _, _, _, false, rfl, .ty T, .base (.ins (ex_i ab.sub (fun z => z) h1) k.cl k.ha k.hn k.htk k.hm), k.toB T hT1 hT2, Post.at ab po rfl⟩
        · simp only [hc, if_false] at po; exact po.elim
      all_goals first | exact tyGo _ rfl po | exact po.elim
    · simp only [hT, if_false] at po; exact po.elim
  case glo C =>
    have ey : y = .ref (He.ga X.K C) := r2
    subst ey
    by_cases hC : C ∈ cs
    · simp only [hC, if_true] at po
      have k := ok C hC
      have tyGo : ∀ n, tyD (rsl s d1) = some n → Post (kk X) W F adr s σ H (.ok (.bl false) s) Q → rIsi X.K [x, .ref (He.ga X.K C)] H Q := fun n hn po => ⟨x, _, _, _, false, rfl, .own _, tyX_of (K := kk X) ab.sub t hn, k.ofB n (tyD_mem hn), Post.at ab po rfl⟩
      generalize rsl s d1 = e1 at *
      cases e1
      case obj cn fs =>
        by_cases hc : cn = C
        · simp only [hc, if_true] at po
          subst hc
          obtain ⟨a, dx, vs, rfl, h1, h2⟩ := t
          refine ⟨_, _, _, _, true, rfl, .own _, .base (.ins (ex_i ab.sub (fun z => z) h1) k.cl k.ha k.hn k.htk k.hm), ?_, Post.at ab po rfl⟩
          unfold PySem.W.kitOne
          rw [if_pos (beq_iff_eq.mpr rfl)]
        · simp only [hc, if_false] at po; exact po.elim
      all_goals first | exact tyGo _ rfl po | exact po.elim
    · simp only [hC, if_false] at po; exact po.elim
end
end Bx
namespace Bx
open PySem L2 PySem.Spec PyProof.Rows
def leS (x y : Str) : Bool := !ltCps y.cps.toList x.cps.toList
def sortS (xs : List Str) : List Str := xs.mergeSort leS
theorem sortS_perm (xs : List Str) : (sortS xs).Perm xs := List.mergeSort_perm xs leS
def strsD : List D → Option (List Str)
  | [] => some []
  | .str x :: r => (strsD r).map (x :: ·)
  | _ => none
theorem strsD_map (xs : List Str) : strsD (xs.map D.str) = some xs := by
  induction xs with
  | nil => rfl
  | cons x r ih => simp [strsD, ih]
theorem strsD_eq : ∀ {ds : List D} {xs : List Str}, strsD ds = some xs → ds = xs.map D.str
  | [], _, h => by cases h; rfl
  | d :: ds, xs, h => by
    cases d <;> try (simp [strsD] at h)
    case str x =>
      obtain ⟨ys, h1, rfl⟩ := h
      rw [strsD_eq h1]
      rfl
theorem rpl_strs {K : KK} {F : Hp} {adr : List Addr} : ∀ {xs : List Str} {vs : List V}, RpL K F adr (xs.map D.str) vs → vs = xs.map V.str
  | [], _, h => h
  | x :: r, _, ⟨v, t, q, h1, h2⟩ => by
    rw [q, show v = V.str x from h1, rpl_strs h2]
    rfl
theorem rpl_strs' {K : KK} {F : Hp} {adr : List Addr} : ∀ (xs : List Str), RpL K F adr (xs.map D.str) (xs.map V.str)
  | [] => .nil
  | x :: r => .cons (show V.str x = V.str x from rfl) (rpl_strs' r)
section
variable {X : Cx} {W : WX} {K : KK} {F F' H H' : Hp} {adr adr' : List Addr} {s s' : S} {σ σ' : L2.St} {d : D} {v : V} {e a b c tg o : Expr} {es : List Expr} {m ma mb mc mo : M D} {ms : List (M D)} {pos apos : Pos} {E : Ends}
/-- repr of a list, of a tuple -/
def reprD (d : D) : M D := fun s => match pd (rsl s d) with
  | some (.list ps) => if (PyData.list ps).showable = true ∧ (PyData.list ps).hasDict = false ∧ (PyData.list ps).shown.length ≤ 16000000 ∧ (PyData.list ps).depth ≤ 60 then .ok (.str (PyData.list ps).shown) s else .bad
  | some (.tuple ps) => if (PyData.tuple ps).showable = true ∧ (PyData.tuple ps).hasDict = false ∧ (PyData.tuple ps).shown.length ≤ 16000000 ∧ (PyData.tuple ps).depth ≤ 60 then .ok (.str (PyData.tuple ps).shown) s else .bad
  | _ => .bad
def rRepr (K : PySem.W.Frag) : List V → Hp → VK → Prop := fun xs H Q => ∃ a p, xs = [.ref a] ∧ Dp K H (.ref a) p ∧ p.showable = true ∧ p.hasDict = false ∧ p.shown.length ≤ 16000000 ∧ p.depth ≤ 60 ∧ Q (.str p.shown) H
theorem cr_reprR (hu : X.A.units + 64 < cLine) (hg : X.A.guards = some []) : CallR X (.builtin "repr") (rRepr X.K) := by
  intro pins s σ H xs us Q I r h
  obtain ⟨a, p, rfl, dp, h1, h2, h3, h4, q⟩ := h
  rw [Vals.ref1 r]
  obtain ⟨as, rd⟩ := Dp.reads I p _ _ dp (show RelV (.ref a) (.ref a) from rfl)
  exact repr_of_reads' rd h1 (fun z => by rw [h2] at z; cases z) hg (by omega) (fun _ _ e => e) (fun h' u tk hk => ⟨.str p.shown, H, I.kept hk, ⟨u, rfl⟩, q⟩) (by rw [sizeLine_eq]; omega)
theorem cr_repr (hu : X.A.units + 64 < cLine) (hg : X.A.guards = some []) : CallR X (.builtin "repr") (rCI (kk X) W (f1 reprD)) := CallR.imp (cr_reprR hu hg) fun xs H Q h => by
  obtain ⟨x, rfl, F, adr, s, σ, d, ab, r, po⟩ := f1_of h
  have t := ab.t r
  unfold reprD at po
  cases e2 : pd (rsl s d) with
  | none => rw [e2] at po; exact po.elim
  | some p =>
    rw [e2] at po
    have dp := dp_t ab e2 t
    cases p <;> try (exact po.elim)
    case list ps =>
      have dp' := dp
      cases dp'
      dsimp only at po
      split at po
      · rename_i hc; exact ⟨_, _, rfl, dp, hc.1, hc.2.1, hc.2.2.1, hc.2.2.2, Post.at ab po rfl⟩
      · exact po.elim
    case tuple ps =>
      have dp' := dp
      cases dp'
      dsimp only at po
      split at po
      · rename_i hc; exact ⟨_, _, rfl, dp, hc.1, hc.2.1, hc.2.2.1, hc.2.2.2, Post.at ab po rfl⟩
      · exact po.elim
/-- divmod -/
def divD (a b : D) : M D := fun s => match rsl s a, rsl s b with
  | .int i, .int j => if 0 < j ∧ j < 1073741824 then .ok (.twk [.int (i / j), .int (i % j)]) s else .bad
  | _, _ => .bad
theorem cr_divmod : CallR X (.builtin "divmod") (rCI (kk X) W (f2 divD)) := CallR.imp call_divmod fun xs H Q h => by
  obtain ⟨x, y, rfl, F, adr, s, σ, d1, d2, ab, r1, r2, po⟩ := f2_of h
  have t1 := ab.t r1
  have t2 := ab.t r2
  unfold divD at po
  generalize rsl s d1 = e1 at *
  generalize rsl s d2 = e2 at *
  cases e1 <;> try (exact po.elim)
  case int i =>
    cases e2 <;> try (exact po.elim)
    case int j =>
      by_cases hj : 0 < j ∧ j < 1073741824
      · simp only [hj, and_self, if_true] at po
        rw [RpT.int t1, RpT.int t2]
        exact ⟨i, j, rfl, hj, fun p hp => Post.new ab po hp ⟨p, _, rfl, SqT.of upd_same, .cons (show V.int (i / j) = _ from rfl) (.one (show V.int (i % j) = _ from rfl))⟩⟩
      · simp only [hj, if_false] at po; exact po.elim
def revD (d : D) : M D := fun s => match d with
  | .tup ds => .ok (.tup ds.reverse) s
  | _ => .bad
/-- sep.join(texts) -/
def joinD (a b : D) : M D := fun s => match a, rsl s b with
  | .str z, .lst ds => match strsD ds with
    | some ys => if (ys.map (·.length)).sum + ys.length * z.length ≤ 16777216 then .ok (.str (Txt.join z ys)) s else .bad
    | none => .bad
  | .str z, .tup ds => match strsD ds with
    | some ys => if (ys.map (·.length)).sum + ys.length * z.length ≤ 16777216 then .ok (.str (Txt.join z ys)) s else .bad
    | none => .bad
  | _, _ => .bad
def isStr (d : D) : M D := fun s => match d with
  | .str z => .ok (.str z) s
  | _ => .bad
def mjoin (m n : M D) : M D := bnd (bnd m isStr) fun a => bnd n fun b => joinD a b
theorem se_join (ho : SE X W o mo) (he : SE X W e m) (hs : starEach [e] X.env = [(false, eval e X.env)] := by rfl) (hbase : attributeBase o "join" X.env (eval o X.env) = eval o X.env := by rfl) (hline : (apos.endLine == pos.line) = true := by rfl) :
    SE X W (.Call (.Attribute o "join" apos) [e] [] pos) (mjoin mo m) := PE.imp (pe_join ho he hs hbase hline) fun σ H Q t => by
  obtain ⟨F, adr, s, ab, po⟩ := t
  unfold mjoin bnd at po
  have po' : Post (kk X) W F adr s σ H ((mo s).bind fun a => fun s => (isStr a s).bind fun a => fun s => (m s).bind fun b => joinD a b) Q := by
    cases e1 : mo s with
    | ok d s1 => simp only [e1, R.bind] at po ⊢; exact po
    | exc x s1 => simp only [e1, R.bind] at po ⊢; exact po
    | bad => simp only [e1, R.bind] at po; exact po.elim
  refine ⟨F, adr, s, ab, (PostG.bind po').imp ?_⟩
  rintro x H1 ⟨F1, adr1, d1, s1, st1, ab1, rp1, po1⟩
  cases d1 <;> try (exact po1.elim)
  case str z =>
    have ex : x = .str z := rp1
    subst ex
    have po2 : Post (kk X) W F1 adr1 s1 σ H1 ((m s1).bind fun b => joinD (.str z) b) Q := po1
    refine ⟨⟨z, rfl⟩, F1, adr1, s1, ab1, (PostG.bind po2).imp ?_⟩
    rintro y H2 ⟨F2, adr2, d2, s2, st2, ab2, rp2, po3⟩
    have t := ab2.t rp2
    unfold joinD at po3
    generalize rsl s2 d2 = e1 at *
    have fin : ∀ (ds : List D) (a : Addr) (vs : List V), y = .ref a → (SqL X.K H2 a vs ∨ SqT X.K H2 a vs) → RpL (kk X) F2 adr2 ds vs → Post (kk X) W F2 adr2 s2 σ H2 (match strsD ds with
        | some ys => if (ys.map (·.length)).sum + ys.length * z.length ≤ 16777216 then .ok (.str (Txt.join z ys)) s2 else .bad
        | none => .bad) Q → ∃ a p, ∃ ys : List Str, V.str z = .str a ∧ [y] = [.ref p] ∧ (SqL X.K H2 p (ys.map V.str) ∨ SqT X.K H2 p (ys.map V.str)) ∧ (ys.map (·.length)).sum + ys.length * a.length ≤ 16777216 ∧ Q (.str (Txt.join a ys)) H2 := fun ds a vs ey hq h2 po => by
      cases e2 : strsD ds with
      | none => simp only [e2] at po; exact po.elim
      | some ys =>
        simp only [e2] at po
        by_cases hz : (ys.map (·.length)).sum + ys.length * z.length ≤ 16777216
        · simp only [hz, if_true] at po
          rw [strsD_eq e2] at h2
          have e3 := rpl_strs h2
          subst e3
          exact ⟨z, a, ys, rfl, by rw [ey], hq, hz, Post.at ab2 po rfl⟩
        · simp only [hz, if_false] at po; exact po.elim
    cases e1 <;> try (exact po3.elim)
    case lst ds => obtain ⟨a, vs, ey, h1, h2⟩ := t; exact fin ds a vs ey (.inl (SqL.of h1)) h2 po3
    case tup ds => obtain ⟨a, vs, ey, h1, h2⟩ := t; exact fin ds a vs ey (.inr (ex_t ab2.sub h1.t)) h2 po3
end
end Bx
namespace Bx
open PySem L2 PySem.Spec PyProof.Rows
section
variable {X : Cx} {W : WX} {K : KK} {F F' H H' : Hp} {adr adr' : List Addr} {s s' : S} {σ σ' : L2.St} {d : D} {v : V} {e a b c tg tg1 o iter iter1 elt : Expr} {es : List Expr} {m ma mb mc : M D} {ms : List (M D)} {pos apos : Pos} {E : Ends}
/-- what holds of the list under way -/
structure Way (K : KK) (F1 : Hp) (adr1 : List Addr) (s1 : S) (σ : L2.St) (H1 : Hp) (p : Addr) (F' : Hp) (adr' : List Addr) (s' : S) (σ' : L2.St) (H' : Hp) (acc : List D) (av : List V) : Prop where
  st : Step F1 adr1 (Fp adr1 s1 σ) H1 F' adr' (Fp adr' s' σ') H'
  ab : Abs K F' adr' s' σ' H'
  fp : F' p = none
  np : ¬ Fp adr' s' σ' p
  hp : H' p = some (.lst av)
  rp : RpL K F' adr' acc av
theorem Way.step {F1 F2 F3 H1 H2 H3 : Hp} {adr1 adr2 adr3 : List Addr} {s1 s2 s3 : S} {σ2 σ3 : L2.St} {p : Addr} {acc : List D} {av : List V} (w : Way K F1 adr1 s1 σ H1 p F2 adr2 s2 σ2 H2 acc av) (st : Step F2 adr2 (Fp adr2 s2 σ2) H2 F3 adr3 (Fp adr3 s3 σ3) H3) (ab : Abs K F3 adr3 s3 σ3 H3) :
    Way K F1 adr1 s1 σ H1 p F3 adr3 s3 σ3 H3 acc av := by
  obtain ⟨f, n, h⟩ := keep_fresh st w.fp w.np w.hp
  exact ⟨w.st.trans st, ab, f, n, h, w.rp.mono st.ex st.pre⟩
end
end Bx
namespace Bx
open PySem L2 PySem.Spec PyProof.Rows
section
variable {X : Cx} {W : WX} {K : KK} {F F' H H' : Hp} {adr adr' : List Addr} {s s' : S} {σ σ' : L2.St} {d : D} {v : V} {e a b c tg o i : Expr} {es : List Expr} {m ma mb mc mo mi : M D} {ms : List (M D)} {pos apos : Pos} {E : Ends} {Q : L2.St → Hp → Prop}
theorem PostA1.from {r : RS} {F1 : Hp} {adr1 : List Addr} {s1 : S} {σ1 : L2.St} {H1 : Hp} (st : Step F adr (Fp adr s σ) H F1 adr1 (Fp adr1 s1 σ1) H1) (h : PostA1 K F adr s σ H r Q) : PostA1 K F1 adr1 s1 σ1 H1 r Q := by
  cases r with
  | nx s2 => exact fun σ2 F2 adr2 H2 st2 ab2 => h σ2 F2 adr2 H2 (st.trans st2) ab2
  | _ => exact h
theorem A1_bind {α β : Type} {rel : Hp → List Addr → α → β → Prop} {r : R α} {f : α → MS} (h : PostA1 K F adr s σ H (r.toS f) Q) :
    PostG K W0 rel F adr s σ H r fun v H1 => ∃ F1 adr1 d s1, Step F adr (Fp adr s σ) H F1 adr1 (Fp adr1 s1 σ) H1 ∧ Abs K F1 adr1 s1 σ H1 ∧ rel F1 adr1 d v ∧ PostA1 K F1 adr1 s1 σ H1 (f d s1) Q := by
  cases r with
  | ok d s1 => exact fun v F1 adr1 H1 st ab rp => ⟨F1, adr1, d, s1, st, ab, rp, PostA1.from st h⟩
  | exc x s1 => exact h.elim
  | bad => exact h
def gsub (o i : M D) : D → MS := fun x s => (o s).toS fun d s => (i s).toS fun k s => setD d k x s
theorem sg_sub (ho : SE X W0 o mo) (hi : SE X W0 i mi)
    (ha : ∀ v, assign (.Subscript o i pos) X.env v = (do
      let ov ← holding [v] (eval o X.env)
      let iv ← holding [v, ov] (eval i X.env)
      standAt pos
      holding [v, ov, iv] (setItem ov iv v)
      release [v, ov, iv] []) := by intro _; rfl) : SG X (.Subscript o i pos) (gsub mo mi) := PG.imp (pg_sub ho hi set_list ha) fun v σ H Q t => by
  obtain ⟨F, adr, s, d1, ab, rp1, po1⟩ := t
  refine ⟨F, adr, s, ab, (A1_bind po1).imp ?_⟩
  rintro y H2 ⟨F2, adr2, d2, s2, st2, ab2, rp2, po2⟩
  refine ⟨F2, adr2, s2, ab2, (A1_bind po2).imp ?_⟩
  rintro z H3 ⟨F3, adr3, d3, s3, st3, ab3, rp3, po3⟩
  have rp1' := rp1.mono (st2.trans st3).ex (st2.trans st3).pre
  have rp2' := rp2.mono st3.ex st3.pre
  unfold setD at po3
  cases e1 : s3.mo d2 with
  | none => rw [e1] at po3; exact po3.elim
  | some mo =>
    rw [e1] at po3
    obtain ⟨p, u, hp, z1, z2, z3⟩ := ab3.mut rp2' e1
    cases mo <;> try (exact po3.elim)
    case lst zs =>
      cases d3 <;> try (exact po3.elim)
      case int k =>
        obtain ⟨vs, rfl, zr⟩ := z2
        simp only at po3
        cases e2 : ixN zs.length k with
        | none => rw [e2] at po3; exact po3.elim
        | some j =>
          rw [e2] at po3
          obtain ⟨y1, y2⟩ := z3 (.lst (zs.set j d1)) (.lst (vs.set j v)) ⟨_, rfl, zr.set j rp1'⟩
          exact ⟨p, vs, k, j, hp, rp3, z1, by rw [zr.length]; exact e2, po3 σ F3 adr3 _ y1 y2⟩
def gseq : List (D → MS) → List D → MS
  | [], [] => skip
  | g :: gs, d :: ds => fun s => match g d s with
    | .nx s1 => gseq gs ds s1
    | _ => .bad
  | _, _ => fun _ => .bad
def gIs (K : KK) (gs : List (D → MS)) : TGs := fun vs σ H Q => ∃ F adr s ds, Abs K F adr s σ H ∧ RpL K F adr ds vs ∧ PostA1 K F adr s σ H (gseq gs ds s) Q
def SGs (X : Cx) (es : List Expr) (gs : List (D → MS)) : Prop := PGs X es (gIs (kk X) gs)
theorem sgs_nil : SGs X [] [] := PGs.imp pgs_nil fun vs σ H Q t => by
  obtain ⟨F, adr, s, ds, ab, rl, po⟩ := t
  cases ds with
  | nil => cases rl; exact ⟨rfl, po σ F adr H .refl ab⟩
  | cons d ds => exact po.elim
theorem sgs_cons {g : D → MS} {gs : List (D → MS)} (h1 : SG X e g) (h2 : SGs X es gs) (hs : (assignEach (e :: es) X.env).map (·.2) = assign e X.env :: (assignEach es X.env).map (·.2) := by rfl) : SGs X (e :: es) (g :: gs) :=
  PGs.imp (pgs_cons h1 h2 hs) fun vs σ H Q t => by
    obtain ⟨F, adr, s, ds, ab, rl, po⟩ := t
    cases ds with
    | nil => exact po.elim
    | cons d ds =>
      obtain ⟨v, r, rfl, r1, r2⟩ := rl
      refine ⟨v, r, rfl, F, adr, s, d, ab, r1, ?_⟩
      have po' : PostA1 (kk X) F adr s σ H (match g d s with | .nx s1 => gseq gs ds s1 | _ => .bad) Q := po
      cases e1 : g d s with
      | nx s1 =>
        rw [e1] at po'
        exact fun σ1 F1 adr1 H1 st1 ab1 => ⟨F1, adr1, s1, ds, ab1, r2.mono st1.ex st1.pre, PostA1.from st1 po'⟩
      | _ => rw [e1] at po'; exact po'.elim
def gtupG (gs : List (D → MS)) : D → MS := fun d => match unT d with
  | some ds => if ds.length = gs.length then gseq gs ds else fun _ => .bad
  | none => fun _ => .bad
theorem gseq_plain : ∀ (gs : List (D → MS)), ∀ (ds : List D) (s : S), (∃ s', gseq gs ds s = .nx s') ∨ gseq gs ds s = .bad
  | [], [], s => .inl ⟨s, rfl⟩
  | [], _ :: _, s => .inr rfl
  | _ :: _, [], s => .inr rfl
  | g :: gs, d :: ds, s => by
    show (∃ s', (match g d s with | .nx s1 => gseq gs ds s1 | _ => .bad) = .nx s') ∨ (match g d s with | .nx s1 => gseq gs ds s1 | _ => .bad) = .bad
    cases g d s with
    | nx s1 => exact gseq_plain gs ds s1
    | _ => exact .inr rfl
theorem plain_gtupG {gs : List (D → MS)} : Plain (gtupG gs) := fun d s => by
  unfold gtupG
  cases hd : unT d with
  | none => exact .inr rfl
  | some ds =>
    show (∃ s', (if ds.length = gs.length then gseq gs ds else fun _ => .bad) s = .nx s') ∨ (if ds.length = gs.length then gseq gs ds else fun _ => .bad) s = .bad
    by_cases hl : ds.length = gs.length
    · rw [if_pos hl]; exact gseq_plain gs ds s
    · rw [if_neg hl]; exact .inr rfl
theorem sg_tupG {k : Nat} {gs : List (D → MS)} (hc : X.calm = true) (h : SGs X es gs) (hn : (assignEach es X.env).length = gs.length := by rfl) (hst : (assignEach es X.env).findIdx? (·.1) = none := by rfl) : SG X (.Tuple es k pos) (gtupG gs) :=
  PG.imp (pg_tup hc h hn hst) fun v σ H Q t => by
    obtain ⟨F, adr, s, d, ab, r, po⟩ := t
    unfold gtupG at po
    cases hd : unT d with
    | none => rw [hd] at po; exact po.elim
    | some ds =>
      rw [hd] at po
      obtain ⟨a, vs, rfl, h1, h2⟩ := unT_ok hd r
      have po' : PostA1 (kk X) F adr s σ H ((if ds.length = gs.length then gseq gs ds else fun _ => .bad) s) Q := po
      by_cases hl : ds.length = gs.length
      · rw [if_pos hl] at po'
        exact ⟨a, vs, rfl, ex_t ab.sub h1, by rw [h2.length, hl], F, adr, s, ds, ab, h2, po'⟩
      · rw [if_neg hl] at po'
        exact po'.elim
end
section
variable {P : Program} {w : World} {K : PySem.W.Frag} {mg mb : Str → Option Value} {k : Nat} {fa a : Addr} {fd : FuncData} {x : Str} {sp : Sp} {sh : Shared} {vs : List Value} {ns : List Int}
theorem law_end (KX : K.In sh.heap) (hns : sh.heap.Ns mainGlobals mg) (hb : sh.heap.Ns builtinsNs mb) (hbb : ∀ x : Str, x ≠ "__name__" → mb x = bootBuiltins x) (hlim : sh.heap.NoLimit) (hg : sh.gens = #[]) (ha : sh.heap.get? a = some { cls := .type "list", data := .seq vs.toArray }) (hi : IntsAre vs ns) (hl : ns.length ≤ sizeLine)
    (hr : Room k callerA) (G : ∀ base : Heap, K.In base → base.Ns mainGlobals mg → FnG P w K mg base k fa fd [x] sp) (hbind : ∀ (s : Shared) (u : Value), BindsTo s fd ⟨[u], []⟩ [(x, u)]) (hsp : ∀ H : Hp, SqL K H a (ns.map V.int) → sp [.ref a] H (fun v _ => v = .bl true) fun _ _ _ => False)
    (hCX : ∀ H e s', L2.CX P w [] H sh (fun _ _ _ => False) e s' → False) :
    codeAny (model P w) callerA (.call (.ref fa) ⟨[.ref a], []⟩) (fun r s' => r = .ok (.ret (.bool true)) ∧ OldK sh.heap s'.heap ∧ s'.os = sh.os ∧ AllBare s'.gens) sh := by
  have rv := vals_ints hi
  -- H: nothing is tracked but the script, known to the object
  have main : ∀ H : Hp, (∀ b u, H b = some u → b = a ∧ ∃ o xs, u = .frz o (.lst xs)) → SqL K H a (ns.map V.int) → HOk P w H sh.heap → (H a ≠ none → K.lookup a = none) →
      codeAny (model P w) callerA (.call (.ref fa) ⟨[.ref a], []⟩) (fun r s' => r = .ok (.ret (.bool true)) ∧ OldK sh.heap s'.heap ∧ s'.os = sh.os ∧ AllBare s'.gens) sh := by
    intro H only sq ok outK
    have nodict : ∀ {b : Addr} {ob : Obj} {es : Array DictEntry} {ep : Nat}, sh.heap.get? b = some ob → ob.data = .dict es ep → H b = none := fun {b ob es ep} q1 q2 => by
      cases q : H b with
      | none => rfl
      | some u =>
        obtain ⟨z, _⟩ := only b u q
        rw [z, ha] at q1
        cases q1
        cases (show Data.seq vs.toArray _ = Data.dict es ep from q2)
    have ns' : ∀ {b : Addr} {m : Str → Option Value}, sh.heap.Ns b m → (hidT sh.heap H).Ns b m := fun {b m} ⟨o, es, ep, q1, q2, q3⟩ => ⟨o, es, ep, hidT_get q1 (nodict q1 q2), q2, q3⟩
    have inK : K.In (hidT sh.heap H) := fun b ob q => hidT_get (KX b ob q) (by
      cases z : H b with
      | none => rfl
      | some u =>
        obtain ⟨y, _⟩ := only b u z
        rw [y] at q z
        rw [outK (by rw [z]; simp)] at q
        cases q)
    have md : Mod K mg (hidT sh.heap H) := ⟨inK, ns' hns, ⟨mb, ns' hb, hbb⟩, let ⟨mc, h1, h2⟩ := hlim; ⟨mc, ns' h1, h2⟩⟩
    have e0 : Env0 P w K mg (hidT sh.heap H) callerA [] sh H := ⟨rfl, md, fun _ _ q => of_hidT q, Nat.le_of_eq (hidT_size _ _), trivial, fun _ z => absurd z (List.not_mem_nil), ok, .of_eq hg⟩
    refine codeAny_mono ((G _ inK (ns' hns)).run callerA [] sh H ⟨[.ref a], []⟩ [.ref a] [.ref a] _ _ hr rfl e0 (hbind sh (.ref a)) (.cons (show RelV (V.ref a) (Value.ref a) from rfl) .nil) (hsp H sq)) fun r s' h => ?_
    cases r with
    | error er => exact (hCX H er s' h).elim
    | ok fl =>
      cases fl <;> try (exact False.elim h)
      case ret u =>
        obtain ⟨v, H', os, bare, un, ok', rel, q⟩ := h
        have q' : v = .bl true := q
        subst q'
        obtain rfl : u = Value.bool true := rel
        refine ⟨rfl, OldK.of_keep fun b ob eb => ?_, os, bare⟩
        cases z : H b with
        | none => exact un.keep b ob eb z (fun y => absurd y (List.not_mem_nil)) (List.not_mem_nil)
        | some u =>
          obtain ⟨_, o2, xs, y⟩ := only b u z
          rw [y] at z
          obtain ⟨g1, _⟩ := ok b _ z
          obtain ⟨g2, _⟩ := ok' b _ (un.frzs b o2 _ z)
          rw [eb] at g1
          cases g1
          exact g2
  cases hk : K.lookup a with
  | some o =>
    have e := KX a o hk
    rw [ha] at e
    cases e
    refine main (fun _ => none) (fun b u z => nomatch z) (.inr ⟨_, vs.toArray, _, hk, rfl, rfl, rfl, by rw [List.size_toArray, hi.length]; exact hl, by simpa using rv⟩) (fun b u z => nomatch z) fun z => absurd rfl z
  | none =>
    let O : Obj := { cls := .type "list", data := .seq vs.toArray }
    refine main (upd (fun _ => none) a (.frz O (.lst (ns.map V.int)))) (fun b u z => ?_) (.inl (.inr ⟨O, upd_same⟩)) (fun b u z => ?_) fun _ => hk
    · by_cases hb : b = a
      · subst hb; rw [upd_same] at z; cases z; exact ⟨rfl, _, _, rfl⟩
      · rw [upd_ne hb] at z; cases z
    · by_cases hb : b = a
      · subst hb; rw [upd_same] at z; cases z; exact ⟨ha, by rw [List.length_map]; exact hl, vs, _, rv, ha⟩
      · rw [upd_ne hb] at z; cases z
end
/-- a law over a head by facts -/
theorem walk_end {l : PySem.W.OpenLaw} {n k : Nat} {q : Program} {loose : List Str} {XP : (Str → Option Value) → Heap → Prop} {YP : World → Heap → Prop} {d : DefRec} {x : Str} (hn : l.most = some n) (hn2 : n ≤ sizeLine) (hdf : d.params.defaults = []) (hr : Room k callerA)
    (F : ∀ (w : World) (mg : Str → Option Value) (fa : Addr) (h : Heap), YP w h → h.Ns mainGlobals mg → mg d.name = some (.ref fa) →
      ∃ (K : PySem.W.Frag) (fd : FuncData) (den : Den), K.In h ∧ (∀ (s : Shared) (u : Value), BindsTo s fd ⟨[u], []⟩ [(x, u)]) ∧ (∀ (ns : List Int), ns.length ≤ n → ∃ μ, den [.scr ns] [] = .ok (.bl true) μ) ∧
        ∀ base : Heap, K.In base → base.Ns mainGlobals mg → FnG l.prog w K mg base k fa fd [x] (spD ⟨K, l.prog, w⟩ 1 den)) :
    PySem.W.WalkO q loose XP YP l.row.toRowW d [] (fun f vs => PySem.call f vs) := by
  refine Att.attach_call hn hdf fun w s₀ s₁ mg mb fa o pm cd doc a vs ns G Y ho hd hcd hmg hobj hints hlen hg => ?_
  obtain ⟨K, fd, den, KX, hb, hsp, hF⟩ := F w mg fa _ Y G.T.g hmg
  refine law_end KX G.T.g G.T.b G.T.builtins G.T.nolimit hg hobj hints (Nat.le_trans hlen hn2) hr hF hb (fun H hS => ?_) fun H e s' z => ?_
  · obtain ⟨μ, e⟩ := hsp ns hlen
    refine ⟨H, [], [], [.scr ns], ⟨.refl _, rfl, .nil, fun i a m h => by simp at h⟩, .one (show Rp ⟨K, l.prog, w⟩ H [] (.scr ns) (.ref a) from ⟨a, rfl, hS⟩), rfl, ?_⟩
    rw [e]
    exact fun v F' adr' H' _ _ rp => rp
  · obtain ⟨_, _, _, _, _, _, _, _, _, _, _, _, f⟩ := z
    exact f
end Bx
namespace Bx
open PySem L2 PySem.Spec PyProof.Rows
section
variable {X : Cx} {W : WX} {K : KK} {F F' H H' : Hp} {adr adr' : List Addr} {s s' : S} {σ σ' : L2.St} {d : D} {v : V} {e a b c tg o i : Expr} {es ts : List Expr} {m ma mb mc mo mi : M D} {ms : List (M D)} {pos apos : Pos} {E : Ends} {Q : L2.St → Hp → Prop}
theorem takes0 : Takes X W0 := fun u s' ⟨_, _, _, _, _, _, _, _, _, _, _, _, _, _, _, _, z⟩ => z.elim
end
section
variable {K : KK} {x qual : Str} {params : Arguments} {body : List Stmt} {scope : Scope} {dvs : List V} {kws : List (Str × V)} {f : Addr} {fd : FuncData} {ps : List Str}
/-- no defaults -/
theorem callB_no (F : FunD K.K x qual params body scope [] kws f fd) (n : Nat) (ks : List Str) (ix : List Nat)
    (h : ∀ (kV doc pm : Value) (an : Option Addr) (cdv ct : Value) (us ws : List Value), us.length = n → ws.length = ks.length → bindArgs (PySem.W.fnOf x qual params body scope .none kV doc pm an cdv ct) ⟨us, ks.zip ws⟩ = pure (ps.zip (pick .none ix (us ++ ws)))) : CallB K fd ps n ks ix [] := by
  obtain ⟨oc, od, dV, kV, doc, pm, an, cdv, ct, osl, rfl, lk, hcd, hD, hK⟩ := F.ex
  rcases hD with ⟨_, rfl⟩ | ⟨e, _⟩
  · exact ⟨[], [], .nil, fun _ _ => rfl, fun s us ws _ h1 h2 => by rw [List.append_nil]; exact .of_eq (h kV doc pm an cdv ct us ws h1 h2)⟩
  · exact absurd rfl e
theorem callI_no (F : FunD K.K x qual params body scope [] kws f fd) (n : Nat) (ks : List Str) (ix : List Nat)
    (h : ∀ (kV doc pm : Value) (an : Option Addr) (cdv ct : Value) (z : Value) (us ws : List Value), us.length = n → ws.length = ks.length → bindArgs (PySem.W.fnOf x qual params body scope .none kV doc pm an cdv ct) ⟨z :: us, ks.zip ws⟩ = pure (ps.zip (z :: pick .none ix (us ++ ws)))) : CallI K fd ps n ks ix [] := by
  obtain ⟨oc, od, dV, kV, doc, pm, an, cdv, ct, osl, rfl, lk, hcd, hD, hK⟩ := F.ex
  rcases hD with ⟨_, rfl⟩ | ⟨e, _⟩
  · exact ⟨[], [], .nil, fun _ _ => rfl, fun s z us ws _ h1 h2 => by rw [List.append_nil]; exact .of_eq (h kV doc pm an cdv ct z us ws h1 h2)⟩
  · exact absurd rfl e
theorem callI_df (F : FunD K.K x qual params body scope dvs kws f fd) (hd : dvs ≠ []) (n : Nat) (ks : List Str) (ix : List Nat) {dds : List D} (hdd : ∀ F adr, RpL K F adr dds dvs)
    (h : ∀ (T : Addr) (kV doc pm : Value) (an : Option Addr) (cdv ct : Value) (z : Value) (us ws its : List Value), us.length = n → ws.length = ks.length → its.length = dvs.length →
      ∃ k, bindArgs (PySem.W.fnOf x qual params body scope (.ref T) kV doc pm an cdv ct) ⟨z :: us, ks.zip ws⟩ = seqItems? (.ref T) >>= k ∧ k (some its.toArray) = pure (ps.zip (z :: pick .none ix (us ++ ws ++ its)))) : CallI K fd ps n ks ix dds := by
  obtain ⟨oc, od, dV, kV, doc, pm, an, cdv, ct, osl, rfl, lk, hcd, hD, hK⟩ := F.ex
  rcases hD with ⟨e, _⟩ | ⟨_, T, o, its, m, rfl, lT, oT, rT⟩
  · exact absurd e hd
  · refine ⟨its, dvs, rT, hdd, fun s z us ws X h1 h2 => BindsTo.of_looks fun M => ?_⟩
    obtain ⟨k, e1, e2⟩ := h T kV doc pm an cdv ct z us ws its h1 h2 rT.length.symm
    rw [e1]
    exact looks_items X lT oT (.of_pure e2)
theorem callI_all (F : FunD K.K x qual params body scope dvs kws f fd) (hd : dvs ≠ []) (n : Nat) (ks : List Str) (ix : List Nat)
    (h : ∀ (T : Addr) (kV doc pm : Value) (an : Option Addr) (cdv ct : Value) (z : Value) (us ws its : List Value), us.length = n → ws.length = ks.length → its.length = dvs.length →
      ∃ k, bindArgs (PySem.W.fnOf x qual params body scope (.ref T) kV doc pm an cdv ct) ⟨z :: us, ks.zip ws⟩ = seqItems? (.ref T) >>= k ∧ k (some its.toArray) = pure (ps.zip (z :: pick .none ix (us ++ ws)))) : CallI K fd ps n ks ix [] := by
  obtain ⟨oc, od, dV, kV, doc, pm, an, cdv, ct, osl, rfl, lk, hcd, hD, hK⟩ := F.ex
  rcases hD with ⟨e, _⟩ | ⟨_, T, o, its, m, rfl, lT, oT, rT⟩
  · exact absurd e hd
  · refine ⟨[], [], .nil, fun _ _ => rfl, fun s z us ws X h1 h2 => BindsTo.of_looks fun M => ?_⟩
    obtain ⟨k, e1, e2⟩ := h T kV doc pm an cdv ct z us ws its h1 h2 rT.length.symm
    rw [e1, List.append_nil]
    exact looks_items X lT oT (.of_pure e2)
end
end Bx
namespace Bx
open PySem L2 PySem.Spec PyProof.Rows
open Classical in
noncomputable def blindOf (den : DenI) : DenI := fun _ _ ds μ => if ∀ x dx, den x dx ds μ = den 0 0 ds μ then den 0 0 ds μ else .bad
theorem blind_of {den : DenI} : Blind (blindOf den) := fun _ _ _ _ => rfl
theorem blindOf_ok {den : DenI} {ds : List D} {μ : List MO} {r : RI} {x dx : Addr} (h : ∀ x dx, den x dx ds μ = r) : blindOf den x dx ds μ = r := by
  unfold blindOf
  rw [if_pos fun x dx => (h x dx).trans (h 0 0).symm]
  exact h 0 0
theorem spI_blind {K : KK} {cn : Str} {n : Nat} {den : DenI} {vs : List V} {H : Hp} {Q : VK} {E : XK} (h : spI K cn n (blindOf den) vs H Q E) : spI K cn n den vs H Q E := by
  obtain ⟨F, adr, μ, ds, x, dx, r, h1, h2, h3, h4, h5, h6, h7, h8⟩ := h
  refine ⟨F, adr, μ, ds, x, dx, r, h1, h2, h3, h4, h5, h6, h7, ?_⟩
  unfold blindOf at h8
  by_cases hb : ∀ x dx, den x dx ds μ = den 0 0 ds μ
  · rw [if_pos hb] at h8
    rw [hb x dx]
    exact h8
  · rw [if_neg hb] at h8
    exact h8.elim
theorem FnG.blind {P : Program} {w : World} {K : PySem.W.Frag} {mg : Str → Option Value} {base : Heap} {k n : Nat} {f : Addr} {fd : FuncData} {ps : List Str} {K0 : KK} {cn : Str} {den : DenI} (G : FnG P w K mg base k f fd ps (spI K0 cn n den)) : FnG P w K mg base k f fd ps (spI K0 cn n (blindOf den)) :=
  ⟨fun vs H Q E h => G.len vs H Q E (spI_blind h), fun A outer s H args us vs Q E hr hg e0 hb rv h => G.run A outer s H args us vs Q E hr hg e0 hb rv (spI_blind h)⟩
theorem gl_of {X : Cx} {x : Str} (h : X.env.kindOf x = some .globalImplicit) : Gl X x := h
def kEq : Option NameKind → NameKind → Bool
  | some a, b => a == b
  | none, _ => false
def blkB (N : List Str) (sc scope : Scope) (own : List (Str × Nat)) : Bool := scope.kind == .function && ((scope.names.all fun y => kEq (scope.names.lookup y.1) y.2) && ((own.all fun p => N[p.2]? == some p.1) &&
  ((scope.names.all fun y => !(y.2 == .free) || (kEq (sc.names.lookup y.1) .cell || kEq (sc.names.lookup y.1) .free)) && (scope.names.all fun y => !(y.2 == .local || y.2 == .cell) || ((own.map (·.1)).contains y.1 || !N.contains y.1)))))
theorem kEq_ok {o : Option NameKind} {k : NameKind} (h : kEq o k = true) : o = some k := by
  cases o with
  | none => cases h
  | some a => rw [show a = k from eq_of_beq h]
theorem blkOk_of {N : List Str} {sc scope : Scope} {own : List (Str × Nat)} (h : blkB N sc scope own = true) : BlkOk N sc scope own := by
  unfold blkB at h
  obtain ⟨h1, h⟩ := He.ba h
  obtain ⟨h2, h⟩ := He.ba h
  obtain ⟨h3, h⟩ := He.ba h
  obtain ⟨h4, h5⟩ := He.ba h
  refine ⟨eq_of_beq h1, fun y hy => kEq_ok (List.all_eq_true.mp h2 y hy), fun p hp => eq_of_beq (List.all_eq_true.mp h3 p hp), fun y hy e => ?_, fun y hy e => ?_⟩
  · have := List.all_eq_true.mp h4 y hy
    rw [Bool.or_eq_true, Bool.or_eq_true] at this
    rcases this with z | z | z
    · rw [e] at z; exact absurd z (by decide)
    · exact .inl (kEq_ok z)
    · exact .inr (kEq_ok z)
  · have := List.all_eq_true.mp h5 y hy
    rw [Bool.or_eq_true, Bool.or_eq_true] at this
    rcases this with z | z | z
    · rcases e with e | e <;> (rw [e] at z; exact absurd z (by decide))
    · exact .inl (by simpa using z)
    · exact .inr (by simpa using z)
end Bx
namespace Bx
open PySem L2 PySem.Spec PyProof.Rows
section
variable {X : Cx} {W : WX} {K : KK} {F F' H H' : Hp} {adr adr' : List Addr} {s s' : S} {σ σ' : L2.St} {d : D} {v : V} {e a b c tg o i iter : Expr} {es ts : List Expr} {m ma mb mc mo mi : M D} {ms : List (M D)} {pos apos : Pos} {E : Ends} {Q : L2.St → Hp → Prop}
def extD (d x : D) : M D := fun s => match s.mo d, x with
  | some (.lst xs), .lst zs => if xs.length + zs.length ≤ 100000 then .ok .non (s.mut d (.lst (xs ++ zs))) else .bad
  | _, _ => .bad
def mext (m a : M D) : M D := bnd m fun d => bnd (chk isL d) fun d => bnd (mal [a]) (on1 (extD d))
theorem str_of_none {prog : Program} {w : World} {A : Around} {E : Value → Shared → Prop} {s : Shared} {Q : Value → Shared → Prop} (h : Q (.str "None" s.toks) { s with toks := s.toks + 1 }) : wpAny (model prog w) A (call (.type "str") [.none]) Q E s :=
  callType_new PySem.F.called_str (by decide) (PySem.F.typeCall_str_1 _) (PySem.F.newCall_str_1 _) (fun obj => PySem.F.args_object_init_2 obj _) PySem.F.entry_str_new
    (PySem.meets_str_new (S := fun _ R s => R (.ok (.ret (.str "None" s.toks))) { s with toks := s.toks + 1 }) fun _ _ _ _ s hq =>
      PySem.wpAny_strOf_gives rfl (typeIs_none s) PySem.F.slot_NoneType_str PySem.F.slot_NoneType_repr PySem.F.entry_NoneType_repr (PySem.F.args_NoneType_repr_1 _) PySem.gives_none_repr hq (hsz := by decide)) ⟨typeIs_str _ _ _, h⟩
theorem call_str_none : CallR X (.type "str") (fun xs H Q => xs = [.non] ∧ Q (.str "None") H) := by
  intro pins s σ H xs us Q I r h
  obtain ⟨rfl, q⟩ := h
  obtain ⟨u, rfl, t⟩ := vals1 r
  cases t
  exact str_of_none ⟨.str _, H, I.tok _, ⟨_, rfl⟩, q⟩
/-- str of a text, a number, None -/
def strD (d : D) : M D := fun s => match rsl s d with
  | .str x => .ok (.str x) s
  | .int i => if i.natAbs.log2 < 1920 then .ok (.str (toString i : String)) s else .bad
  | .non => .ok (.str "None") s
  | _ => .bad
theorem cr_str : CallR X (.type "str") (rCI (kk X) W (f1 strD)) := CallR.imp (SkE.call_str_str.or (call_str_int.or call_str_none)) fun xs H Q h => by
  obtain ⟨x, rfl, F, adr, s, σ, d, ab, r, po⟩ := f1_of h
  have t := ab.t r
  unfold strD at po
  generalize rsl s d = e1 at *
  cases e1 <;> try (exact po.elim)
  case str z => rw [RpT.str t]; exact .inl ⟨z, rfl, Post.at ab po rfl⟩
  case int z =>
    by_cases hz : z.natAbs.log2 < 1920
    · simp only [hz, if_true] at po
      rw [RpT.int t]
      exact .inr (.inl ⟨z, rfl, hz, Post.at ab po rfl⟩)
    · simp only [hz, if_false] at po; exact po.elim
  case non =>
    have e : x = .non := t
    subst e
    exact .inr (.inr ⟨rfl, Post.at ab po rfl⟩)
def lookK (k : Key) : List (Key × D) → Option D
  | [] => none
  | (j, d) :: r => if j = k then some d else lookK k r
def keepR (ρ0 : List Sl) : List Nat → List Sl → List Sl
  | [], ρ => ρ
  | j :: vs, ρ => match ρ0[j]? with
    | some (.val d) => (keepR ρ0 vs ρ).set j (.val d)
    | _ => keepR ρ0 vs ρ
def keepS (vs : List Nat) (s0 s : S) : S := { s with ρ := keepR s0.ρ vs s.ρ }
def kept (vs : List Nat) (m : M D) : M D := fun s => match m s with
  | .ok d s' => .ok d (keepS vs s s')
  | r => r
theorem Abs.know {j : Nat} (ab : Abs K F adr s σ H) (h : σ[j]? = some (some v)) (r : Rp K F adr d v) : (∀ x, Fp adr { s with ρ := s.ρ.set j (.val d) } σ x → Fp adr s σ x) ∧ Abs K F adr { s with ρ := s.ρ.set j (.val d) } σ H := by
  have own : ∀ (i : Nat) (m' : MO), (s.ρ.set j (Sl.val d))[i]? = some (Sl.own m') → s.ρ[i]? = some (Sl.own m') := fun i m' g => by
    rcases set_back g with ⟨e1, e2, e3⟩ | ⟨n1, n2⟩
    · cases e2
    · exact n2
  refine ⟨fun x z => ?_, ⟨⟨ab.sub, ab.len, ab.nd, ab.sto⟩, by simp [ab.lenr], fun i d' g => ?_, fun i m' g => ab.slo i m' (own i m' g), fun i i' m1 m2 l g1 g2 => ab.dis i i' m1 m2 l (own i m1 g1) (own i' m2 g2)⟩⟩
  · rcases z with z | ⟨i, m', z1, z2⟩
    · exact .inl z
    · exact .inr ⟨i, m', own i m' z1, z2⟩
  · rcases set_back (show (s.ρ.set j (.val d))[i]? = some (.val d') from g) with ⟨e1, e2, e3⟩ | ⟨n1, n2⟩
    · cases e2; subst e1; exact ⟨v, h, r⟩
    · exact ab.slv i d' n2
theorem Abs.keeps {F0 : Hp} {adr0 : List Addr} {s0 : S} {H0 : Hp} (ab0 : Abs K F0 adr0 s0 σ H0) (ex : Ex F0 F) (pre : adr0 <+: adr) : ∀ (vs : List Nat) {s : S}, Abs K F adr s σ H → (∀ x, Fp adr (keepS vs s0 s) σ x → Fp adr s σ x) ∧ Abs K F adr (keepS vs s0 s) σ H
  | [], s, ab => ⟨fun _ h => h, ab⟩
  | j :: vs, s, ab => by
    obtain ⟨i1, i2⟩ := Abs.keeps ab0 ex pre vs ab
    show (∀ x, Fp adr { s with ρ := keepR s0.ρ (j :: vs) s.ρ } σ x → Fp adr s σ x) ∧ Abs K F adr { s with ρ := keepR s0.ρ (j :: vs) s.ρ } σ H
    unfold keepR
    cases e : s0.ρ[j]? with
    | none => exact ⟨i1, i2⟩
    | some sl =>
      cases sl with
      | val d =>
        obtain ⟨v, q1, q2⟩ := ab0.slv j d e
        obtain ⟨y1, y2⟩ := i2.know q1 (q2.mono ex pre)
        exact ⟨fun x z => i1 x (y1 x z), y2⟩
      | _ => exact ⟨i1, i2⟩
end
end Bx
namespace Bx
open PySem L2 PySem.Spec PyProof.Rows
section
variable {X : Cx} {W : WX} {K : KK} {F F' H H' : Hp} {adr adr' : List Addr} {s s' : S} {σ σ' : L2.St} {d : D} {v : V} {e a b c tg tg1 o i iter iter1 elt kx vx : Expr} {es ts : List Expr} {m ma mb mc mo mi : M D} {ms : List (M D)} {pos apos : Pos} {E : Ends} {Q : L2.St → Hp → Prop}
def putKD (k : Key) (x : D) (kds : List (Key × D)) : List (Key × D) := if kds.any (fun kv => decide (kv.1 = k)) then kds.map (fun kv => if kv.1 = k then (kv.1, x) else kv) else kds ++ [(k, x)]
theorem RpK.keys : ∀ {ds : List (Key × D)} {kvs : List (Key × V)}, RpK K F adr ds kvs → kvs.map (·.1) = ds.map (·.1)
  | [], _, h => by cases h; rfl
  | (_, _) :: ds, _, ⟨v, r, q, h1, h2⟩ => by subst q; rw [List.map_cons, List.map_cons, RpK.keys h2]
theorem RpK.length {ds : List (Key × D)} {kvs : List (Key × V)} (h : RpK K F adr ds kvs) : kvs.length = ds.length := by
  have := congrArg List.length h.keys
  rwa [List.length_map, List.length_map] at this
theorem RpK.append : ∀ {ds es : List (Key × D)} {vs ws : List (Key × V)}, RpK K F adr ds vs → RpK K F adr es ws → RpK K F adr (ds ++ es) (vs ++ ws)
  | [], _, _, _, h, g => by cases h; exact g
  | (_, _) :: ds, _, _, _, ⟨v, r, q, h1, h2⟩, g => by subst q; exact ⟨v, _, rfl, h1, RpK.append h2 g⟩
theorem RpK.repl {k : Key} {x : D} (hv : Rp K F adr x v) : ∀ {ds : List (Key × D)} {kvs : List (Key × V)}, RpK K F adr ds kvs → RpK K F adr (ds.map fun kv => if kv.1 = k then (kv.1, x) else kv) (kvs.map fun kv => if kv.1 = k then (kv.1, v) else kv)
  | [], _, h => by cases h; rfl
  | (j, y) :: ds, _, ⟨u, r, q, h1, h2⟩ => by
    subst q
    rw [List.map_cons, List.map_cons]
    by_cases e : j = k
    · simp only [e, if_true]; exact ⟨v, _, rfl, hv, RpK.repl hv h2⟩
    · simp only [e, if_false]; exact ⟨u, _, rfl, h1, RpK.repl hv h2⟩
theorem RpK.put {k : Key} {x : D} {ds : List (Key × D)} {kvs : List (Key × V)} (h : RpK K F adr ds kvs) (hv : Rp K F adr x v) : RpK K F adr (putKD k x ds) (putK kvs k v) := by
  have e : (kvs.any fun kv => decide (kv.1 = k)) = ds.any fun kv => decide (kv.1 = k) := by
    have h1 : (kvs.any fun kv => decide (kv.1 = k)) = (kvs.map (·.1)).any fun j => decide (j = k) := by rw [List.any_map]; rfl
    have h2 : (ds.any fun kv => decide (kv.1 = k)) = (ds.map (·.1)).any fun j => decide (j = k) := by rw [List.any_map]; rfl
    rw [h1, h2, h.keys]
  unfold putKD putK
  rw [e]
  by_cases hc : (ds.any fun kv => decide (kv.1 = k)) = true
  · rw [if_pos hc, if_pos hc]; exact h.repl hv
  · rw [if_neg hc, if_neg hc]; exact h.append ⟨v, [], rfl, hv, rfl⟩
def dloop (vs : List Nat) (asg : D → MS) (t : M Bool) (ek ev : M D) : List D → List (Key × D) → S → R D
  | [], acc, s => .ok (.dct acc) (wipeS vs s)
  | d :: r, acc, s => match asg d s with
    | .nx s1 => match t s1 with
      | .ok true s2 => match ek s2 with
        | .ok kd s3 => match keyD kd with
          | some k => match stl ev s3 with
            | .ok y s4 => if acc.length < 100000 then dloop vs asg t ek ev r (putKD k y acc) (wipeS vs s4) else .bad
            | _ => .bad
          | none => .bad
        | _ => .bad
      | .ok false s2 => dloop vs asg t ek ev r acc (wipeS vs s2)
      | _ => .bad
    | _ => .bad
def mdcomp (vs : List Nat) (it : M (List D)) (asg : D → MS) (t : M Bool) (ek ev : M D) : M D := bnd it fun items s => dloop vs asg t ek ev items [] (wipeS vs s)
end
def etB (K : PySem.W.Frag) (f : Str × Option Str) (i : Nat) : Bool := match K.lookup (He.dflAt f i K) with
  | some ⟨.type c, none, .seq its _, _⟩ => decide (c = "tuple") && decide (its.size = 0)
  | _ => false
theorem etB_ok {K : PySem.W.Frag} {f : Str × Option Str} {i : Nat} (h : etB K f i = true) (H : Hp) : SqX K H (He.dflAt f i K) [] := by
  unfold etB at h
  cases q : K.lookup (He.dflAt f i K) with
  | none => rw [q] at h; cases h
  | some o =>
    obtain ⟨oc, od, dt, osl⟩ := o
    rw [q] at h
    cases oc with
    | type c =>
      cases od with
      | some _ => cases h
      | none =>
      cases dt with
      | seq its n =>
        have h' : (decide (c = "tuple") && decide (its.size = 0)) = true := h
        obtain ⟨h1, h2⟩ := He.ba h'
        have e1 := of_decide_eq_true h1
        have e2 := of_decide_eq_true h2
        subst e1
        have e3 : its.toList = [] := by
          apply List.eq_nil_of_length_eq_zero
          simpa using e2
        exact .inr ⟨_, its, n, q, rfl, rfl, by rw [e2]; exact Nat.zero_le _, by rw [e3]; exact .nil, rfl⟩
      | _ => cases h
    | _ => cases h
end Bx
namespace Bx
open PySem L2 PySem.Spec PyProof.Rows
section
variable {X : Cx} {W : WX} {K : KK} {F F' H H' : Hp} {adr adr' : List Addr} {s s' : S} {σ σ' : L2.St} {d : D} {v : V} {e a b c tg o i iter : Expr} {es ts : List Expr} {m ma mb mc mo mi : M D} {ms : List (M D)} {pos apos : Pos} {E : Ends} {Q : L2.St → Hp → Prop}
def inK (neg : Bool) : D → D → M D := fun x y s => match rsl s y, keyD x with
  | .dct kds, some k => .ok (.bl (if neg then !(lookK k kds).isSome else (lookK k kds).isSome)) s
  | _, _ => .bad
end
end Bx
namespace Bx
open PySem L2 PySem.Spec PyProof.Rows
section
variable {X : Cx} {W : WX} {K : KK} {F F' H H' : Hp} {adr adr' : List Addr} {s s' : S} {σ σ' : L2.St} {d : D} {v : V} {e a b c tg o i iter : Expr} {es ts : List Expr} {m ma mb mc mo mi : M D} {ms : List (M D)} {pos apos : Pos} {E : Ends}
def isTup (s : S) (d : D) : Bool := match d with
  | .tup _ => true
  | _ => false
def mtm (f : D → D → M D) (m a : M D) : M D := bnd m fun d => bnd (settle d) fun d => bnd (chk isTup d) fun d => bnd (mal [a]) (on1 (f d))
def isBD : D → D → M D := fun a b s => match a, b with
  | .bl x, .bl y => .ok (.bl (decide (x = y))) s
  | _, _ => .bad
def notBD : D → D → M D := fun a b s => match a, b with
  | .bl x, .bl y => .ok (.bl (!decide (x = y))) s
  | _, _ => .bad
end
end Bx
namespace Bx
open PySem L2 PySem.Spec PyProof.Rows
def uniq (ks : List Key) : List Key := ks.foldl addK []
section
variable {X : Cx} {W : WX} {K : KK} {F F' H H' : Hp} {adr adr' : List Addr} {s s' : S} {σ σ' : L2.St} {d : D} {v : V} {e a b c tg o i iter : Expr} {es ts : List Expr} {m ma mb mc mo mi : M D} {ms : List (M D)} {pos apos : Pos} {E : Ends}
def keysD : List D → Option (List Key)
  | [] => some []
  | d :: r => match keyD d, keysD r with
    | some k, some l => some (k :: l)
    | _, _ => none
def isStrB (s : S) (d : D) : Bool := match d with
  | .str _ => true
  | _ => false
def splD (d x : D) : M D := fun s => match d, x with
  | .str a, .str b => if (b.length == 0) = false ∧ a.length ≤ 100000 then .ok (.lst ((Txt.split a b).map .str)) s else .bad
  | _, _ => .bad
def mspl (m a : M D) : M D := bnd m fun d => bnd (chk isStrB d) fun d => bnd (mal [a]) (on1 (splD d))
theorem se_split (ho : SE X W o m) (ha : SAL X W [e] (mal [ma])) (hbase : attributeBase o "split" X.env (eval o X.env) = eval o X.env := by rfl)
    (hfew : ((backTo pos (starEach [e] X.env)).all (fun x => !x.1) && (backToKw pos (keywordEach [] X.env)).all (fun x => x.1.isSome) && decide ([e].length + ([] : List Keyword).length + (if ([] : List Keyword).isEmpty then 0 else 1) < 30)) = true := by rfl)
    (hline : (apos.endLine == pos.line) = true := by rfl) (hs : starEach [e] X.env = (false, eval e X.env) :: starEach [] X.env := by rfl) (hplain : (backTo pos (starEach [] X.env)).any (·.1) = false := by rfl) :
    SE X W (.Call (.Attribute o "split" apos) [e] [] pos) (mspl m ma) :=
  PE.imp (pe_bm PySem.F.plainAttrs_str PySem.F.slot_str_split PySem.F.type_str_split mt_split ho ha hbase hfew hline hs hplain) fun σ H Q t => by
    obtain ⟨F, adr, s, ab, po⟩ := t
    refine ⟨F, adr, s, ab, (PostG.bind po).imp ?_⟩
    rintro x H1 ⟨F1, adr1, d1, s1, st1, ab1, rp1, po1⟩
    obtain ⟨hc, po2⟩ := chk_bind po1
    cases d1 <;> first | (cases hc; done) | skip
    rename_i z
    have ex : x = .str z := rp1
    subst ex
    refine ⟨rfl, F1, adr1, s1, ab1, (PostG.bind po2).imp ?_⟩
    rintro xs H2 ⟨F2, adr2, ds, s2, st2, ab2, rp2, po3⟩
    obtain ⟨y, rfl, po4⟩ := on1_ok po3
    obtain ⟨w, r, q, g1, g2⟩ := rp2
    have e0 : r = [] := g2
    subst e0 q
    cases y <;> try (exact po4.elim)
    rename_i y
    have ew : w = .str y := g1
    subst ew
    unfold splD at po4
    by_cases hl : (y.length == 0) = false ∧ z.length ≤ 100000
    · simp only [hl, and_self, if_true] at po4
      refine ⟨z, y, rfl, rfl, hl.1, by rw [sizeLine_eq]; omega, fun p hp => ?_⟩
      exact Post.new ab2 po4 hp ⟨p, _, rfl, upd_same, rpl_strs' _⟩
    · simp only [hl, if_false] at po4
      exact po4.elim
end
end Bx
namespace Bx
open PySem L2 PySem.Spec PyProof.Rows
/-- the builtin class below them -/
structure XB (B newId initId : String) (bmB : List Value) : Prop where
  base : ExcBaseFacts B newId initId bmB
  store : PySem.StoreFacts B bmB "object.__setattr__" "object"
  hand : PySem.W.handedIn (.builtin initId) = true
theorem xbVE : XB "ValueError" "ValueError.__new__" "ValueError.__init__" [.type "ValueError", .type "Exception", .type "BaseException", .type "object"] := ⟨F.excBase_ValueError, F.store_ValueError, by decide +kernel⟩
/-- one of them at C, by the written part -/
structure Ox (K : PySem.W.Frag) (C : Addr) (bmB : List Value) (newId : String) : Prop where
  ini : PySem.W.excInitIn K C bmB newId = true
  over : PySem.W.excOver K C bmB = true
  dict : PySem.W.hasDictIn K C = true
  sa : PySem.W.findIn K (.ref C) "__setattr__" = some (some (.builtin "object.__setattr__"))
  exC : PySem.W.subIn K (.ref C) (.type "BaseException") = some true
  tyC : PySem.W.typeIn K (.ref C) = some (.type "type")
  kC : PySem.W.keepIn K (.ref C) = true
section
variable {X : Cx} {pins : List (Addr × Obj)} {σ : L2.St} {H : Hp} {s : Shared} {a C dx : Addr} {f : Str} {y : V} {u : Value} {E : Value → Shared → Prop} {A : Around} {B newId initId : String} {bmB : List Value}
/-- self.f = y on a new exception -/
theorem ox_store {Q : Unit → Shared → Prop} (xb : XB B newId initId bmB) (T : Ox X.K C bmB newId) (I : Inv X pins σ H s) (e : H a = some (exo a C none)) (hno : PySem.W.findIn X.K (.ref C) f = some none) (ry : RelV y u)
    (h : ∀ dx s', H dx = none → dx ≠ a → Inv X pins σ (upd (upd H dx (exd dx [(f, y)])) a (exo a C (some dx))) s' → Q () s') : wpAny (model X.prog X.w) A (setAttr (.ref a) f u) Q E s := by
  obtain ⟨t1, ho⟩ := exo_at I.hok e
  obtain ⟨hp, g, d, t, os⟩ := s
  obtain ⟨cd, hc, hd'⟩ := PySem.W.any_some T.dict
  refine PySem.W.set_plain I.kIn (ox := { cls := .ref C, dict := none, data := .fields #[.ref t1, .none, .none, .none, .bool false, .none] }) (od := none) ⟨ho, rfl, rfl, trivial⟩ T.sa ?_
  refine PySem.W.osa_openX (s := ⟨hp, g, d, t + 1, os⟩) (od := none) (r := none) xb.store I.kIn ⟨ho, rfl, rfl, trivial⟩ T.over (by unfold PySem.W.takerIn; rw [hno]; rfl) fun b => ?_
  have hxs : a < hp.objs.size := Heap.lt_size ho
  have hx1 : (hp.push (PySem.W.dictOf [] 0)).get? a = some { cls := .ref C, dict := none, data := .fields #[.ref t1, .none, .none, .none, .bool false, .none] } := Heap.get?_push_of_some _ ho
  refine wpAny_bind (wpAny_pure (wpAny_bind (PySem.W.instanceDict_exc (s := ⟨hp, g, d, t + 1, os⟩) (t := t1) (c2 := .none) ho (PySem.W.looks_clsIn I.kIn hc) hd' ?_)))
  show wpAny _ _ (PySem.Builtin.ObjectAttr.storeInDict hp.objs.size (.str f t) f u) _ _ _
  refine PySem.HandSPX.store_in_new ⟨PySem.W.dictOf [] 0, #[], 0, (Heap.get?_update_ne _ _ _ _ (Nat.ne_of_gt hxs)).trans (Heap.get?_push_size _ rfl), rfl, fun e he => absurd he (by simp), fun _ => rfl⟩ fun h' tk' hn hs => ?_
  have k : ∀ b o, b ≠ a → hp.get? b = some o → h'.get? b = some o := fun b o hb z => (hs.2 b (Nat.ne_of_lt (Heap.lt_size z))).trans ((Heap.get?_update_ne _ _ _ _ hb).trans (Heap.get?_push_of_some _ z))
  have hx : h'.get? a = some { cls := .ref C, dict := some hp.objs.size, data := .fields #[.ref t1, .none, .none, .none, .bool false, .none] } := (hs.2 a (Nat.ne_of_lt hxs)).trans (Heap.get?_update_self _ hx1 rfl)
  have hnd : H hp.objs.size = none := I.hok.fresh (Nat.le_refl _)
  have nd : ∀ {b : Addr} {o : Obj}, hp.get? b = some o → b ≠ hp.objs.size := fun z => Nat.ne_of_lt (Heap.lt_size z)
  have na : ∀ {b : Addr}, H b = none → b ≠ a := fun n z => by rw [z, e] at n; cases n
  have U : Un X.fs [] H (upd (upd H hp.objs.size (exd hp.objs.size [(f, y)])) a (exo a C (some hp.objs.size))) hp h' := {
    keep := fun b o q n _ _ => k b o (na n) q
    slot := fun b o q n _ _ => ⟨o.slots, k b o (na n) q⟩
    free := fun b o q n _ => by rw [upd_ne (na n), upd_ne (nd q)]; exact n
    there := fun b o q _ => by
      by_cases hb : b = a
      · exact ⟨_, by rw [hb]; exact hx⟩
      · exact ⟨o, k b o hb q⟩
    tups := fun b xs q => by rw [upd_ne (at_ne e q exo_tup), upd_ne (ne_of_none q hnd)]; exact q
    frzs := fun b o v q => by rw [upd_ne (at_ne e q exo_frz), upd_ne (ne_of_none q hnd)]; exact q
    tbls := fun b ps q => ⟨#[], by rw [upd_ne (at_ne e q exo_tbl), upd_ne (ne_of_none q hnd), q]; simp⟩ }
  refine h _ _ hnd (Nat.ne_of_gt hxs) (I.un (t' := tk') U fun b o q => ?_)
  by_cases hb : b = a
  · subst hb
    rw [upd_same] at q
    cases q
    exact exo_ok hx
  · rw [upd_ne hb] at q
    by_cases hd : b = hp.objs.size
    · subst hd
      rw [upd_same] at q
      cases q
      exact exd_ok hn (relO_put (fs := []) ry fun g => True.intro)
    · rw [upd_ne hd] at q
      refine (I.hok b o q).stay (fun c v hc z => k c v ?_ z) (fun c hc => by rw [upd_ne (at_ne e hc exo_own), upd_ne (ne_of_none hc hnd)]; exact hc) (fun c xs hc => by rw [upd_ne (at_ne e hc exo_tup), upd_ne (ne_of_none hc hnd)]; exact hc)
      rcases hc with hc | hc
      · rw [hc]; exact hb
      · exact at_ne e hc exo_own
/-- the builtin __init__ below -/
theorem ox_base {us : List Value} {Q : Value → Shared → Prop} (xb : XB B newId initId bmB) (T : Ox X.K C bmB newId) (I : Inv X pins σ H s) (e : H a = some (exo a C none)) (hl : us.length ≤ sizeLine) (h : ∀ s', Inv X pins σ H s' → Q .none s') :
    wpAny (model X.prog X.w) A (call (.builtin initId) (.ref a :: us)) Q E s := by
  obtain ⟨nm, N, qn, bs, bm, hdct, sn, sub, ab, col, dd, k0, k1, k2, k3, k5, hC, hT⟩ := PySem.W.excInit_of I.kIn T.ini
  obtain ⟨t1, ho⟩ := exo_at I.hok e
  obtain ⟨hp, g, d, t, os⟩ := s
  refine wpAny_call (PySem.HandSPX.init_base xb.base hT hC ho hl fun h' t2 k hx => ?_)
  have J := I.write (t' := t) (x := a) (e := a) (o := exo a C none) (by rw [e]; exact True.intro) (.inl rfl) k ⟨_, hx⟩ (exo_ok hx)
  have eu : upd H a (exo a C none) = H := by
    funext b
    by_cases hb : b = a
    · rw [hb, upd_same, e]
    · rw [upd_ne hb]
  rw [eu] at J
  exact h _ J
end
end Bx
namespace Bx
open PySem L2 PySem.Spec PyProof.Rows
theorem takesF {X : Cx} : Takes X (fun _ _ _ _ => False) := fun _ _ ⟨_, _, _, _, _, _, _, _, _, _, _, _, _, _, _, _, w⟩ => w.elim
section
variable {X : Cx} {C CB : Addr} {f bn sf y txt : Str} {B newId initId : String} {bmB : List Value} {i k j : Nat} {p1 p2 p3 p4 pos : Pos}
/-- base.__init__(self, 'text') -/
def tXini (C : Addr) (i : Nat) : TE := fun σ H Q => ∃ a, σ[i]? = some (some (.ref a)) ∧ H a = some (exo a C none) ∧ Q .non H
theorem pe_xinit {pl : Sem Bool} (xb : XB B newId initId bmB) (T : Ox X.K C bmB newId) (hg : Gl X bn) (hm : X.mg bn = some (.ref CB)) (rd : ClX.CRead X.K CB (.type "type")) (at_ : PySem.W.findCls X.K (.ref CB) (.type "type") "__init__" = some (.val (.builtin initId)))
    (hN : X.N[i]? = some sf) (hv : Vis X.env.scope sf) (hd1 : (sf == ("__debug__" : Str)) = false) (hd2 : (sf == ("__classdict__" : Str)) = false) (hdb : (bn == ("__debug__" : Str)) = false)
    (hc : eval (.Call (.Attribute (.Name bn p1) "__init__" p2) [.Name sf p3, .Constant (.str txt) j p4] [] pos) X.env = (do
      let ov ← eval (.Name bn p1) X.env
      standAt p2.atName
      let (f, first) ← holding [ov] (getMethod ov "__init__" pl)
      callWith pos f first (backTo pos (starEach [.Name sf p3, .Constant (.str txt) j p4] X.env)) (backToKw pos (keywordEach [] X.env)))) :
    PE X (.Call (.Attribute (.Name bn p1) "__init__" p2) [.Name sf p3, .Constant (.str txt) j p4] [] pos) (tXini C i) := by
  refine ⟨fun pins s σ H Q I h => ?_⟩
  obtain ⟨a, e1, e2, q⟩ := h
  refine PySem.W.methodCall_KW (ld_glob I hg hm ?_ hdb) hc
  refine PySem.W.method_cls I.kIn rd.ga (PySem.W.cls_value I.kIn rd.rd at_ xb.hand ?_)
  have ha : PA X [.Name sf p3, .Constant (.str txt) j p4] (tCons (tVar i) (tCons (tC (.str txt)) tNil)) := pa_cons (pe_var hN hv hd1 hd2) (pa_cons pe_str pa_nil)
  show wpAny _ _ (callWith pos (Value.builtin initId) [] (backTo pos (starEach [.Name sf p3, .Constant (.str txt) j p4] X.env)) []) _ _ _
  refine PyProof.Rows.callWith_method1 (thn (ha.run pos pins _ σ H (fun vs H1 => vs = [V.ref a, V.str txt] ∧ H1 = H) (I.tok _) ⟨_, e1, rfl, rfl⟩) fun us s1 ⟨vs, H1, I1, r1, ev, eH⟩ => ?_) rfl rfl
  subst ev eH
  cases r1 with
  | @cons _ u0 _ ur ra rw' =>
    obtain rfl : u0 = Value.ref a := ra
    have hlen : ur.length ≤ sizeLine := by
      rw [← Paired.length rw', sizeLine_eq]
      show 1 ≤ 16777216
      decide
    exact ox_base xb T I1 e2 hlen fun s' J => ⟨.non, _, J, rfl, q⟩
/-- self.f = y -/
def tXst (C : Addr) (f : Str) (i k : Nat) : TS := fun D σ H => ∃ a v, σ[i]? = some (some (.ref a)) ∧ σ[k]? = some (some v) ∧ H a = some (exo a C none) ∧ ∀ dx, H dx = none → dx ≠ a → D.nx σ (upd (upd H dx (exd dx [(f, v)])) a (exo a C (some dx)))
theorem ps_xst (xb : XB B newId initId bmB) (T : Ox X.K C bmB newId) (hno : PySem.W.findIn X.K (.ref C) f = some none) (hN : X.N[i]? = some sf) (hv : Vis X.env.scope sf) (hd1 : (sf == ("__debug__" : Str)) = false) (hd2 : (sf == ("__classdict__" : Str)) = false)
    (hN' : X.N[k]? = some y) (hv' : Vis X.env.scope y) (hd1' : (y == ("__debug__" : Str)) = false) (hd2' : (y == ("__classdict__" : Str)) = false) (hs : swapsWith (.Name y p3) (some (.Attribute (.Name sf p1) f p2)) pos.line X.env = pure false) :
    PS X (.Assign [.Attribute (.Name sf p1) f p2] (.Name y p3) pos) (tXst C f i k) := by
  refine ⟨fun pins s σ H D I h => ?_⟩
  obtain ⟨a, v, e1, e2, e3, q⟩ := h
  refine plainObj_wpAny_Assign_Attribute (thn ((pe_var hN' hv' hd1' hd2').run pins s σ H (fun w H1 => w = v ∧ H1 = H) I ⟨_, e2, rfl, rfl⟩) fun w s1 ⟨z, H1, I1, r1, ez, eH⟩ => ?_) hs
  subst ez eH
  refine thn ((pe_var hN hv hd1 hd2).run pins s1 σ H1 (fun w H2 => w = V.ref a ∧ H2 = H1) I1 ⟨_, e1, rfl, rfl⟩) fun u s2 ⟨x, H2, I2, r2, ex, eH⟩ => ?_
  subst ex eH
  obtain rfl : u = Value.ref a := r2
  exact ox_store xb T I2 e3 hno r1 fun dx s' n ne J => ⟨σ, _, J, q dx n ne⟩
/-- what such an __init__ does -/
def spX (C : Addr) (f : Str) : Sp := fun vs H Q _ => ∃ a v, vs = [.ref a, v] ∧ H a = some (exo a C none) ∧ ∀ dx, H dx = none → dx ≠ a → Q .non (upd (upd H dx (exd dx [(f, v)])) a (exo a C (some dx)))
end
theorem fnG_exc {P : Program} {w : World} {K : PySem.W.Frag} {mg : Str → Option Value} {base : Heap} {fI : Addr} {x qual : Str} {params : Arguments} {body : List Stmt} {scope : Scope} {dvs : List V} {kws : List (Str × V)} {fd : FuncData}
    {C CB : Addr} {f bn sf y txt : Str} {B newId initId : String} {bmB : List Value} {j : Nat} {p1 p2 p3 p4 p5 p6 q1 q2 q3 q4 : Pos}
    (D : FunD K x qual params body scope dvs kws fI fd) (S : FnScope [sf, y] [sf, y] scope)
    (hbody : body = [.Expr (.Call (.Attribute (.Name bn p1) "__init__" p2) [.Name sf p3, .Constant (.str txt) j p4] [] p5) p6, .Assign [.Attribute (.Name sf q1) f q2] (.Name y q3) q4])
    (xb : XB B newId initId bmB) (T : Ox K C bmB newId) (hno : PySem.W.findIn K (.ref C) f = some none) (hm : mg bn = some (.ref CB)) (rd : ClX.CRead K CB (.type "type")) (at_ : PySem.W.findCls K (.ref CB) (.type "type") "__init__" = some (.val (.builtin initId)))
    (hg : scope.names.lookup bn = some .globalImplicit) (hv : scope.names.lookup sf = some .local) (hv' : scope.names.lookup y = some .local)
    (hd1 : (sf == ("__debug__" : Str)) = false) (hd2 : (sf == ("__classdict__" : Str)) = false) (hd1' : (y == ("__debug__" : Str)) = false) (hd2' : (y == ("__classdict__" : Str)) = false) (hdb : (bn == ("__debug__" : Str)) = false)
    (hc : ∀ env : Env, ∃ pl : Sem Bool, eval (.Call (.Attribute (.Name bn p1) "__init__" p2) [.Name sf p3, .Constant (.str txt) j p4] [] p5) env = (do
      let ov ← eval (.Name bn p1) env
      standAt p2.atName
      let (f, first) ← holding [ov] (getMethod ov "__init__" pl)
      callWith p5 f first (backTo p5 (starEach [.Name sf p3, .Constant (.str txt) j p4] env)) (backToKw p5 (keywordEach [] env)))) :
    FnG P w K mg base 2 fI fd [sf, y] (spX C f) := by
  subst hbody
  refine fnG_of D S (fun vs H Q E h => by obtain ⟨a, v, rfl, _⟩ := h; rfl) fun cdv A outer s H vs Q E hr hgd hsp => ?_
  obtain ⟨a, v, rfl, ea, q⟩ := hsp
  obtain ⟨pl, hc⟩ := hc (cxOf (L2.CX P w) P w K mg base [sf, y] qual scope fI cdv A outer s H E).env
  refine ⟨_, pss_cons (ps_expr (pe_xinit (i := 0) (C := C) xb T hg hm rd at_ rfl (.inl hv) hd1 hd2 hdb hc) rfl) (pss_one (ps_xst (i := 0) (k := 1) (C := C) xb T hno rfl (.inl hv) hd1 hd2 rfl (.inl hv') hd1' hd2' rfl)), ?_⟩
  exact ⟨a, rfl, ea, a, v, rfl, rfl, ea, q⟩
section
variable {X : Cx} {C fI : Addr} {f x sf y : Str} {B newId initId : String} {bmB : List Value} {k : Nat} {fd : FuncData} {e : Expr} {te : TE} {p pos : Pos}
/-- C(e) -/
theorem pmk_ox (xb : XB B newId initId bmB) (T : Ox X.K C bmB newId) (iC : PySem.W.findIn X.K (.ref C) "__init__" = some (some (.ref fI))) (tI : PySem.W.typeIn X.K (.ref fI) = some (.type "function"))
    (G : FnG X.prog X.w X.K X.mg X.base k fI fd [sf, y] (spX C f)) (hr : Room (k + 1) X.A) (hgd : X.A.guards = some []) (hb : Binds X.K fd [sf, y] []) (hg : Gl X x) (hm : X.mg x = some (.ref C)) (he : PE X e te) (htm : ∀ (σ : L2.St) (H : Hp) (Q Q' : VK), te σ H Q → (∀ v H1, Q v H1 → Q' v H1) → te σ H Q')
    (hdb : (x == ("__debug__" : Str)) = false := by decide) (hst : starEach [e] X.env = (false, eval e X.env) :: starEach [] X.env := by rfl) :
    PMk X (.Call (.Name x p) [e] [] pos) (fun σ H Q => te σ H fun v H1 => ∀ d, H1 d = none → Q (.ref C) (some d) (upd H1 d (.xd [(f, v)]))) := by
  intro pins s σ H Q I h
  refine wpAny_Call_Name_kw (ld_glob I hg hm ?_ hdb)
  have ha : PA X [e] (tCons te tNil) := pa_cons he pa_nil hst
  refine PySem.W.callWith_K (h₀ := X.base) I.ok.mod.kin T.kC (thn (ha.run pos pins s σ H (fun vs H1 => ∃ v, vs = [v] ∧ ∀ d, H1 d = none → Q (.ref C) (some d) (upd H1 d (.xd [(f, v)]))) I (htm _ _ _ _ h fun v H1 q => ⟨v, rfl, q⟩)) fun us s1 ⟨vs, H1, I1, r1, v, ev, q1⟩ => ⟨I1.kIn, ?_⟩) hst rfl
  subst ev
  cases r1 with
  | @cons _ u0 _ ur ra rn =>
    cases rn
    show wpAny _ _ (call (.ref C) [u0]) _ _ _
    obtain ⟨nm, N, qn, bs, bm, hdct, sn, sub, ab, col, dd, k0, k1, k2, k3, k5, hC, hT⟩ := PySem.W.excInit_of I1.kIn T.ini
    obtain ⟨hp, g, dr, tk, os⟩ := s1
    have hsz : hp.objs.size ≤ hp.objs.size + 1 := Nat.le_succ _
    have hn : H1 (hp.objs.size + 1) = none := I1.hok.fresh hsz
    have kk : ∀ b o, hp.get? b = some o → ((hp.push (PySem.W.kdv_tup [u0])).push (PySem.HandSPX.excO C hp.objs.size)).get? b = some o := fun b o e => Heap.get?_push_of_some _ (Heap.get?_push_of_some _ e)
    have hget : ((hp.push (PySem.W.kdv_tup [u0])).push (PySem.HandSPX.excO C hp.objs.size)).get? (hp.objs.size + 1) = some (PySem.HandSPX.excO C hp.objs.size) := by heap_get
    have I2 : Inv X pins σ (upd H1 (hp.objs.size + 1) (exo (hp.objs.size + 1) C none)) ⟨(hp.push (PySem.W.kdv_tup [u0])).push (PySem.HandSPX.excO C hp.objs.size), g, dr, tk, os⟩ :=
      I1.laid (t' := tk) (a := hp.objs.size + 1) (o := exo (hp.objs.size + 1) C none) (h' := (hp.push (PySem.W.kdv_tup [u0])).push (PySem.HandSPX.excO C hp.objs.size)) kk hsz (exo_ok hget)
    have hg2 : (X.A.under (.builtin "type.__call__" ⟨.ref C :: [u0], []⟩)).guards = some [] := by
      rw [← hgd]
      first | rfl | simp [Around.under, Code.guards, pushGuards, hgd, Code.isGuard, guardIds]
    refine wpAny_call (PySem.HandSPX.call_own xb.base hT hC (PySem.W.looks_findIn I1.kIn iC) (fun self => PySem.W.bind_fn I1.kIn self tI) (by show 1 ≤ sizeLine; rw [sizeLine_eq]; decide)
      (codeAny_mono (G.run _ X.stack _ _ ⟨[Value.ref (hp.objs.size + 1), u0], []⟩ [Value.ref (hp.objs.size + 1), u0] [V.ref (hp.objs.size + 1), v] (fun w H2 => w = .non ∧ ∃ d, H1 d = none ∧ d ≠ hp.objs.size + 1 ∧ H2 = upd (upd (upd H1 (hp.objs.size + 1) (exo (hp.objs.size + 1) C none)) d (exd d [(f, v)])) (hp.objs.size + 1) (exo (hp.objs.size + 1) C (some d))) (fun _ _ _ => False) (hr.make C [u0] []) hg2 (I2.env0.make C [u0] []) (hb _ [Value.ref (hp.objs.size + 1), u0] I2.kIn rfl) (.cons rfl (.cons ra .nil))
        ⟨_, _, rfl, upd_same, fun dx n ne => ⟨rfl, dx, by rw [upd_ne ne] at n; exact n, ne, rfl⟩⟩) fun r s' hq => ?_))
    cases r with
    | error er => exact takesF er s' (XE.of_call I2 (fun _ _ _ h => h) hq)
    | ok fl =>
      cases fl with
      | ret u =>
        obtain ⟨w, H2, os2, bare2, un2, hok2, rv, ev, d, hd1, hne, e2⟩ := hq
        subst ev
        obtain ⟨h2, g2, d2, t2, os'⟩ := s'
        refine ⟨rv, mk_end (fs := [(f, v)]) (raises_own T.exC T.tyC) I1 hsz kk un2 hok2 os2 bare2 (by rw [e2, upd_same]) (by rw [e2, upd_ne hne, upd_same]) hd1 ?_⟩
        have eq : upd (del H2 (hp.objs.size + 1)) d (.xd [(f, v)]) = upd H1 d (.xd [(f, v)]) := by
          funext b
          by_cases hb : b = d
          · rw [hb, upd_same, upd_same]
          · rw [upd_ne hb, upd_ne hb]
            by_cases hb2 : b = hp.objs.size + 1
            · rw [hb2, del_same, hn]
            · rw [del_ne hb2, e2, upd_ne hb2, upd_ne hb, upd_ne hb2]
        rw [eq]
        exact q1 d hd1
      | next => exact hq.elim
      | brk => exact hq.elim
      | cont => exact hq.elim
end
end Bx
namespace Bx
open PySem L2 PySem.Spec PyProof.Rows
section
variable {X : Cx} {W : WX} {cn f sf y : Str} {B newId initId : String} {bmB : List Value} {k j : Nat} {fI : Addr} {fd : FuncData} {e : Expr} {m : M D} {p p2 pos pos' : Pos} {txt : Str}
/-- raise C('text'), C without an __init__ of its own -/
def sraise0 (cn : Str) : MS := fun s => .exc ⟨cn, none⟩ s
/-- raise C(e), C with an __init__ that keeps one field -/
def sraise1 (cn f : Str) (m : M D) : MS := fun s => (stl m s).toS fun d s => .exc ⟨cn, some (f, d)⟩ s
theorem ss_raise1 (hc : X.calm = true) (tk : Takes X W) (xb : XB B newId initId bmB) (T : Ox X.K (He.ga X.K cn) bmB newId) (iC : PySem.W.findIn X.K (.ref (He.ga X.K cn)) "__init__" = some (some (.ref fI))) (tI : PySem.W.typeIn X.K (.ref fI) = some (.type "function"))
    (G : FnG X.prog X.w X.K X.mg X.base k fI fd [sf, y] (spX (He.ga X.K cn) f)) (hr : Room (k + 1) X.A) (hgd : X.A.guards = some []) (hb : Binds X.K fd [sf, y] []) (hg : Gl X cn) (hm : X.mg cn = some (.ref (He.ga X.K cn))) (he : SE X W e m)
    (hdb : (cn == ("__debug__" : Str)) = false := by decide) (hst : starEach [e] X.env = (false, eval e X.env) :: starEach [] X.env := by rfl) :
    SS X W (.Raise (some (.Call (.Name cn p) [e] [] pos)) none pos') (sraise1 cn f m) :=
  PS.imp (ps_raise hc tk (pmk_ox xb T iC tI G hr hgd hb hg hm he (fun σ H Q Q' ⟨F, adr, s, ab, po⟩ q => ⟨F, adr, s, ab, PostG.imp po q⟩) hdb hst)) fun E σ H t => by
    obtain ⟨F, adr, s, ab, po⟩ := t
    refine ⟨F, adr, s, ab, PostG.imp (t_stl ab po) ?_⟩
    rintro v H1 ⟨F1, adr1, d1, s1, st1, ab1, rp1, po1⟩ dx hdx
    obtain ⟨z1, z2⟩ := ab1.alloc (o := .xd [(f, v)]) hdx
    exact po1 _ _ σ _ adr1 _ z1 z2 ⟨rfl, dx, v, rfl, upd_same, rp1.mono z1.ex z1.pre⟩
end
def oxB (K : PySem.W.Frag) (cn f : Str) (bmB : List Value) (newId : String) : Bool :=
  PySem.W.excInitIn K (He.ga K cn) bmB newId && (PySem.W.excOver K (He.ga K cn) bmB && (PySem.W.hasDictIn K (He.ga K cn) && (He.eqO (PySem.W.findIn K (.ref (He.ga K cn)) "__setattr__") (some (some (.builtin "object.__setattr__"))) &&
    (decide (PySem.W.subIn K (.ref (He.ga K cn)) (.type "BaseException") = some true) && (decide (PySem.W.typeIn K (.ref (He.ga K cn)) = some (.type "type")) && (PySem.W.keepIn K (.ref (He.ga K cn)) &&
    (He.eqO (PySem.W.findIn K (.ref (He.ga K cn)) f) (some none) && (He.eqO (PySem.W.findIn K (.ref (He.ga K cn)) "__init__") (some (some (.ref (He.ma K (He.ga K cn) "__init__")))) && decide (PySem.W.typeIn K (.ref (He.ma K (He.ga K cn) "__init__")) = some (.type "function"))))))))))
structure OxF (K : PySem.W.Frag) (cn f : Str) (bmB : List Value) (newId : String) : Prop where
  ox : Ox K (He.ga K cn) bmB newId
  noF : PySem.W.findIn K (.ref (He.ga K cn)) f = some none
  ini : PySem.W.findIn K (.ref (He.ga K cn)) "__init__" = some (some (.ref (He.ma K (He.ga K cn) "__init__")))
  fn : PySem.W.typeIn K (.ref (He.ma K (He.ga K cn) "__init__")) = some (.type "function")
theorem oxB_ok {K : PySem.W.Frag} {cn f : Str} {bmB : List Value} {newId : String} (h : oxB K cn f bmB newId = true) : OxF K cn f bmB newId := by
  unfold oxB at h
  obtain ⟨h1, h⟩ := Bool.and_eq_true_iff.mp h
  obtain ⟨h2, h⟩ := Bool.and_eq_true_iff.mp h
  obtain ⟨h3, h⟩ := Bool.and_eq_true_iff.mp h
  obtain ⟨h4, h⟩ := Bool.and_eq_true_iff.mp h
  obtain ⟨h5, h⟩ := Bool.and_eq_true_iff.mp h
  obtain ⟨h6, h⟩ := Bool.and_eq_true_iff.mp h
  obtain ⟨h7, h⟩ := Bool.and_eq_true_iff.mp h
  obtain ⟨h8, h⟩ := Bool.and_eq_true_iff.mp h
  obtain ⟨h9, h⟩ := Bool.and_eq_true_iff.mp h
  exact ⟨⟨h1, h2, h3, He.eqO_ok h4, of_decide_eq_true h5, of_decide_eq_true h6, h7⟩, He.eqO_ok h8, He.eqO_ok h9, of_decide_eq_true h⟩
/-- a class without an __init__ of its own -/
def o0B (K : PySem.W.Frag) (cn : Str) (bmB : List Value) (newId : String) : Bool :=
  PySem.W.excIn K (He.ga K cn) bmB newId && (PySem.W.keepIn K (.ref (He.ga K cn)) && (decide (PySem.W.subIn K (.ref (He.ga K cn)) (.type "BaseException") = some true) && decide (PySem.W.typeIn K (.ref (He.ga K cn)) = some (.type "type"))))
structure O0 (K : PySem.W.Frag) (cn : Str) (bmB : List Value) (newId : String) : Prop where
  ex : PySem.W.excIn K (He.ga K cn) bmB newId = true
  kp : PySem.W.keepIn K (.ref (He.ga K cn)) = true
  sub : PySem.W.subIn K (.ref (He.ga K cn)) (.type "BaseException") = some true
  ty : PySem.W.typeIn K (.ref (He.ga K cn)) = some (.type "type")
theorem o0B_ok {K : PySem.W.Frag} {cn : Str} {bmB : List Value} {newId : String} (h : o0B K cn bmB newId = true) : O0 K cn bmB newId := by
  unfold o0B at h
  obtain ⟨h1, h⟩ := Bool.and_eq_true_iff.mp h
  obtain ⟨h2, h⟩ := Bool.and_eq_true_iff.mp h
  obtain ⟨h3, h⟩ := Bool.and_eq_true_iff.mp h
  exact ⟨h1, h2, of_decide_eq_true h3, of_decide_eq_true h⟩
/-- the base whose __init__ is called -/
def obB (K : PySem.W.Frag) (bn : Str) (initId : String) : Bool := PySem.W.readsIn K (He.ga K bn) (.type "type") && (He.eqO (PySem.W.specialIn K (.ref (He.ga K bn)) "__getattribute__") (some (some (.builtin "type.__getattribute__"))) && (match PySem.W.findCls K (.ref (He.ga K bn)) (.type "type") "__init__" with
  | some (.val (.builtin i)) => i == initId
  | _ => false))
structure Ob (K : PySem.W.Frag) (bn : Str) (initId : String) : Prop where
  rd : ClX.CRead K (He.ga K bn) (.type "type")
  at_ : PySem.W.findCls K (.ref (He.ga K bn)) (.type "type") "__init__" = some (.val (.builtin initId))
theorem obB_ok {K : PySem.W.Frag} {bn : Str} {initId : String} (h : obB K bn initId = true) : Ob K bn initId := by
  unfold obB at h
  obtain ⟨h1, h⟩ := Bool.and_eq_true_iff.mp h
  obtain ⟨h2, h⟩ := Bool.and_eq_true_iff.mp h
  refine ⟨⟨h1, He.eqO_ok h2⟩, ?_⟩
  split at h
  · rename_i i e
    rw [beq_iff_eq] at h
    rw [e, h]
  · cases h
end Bx
namespace Bx
open PySem L2 PySem.Spec PyProof.Rows
def w2 (K : PySem.W.Frag) (c1 c2 : Value) (ts : Addr → Value → Option Addr → TS) (Wout : WX) (D : Ends) : WX := fun cls d σ H =>
  ∃ b, PySem.W.exmAny K cls [c1, c2] = some b ∧ (b = true → ∀ a, H a = none → ts a cls d D σ H) ∧ (b = false → Wout cls d σ H)
/-- try: .. except (A, B): ..; the table tells which classes are caught -/
def noX : RS → RS
  | .exc _ _ => .bad
  | r => r
def stry (tbl : List (Str × Bool)) (mb ms : MS) : MS := fun s => match mb s with
  | .exc x s1 => match tbl.lookup x.cls with
    | some true => noX (ms s1)
    | some false => .exc x s1
    | none => .bad
  | r => r
theorem noX_post {K : KK} {W W' : WX} {F H : Hp} {adr : List Addr} {s : S} {σ : L2.St} {r : RS} {E : Ends} (h : PostS K W F adr s σ H (noX r) E) : PostS K W' F adr s σ H r E := by
  cases r <;> first | exact h | exact h.elim
theorem lookup_mem {α : Type} {l : List (Str × α)} {x : Str} {b : α} (h : l.lookup x = some b) : (x, b) ∈ l := by
  induction l with
  | nil => cases h
  | cons p l ih =>
    obtain ⟨y, c⟩ := p
    rw [List.lookup_cons] at h
    by_cases e : (x == y) = true
    · rw [e] at h
      have e' := beq_iff_eq.mp e
      cases h
      rw [e']
      exact List.mem_cons_self ..
    · rw [Bool.not_eq_true] at e
      rw [e] at h
      exact List.mem_cons_of_mem _ (ih h)
end Bx
namespace Bx
open PySem L2 PySem.Spec PyProof.Rows
end Bx
namespace Bx
open PySem L2 PySem.Spec PyProof.Rows
end Bx
namespace Bx
open PySem L2 PySem.Spec PyProof.Rows
def eqO (cn : Str) (den : Den) (a b : D) : M D := fun s => match a, b with
  | .obj c fs, .obj c' fs' => if c = cn ∧ c' = cn then (match den [.obj c fs, .obj c' fs'] s.μ with
    | .ok (.bl r) μ' => .ok (.bl r) { s with μ := μ' }
    | _ => .bad) else .bad
  | _, _ => .bad
end Bx
namespace Bx
open PySem L2 PySem.Spec PyProof.Rows
abbrev veT : List Value := [.type "ValueError", .type "Exception", .type "BaseException", .type "object"]
end Bx
namespace Bx
open PySem L2 PySem.Spec PyProof.Rows
/-- the context bears it -/
def Ev (X : Cx) (e : EX) : Prop := ∃ oe : Obj, (e.a, oe) ∈ X.pn ∧ Zc (.ref (He.ga X.K e.cn)) e.dd oe ∧ ∃ vs : Array Value, oe.data = .fields vs
theorem Ev.inst {X : Cx} {e : EX} {pins : List (Addr × Obj)} {σ : L2.St} {H : Hp} {s : Shared} {fs : List (Str × V)} (ev : Ev X e) (I : Inv X pins σ H s) (hx : xdAt H e.dd fs) :
    ∃ oe od, PySem.W.InstAt s.heap e.a oe (He.ga X.K e.cn) od ∧ ∀ f v, fs.lookup f = some v → ∃ o u, od = some o ∧ RelV v u ∧ PySem.W.lookIn f o = some (some u) := by
  obtain ⟨oe, hm, hz, vs, hd⟩ := ev
  obtain ⟨hg, _⟩ := I.pin (e.a, oe) (List.mem_append_left _ hm)
  have hno : PySem.W.notCls oe = true := by unfold PySem.W.notCls; rw [hd] <;> rfl
  cases ed : e.dd with
  | none =>
    rw [ed] at hx hz
    refine ⟨oe, none, ⟨hg, hz.1, hno, by rw [hz.2]; exact True.intro⟩, fun f v l => ?_⟩
    rw [show fs = [] from hx] at l
    cases l
  | some dx =>
    rw [ed] at hx hz
    obtain ⟨mA, hns, hr⟩ := I.hok dx _ (show H dx = some (.xd fs) from hx)
    obtain ⟨od, ho, hl⟩ := lookIn_ns hns
    refine ⟨oe, some od, ⟨hg, hz.1, hno, by rw [hz.2]; exact ho⟩, fun f v l => ?_⟩
    obtain ⟨u, hu, ru⟩ := RelO.some_of (v := v) (o := mA f) (by rw [← l]; exact hr f)
    exact ⟨od, u, rfl, ru, by rw [hl, hu]⟩
/-- what a class must say -/
def exCB (K : PySem.W.Frag) (c : Str) : Bool := (PySem.W.clsIn K (He.ga K c)).isSome && (He.eqO (PySem.W.findIn K (.ref (He.ga K c)) "__getattribute__") (some (some (.builtin "BaseException.__getattribute__"))) && (decide (PySem.W.findIn K (.ref (He.ga K c)) "__getattr__" = some none) &&
  (decide (PySem.W.subIn K (.ref (He.ga K c)) (.type "BaseException") = some true) && (He.eqO (PySem.W.findIn K (.ref (He.ga K c)) "__class__") (some (some (.builtin "object.__class__"))) && (He.eqO (PySem.W.specialIn K (.builtin "object.__class__") "__get__") (some (some (.builtin "getset_descriptor.__get__"))) &&
  (eqB (PySem.W.takesIn K (.builtin "object.__class__")) (some true) && (eqB (PySem.W.mroIn K (He.ga K c) (.type "object")) (some true) && PySem.W.hasDictIn K (He.ga K c))))))))
structure ExC (K : PySem.W.Frag) (C : Addr) : Prop where
  cl : (PySem.W.clsIn K C).isSome = true
  ga : PySem.W.findIn K (.ref C) "__getattribute__" = some (some (.builtin "BaseException.__getattribute__"))
  gt : PySem.W.findIn K (.ref C) "__getattr__" = some none
  sub : PySem.W.subIn K (.ref C) (.type "BaseException") = some true
  co : PySem.W.findIn K (.ref C) "__class__" = some (some (.builtin "object.__class__"))
  cg : PySem.W.specialIn K (.builtin "object.__class__") "__get__" = some (some (.builtin "getset_descriptor.__get__"))
  ct : PySem.W.takesIn K (.builtin "object.__class__") = some true
  ob : PySem.W.mroIn K C (.type "object") = some true
  di : PySem.W.hasDictIn K C = true
theorem exCB_ok {K : PySem.W.Frag} {c : Str} (h : exCB K c = true) : ExC K (He.ga K c) := by
  unfold exCB at h
  obtain ⟨h1, h⟩ := He.ba h
  obtain ⟨h2, h⟩ := He.ba h
  obtain ⟨h3, h⟩ := He.ba h
  obtain ⟨h4, h⟩ := He.ba h
  obtain ⟨h5, h⟩ := He.ba h
  obtain ⟨h6, h⟩ := He.ba h
  obtain ⟨h7, h⟩ := He.ba h
  obtain ⟨h8, h9⟩ := He.ba h
  exact ⟨h1, He.eqO_ok h2, of_decide_eq_true h3, of_decide_eq_true h4, He.eqO_ok h5, He.eqO_ok h6, of_decide_eq_true h7, of_decide_eq_true h8, h9⟩
section
variable {X : Cx} {W : WX} {e : EX}
def fldX (e : EX) (fl : List (Str × Str)) (f : Str) (d : D) : M D := fun s => match d with
  | .exv e' fs => if e' = e ∧ (e.cn, f) ∈ fl then match lookD f fs with
      | some x => .ok x s
      | none => .bad
    else .bad
  | _ => .bad
def fldB (K : PySem.W.Frag) (fl : List (Str × Str)) : Bool := fl.all fun p => exCB K p.1 && He.eqO (PySem.W.findIn K (.ref (He.ga K p.1)) p.2) (some none)
theorem se_fldX {ex : Expr} {m : M D} {f : Str} {fl : List (Str × Str)} {pos : Pos} (ev : Ev X e) (hk : fldB X.K fl = true) (he : SE X W ex m) (hb : attributeBase ex f X.env (eval ex X.env) = eval ex X.env := by rfl) : SE X W (.Attribute ex f pos) (bnd m (fldX e fl f)) := by
  refine ⟨fun pins sh σ H Q I h => ?_⟩
  obtain ⟨F, adr, s, ab, po⟩ := h
  refine attr_of hb (thn (he.run pins sh σ H _ I ⟨F, adr, s, ab, PostG.bind po⟩) fun u s1 hh => ?_)
  obtain ⟨x, H1, I1, rx, F1, adr1, d, s', st1, ab1, rp1, po1⟩ := hh
  unfold fldX at po1
  cases d <;> try (exact po1.elim)
  rename_i e' fs
  by_cases hc : e' = e ∧ (e.cn, f) ∈ fl
  · obtain ⟨rfl, hm⟩ := id hc
    simp only [hm, and_self, if_true] at po1
    obtain ⟨ex, vs, hx, hf⟩ := (show Rp (kk X) F1 adr1 (.exv e' fs) x from rp1)
    subst ex
    obtain rfl := (show _ = Value.ref e'.a from rx)
    obtain ⟨k1, k2⟩ := He.ba (List.all_eq_true.mp hk _ hm)
    have C := exCB_ok k1
    cases hl : lookD f fs with
    | none => simp only [hl] at po1; exact po1.elim
    | some y =>
      simp only [hl] at po1
      obtain ⟨v, lv, rv⟩ := hf.look hl
      obtain ⟨oe, od, J, g⟩ := ev.inst I1 (ex_xd ab1.sub hx)
      obtain ⟨o, uu, rfl, ru, lu⟩ := g f v lv
      exact HandSPX.exc_get I1.kIn J C.ga C.gt C.sub (PySem.W.findObj_own C.di (He.eqO_ok k2) rfl lu) (handed_of ru) ⟨v, H1, I1.tok _, ru, Post.at ab1 po1 rv⟩
  · simp only [hc, if_false] at po1; exact po1.elim
end
end Bx
namespace Bx
open PySem L2 PySem.Spec PyProof.Rows
structure FnP (P : Program) (w : World) (K : PySem.W.Frag) (mg : Str → Option Value) (base : Heap) (k : Nat) (f : Addr) (fd : FuncData) (ps : List Str) (sp : Addr × Obj → Sp) : Prop where
  len : ∀ p vs H Q E, sp p vs H Q E → vs.length = ps.length
  run : ∀ (A : Around) (outer : List Env) (s : Shared) (H : Hp) (args : Args) (us : List Value) (vs : List V) (Q : VK) (E : XK) (p : Addr × Obj), L2H.RoomH k A → A.guards = some [] → L2H.PinOk outer H s p → Env0 P w K mg base A outer s H →
    BindsTo s fd args (ps.zip us) → Vals vs us → sp p vs H Q E → codeAny (model P w) A (.call (.ref f) args) (CR (L2.CX P w) outer P w H s Q E) s
section
variable {X : Cx} {W : WX} {e : EX} {k : Nat} {f : Addr} {fd : FuncData} {ps : List Str} {ix : List Nat} {dds : List D} {den : EX → Den} {x : Str} {p pos : Pos} {ex : Expr} {es : List Expr} {ms : List (M D)}
theorem FnP.mono {P : Program} {w : World} {K : PySem.W.Frag} {mg : Str → Option Value} {base : Heap} {j k : Nat} {sp : Addr × Obj → Sp} (G : FnP P w K mg base j f fd ps sp) (h : j ≤ k) : FnP P w K mg base k f fd ps sp :=
  ⟨G.len, fun A outer s H args us vs Q E p hr => G.run A outer s H args us vs Q E p (hr.mono h)⟩
end
def setNo (i : Nat) (s : S) : S := ⟨s.ρ.set i .no, s.μ⟩
theorem Abs.clear {K : KK} {F H : Hp} {adr : List Addr} {s : S} {σ : L2.St} (ab : Abs K F adr s σ H) (i : Nat) : Step F adr (Fp adr s σ) H F adr (Fp adr (setNo i s) (σ.set i none)) H ∧ Abs K F adr (setNo i s) (σ.set i none) H := by
  have back : ∀ (j : Nat) (l : Sl), (s.ρ.set i .no)[j]? = some l → l ≠ .no → j ≠ i ∧ s.ρ[j]? = some l := fun j l h n => by
    by_cases hj : j = i
    · subst hj
      rw [List.getElem?_set] at h
      simp only [if_true] at h
      split at h
      · cases h; exact absurd rfl n
      · cases h
    · rw [List.getElem?_set_ne (fun z => hj z.symm)] at h
      exact ⟨hj, h⟩
  have keep : ∀ j, j ≠ i → (σ.set i none)[j]? = σ[j]? := fun j hj => List.getElem?_set_ne (fun z => hj z.symm)
  refine ⟨⟨.refl _, List.prefix_refl _, fun _ _ h _ _ => h, fun a h => ?_, fun _ h => .inl h, fun _ h => h⟩, ⟨ab.toAbsH, ?_, fun j d h => ?_, fun j m h => ?_, fun j j' m m' l h1 h2 h3 h4 => ?_⟩⟩
  · rcases h with h | ⟨j, m, h1, h2⟩
    · exact .inl (.inl h)
    · obtain ⟨hj, h1⟩ := back j _ h1 (by intro z; cases z)
      rw [keep j hj] at h2
      exact .inl (.inr ⟨j, m, h1, h2⟩)
  · show (σ.set i none).length = (s.ρ.set i .no).length
    rw [List.length_set, List.length_set]
    exact ab.lenr
  · obtain ⟨hj, h⟩ := back j _ h (by intro z; cases z)
    rw [keep j hj]
    exact ab.slv j d h
  · obtain ⟨hj, h⟩ := back j _ h (by intro z; cases z)
    rw [keep j hj]
    exact ab.slo j m h
  · obtain ⟨hj, h1⟩ := back j _ h1 (by intro z; cases z)
    obtain ⟨hj', h2⟩ := back j' _ h2 (by intro z; cases z)
    rw [keep j hj] at h3
    rw [keep j' hj'] at h4
    exact ab.dis j j' m m' l h1 h2 h3 h4
def clr (i : Nat) : RS → RS
  | .nx s => .nx (setNo i s)
  | .rt d s => .rt d (setNo i s)
  | .bk s => .bk (setNo i s)
  | .ct s => .ct (setNo i s)
  | _ => .bad
/-- an exception that may stand for x -/
def ExFor (x : Xc) (e : EX) : Prop := e.cn = x.cls ∧ (e.dd = none ↔ x.fld = none)
open Classical in
noncomputable def hot (x : Xc) (i : Nat) (ms : EX → MS) (s : S) : RS := if h : ∃ r, ∀ e, ExFor x e → clr i (ms e (s.put i (.val (.exv e x.fld.toList)))) = r then h.choose else .bad
theorem exFor (x : Xc) : ∃ e, ExFor x e := by
  cases h : x.fld with
  | none => exact ⟨⟨0, x.cls, none⟩, rfl, by rw [h]; simp⟩
  | some y => exact ⟨⟨0, x.cls, some 0⟩, rfl, by rw [h]; simp⟩
theorem hot_eq {x : Xc} {i : Nat} {ms : EX → MS} {s : S} {r : RS} (h : ∀ e, ExFor x e → clr i (ms e (s.put i (.val (.exv e x.fld.toList)))) = r) : hot x i ms s = r := by
  have h' : ∃ r, ∀ e, ExFor x e → clr i (ms e (s.put i (.val (.exv e x.fld.toList)))) = r := ⟨r, h⟩
  unfold hot
  rw [dif_pos h']
  obtain ⟨e, he⟩ := exFor x
  rw [← h'.choose_spec e he, h e he]
theorem hot_of {x : Xc} {i : Nat} {ms : EX → MS} {s : S} {e : EX} (he : ExFor x e) : hot x i ms s = .bad ∨ hot x i ms s = clr i (ms e (s.put i (.val (.exv e x.fld.toList)))) := by
  by_cases h : ∃ r, ∀ e, ExFor x e → clr i (ms e (s.put i (.val (.exv e x.fld.toList)))) = r
  · right
    obtain ⟨r, h⟩ := h
    rw [hot_eq h, h e he]
  · left
    unfold hot
    rw [dif_neg h]
noncomputable def stryE (tbl : List (Str × Bool)) (i : Nat) (mb : MS) (ms : EX → MS) : MS := fun s => match mb s with
  | .exc x s1 => match tbl.lookup x.cls with
    | some true => hot x i ms s1
    | some false => .exc x s1
    | none => .bad
  | r => r
end Bx
namespace Bx
open PySem L2 PySem.Spec PyProof.Rows
theorem clr_post {K : KK} {W W' : WX} {F H : Hp} {adr : List Addr} {s s1 : S} {σ σ1 : L2.St} {i : Nat} {r : RS} {D : Ends} (st : Step F adr (Fp adr s σ) H F adr (Fp adr s1 σ1) H) (h : PostS K W F adr s σ H (clr i r) D) :
    PostS K W' F adr s1 σ1 H r { nx := fun σ' H' => D.nx (σ'.set i none) H', rt := D.rt, bk := fun σ' H' => D.bk (σ'.set i none) H', ct := fun σ' H' => D.ct (σ'.set i none) H' } := by
  cases r with
  | nx s2 => exact fun σ2 F2 adr2 H2 st2 ab2 => h _ F2 adr2 H2 ((st.trans st2).trans (ab2.clear i).1) (ab2.clear i).2
  | bk s2 => exact fun σ2 F2 adr2 H2 st2 ab2 => h _ F2 adr2 H2 ((st.trans st2).trans (ab2.clear i).1) (ab2.clear i).2
  | ct s2 => exact fun σ2 F2 adr2 H2 st2 ab2 => h _ F2 adr2 H2 ((st.trans st2).trans (ab2.clear i).1) (ab2.clear i).2
  | rt d s2 => exact fun σ2 v F2 adr2 H2 st2 ab2 rp => h _ v F2 adr2 H2 ((st.trans st2).trans (ab2.clear i).1) (ab2.clear i).2 rp
  | exc x s2 => exact h.elim
  | bad => exact h.elim
end Bx
namespace Bx
open PySem L2 PySem.Spec PyProof.Rows
/-- what the clauses wish of an exception of the body, one after the other; a clause may name it -/
def wTm (K : PySem.W.Frag) (Wout : WX) (D : Ends) : List (Value × Option Nat × (Addr → Value → Option Addr → TS)) → WX
  | [] => Wout
  | (c, none, ts) :: r => fun cls d σ H => ∃ b, PySem.W.exmOne K cls c = some b ∧ (b = true → ∀ a, H a = none → ts a cls d D σ H) ∧ (b = false → wTm K Wout D r cls d σ H)
  | (c, some i, ts) :: r => fun cls d σ H => ∃ b, PySem.W.exmOne K cls c = some b ∧ (b = true → ∀ a, H a = none → ts a cls d { nx := fun σ' H' => D.nx (σ'.set i none) H', rt := D.rt, bk := fun σ' H' => D.bk (σ'.set i none) H', ct := fun σ' H' => D.ct (σ'.set i none) H' } (σ.set i (some (.ref a))) H) ∧
      (b = false → wTm K Wout D r cls d σ H)
inductive TmOk (X : Cx) : List ExceptHandler → List (Value × Option Nat × (Addr → Value → Option Addr → TS)) → Prop
  | nil : TmOk X [] []
  | pl {x : Str} {c : Value} {ts : Addr → Value → Option Addr → TS} {b₀ : Stmt} {suite : List Stmt} {np pos' : Pos} {hds : List ExceptHandler} {l : List (Value × Option Nat × (Addr → Value → Option Addr → TS))} (hg : Gl X x) (hm : X.mg x = some c) (hd : (x == ("__debug__" : Str)) = false)
      (hsu : ∀ (a : Addr) (oe : Obj) (cls : Value) (d : Option Addr) (pn : List (Addr × Obj)), Zc cls d oe → (∃ vs, oe.data = .fields vs) → PSs (X.suite a ((a, oe) :: pn)) (b₀ :: suite) (ts a cls d)) (r : TmOk X hds l) :
      TmOk X (.ExceptHandler (some (.Name x np)) none (b₀ :: suite) pos' :: hds) ((c, none, ts) :: l)
  | as {x n : Str} {i : Nat} {c : Value} {ts : Addr → Value → Option Addr → TS} {b₀ : Stmt} {suite : List Stmt} {np pos' : Pos} {hds : List ExceptHandler} {l : List (Value × Option Nat × (Addr → Value → Option Addr → TS))} (hg : Gl X x) (hm : X.mg x = some c) (hd : (x == ("__debug__" : Str)) = false)
      (hN : X.N.Nodup) (hi : X.N[i]? = some n) (hln : X.env.kindOf n = some .local)
      (hsu : ∀ (a : Addr) (oe : Obj) (cls : Value) (d : Option Addr) (pn : List (Addr × Obj)), Zc cls d oe → (∃ vs, oe.data = .fields vs) → PSs (X.suite a ((a, oe) :: pn)) (b₀ :: suite) (ts a cls d)) (r : TmOk X hds l) :
      TmOk X (.ExceptHandler (some (.Name x np)) (some n) (b₀ :: suite) pos' :: hds) ((c, some i, ts) :: l)
section
variable {X : Cx} {body : List Stmt} {h₀ : ExceptHandler} {hds : List ExceptHandler} {l : List (Value × Option Nat × (Addr → Value → Option Addr → TS))} {pos : Pos} {tb : WX → TS} {Wout : WX}
theorem ps_tm (hs : X.stack = X.env :: X.outer) (hf : X.env.frame = some X.env.locals) (tk : Takes X Wout)
    (hb : ∀ (W : WX) (pn : List (Addr × Obj)) (xe : Value → Shared → Prop), Takes (X.tr pn xe) W → PassesOwn (model X.prog X.w) X.A X.env xe → PSs (X.tr pn xe) body (tb W))
    (hh : TmOk X (h₀ :: hds) l) : PS X (.Try body (h₀ :: hds) [] [] pos) (fun D σ H => tb (wTm X.K Wout D l) D σ H) := by
  refine ⟨fun pins s σ H D I h => ?_⟩
  have ok := I.ok
  have hfr : X.A.frames = some (X.env :: X.outer) := ok.frames.trans (by rw [hs])
  refine wpAny_Try_except ?_
  refine wpAny_mono ((hb (wTm X.K Wout D l) (X.pn ++ pins) (fun e s₁ => wpAny (model X.prog X.w) X.A (noteFrame e X.env) (fun _ s₂ => wpAny (model X.prog X.w) X.A (setFlight e none) (fun _ s₃ =>
    wpAny (model X.prog X.w) X.A (handleBy e X.env (h₀ :: hds)) (SP X pins D) X.xe s₃) X.xe s₂) X.xe s₁) (fun u s' xx => ?_) PassesOwn.looking).run [] s σ H D (I.toTry _) h) (fun f s1 hsp => ?_) (fun e s1 he => he)
  · obtain ⟨a, B, sI, pins', σ', H', cls, d, rfl, J', nb, up, sky, na, os, ag, w⟩ := xx
    have J : Inv X pins σ' H' sI := J'.ofTry ok
    have sky' : Sky B (X.env :: X.outer) a (Zc cls d) X.env.locals s'.heap := by rw [← hs]; exact sky
    show wpAny (model X.prog X.w) X.A (noteFrame (.ref a) X.env) _ _ _
    refine Sky.land Zc.steady hfr hf sky' fun h3 fl3 up3 => ?_
    have J3 : Inv X pins σ' H' { s' with heap := h3 } := J.landed nb fl3.1 (up.trans up3) os ag
    obtain ⟨oe3, vs3, he3, hz3, hd3⟩ := fl3.there
    have nfr : a ∉ frs (X.env :: X.outer) := fun hm => by
      obtain ⟨_, o', e', hnf⟩ := fl3.2.2.1.mem hm
      rw [he3] at e'; cases e'
      exact hnf _ hd3
    have nL : a ≠ X.env.locals := fun z => nfr (List.mem_filterMap.mpr ⟨X.env, List.mem_cons_self, by rw [hf, z]⟩)
    have nF : a ∉ X.fs := fun hm => by
      obtain ⟨e, he, q⟩ := List.mem_filterMap.mp hm
      exact nfr (List.mem_filterMap.mpr ⟨e, List.mem_cons_of_mem _ he, q⟩)
    have S3 := J3.suite he3 hd3 na nL nF
    have go : ∀ {hds' : List ExceptHandler} {l' : List (Value × Option Nat × (Addr → Value → Option Addr → TS))}, TmOk X hds' l' → wTm X.K Wout D l' cls d σ' H' →
        wpAny (model X.prog X.w) X.A (handleBy (.ref a) X.env hds') (SP X pins D) X.xe { s' with heap := h3 } := by
      intro hds' l' hk
      induction hk with
      | nil =>
        intro w
        refine wpAny_handleBy_nil ?_
        obtain ⟨k1, k2, k3, oe, vs, T, oT, ts', he, hz, hd, h1, hr⟩ := id fl3
        unfold PySem.passOn
        refine wpAny_bind (wpAny_field he hd h1 ?_)
        rw [if_neg (show ¬ ((Value.ref T == Value.none) = true) from by simp)]
        have fin : wpAny (model X.prog X.w) X.A (setFlight (.ref a) X.env.frame) (fun _ s4 => wpAny (model X.prog X.w) X.A (throw (.ref a) : Sem Flow) (SP X pins D) X.xe s4) X.xe { s' with heap := h3 } := by
          rw [hf]
          refine HandSPX.setFlight_upZ fl3 fun h4 hh4 up4 => wpAny_throw (tk _ _ ?_)
          exact ⟨a, B, sI, pins, σ', H', cls, d, rfl, J, nb, (up.trans up3).trans up4, .inr (.inr (by rw [hs]; exact hh4)), na, os, ag, w⟩
        first
          | exact wpAny_bind (wpAny_pure (wpAny_bind fin))
          | exact wpAny_bind fin
      | @pl x c ts b₀ suite np pos' hds2 l2 hg hm hdbg hsu r ih =>
        intro w
        obtain ⟨b, hb1, hyes, hno⟩ := w
        refine wpAny_handleBy_cons (codeAny_handlers_test ?_) (by intro q; cases q)
        have LT : PySem.W.Looks (model X.prog X.w) h3 (typeOf (.ref a)) cls := fun A Q E s k q => wpAny_typeOf_ref (k _ _ he3) (by rw [hz3.1]; exact q)
        have LM := PySem.W.exm_one (M := model X.prog X.w) (J3.kIn) LT hb1
        refine ld_glob (X := X.suite a ((a, oe3) :: (X.pn ++ pins))) S3 hg hm (LM.here ?_) hdbg
        cases b with
        | true =>
          refine codeAny_handlers_suite ?_
          refine HandSPX.lands_againZ fl3 fun h4 fl4 up4 => ?_
          have J4 : Inv X pins σ' H' { s' with heap := h4 } := J.landed nb fl4.1 ((up.trans up3).trans up4) os ag
          obtain ⟨oe4, vs4, he4, hz4, hd4⟩ := fl4.there
          have S4 := J4.suite he4 hd4 na nL nF
          refine wpAny_mono ((hsu a oe4 cls d (X.pn ++ pins) hz4 ⟨_, hd4⟩).run [] _ _ H' _ S4 (hyes rfl a na)) (fun f s6 hsp => ?_) (fun _ _ z => False.elim z)
          cases f with
          | next =>
            obtain ⟨σ6, H6, S6, q6⟩ := hsp
            exact ⟨_, _, S6.unsuite ok, q6⟩
          | brk =>
            obtain ⟨σ6, H6, S6, q6⟩ := hsp
            exact ⟨_, _, S6.unsuite ok, q6⟩
          | cont =>
            obtain ⟨σ6, H6, S6, q6⟩ := hsp
            exact ⟨_, _, S6.unsuite ok, q6⟩
          | ret u =>
            obtain ⟨v6, σ6, H6, S6, r6, q6⟩ := hsp
            exact ⟨_, _, _, S6.unsuite ok, r6, q6⟩
        | false =>
          show wpAny _ X.A (handleBy (.ref a) X.env hds2) _ _ _
          exact ih (hno rfl)
      | @as x n i c ts b₀ suite np pos' hds2 l2 hg hm hdbg hN hi hln hsu r ih =>
        intro w
        obtain ⟨b, hb1, hyes, hno⟩ := w
        refine wpAny_handleBy_cons (codeAny_handlers_test ?_) (by intro q; cases q)
        have LT : PySem.W.Looks (model X.prog X.w) h3 (typeOf (.ref a)) cls := fun A Q E s k q => wpAny_typeOf_ref (k _ _ he3) (by rw [hz3.1]; exact q)
        have LM := PySem.W.exm_one (M := model X.prog X.w) (J3.kIn) LT hb1
        refine ld_glob (X := X.suite a ((a, oe3) :: (X.pn ++ pins))) S3 hg hm (LM.here ?_) hdbg
        cases b with
        | true =>
          refine codeAny_handlers_suite_as ?_
          refine HandSPX.lands_againZ fl3 fun h4 fl4 up4 => ?_
          have J4 : Inv X pins σ' H' { s' with heap := h4 } := J.landed nb fl4.1 ((up.trans up3).trans up4) os ag
          obtain ⟨oe4, vs4, he4, hz4, hd4⟩ := fl4.there
          have S4 := J4.suite he4 hd4 na nL nF
          refine store_ok (X := X.suite a ((a, oe4) :: (X.pn ++ pins))) (v := .ref a) S4 hN hi (.inl hln) rfl (fun s5 S5 => ?_) (.inr hln)
          refine wpAny_mono ((hsu a oe4 cls d (X.pn ++ pins) hz4 ⟨_, hd4⟩).run [] s5 _ H' _ S5 (hyes rfl a na)) (fun f s6 hsp => ?_) (fun _ _ z => False.elim z)
          cases f with
          | next =>
            obtain ⟨σ6, H6, S6, q6⟩ := hsp
            exact gone_ok (S6.unsuite ok) hN hi hln fun s7 J7 => ⟨_, _, J7, q6⟩
          | brk =>
            obtain ⟨σ6, H6, S6, q6⟩ := hsp
            exact gone_ok (S6.unsuite ok) hN hi hln fun s7 J7 => ⟨_, _, J7, q6⟩
          | cont =>
            obtain ⟨σ6, H6, S6, q6⟩ := hsp
            exact gone_ok (S6.unsuite ok) hN hi hln fun s7 J7 => ⟨_, _, J7, q6⟩
          | ret u =>
            obtain ⟨v6, σ6, H6, S6, r6, q6⟩ := hsp
            exact gone_ok (S6.unsuite ok) hN hi hln fun s7 J7 => ⟨_, _, _, J7, r6, q6⟩
        | false =>
          show wpAny _ X.A (handleBy (.ref a) X.env hds2) _ _ _
          exact ih (hno rfl)
    exact go hh w
  · cases f with
    | next =>
      obtain ⟨σ', H', J', q⟩ := hsp
      exact wpAny_execs_nil ⟨σ', H', J'.ofTry ok, q⟩
    | brk =>
      obtain ⟨σ', H', J', q⟩ := hsp
      exact ⟨σ', H', J'.ofTry ok, q⟩
    | cont =>
      obtain ⟨σ', H', J', q⟩ := hsp
      exact ⟨σ', H', J'.ofTry ok, q⟩
    | ret u =>
      obtain ⟨v, σ', H', J', r, q⟩ := hsp
      exact ⟨v, σ', H', J'.ofTry ok, r, q⟩
end
inductive Cl where
  | pl (x : Str) (tbl : List (Str × Bool)) (ms : MS)
  | as (x : Str) (tbl : List (Str × Bool)) (i : Nat) (ms : EX → MS)
def Cl.l (K : KK) : Cl → Value × Option Nat × (Addr → Value → Option Addr → TS)
  | .pl x _ ms => (.ref (He.ga K.K x), none, fun _ _ _ => tS K (fun _ _ _ _ => False) ms)
  | .as x _ i ms => (.ref (He.ga K.K x), some i, fun a cls d D σ H => ∃ cn, cls = .ref (He.ga K.K cn) ∧ tS K (fun _ _ _ _ => False) (ms ⟨a, cn, d⟩) D σ H)
def tmB (K : PySem.W.Frag) (x : Str) (tbl : List (Str × Bool)) : Bool := tbl.all fun p => decide (PySem.W.exmOne K (.ref (He.ga K p.1)) (.ref (He.ga K x)) = some p.2)
def Cl.ok (K : PySem.W.Frag) : Cl → Prop
  | .pl x tbl _ => tmB K x tbl = true
  | .as x tbl _ _ => tmB K x tbl = true
noncomputable def goM : List Cl → Xc → MS
  | [], x => fun s => .exc x s
  | .pl _ tbl ms :: r, x => fun s => match tbl.lookup x.cls with
    | some true => noX (ms s)
    | some false => goM r x s
    | none => .bad
  | .as _ tbl i ms :: r, x => fun s => match tbl.lookup x.cls with
    | some true => hot x i ms s
    | some false => goM r x s
    | none => .bad
noncomputable def stryM (cl : List Cl) (mb : MS) : MS := fun s => match mb s with
  | .exc x s1 => goM cl x s1
  | r => r
inductive ClsOk (X : Cx) : List ExceptHandler → List Cl → Prop
  | nil : ClsOk X [] []
  | pl {x : Str} {tbl : List (Str × Bool)} {ms : MS} {b₀ : Stmt} {suite : List Stmt} {np pos' : Pos} {hds : List ExceptHandler} {l : List Cl} (hg : Gl X x) (hm : X.mg x = some (.ref (He.ga X.K x))) (ht : tmB X.K x tbl = true) (hd : (x == ("__debug__" : Str)) = false)
      (hsu : ∀ (a : Addr) (oe : Obj) (pn : List (Addr × Obj)), SB (X.suite a ((a, oe) :: pn)) (fun _ _ _ _ => False) (b₀ :: suite) ms) (r : ClsOk X hds l) :
      ClsOk X (.ExceptHandler (some (.Name x np)) none (b₀ :: suite) pos' :: hds) (.pl x tbl ms :: l)
  | as {x n : Str} {i : Nat} {tbl : List (Str × Bool)} {ms : EX → MS} {b₀ : Stmt} {suite : List Stmt} {np pos' : Pos} {hds : List ExceptHandler} {l : List Cl} (hg : Gl X x) (hm : X.mg x = some (.ref (He.ga X.K x))) (ht : tmB X.K x tbl = true) (hd : (x == ("__debug__" : Str)) = false)
      (hN : X.N.Nodup) (hi : X.N[i]? = some n) (hln : X.env.kindOf n = some .local)
      (hsu : ∀ (e : EX) (oe : Obj) (pn : List (Addr × Obj)), Ev (X.suite e.a ((e.a, oe) :: pn)) e → SB (X.suite e.a ((e.a, oe) :: pn)) (fun _ _ _ _ => False) (b₀ :: suite) (ms e)) (r : ClsOk X hds l) :
      ClsOk X (.ExceptHandler (some (.Name x np)) (some n) (b₀ :: suite) pos' :: hds) (.as x tbl i ms :: l)
theorem ClsOk.tm {X : Cx} {hds : List ExceptHandler} {cl : List Cl} (h : ClsOk X hds cl) : TmOk X hds (cl.map (Cl.l (kk X))) := by
  induction h with
  | nil => exact .nil
  | pl hg hm ht hd hsu r ih => exact .pl hg hm hd (fun a oe _ _ pn _ _ => hsu a oe pn) ih
  | as hg hm ht hd hN hi hln hsu r ih =>
    exact .as hg hm hd hN hi hln (fun a oe cls d pn hz hv => ⟨fun pins s σ H D I h => by
      obtain ⟨cn, rfl, h⟩ := h
      exact (hsu ⟨a, cn, d⟩ oe pn ⟨oe, List.mem_cons_self, hz, hv⟩).run pins s σ H D I h⟩) ih
theorem ClsOk.all {X : Cx} {hds : List ExceptHandler} {cl : List Cl} (h : ClsOk X hds cl) : ∀ c ∈ cl, c.ok X.K := by
  induction h with
  | nil => exact fun c h => by cases h
  | pl hg hm ht hd hsu r ih =>
    intro c h
    rcases List.mem_cons.mp h with e | h
    · subst e; exact ht
    · exact ih c h
  | as hg hm ht hd hN hi hln hsu r ih =>
    intro c h
    rcases List.mem_cons.mp h with e | h
    · subst e; exact ht
    · exact ih c h
theorem ss_tryM {X : Cx} {W : WX} {body : List Stmt} {h₀ : ExceptHandler} {hds : List ExceptHandler} {pos : Pos} {mb : MS} {cl : List Cl} (hs : X.stack = X.env :: X.outer) (hf : X.env.frame = some X.env.locals) (tk : Takes X W)
    (hb : ∀ (W : WX) (pn : List (Addr × Obj)) (xe : Value → Shared → Prop), Takes (X.tr pn xe) W → SB (X.tr pn xe) W body mb) (hc : ClsOk X (h₀ :: hds) cl) :
    SS X W (.Try body (h₀ :: hds) [] [] pos) (stryM cl mb) :=
  PS.imp (ps_tm (tb := fun W => tS (kk X) W mb) hs hf tk (fun W pn xe t _ => hb W pn xe t) hc.tm) fun D σ H t => by
    obtain ⟨F, adr, s, ab, po⟩ := t
    refine ⟨F, adr, s, ab, ?_⟩
    unfold stryM at po
    cases e : mb s with
    | exc x s1 =>
      rw [e] at po
      have ha := hc.all
      clear hc e
      intro cls dd σ1 F1 adr1 H1 st ab1 rp
      revert po ha
      induction cl with
      | nil =>
        intro po ha
        obtain ⟨rfl, rp2⟩ := id rp
        exact po _ _ σ1 F1 adr1 H1 st ab1 rp
      | cons c r ih =>
        intro po ha
        obtain ⟨rfl, rp2⟩ := id rp
        have hc := ha c List.mem_cons_self
        have ih := fun po => ih po fun c h => ha c (List.mem_cons_of_mem _ h)
        cases c with
        | pl y tbl ms =>
          unfold goM at po
          cases el : tbl.lookup x.cls with
          | none => simp only [el] at po; exact po.elim
          | some b =>
            have hx := of_decide_eq_true (List.all_eq_true.mp hc _ (lookup_mem el))
            cases b with
            | true =>
              simp only [el] at po
              exact ⟨true, hx, fun _ a _ => ⟨F1, adr1, s1, ab1, noX_post (PostS.from st po)⟩, fun z => Bool.noConfusion z⟩
            | false =>
              simp only [el] at po
              exact ⟨false, hx, fun z => Bool.noConfusion z, fun _ => ih po⟩
        | as y tbl i ms =>
          unfold goM at po
          cases el : tbl.lookup x.cls with
          | none => simp only [el] at po; exact po.elim
          | some b =>
            have hx := of_decide_eq_true (List.all_eq_true.mp hc _ (lookup_mem el))
            cases b with
            | true =>
              simp only [el] at po
              refine ⟨true, hx, fun _ a _ => ⟨x.cls, rfl, ?_⟩, fun z => Bool.noConfusion z⟩
              have hfor : ExFor x ⟨a, x.cls, dd⟩ := by
                refine ⟨rfl, ?_⟩
                cases ef : x.fld with
                | none => rw [ef] at rp2; exact ⟨fun _ => rfl, fun _ => rp2⟩
                | some y =>
                  obtain ⟨f, d⟩ := y
                  rw [ef] at rp2
                  obtain ⟨e1, v, q, _⟩ := rp2
                  exact ⟨fun z => (by rw [show dd = none from z] at q; cases q), fun z => (by cases z)⟩
              have hrp : Rp (kk X) F1 adr1 (.exv ⟨a, x.cls, dd⟩ x.fld.toList) (.ref a) := by
                refine ⟨rfl, ?_⟩
                cases ef : x.fld with
                | none => rw [ef] at rp2; exact ⟨[], by rw [show dd = none from rp2]; rfl, rfl⟩
                | some y =>
                  obtain ⟨f, d⟩ := y
                  rw [ef] at rp2
                  obtain ⟨e1, v, q, h1, h2⟩ := rp2
                  exact ⟨[(f, v)], by rw [show dd = some e1 from q]; exact h1, v, [], rfl, h2, rfl⟩
              obtain ⟨st2, ab2⟩ := ab1.setVal (j := i) hrp
              rcases hot_of (ms := ms) (i := i) (s := s1) hfor with hh | hh
              · rw [hh] at po; exact po.elim
              · rw [hh] at po
                exact ⟨F1, adr1, _, ab2, clr_post st2 (PostS.from st po)⟩
            | false =>
              simp only [el] at po
              exact ⟨false, hx, fun z => Bool.noConfusion z, fun _ => ih po⟩
    | _ => rw [e] at po; exact po
end Bx
namespace Bx
open PySem L2 PySem.Spec PyProof.Rows
section
variable {X : Cx} {W : WX} {K : KK} {F F' H H' : Hp} {adr adr' : List Addr} {s s' : S} {σ σ' : L2.St} {d : D} {v : V} {e a b c tg o i iter : Expr} {es ts : List Expr} {m ma mb mc mo mi : M D} {ms : List (M D)} {pos apos : Pos} {E : Ends}
def isLst (s : S) (d : D) : Bool := match d with
  | .lst _ => true
  | _ => false
def mlm (f : D → D → M D) (m a : M D) : M D := bnd m fun d => bnd (settle d) fun d => bnd (chk isLst d) fun d => bnd (mal [a]) (on1 (f d))
end
end Bx
namespace Bx
open PySem L2 PySem.Spec PyProof.Rows
section
variable {X : Cx} {W : WX} {K : KK} {F F' H H' : Hp} {adr adr' : List Addr} {s s' : S} {σ σ' : L2.St} {d : D} {v : V} {e a b : Expr} {m ma mb : M D} {pos : Pos}
def fmtD (d : D) : M D := fun s => match d with
  | .str y => if y.length ≤ sizeLine then .ok (.str y) s else .bad
  | .int i => if i.natAbs.log2 < 1920 then .ok (.str (toString i)) s else .bad
  | _ => .bad
theorem se_fmt {pos : Pos} (he : SE X W e m) : SE X W (.FormattedValue e (-1) none pos) (bnd m fmtD) := PE.imp (pe_fmt he) fun σ H Q t => by
  obtain ⟨F, adr, s, ab, po⟩ := t
  refine ⟨F, adr, s, ab, (PostG.bind po).imp ?_⟩
  rintro x H1 ⟨F1, adr1, d1, s1, st1, ab1, rp1, po1⟩
  unfold fmtD at po1
  cases d1 <;> try (exact po1.elim)
  case str y =>
    by_cases h : y.length ≤ sizeLine
    · simp only [h, if_true] at po1
      exact .inl ⟨y, rp1, h, Post.at ab1 po1 rfl⟩
    · simp only [h, if_false] at po1; exact po1.elim
  case int i =>
    by_cases h : i.natAbs.log2 < 1920
    · simp only [h, if_true] at po1
      exact .inr ⟨i, rp1, h, Post.at ab1 po1 rfl⟩
    · simp only [h, if_false] at po1; exact po1.elim
/-- the parts -/
inductive SJ (X : Cx) (W : WX) : List Expr → List (M D) → Prop where
  | nil : SJ X W [] []
  | cons {e : Expr} {m : M D} {es : List Expr} {ms : List (M D)} (h : SE X W e m) (r : SJ X W es ms) : SJ X W (e :: es) (m :: ms)
theorem SJ.pj {es : List Expr} {ms : List (M D)} (h : SJ X W es ms) : PJ X es (ms.map (tI (kk X) W)) := by
  induction h with
  | nil => exact .nil
  | cons h _ ih => exact .cons h ih
def mjs : List (M D) → Str → M D
  | [], acc => pur (.str acc)
  | m :: ms, acc => bnd m fun d => match d with
    | .str y => if (acc ++ y).length ≤ sizeLine then mjs ms (acc ++ y) else fun _ => .bad
    | _ => fun _ => .bad
theorem tjs_of : ∀ (ms : List (M D)) (acc : Str) {σ : L2.St} {H : Hp} {Q : VK}, tI K W (mjs ms acc) σ H Q → tJs (ms.map (tI K W)) acc σ H fun out H1 => Q (.str out) H1
  | [], acc, σ, H, Q, h => by
    obtain ⟨F, adr, s, ab, po⟩ := h
    exact Post.at ab po rfl
  | m :: ms, acc, σ, H, Q, h => by
    obtain ⟨F, adr, s, ab, po⟩ := h
    refine ⟨F, adr, s, ab, (PostG.bind po).imp ?_⟩
    rintro x H1 ⟨F1, adr1, d1, s1, st1, ab1, rp1, po1⟩
    cases d1 <;> try (exact po1.elim)
    rename_i y
    by_cases h : (acc ++ y).length ≤ sizeLine
    · simp only [h, if_true] at po1
      exact ⟨y, rp1, h, tjs_of ms (acc ++ y) ⟨F1, adr1, s1, ab1, po1⟩⟩
    · simp only [h, if_false] at po1; exact po1.elim
theorem se_fstr {v1 v2 : Expr} {rest : List Expr} {ms : List (M D)} (h : SJ X W (v1 :: v2 :: rest) ms) : SE X W (.JoinedStr (v1 :: v2 :: rest) pos) (mjs ms Str.empty) := PE.imp (pe_joined h.pj) fun σ H Q t => tjs_of ms _ t
def strO (cn : Str) (den : Den) (d : D) : M D := fun s => match d with
  | .obj c fs => if c = cn then (match den [.obj c fs] s.μ with
    | .ok (.str x) μ' => .ok (.str x) { s with μ := μ' }
    | _ => .bad) else .bad
  | d => strD d s
end
section
variable {X : Cx} {W : WX} {k : Nat} {f : Addr} {fd : FuncData} {ps : List Str} {den : Den} {cn : Str}
theorem cr_strO (G : FnG X.prog X.w X.K X.mg X.base k f fd ps (spD (kk X) ps.length den)) (hs : PySem.W.findIn X.K (.ref (He.ga X.K cn)) "__str__" = some (some (.ref f))) (hf : PySem.W.isFn X.K (.ref f) = true)
    (hb : Binds X.K fd ps []) (hp : ps.length = 1) (hr : Room (k + 2) X.A) (hgd : X.A.guards = some []) : CallR X (.type "str") (rCI (kk X) W (f1 (strO cn den))) := by
  intro pins s σ H xs us Q I rs hq
  obtain ⟨x, rfl, F, adr, sd, σd, d1, ab, r1, po⟩ := f1_of hq
  by_cases ho : ∃ c fs, d1 = .obj c fs
  · obtain ⟨c, fs, rfl⟩ := ho
    unfold strO at po
    by_cases hc : c = cn
    · subst hc
      simp only [if_true] at po
      cases rs with
      | cons rx rr =>
        cases rr
        obtain ⟨a, dx, fv, rfl, ha, rfa⟩ := id r1
        cases rx
        have haH : H a = some (.ins (He.ga X.K c) dx fv) := ex_i ab.sub (fun z : lockable (.ins _ _ _) => z) ha
        obtain ⟨mA, J, _⟩ := ins_get I.hok haH
        obtain ⟨od, J, _⟩ := J.look
        have hr2 : Room k X.A.in1.in1 := hr.in1.in1
        refine PySem.W.kso_call hr2.units0 I.kIn J hs hf ?_
        cases e : den [.obj c fs] sd.μ with
        | bad => simp only [e] at po; exact po.elim
        | exc _ _ => simp only [e] at po; exact po.elim
        | ok d μ' =>
          simp only [e] at po
          cases d <;> try (exact po.elim)
          rename_i r
          have hsp : spD (kk X) ps.length den [.ref a] H (fun z H' => z = .str r ∧ Q (.str r) H') (fun _ _ _ => False) := by
            refine ⟨F, adr, sd.μ, [.obj c fs], ab.toAbsH, ⟨_, _, rfl, r1, rfl⟩, by rw [hp]; rfl, ?_⟩
            rw [e]
            intro z F' adr' H' st ah rp
            have ez : z = .str r := rp
            subst ez
            exact ⟨rfl, po _ F' adr' H' (ab.after st ah).1 (ab.after st ah).2 rfl⟩
          refine wpAny_call (codeAny_mono (G.run X.A.in1.in1 X.stack s H ⟨[.ref a], []⟩ [.ref a] [.ref a] _ (fun _ _ _ => False) hr2 hgd I.env0.in1.in1 (by
            have := hb s [.ref a] I.kIn (by simpa using hp.symm)
            simpa using this) (.cons rfl .nil) hsp) fun r' s' hq => ?_)
          cases r' with
          | error er => exact takesF er s' (XE.of_call I (fun _ _ _ h => h) hq)
          | ok fl =>
            cases fl with
            | ret w =>
              obtain ⟨z, H', I', rz, ez, q⟩ := I.after hq
              subst ez
              obtain ⟨t, rfl⟩ := rz
              exact ⟨.str r, H', I', ⟨t, rfl⟩, q⟩
            | next => exact hq.elim
            | brk => exact hq.elim
            | cont => exact hq.elim
    · simp only [hc, if_false] at po; exact po.elim
  · have po' : Post (kk X) W F adr sd σd H (strD d1 sd) Q := by
      cases d1 <;> first | exact po | (exact (ho ⟨_, _, rfl⟩).elim)
    exact cr_str (W := W) pins s σ H [x] us Q I rs ⟨F, adr, sd, σd, [d1], ab, ⟨x, [], rfl, r1, rfl⟩, po'⟩
end
end Bx
namespace Bx
open PySem L2 PySem.Spec PyProof.Rows
def reprA (d : D) : M D := fun s => match d with
  | .non => .ok (.str "None") s
  | .bl b => .ok (.str (if b then "True" else "False")) s
  | .int i => if i.natAbs.log2 < 1920 then .ok (.str (toString i)) s else .bad
  | .str x => if (reprText x).length ≤ sizeLine then .ok (.str (reprText x)) s else .bad
  | d => reprD d s
section
variable {X : Cx} {W : WX}
theorem cr_reprA (hu : X.A.units + 64 < cLine) (hg : X.A.guards = some []) : CallR X (.builtin "repr") (rCI (kk X) W (f1 reprA)) := by
  intro pins s σ H xs us Q I rs hq
  obtain ⟨x, rfl, F, adr, sd, σd, d1, ab, r1, po⟩ := f1_of hq
  have go : Post (kk X) W F adr sd σd H (reprD d1 sd) Q → wpAny (model X.prog X.w) X.A (call (.builtin "repr") us) (EP X pins σ Q) X.xe s := fun po =>
    cr_repr (W := W) hu hg pins s σ H [x] us Q I rs ⟨F, adr, sd, σd, [d1], ab, ⟨x, [], rfl, r1, rfl⟩, po⟩
  cases d1 <;> first | exact go po | skip
  case non =>
    cases rs with
    | cons rx rr =>
      cases rr
      obtain rfl := (show x = .non from r1)
      obtain rfl := (show _ = Value.none from rx)
      exact PySem.P.repr_of_none ⟨.str _, H, I.tok _, ⟨_, rfl⟩, Post.at ab po rfl⟩
  case bl b =>
    cases rs with
    | cons rx rr =>
      cases rr
      obtain rfl := (show x = .bl b from r1)
      obtain rfl := (show _ = Value.bool b from rx)
      refine PySem.P.repr_of_bool ⟨.str _, H, I.tok _, ⟨_, rfl⟩, ?_⟩
      cases b <;> exact Post.at ab po rfl
  case int i =>
    cases rs with
    | cons rx rr =>
      cases rr
      obtain rfl := (show x = .int i from r1)
      obtain ⟨t, rfl⟩ := rx
      unfold reprA at po
      by_cases h : i.natAbs.log2 < 1920
      · simp only [h, if_true] at po
        exact PySem.P.repr_of_int h ⟨.str _, H, I.tok _, ⟨_, rfl⟩, Post.at ab po rfl⟩
      · simp only [h, if_false] at po; exact po.elim
  case str y =>
    cases rs with
    | cons rx rr =>
      cases rr
      obtain rfl := (show x = .str y from r1)
      obtain ⟨t, rfl⟩ := rx
      unfold reprA at po
      by_cases h : (reprText y).length ≤ sizeLine
      · simp only [h, if_true] at po
        exact PySem.P.repr_of_str ⟨.str _, H, I.tok _, ⟨_, rfl⟩, Post.at ab po rfl⟩ h
      · simp only [h, if_false] at po; exact po.elim
end
def listM (d : D) : M MO := fun s => match d with
  | .tup xs => .ok (.lst xs) s
  | .lst xs => .ok (.lst xs) s
  | _ => .bad
def nlist (m : M D) : M MO := bnd m listM
end Bx
namespace Bx
open PySem L2 PySem.Spec PyProof.Rows
end Bx
namespace Bx
open PySem L2 PySem.Spec PyProof.Rows
mutual
def pdT : D → Option PyData
  | .non => some .none
  | .bl b => some (.bool b)
  | .int i => some (.int i)
  | .str x => some (.str x)
  | .tup ds => (pdTL ds).map .tuple
  | .dct [] => some (.dict [])
  | _ => none
def pdTL : List D → Option (List PyData)
  | [] => some []
  | d :: ds => match pdT d, pdTL ds with
    | some a, some b => some (a :: b)
    | _, _ => none
end
section
variable {X : Cx} {pins : List (Addr × Obj)} {σ : L2.St} {H F : Hp} {s : Shared} {adr : List Addr}
mutual
theorem readsT (I : Inv X pins σ H s) (e : Ex F H) : ∀ (d : D) (v : V) (u : Value) (p : PyData), pdT d = some p → Rp (kk X) F adr d v → RelV v u → ∃ as, Reads s.heap u p as ∧ sysModules ∉ as
  | .non, _, _, _, h, r, rv => by
    cases h; cases r
    obtain rfl := (show _ = Value.none from rv)
    exact ⟨[], .none, by simp⟩
  | .bl b, _, _, _, h, r, rv => by
    cases h; cases r
    obtain rfl := (show _ = Value.bool b from rv)
    exact ⟨[], .bool b, by simp⟩
  | .int i, _, _, _, h, r, rv => by
    cases h; cases r
    obtain ⟨t, rfl⟩ := rv
    exact ⟨[], .int i t, by simp⟩
  | .str x, _, _, _, h, r, rv => by
    cases h; cases r
    obtain ⟨t, rfl⟩ := rv
    exact ⟨[], .str x t, by simp⟩
  | .tup ds, _, _, _, h, ⟨a, vs, q, hx, hr⟩, rv => by
    obtain ⟨ps, h1, rfl⟩ := Option.map_eq_some_iff.mp (show (pdTL ds).map PyData.tuple = some _ from h)
    subst q
    obtain rfl := (show _ = Value.ref a from rv)
    obtain ⟨its, r, ⟨o, ho, hc, n, hd⟩, hs⟩ := I.tuple (ex_t e hx.t)
    obtain ⟨as, ra, hn⟩ := readsTL I e ds vs its ps h1 hr r
    exact ⟨as, .tuple ho hc hd (by simpa using ra), hn⟩
  | .dct [], _, _, _, h, ⟨a, kvs, q, hx, hr⟩, rv => by
    cases h
    subst q
    obtain rfl := (show _ = Value.ref a from rv)
    have ek : kvs = [] := hr
    subst ek
    obtain ⟨_, hsm, vs, hkv, o, es, ep, ho, hx2, hd, _, hp, _⟩ := dk_rd I.hok (e _ _ hx).rd
    have hv : vs = [] := by cases hkv; rfl
    subst hv
    have hes : es = #[] := by
      have := hp.length
      simp at this
      exact this
    subst hes
    refine ⟨[a], .dict (kvs := []) (as := []) (bs := []) ho hx2.1 hd (by simpa using ReadsAll.nil) (by simpa using ReadsAll.nil), ?_⟩
    simp at hsm
    simpa using fun z => hsm z.symm
  | .dct (_ :: _), _, _, _, h, _, _ => nomatch h
  | .lst _, _, _, _, h, _, _ => nomatch h
  | .obj _ _, _, _, _, h, _, _ => nomatch h
  | .ref _, _, _, _, h, _, _ => nomatch h
  | .loc _, _, _, _, h, _, _ => nomatch h
  | .glo _, _, _, _, h, _, _ => nomatch h
  | .ty _, _, _, _, h, _, _ => nomatch h
  | .scr _, _, _, _, h, _, _ => nomatch h
  | .twk _, _, _, _, h, _, _ => nomatch h
  | .exv _ _, _, _, _, h, _, _ => nomatch h
theorem readsTL (I : Inv X pins σ H s) (e : Ex F H) : ∀ (ds : List D) (vs : List V) (us : List Value) (ps : List PyData), pdTL ds = some ps → RpL (kk X) F adr ds vs → Vals vs us → ∃ as, ReadsAll s.heap us ps as ∧ sysModules ∉ as
  | [], _, _, _, h, r, rv => by
    cases h; cases r; cases rv
    exact ⟨[], .nil, by simp⟩
  | d :: ds, _, _, _, h, ⟨v, r, q, h1, h2⟩, rv => by
    subst q
    cases rv with
    | cons ra rr =>
      simp only [pdTL] at h
      cases e1 : pdT d with
      | none => rw [e1] at h; cases h
      | some a =>
        cases e2 : pdTL ds with
        | none => rw [e1, e2] at h; cases h
        | some b =>
          rw [e1, e2] at h
          cases h
          obtain ⟨as, x1, x2⟩ := readsT I e d v _ a e1 h1 ra
          obtain ⟨bs, y1, y2⟩ := readsTL I e ds r _ b e2 h2 rr
          exact ⟨as ++ bs, .cons x1 y1, by simp [x2, y2]⟩
end
end
def reprB (d : D) : M D := fun s => match pdT d with
  | some p => match d with
    | .tup _ => if (pd d).isSome then reprD d s else if p.showable = true ∧ p.shown.length ≤ 16000000 ∧ p.depth ≤ 60 then .ok (.str p.shown) s else .bad
    | .dct _ => if p.showable = true ∧ p.shown.length ≤ 16000000 ∧ p.depth ≤ 60 then .ok (.str p.shown) s else .bad
    | d => reprA d s
  | none => reprA d s
section
variable {X : Cx} {W : WX}
theorem cr_reprB (hu : X.A.units + 64 < cLine) (hg : X.A.guards = some []) : CallR X (.builtin "repr") (rCI (kk X) W (f1 reprB)) := by
  intro pins s σ H xs us Q I rs hq
  obtain ⟨x, rfl, F, adr, sd, σd, d1, ab, r1, po⟩ := f1_of hq
  have goA : Post (kk X) W F adr sd σd H (reprA d1 sd) Q → wpAny (model X.prog X.w) X.A (call (.builtin "repr") us) (EP X pins σ Q) X.xe s := fun po =>
    cr_reprA (W := W) hu hg pins s σ H [x] us Q I rs ⟨F, adr, sd, σd, [d1], ab, ⟨x, [], rfl, r1, rfl⟩, po⟩
  have goD : Post (kk X) W F adr sd σd H (reprD d1 sd) Q → wpAny (model X.prog X.w) X.A (call (.builtin "repr") us) (EP X pins σ Q) X.xe s := fun po =>
    cr_repr (W := W) hu hg pins s σ H [x] us Q I rs ⟨F, adr, sd, σd, [d1], ab, ⟨x, [], rfl, r1, rfl⟩, po⟩
  unfold reprB at po
  cases e : pdT d1 with
  | none => rw [e] at po; exact goA po
  | some p =>
    simp only [e] at po
    have fin : ∀ a, x = .ref a → Rp (kk X) F adr d1 x → p.showable = true ∧ p.shown.length ≤ 16000000 ∧ p.depth ≤ 60 → Post (kk X) W F adr sd σd H (.ok (.str p.shown) sd) Q → wpAny (model X.prog X.w) X.A (call (.builtin "repr") us) (EP X pins σ Q) X.xe s := by
      rintro a rfl rp ⟨h1, h2, h3⟩ po
      rw [Vals.ref1 rs]
      obtain ⟨as, rd, hn⟩ := readsT I ab.sub d1 _ (.ref a) p e rp rfl
      exact repr_of_reads' rd h1 (fun _ => hn) hg (by omega) (fun _ _ e => e) (fun h' u tk hk => ⟨.str p.shown, H, I.kept hk, ⟨u, rfl⟩, Post.at ab po rfl⟩) (by rw [sizeLine_eq]; omega)
    cases d1 <;> first | exact goA po | skip
    case tup ds =>
      by_cases hp : (pd (.tup ds)).isSome = true
      · simp only [hp, if_true] at po; exact goD po
      · simp only [hp, if_false] at po
        by_cases hc : p.showable = true ∧ p.shown.length ≤ 16000000 ∧ p.depth ≤ 60
        · simp only [hc, and_self, if_true] at po
          obtain ⟨a, vs, ex, _⟩ := (show Rp (kk X) F adr (.tup ds) x from r1)
          exact fin a ex r1 hc po
        · simp only [hc, if_false] at po; exact po.elim
    case dct kds =>
      by_cases hc : p.showable = true ∧ p.shown.length ≤ 16000000 ∧ p.depth ≤ 60
      · simp only [hc, and_self, if_true] at po
        obtain ⟨a, vs, ex, _⟩ := (show Rp (kk X) F adr (.dct kds) x from r1)
        exact fin a ex r1 hc po
      · simp only [hc, if_false] at po; exact po.elim
end
end Bx
namespace Bx
open PySem L2 PySem.Spec PyProof.Rows
end Bx
namespace Bx
open PySem L2 PySem.Spec PyProof.Rows
end Bx
namespace Bx
open PySem L2 PySem.Spec PyProof.Rows
end Bx
namespace Bx
open PySem L2 PySem.Spec PyProof.Rows
section
variable {X : Cx} {W : WX} {a : Expr} {ma : M D} {pos : Pos}
def ssort0 (d : D) : M D := fun s => match d with
  | .tup [] => .ok (.lst []) s
  | _ => .bad
end
end Bx
namespace Bx
open PySem L2 PySem.Spec PyProof.Rows
section
variable {X : Cx} {W : WX} {K : KK} {F F' H H' : Hp} {adr adr' : List Addr} {s s' : S} {σ σ' : L2.St} {d : D} {v : V} {e tg : Expr} {m : M D}
def keyB : Key → D
  | .inl i => .int i
  | .inr x => .str x
def keysM (d : D) : M (List D) := fun s => match d with
  | .dct kds => .ok (kds.map fun p => keyB p.1) s
  | _ => .bad
def mkeys (m : M D) : M (List D) := bnd m fun d => bnd (settle d) keysM
end
def setK (d i x : D) : S → RS := fun s => match s.mo d, keyD i with
  | some (.dct kds), some k => if kds.length < 100000 then .nx (s.mut d (.dct (putKD k x kds))) else .bad
  | _, _ => .bad
def ssubK (m o i : M D) : MS := fun s => (stl m s).toS fun x s => (o s).toS fun d s => (i s).toS fun k s => setK d k x s
end Bx
namespace Bx
open PySem L2 PySem.Spec PyProof.Rows
section
variable {X : Cx} {W : WX} {e : Expr} {m : M D} {pos : Pos}
/-- xs[::-1] of a list -/
def revL (d : D) : M D := fun s => match rsl s d with
  | .lst ds => .ok (.lst ds.reverse) s
  | _ => .bad
end
end Bx
namespace Bx
open PySem L2 PySem.Spec PyProof.Rows
mutual
def pdM : D → Option PyData
  | .non => some .none
  | .bl b => some (.bool b)
  | .int i => some (.int i)
  | .str x => some (.str x)
  | .tup ds => (pdML ds).map .tuple
  | .lst ds => (pdML ds).map .list
  | .dct [] => some (.dict [])
  | _ => none
def pdML : List D → Option (List PyData)
  | [] => some []
  | d :: ds => match pdM d, pdML ds with
    | some a, some b => some (a :: b)
    | _, _ => none
end
/-- repr of a tuple or a list of things -/
def reprM (d : D) : M D := fun s => match pdM d with
  | some p => match d with
    | .tup _ => if (pd d).isSome then reprD d s else if p.showable = true ∧ p.shown.length ≤ 16000000 ∧ p.depth ≤ 60 then .ok (.str p.shown) s else .bad
    | .dct _ => if p.showable = true ∧ p.shown.length ≤ 16000000 ∧ p.depth ≤ 60 then .ok (.str p.shown) s else .bad
    | d => reprA d s
  | none => reprA d s
end Bx
namespace Bx
open PySem L2 PySem.Spec PyProof.Rows
mutual
def keyN : D → Option NestedKey
  | .non => some .none
  | .int i => some (.num i)
  | .str x => some (.text x)
  | .tup ds => (keyNL ds).map .tup
  | _ => none
def keyNL : List D → Option (List NestedKey)
  | [] => some []
  | d :: r => match keyN d, keyNL r with
    | some k, some ks => some (k :: ks)
    | _, _ => none
end
def keyT : D → Option NestedKey
  | .tup ds => (keyNL ds).map .tup
  | _ => none
section
variable {X : Cx} {W : WX} {K : KK} {F F' H H' : Hp} {adr adr' : List Addr} {s s' : S} {σ σ' : L2.St} {d : D} {v : V}
mutual
/-- the data of a key -/
def nkD : NestedKey → D
  | .none => .non
  | .num i => .int i
  | .text x => .str x
  | .tup ks => .tup (nkL ks)
def nkL : List NestedKey → List D
  | [] => []
  | k :: ks => nkD k :: nkL ks
end
theorem RpN.keys : ∀ {kvs : List (NestedKey × D)} {rows : List NRow}, RpN K F adr kvs rows → rows.map (·.1) = kvs.map (·.1)
  | [], _, h => by cases h; rfl
  | (k, d) :: kvs, _, ⟨b, v, r, q, h1, h2, h3, h4⟩ => by subst q; simp [RpN.keys h4]
/-- is it a key of it -/
def hasN (k : NestedKey) (kvs : List (NestedKey × D)) : Bool := kvs.any fun p => decide (p.1 = k)
theorem NT.keys {rows : List NRow} {xs : List (NestedKey × Addr × Value)} (r : NT rows xs) : xs.map (·.1) = rows.map (·.1) := by
  unfold NT at r
  induction r with
  | nil => rfl
  | cons h t ih => rw [List.map_cons, List.map_cons, ih, h.1]
end
section
variable {X : Cx} {W : WX} {K : KK} {F F' H H' : Hp} {adr adr' : List Addr} {s s' : S} {σ σ' : L2.St} {d : D} {v : V} {e o i a b : Expr} {m mo mi : M D} {pos tpos : Pos}
/-- a new dict without keys -/
def ndcn : M MO := pur (.dcn [])
def setN (d i x : D) : S → RS := fun s => match s.mo d, keyT i with
  | some (.dcn kds), some k => if k.depth ≤ 8 ∧ hasN k kds = false ∧ kds.length < 100000 then .nx (s.mut d (.dcn (kds ++ [(k, x)]))) else .bad
  | _, _ => .bad
def ssubN (m o i : M D) : MS := fun s => (stl m s).toS fun x s => (o s).toS fun d s => (i s).toS fun k s => setN d k x s
theorem RpN.length : ∀ {kvs : List (NestedKey × D)} {rows : List NRow}, RpN K F adr kvs rows → rows.length = kvs.length := fun h => by
  have := congrArg List.length h.keys
  simpa using this
section
variable {tg : Expr}
theorem RpN.at_ : ∀ {kvs : List (NestedKey × D)} {rows : List NRow} {i : Nat} {k : NestedKey} {d : D}, RpN K F adr kvs rows → kvs[i]? = some (k, d) → ∃ q v, rows[i]? = some (k, q, v) ∧ NkX K.K F k (.ref q)
  | [], _, _, _, _, _, h => by simp at h
  | (k0, d0) :: kvs, _, 0, k, d, ⟨b, v, r, q, h1, h2, h3, h4⟩, h => by
    subst q
    simp only [List.getElem?_cons_zero, Option.some.injEq] at h
    cases h
    exact ⟨b, v, rfl, h1⟩
  | (k0, d0) :: kvs, _, i + 1, k, d, ⟨b, v, r, q, h1, h2, h3, h4⟩, h => by
    subst q
    obtain ⟨q', v', e1, e2⟩ := RpN.at_ (i := i) h4 (by simpa using h)
    exact ⟨q', v', by simpa using e1, e2⟩
def keysNM (d : D) : M (List D) := fun s => match d with
  | .dcn kds => .ok (kds.map fun p => nkD p.1) s
  | _ => .bad
def mkeysN (m : M D) : M (List D) := bnd m fun d => bnd (settle d) keysNM
end
end
end Bx
namespace Bx
open PySem L2 PySem.Spec PyProof.Rows
def intsD : List D → Option (List Int)
  | [] => some []
  | .int n :: r => (intsD r).map (n :: ·)
  | _ :: _ => none
@[simp] theorem intsD_ints : ∀ (ns : List Int), intsD (ns.map D.int) = some ns
  | [] => rfl
  | n :: r => by show (intsD (r.map D.int)).map (n :: ·) = _; rw [intsD_ints r]; rfl
end Bx
namespace Bx
open PySem L2 PySem.Spec PyProof.Rows
section
variable {X : Cx} {W : WX} {o e : Expr} {m ma : M D} {pos apos : Pos}
def popD (d i : D) : M D := fun s => match s.mo d, i with
  | some (.lst xs), .int k => if 0 ≤ k ∧ k < 100000 then (match xs[k.toNat]? with
    | some y => .ok y (s.mut d (.lst (xs.eraseIdx k.toNat)))
    | none => .bad) else .bad
  | _, _ => .bad
def mpop (m a : M D) : M D := bnd m fun d => bnd (chk isL d) fun d => bnd (mal [a]) (on1 (popD d))
theorem RpL.erase {K : KK} {F : Hp} {adr : List Addr} : ∀ {ds : List D} {vs : List V} (n : Nat), RpL K F adr ds vs → RpL K F adr (ds.eraseIdx n) (vs.eraseIdx n)
  | [], _, n, h => by
    have e : _ = [] := h
    subst e
    exact h
  | d :: ds, _, 0, ⟨v, r, q, h1, h2⟩ => by
    subst q
    exact h2
  | d :: ds, _, n + 1, ⟨v, r, q, h1, h2⟩ => by
    subst q
    exact ⟨v, _, rfl, h1, RpL.erase n h2⟩
end
end Bx
namespace Bx
open PySem L2 PySem.Spec PyProof.Rows
section
variable {X : Cx} {W : WX} {K : KK} {F F' H H' : Hp} {adr adr' : List Addr} {s s' : S} {σ σ' : L2.St} {d : D} {v : V} {o i a b e : Expr} {m ma mb mo mi : M D} {pos apos cpos : Pos}
def naddM (x y : D) : M MO := fun s => match rsl s x, rsl s y with
  | .lst xs, .lst ys => if xs.length + ys.length ≤ 100000 then .ok (.lst (xs ++ ys)) s else .bad
  | _, _ => .bad
def naddL (a b : M D) : M MO := bnd a fun x => bnd b fun y => naddM x y
def orVK (b : M D) (d : D) : M D := fun s => match truthD s d with
  | some true => .ok d s
  | some false => b s
  | none => .bad
def orV (a b : M D) : M D := bnd a (orVK b)
def isDct (s : S) (d : D) : Bool := match s.mo d with
  | some (.dct _) => true
  | _ => false
def dropD (k : Key) (kds : List (Key × D)) : List (Key × D) := kds.filter fun kv => decide (kv.1 ≠ k)
def dpopD (d i : D) : M D := fun s => match s.mo d, keyD i with
  | some (.dct kds), some k => match lookK k kds with
    | some x => .ok x (s.mut d (.dct (dropD k kds)))
    | none => .bad
  | _, _ => .bad
def mdpop (m a : M D) : M D := bnd m fun d => bnd (chk isDct d) fun d => bnd a fun i => dpopD d i
theorem RpK.drop {k : Key} : ∀ {ds : List (Key × D)} {kvs : List (Key × V)}, RpK K F adr ds kvs → RpK K F adr (dropD k ds) (dropK kvs k)
  | [], _, h => by cases h; exact rfl
  | (j, d0) :: ds, _, ⟨v, r, q, h1, h2⟩ => by
    subst q
    have ih := RpK.drop (k := k) h2
    unfold dropD dropK at ih ⊢
    rw [List.filter_cons, List.filter_cons]
    by_cases e : j = k
    · simp only [e, ne_eq, not_true, decide_false, Bool.false_eq_true, if_false]
      exact ih
    · simp only [e, ne_eq, not_false_eq_true, decide_true, if_true]
      exact ⟨v, _, rfl, h1, ih⟩
end
end Bx
namespace Bx
open PySem L2 PySem.Spec PyProof.Rows
end Bx
namespace Bx
open PySem L2 PySem.Spec PyProof.Rows
section
variable {X : Cx} {W : WX} {K : KK} {F F' H H' : Hp} {adr adr' : List Addr} {s s' : S} {σ σ' : L2.St} {d : D} {v : V} {o i a b c e : Expr} {m ma mb mo mi : M D} {pos apos cpos : Pos}
theorem Abs.free {mo : MO} (ab : Abs K F adr s σ H) (r : RpV K F adr σ d v) (h : s.mo d = some mo) : ∃ a, v = .ref a ∧ F a = none := by
  cases d <;> first | (cases h; done) | skip
  case ref i =>
    obtain ⟨a, q, rfl⟩ := r
    obtain ⟨h1, _⟩ := ab.sto i a mo q h
    exact ⟨a, rfl, h1⟩
  case loc j =>
    have r' : σ[j]? = some (some v) := r
    have h' : s.ρ[j]? = some (.own mo) := by
      cases e : s.ρ[j]? with
      | none => simp only [S.mo, e] at h; cases h
      | some sl =>
        cases sl with
        | no => simp only [S.mo, e] at h; cases h
        | val d1 => simp only [S.mo, e] at h; cases h
        | own m1 => simp only [S.mo, e] at h; rw [Option.some.inj h]
    obtain ⟨l, u, y1, y2, _⟩ := ab.slo j mo h'
    rw [r'] at y1
    cases y1
    exact ⟨l, rfl, y2⟩
end
end Bx
namespace Bx
open PySem L2 PySem.Spec PyProof.Rows
end Bx
namespace Bx
open PySem L2 PySem.Spec PyProof.Rows
section
variable {X : Cx}
def eraseK (ks : List Key) (k : Key) : List Key := ks.filter fun j => decide (j ≠ k)
variable {o e : Expr} {es : List Expr} {to : TE} {t : TA} {apos cpos : Pos}
end
section
variable {X : Cx} {W : WX} {K : KK} {F F' H H' : Hp} {adr adr' : List Addr} {s s' : S} {σ σ' : L2.St} {d : D} {v : V} {e a b c tg o i iter : Expr} {es ts : List Expr} {m ma mb mc mo mi : M D} {ms : List (M D)} {pos apos : Pos} {E : Ends}
def discD (d x : D) : M D := fun s => match s.mo d, keyD x with
  | some (.set ks), some k => if ks.Nodup then .ok .non (s.mut d (.set (eraseK ks k))) else .bad
  | _, _ => .bad
def msdisc (m a : M D) : M D := bnd m fun d => bnd (chk isSet d) fun d => bnd (mal [a]) (on1 (discD d))
def ksetM : List D → M MO := fun ds s => match keysD ds with
  | some ks => if ks.length ≤ 4000 then .ok (.set (uniq ks)) s else .bad
  | none => .bad
def nsetM (d : D) : M MO := fun s => match rsl s d with
  | .lst ds => ksetM ds s
  | .tup ds => ksetM ds s
  | _ => .bad
def nsetK (m : M D) : M MO := bnd m nsetM
end
end Bx
namespace Bx
open PySem L2 PySem.Spec PyProof.Rows
section
variable {X : Cx} {W : WX} {K : KK} {F F' H H' : Hp} {adr adr' : List Addr} {s s' : S} {σ σ' : L2.St} {d : D} {v : V} {e a b c tg tg1 o iter iter1 kx vx : Expr} {es : List Expr} {m ma mb mc : M D} {ms : List (M D)} {pos apos : Pos} {E : Ends}
/-- what holds of the list under way -/
structure WayD (K : KK) (F1 : Hp) (adr1 : List Addr) (s1 : S) (σ : L2.St) (H1 : Hp) (p : Addr) (F' : Hp) (adr' : List Addr) (s' : S) (σ' : L2.St) (H' : Hp) (acc : List (Key × D)) (av : List (Key × V)) : Prop where
  st : Step F1 adr1 (Fp adr1 s1 σ) H1 F' adr' (Fp adr' s' σ') H'
  ab : Abs K F' adr' s' σ' H'
  fp : F' p = none
  np : ¬ Fp adr' s' σ' p
  hp : H' p = some (.dK av)
  rp : RpK K F' adr' acc av
theorem WayD.step {F1 F2 F3 H1 H2 H3 : Hp} {adr1 adr2 adr3 : List Addr} {s1 s2 s3 : S} {σ2 σ3 : L2.St} {p : Addr} {acc : List (Key × D)} {av : List (Key × V)} (w : WayD K F1 adr1 s1 σ H1 p F2 adr2 s2 σ2 H2 acc av) (st : Step F2 adr2 (Fp adr2 s2 σ2) H2 F3 adr3 (Fp adr3 s3 σ3) H3) (ab : Abs K F3 adr3 s3 σ3 H3) :
    WayD K F1 adr1 s1 σ H1 p F3 adr3 s3 σ3 H3 acc av := by
  obtain ⟨f, n, h⟩ := keep_fresh st w.fp w.np w.hp
  exact ⟨w.st.trans st, ab, f, n, h, w.rp.mono st.ex st.pre⟩
end
end Bx
namespace Bx
open PySem L2 PySem.Spec PyProof.Rows
section
variable {X : Cx} {W : WX} {K : KK} {F F' H H' : Hp} {adr adr' : List Addr} {s s' : S} {σ σ' : L2.St} {d : D} {v : V} {e a b c tg o iter elt : Expr} {es : List Expr} {m ma mb mc : M D} {ms : List (M D)} {pos apos : Pos} {E : Ends}
def ncv : R D → R MO
  | .ok (.lst xs) s => .ok (.lst xs) s
  | .exc x s => .exc x s
  | _ => .bad
def ncomp (vs : List Nat) (it : M (List D)) (asg : D → MS) (t : M Bool) (el : M D) : M MO := bnd it fun items s => ncv (cloop vs asg t el items [] (wipeS vs s))
end
end Bx
namespace Bx
open PySem L2 PySem.Spec PyProof.Rows
section
variable {X : Cx} {W : WX} {K : KK} {F F' H H' : Hp} {adr adr' : List Addr} {s s' : S} {σ σ' : L2.St} {d : D} {v : V} {e a b c tg o iter elt : Expr} {es : List Expr} {m ma mb mc : M D} {ms : List (M D)} {pos apos : Pos} {E : Ends}
def itsO (j : Nat) : M (List D) := fun s => match s.ρ[j]? with
  | some (.own (.lst xs)) => .ok xs s
  | _ => .bad
def tItO (K : KK) (W : WX) (j : Nat) : TI := fun σ H R => ∃ F adr s, Abs K F adr s σ H ∧ PostG K W (fun _ _ (_ : List D) J => ∃ a, J = Itl K.K a ∧ σ[j]? = some (some (.ref a))) F adr s σ H (itsO j s) R
theorem pi_own {j : Nat} {x : Str} {p : Pos} (he : SE X W (.Name x p) (var j)) : PI X tg (.Name x p) (tItO (kk X) W j) := PI.imp (pi_any he) fun σ H R t => by
  obtain ⟨F, adr, s, ab, po⟩ := t
  unfold itsO at po
  cases e : s.ρ[j]? with
  | none => simp only [e] at po; exact po.elim
  | some sl =>
  cases sl <;> simp only [e] at po <;> try (exact po.elim)
  rename_i mo
  cases mo <;> simp only at po <;> try (exact po.elim)
  rename_i xs
  refine ⟨F, adr, s, ab, ?_⟩
  have ev : var j s = .ok (.loc j) s := by simp [var, e]
  rw [ev]
  intro v F' adr' H' st ab' rp
  obtain ⟨l, o, z1, z2, z3, z4, z5⟩ := ab'.slo j _ e
  have hv : σ[j]? = some (some v) := rp
  rw [z1] at hv
  cases hv
  obtain ⟨vs0, rfl, rv0⟩ := z5
  exact .inl ⟨l, vs0, rfl, SqL.of z4, po _ F' adr' H' st ab' ⟨l, rfl, z1⟩⟩
def cloopO (j : Nat) (vs : List Nat) (asg : D → MS) (t : M Bool) (el : M D) : Nat → Nat → List D → S → R D
  | 0, _, _, _ => .bad
  | n + 1, i, acc, s => match s.ρ[j]? with
    | some (.own (.lst xs)) => match xs[i]? with
      | none => .ok (.lst acc) (wipeS vs s)
      | some d => match asg d s with
        | .nx s1 => match t s1 with
          | .ok true s2 => match stl el s2 with
            | .ok y s3 => if acc.length < 100000 then cloopO j vs asg t el n (i + 1) (acc ++ [y]) (wipeS vs s3) else .bad
            | _ => .bad
          | .ok false s2 => cloopO j vs asg t el n (i + 1) acc (wipeS vs s2)
          | _ => .bad
        | _ => .bad
    | _ => .bad
def mcompO (j : Nat) (vs : List Nat) (asg : D → MS) (t : M Bool) (el : M D) : M D := bnd (itsO j) fun _ s => cloopO j vs asg t el 100001 0 [] (wipeS vs s)
theorem t_compW {j0 : Nat} {vs : List Nat} {g : Tgt} {t : M Bool} {el : M D} {σ : L2.St} {H : Hp} {Q : VK} (hg : ∀ i ∈ g.slots, i ∈ vs) (hj0 : j0 ∉ vs) (h : tI K W (mcompO j0 vs g.asg t el) σ H Q) :
    tLc (tItO K W j0) (g.tr K.K) (tT K W0 t) (tI K W0 (stl el)) vs σ H Q := by
  obtain ⟨F, adr, s, ab, po⟩ := h
  refine ⟨F, adr, s, ab, (PostG.bind po).imp ?_⟩
  rintro J H1 ⟨F1, adr1, items, s1, st1, ab1, ⟨l0, rfl, hl0⟩, po1⟩
  intro p hp
  -- the start, behind the new list
  have hFp := ab1.fnone hp
  have npp : ¬ Fp adr1 s1 σ p := fun z => (ab1.fpH z).1 hp
  refine ⟨fun i m' H' => ∃ F' adr' s' acc av, Step F1 adr1 (Fp adr1 s1 σ) H1 F' adr' (Fp adr' s' (wipe σ vs)) H' ∧ Abs K F' adr' s' (wipe σ vs) H' ∧ F' p = none ∧ ¬ Fp adr' s' (wipe σ vs) p ∧ H' p = some (.lst av) ∧
      RpL K F' adr' acc av ∧ Post K W F1 adr1 s1 σ H1 (cloopO j0 vs g.asg t el m' i acc s') Q, ⟨100001, ?_⟩, ?_⟩
  · obtain ⟨y1, y2⟩ := ab1.wiped (vs := vs) (σ2 := wipe σ vs) (wipe_length σ vs) (fun i hi => wipe_out' hi)
    have st0 : Step F1 adr1 (Fp adr1 s1 σ) H1 F1 adr1 (Fp adr1 (wipeS vs s1) (wipe σ vs)) H1 := Step.less .refl y1
    exact ⟨F1, adr1, wipeS vs s1, [], [], st0.wrNew hp, y2.wrFresh hFp (fun z => npp (y1 _ z)), hFp, fun z => npp (y1 _ z), upd_same, rfl, po1⟩
  · rintro i m' H2 ⟨F2, adr2, s2, acc, av, st2, ab2, f2, n2, h2, r2, po2⟩
    cases m' with
    | zero => exact (show False from po2).elim
    | succ m' =>
    unfold cloopO at po2
    cases eo : s2.ρ[j0]? with
    | none => simp only [eo] at po2; exact po2.elim
    | some sl =>
    cases sl <;> simp only [eo] at po2 <;> try (exact po2.elim)
    rename_i mo
    cases mo <;> simp only at po2 <;> try (exact po2.elim)
    rename_i xs
    obtain ⟨l1, o1, zz1, zz2, zz3, zz4, zz5⟩ := ab2.slo j0 _ eo
    have el1 : l1 = l0 := by
      rw [wipe_out' hj0, hl0] at zz1
      exact (V.ref.inj (Option.some.inj (Option.some.inj zz1))).symm
    subst el1
    obtain ⟨vs0, rfl, rv0⟩ := zz5
    cases hd : xs[i]? with
    | some d =>
      simp only [hd] at po2
      obtain ⟨w0, hw0, rw0⟩ := rv0.get hd
      refine .inr ⟨⟨vs0, w0, SqL.of zz4, hw0⟩, fun H' => ∃ F' adr' s' acc av, Step F1 adr1 (Fp adr1 s1 σ) H1 F' adr' (Fp adr' s' (wipe σ vs)) H' ∧ Abs K F' adr' s' (wipe σ vs) H' ∧ F' p = none ∧ ¬ Fp adr' s' (wipe σ vs) p ∧ H' p = some (.lst av) ∧
        RpL K F' adr' acc av ∧ Post K W F1 adr1 s1 σ H1 (cloopO j0 vs g.asg t el m' (i + 1) acc s') Q, fun H' z => ⟨m', Nat.lt_succ_self _, z⟩, fun x H3 y => ?_⟩
      obtain ⟨rfl, y2⟩ := y
      have ex : w0 = x := by
        have z := y2 vs0 (SqL.of zz4)
        rw [hw0] at z
        exact Option.some.inj z
      subst ex
      have st3 : Step F2 adr2 (Fp adr2 s2 (wipe σ vs)) H3 F2 adr2 (Fp adr2 s2 (wipe σ vs)) H3 := .refl
      have ab3 := ab2
      have rp3 := rw0
      obtain ⟨f3, n3, h3⟩ := keep_fresh st3 f2 n2 h2
      cases e1 : g.asg d s2 with
      | nx s3 =>
        simp only [e1] at po2
        refine Tgt.run ab3 rp3 e1 fun σ4 hl4 ho4 st4 ab4 => ?_
        have wz : wipe σ4 vs = wipe σ vs := wipe_ext (by rw [hl4, wipe_length]) (fun j hj => by rw [ho4 j (fun z => hj (hg j z)), wipe_out' hj])
        refine ⟨wz, F2, adr2, s3, ab4, ?_⟩
        obtain ⟨f4, n4, h4⟩ := keep_fresh st4 f3 n3 h3
        -- behind a turn: the slots forgotten again
        have fin : ∀ {F5 : Hp} {adr5 : List Addr} {s5 : S} {H5 : Hp}, Step F2 adr2 (Fp adr2 s3 σ4) H3 F5 adr5 (Fp adr5 s5 σ4) H5 → Abs K F5 adr5 s5 σ4 H5 →
            Step F1 adr1 (Fp adr1 s1 σ) H1 F5 adr5 (Fp adr5 (wipeS vs s5) (wipe σ vs)) H5 ∧ Abs K F5 adr5 (wipeS vs s5) (wipe σ vs) H5 ∧ F5 p = none ∧ ¬ Fp adr5 (wipeS vs s5) (wipe σ vs) p ∧ H5 p = some (.lst av) ∧ RpL K F5 adr5 acc av := fun {F5 adr5 s5 H5} st5 ab5 => by
          obtain ⟨y1, y2⟩ := ab5.wiped (vs := vs) (σ2 := wipe σ vs) (by rw [wipe_length, hl4, wipe_length]) (fun j hj => by rw [wipe_out' hj, ho4 j (fun z => hj (hg j z)), wipe_out' hj])
          obtain ⟨f5, n5, h5⟩ := keep_fresh st5 f4 n4 h4
          have stA := (st2.trans st3).trans (st4.trans st5)
          exact ⟨Step.less stA y1, y2, f5, fun z => n5 (y1 _ z), h5, r2.mono ((st3.trans st4).trans st5).ex ((st3.trans st4).trans st5).pre⟩
        cases e2 : t s3 with
        | ok bb s5 =>
          simp only [e2] at po2
          intro b' F5 adr5 H5 st5 ab5 hb
          have hb' : b' = bb := hb
          subst hb'
          cases b' with
          | false =>
            obtain ⟨q1, q2, q3, q4, q5, q6⟩ := fin st5 ab5
            exact ⟨F5, adr5, _, acc, av, q1, q2, q3, q4, q5, q6, po2⟩
          | true =>
            refine ⟨F5, adr5, s5, ab5, ?_⟩
            simp only at po2
            cases e3 : stl el s5 with
            | ok yv s6 =>
              simp only [e3] at po2
              intro w F6 adr6 H6 st6 ab6 rp6
              obtain ⟨q1, q2, q3, q4, q5, q6⟩ := fin (st5.trans st6) ab6
              by_cases hz : acc.length < 100000
              · simp only [hz, if_true] at po2
                refine ⟨av, q5, by rw [r2.length]; exact Nat.lt_of_lt_of_le hz line5, F6, adr6, wipeS vs s6, acc ++ [yv], av ++ [w], q1.wrNew hp, q2.wrFresh q3 q4, q3, q4, upd_same, q6.append (.one ?_), po2⟩
                cases yv with
                | loc j => exact (stl_noloc e3).elim
                | _ => exact rp6
              · simp only [hz, if_false] at po2
                exact po2.elim
            | exc x6 s6 => simp only [e3] at po2; exact po2.elim
            | bad => simp only [e3] at po2; exact po2.elim
        | exc x5 s5 => simp only [e2] at po2; exact po2.elim
        | bad => simp only [e2] at po2; exact po2.elim
      | _ => simp only [e1] at po2; exact po2.elim
    | none =>
      simp only [hd] at po2
      refine .inl ⟨⟨vs0, SqL.of zz4, ?_⟩, ?_⟩
      · have := List.getElem?_eq_none_iff.mp hd
        rw [rv0.length]
        exact this
      obtain ⟨y1, y2⟩ := ab2.wiped (vs := vs) (σ2 := σ) (wipe_length σ vs).symm (fun j hj => (wipe_out' hj).symm)
      have po3 : Post K W F1 adr1 s1 σ H1 (.ok (.lst acc) (wipeS vs s2)) Q := po2
      have ex := Ex.new (o := .lst av) f2
      refine po3 (.ref p) (upd F2 p (.lst av)) adr2 H2 ⟨st2.ex.trans ex, st2.pre, st2.keep, fun x z => st2.foot x (y1 _ z), fun x z => ?_, st2.there⟩ ?_ ?_
      · by_cases hx : x = p
        · exact .inr (.inl (by rw [hx]; exact hp))
        · rw [upd_ne hx] at z; exact st2.frz x z
      · refine ⟨⟨fun x u r => ?_, y2.len, y2.nd, fun k x m' k1 k2 => ?_⟩, y2.lenr, fun j d' q => ?_, fun j m' q => ?_, y2.dis⟩
        · by_cases hx : x = p
          · subst hx
            rcases r with r | ⟨lk, o', r⟩
            · rw [upd_same] at r; exact .inl (by rw [← r]; exact h2)
            · rw [upd_same] at r; exact .inr ⟨lk, o', by rw [← r]; exact h2⟩
          · refine y2.sub x u ?_
            rcases r with r | ⟨lk, o', r⟩
            · exact .inl (by rw [upd_ne hx] at r; exact r)
            · exact .inr ⟨lk, o', by rw [upd_ne hx] at r; exact r⟩
        · obtain ⟨z1, u, z2, z3⟩ := y2.sto k x m' k1 k2
          have ne : x ≠ p := fun z => n2 (.inl (by rw [← z]; exact List.mem_of_getElem? k1))
          exact ⟨by rw [upd_ne ne]; exact z1, u, z2, z3.mono ex (List.prefix_refl _)⟩
        · obtain ⟨w, z1, z2⟩ := y2.slv j d' q
          exact ⟨w, z1, z2.mono ex (List.prefix_refl _)⟩
        · obtain ⟨l, u, z1, z2, z3, z4, z5⟩ := y2.slo j m' q
          have ne : l ≠ p := fun z => n2 (y1 _ (.inr ⟨j, m', q, by rw [← z]; exact z1⟩) |> fun h => h)
          exact ⟨l, u, z1, by rw [upd_ne ne]; exact z2, z3, z4, z5.mono ex (List.prefix_refl _)⟩
      · exact ⟨p, av, rfl, upd_same, r2.mono ex (List.prefix_refl _)⟩
theorem se_compW {ifs : List Expr} {scope : Scope} {own : List (Str × Nat)} {j0 : Nat} {x0 : Str} {px : Pos} {g : Tgt} {t : M Bool} {el : M D} (hc : X.calm = true) (hN : X.N.Nodup) (he0 : SE X W (.Name x0 px) (var j0)) (ok : BlkOk X.N X.env.scope scope own)
    (hg : ∀ (s : Shared) (H : Hp) (C : Addr) (cl : List (Str × Addr)) (fp : List Addr), SGc (X.blk s H scope (compEnvC scope cl C X.env) fp) tg g) (ht : ∀ (s : Shared) (H : Hp) (C : Addr) (cl : List (Str × Addr)) (fp : List Addr), STs (X.blk s H scope (compEnvC scope cl C X.env) fp) W0 ifs t)
    (he : ∀ (s : Shared) (H : Hp) (C : Addr) (cl : List (Str × Addr)) (fp : List Addr), SE (X.blk s H scope (compEnvC scope cl C X.env) fp) W0 elt el) (hsl : g.slots.all (fun i => (own.map (·.2)).contains i) = true := by rfl) (hj0 : (own.map (·.2)).contains j0 = false := by rfl) (hs : ∀ x, foldedSetIterable (.Name x0 px) X.env x = pure x := by intro _; rfl) :
    SE X W (.ListComp elt [⟨tg, .Name x0 px, ifs, 0⟩] scope pos) (mcompO j0 (own.map (·.2)) g.asg t el) :=
  PE.imp (pe_lc (g := g.tr X.K) (tt := tT (kk X) W0 t) (te := tI (kk X) W0 (stl el)) hc hN (pi_own he0) ok hg ht (fun s H C cl fp => se_stl (he s H C cl fp)) hs) fun σ H Q h => t_compW (fun i hi => by have := List.all_eq_true.mp hsl i hi; simpa using this) (by simpa using hj0) h
end
end Bx
namespace Bx
open PySem L2 PySem.Spec PyProof.Rows
def txtOf (e : Int × Value) : Str := match e.2 with | .str x _ => x | _ => Str.empty
def GoodT (w : World) (e : Int × Value) : Prop := ∃ x tk, e.2 = Value.str x tk ∧ e.1 = hashStr w x
/-- the set of texts at a, its table's places rising -/
def SetT (w : World) (h : Heap) (a : Addr) (S : Str → Bool) (n : Nat) : Prop :=
  ∃ o es ep t, h.get? a = some o ∧ o.ExactSet ∧ o.data = .set es ep t ∧ (∀ e ∈ es.toList, GoodT w e) ∧ (es.toList.map txtOf).Nodup ∧ (∀ k, S k = true ↔ k ∈ es.toList.map txtOf) ∧
    es.size < scanBound ∧ t.fits es.size = true ∧ es.size = n ∧ Ris t.place.toList ∧ (w.params.followText "set-order" = true ∨ t.led = true)
section
variable {P : Program} {w : World} {h h' : Heap} {a : Addr} {S : Str → Bool} {n : Nat}
theorem SetT.at (R : SetT w h a S n) (k : ∀ o, h.get? a = some o → h'.get? a = some o) : SetT w h' a S n := by
  obtain ⟨o, es, ep, t, ho, r⟩ := R
  exact ⟨o, es, ep, t, k o ho, r⟩
end
/-- each once, the last of each -/
def onceT : List Str → List Str
  | [] => []
  | x :: r => if x ∈ onceT r then onceT r else x :: onceT r
def txsD : List D → Option (List Str)
  | [] => some []
  | .str x :: r => (txsD r).map (x :: ·)
  | _ :: _ => none
@[simp] theorem txsD_strs : ∀ (xs : List Str), txsD (xs.map D.str) = some xs
  | [] => rfl
  | x :: r => by show (txsD (r.map D.str)).map (x :: ·) = _; rw [txsD_strs r]; rfl
section
variable {X : Cx} {W : WX} {a b : Expr} {ma mb : M D} {pos : Pos}
def ssortT (d : D) : M D := fun s => match rsl s d with
  | .tup ds => match txsD ds with
    | some xs => if xs.length < 64 then .ok (.lst ((sortS (onceT xs)).map .str)) s else .bad
    | none => .bad
  | _ => .bad
@[simp] theorem ssortT_strs {xs : List Str} {s : S} (h : xs.length < 64) : ssortT (.tup (xs.map .str)) s = .ok (.lst ((sortS (onceT xs)).map .str)) s := by
  unfold ssortT
  simp [rsl, h]
end
end Bx
namespace Bx
open PySem L2 PySem.Spec PyProof.Rows
section
variable {X : Cx} {body : List Stmt} {h₀ : ExceptHandler} {handlers : List ExceptHandler} {pos : Pos} {tb : TS}
def sNoX (mb : MS) : MS := fun s => noX (mb s)
theorem se_gstr {X : Cx} {W : WX} {pos : Pos} {x z : Str} (hg : Gl X x) (hm : ∃ t, X.mg x = some (.str z t)) (hd : (x == ("__debug__" : Str)) = false := by decide) : SE X W (.Name x pos) (con (.str z)) := by
  obtain ⟨t, hm⟩ := hm
  exact PE.imp (pe_glob (v := .str z) hg hm ⟨t, rfl⟩ hd) fun _ _ _ => t_con (d := .str z) (v := .str z) fun _ _ => rfl
end
end Bx
namespace Bx
open PySem L2 PySem.Spec PyProof.Rows
section
variable {M : Model} {A : Around} {E : Value → Shared → Prop} {s : Shared} {env : Env}
theorem callWith_type_kw {pos : Pos} {T : String} {first : List Value} {args : List (Bool × Sem Value)} {keywords : List (Option Str × Sem Value)} {Q : Value → Shared → Prop}
    (hplain : args.any (·.1) = false) (hkw : keywords.any (·.1.isNone) = false)
    (h : wpAny M A (evalArgs (.type T) true args keywords) (fun a s₁ => wpAny M A (call (.type T) (first ++ a.pos) a.kw) Q E s₁) E s) :
    wpAny M A (callWith pos (.type T) first args keywords) Q E s := by
  unfold callWith
  refine wpAny_bind (wpAny_holding (wpAny_mono h (fun a s₁ h₁ => wpAny_bind (wpAny_standAt ?_)) fun _ _ x => x))
  simp only [hplain, hkw, Bool.or_false]
  refine wpAny_bind (wpAny_pure ?_)
  exact wpAny_bind (wpAny_mono h₁ (fun r s₂ hr => wpAny_bind (wpAny_holding (wpAny_point (wpAny_pure hr)))) fun _ _ x => x)
theorem callWith_type_start {pos : Pos} {T : String} {e : Expr} {kws : List Keyword} {Q : Value → Shared → Prop}
    (h : wpAny M A (spliced (backTo pos (starEach [e] env))) (fun vs s₁ => wpAny M A (evalAll ((backToKw pos (keywordEach kws env)).map (·.2)))
      (fun kvs s₂ => wpAny M A (call (.type T) vs (((backToKw pos (keywordEach kws env)).filterMap (·.1)).zip kvs)) Q E s₂) E s₁) E s)
    (he : starEach [e] env = [(false, eval e env)])
    (hall : (backToKw pos (keywordEach kws env)).all (·.1.isSome) = true := by rfl)
    (hkw : (backToKw pos (keywordEach kws env)).any (·.1.isNone) = false := by rfl) :
    wpAny M A (callWith pos (.type T) [] (backTo pos (starEach [e] env)) (backToKw pos (keywordEach kws env))) Q E s := by
  refine callWith_type_kw (by rw [he]; rfl) hkw ?_
  rw [he] at h ⊢
  exact evalArgs_kwB hall h
end
def Itek (K : PySem.W.Frag) (k : Nat) (a : Addr) : It :=
  ⟨fun i H => ∃ (xs : List V) (x : V), SqL K H a xs ∧ xs[i]? = some x, fun i H v H' => ∃ T x, v = .ref T ∧ H T = none ∧ H' = upd H T (.tup [.int ((k : Int) + (i : Nat)), x]) ∧ ∀ xs, SqL K H a xs → xs[i]? = some x, fun i H => ∃ xs : List V, SqL K H a xs ∧ i = xs.length⟩
theorem turn_enumK {P : Program} {w : World} {K : PySem.W.Frag} {elts : List Expr} {kk : Nat} {tpos : Pos} (k0 : Nat) (a e it : Addr) :
    Turn P w K (.Tuple elts kk tpos) (Itek K k0 a) [e, it] e (fun i h => (∃ old, IsEnum h e it ((k0 : Int) + (i : Nat)) old) ∧ h.IsListIter it a i ∧ e ≠ it) where
  mem := List.mem_cons_self ..
  obj := fun i h st b hb => by
    obtain ⟨⟨old, he⟩, ⟨o, ho, hc, hd⟩, _⟩ := st
    rcases List.mem_cons.mp hb with z | hb
    · cases z; exact ⟨_, he, fun v q => nomatch q⟩
    · exact ⟨o, by rw [List.mem_singleton.mp hb]; exact ho, fun v q => by rw [hd] at q; cases q⟩
  keep := fun i h h' st k => let ⟨⟨old, he⟩, hi, hne⟩ := st; ⟨⟨old, k e (List.mem_cons_self ..) _ he⟩, hi.at fun o q => k it (by simp) o q, hne⟩
  item := by
    intro X hP hw hK hc i pins s σ H E I hf st hg
    subst hP hw hK
    obtain ⟨⟨old, he⟩, hit, hne⟩ := st
    obtain ⟨xs, x, hq, hx⟩ := hg
    obtain ⟨its, rv, p, hz⟩ := I.list hq
    have pT : s.heap.IsList a its.toArray := p.isList
    have le := rv.length
    have hi : i < xs.length := (List.getElem?_eq_some_iff.mp hx).1
    have nea : e ≠ a := fun z => by
      obtain ⟨o, q1, q2, _⟩ := pT
      have he' : s.heap.get? e = some _ := he
      rw [z, q1] at he'
      cases he'
      simp at q2
    have nit : a ≠ it := fun z => by
      obtain ⟨o, q1, q2, _⟩ := pT
      obtain ⟨o', q3, q4, _⟩ := hit
      rw [z, q3] at q1
      cases q1
      rw [q4] at q2
      simp at q2
    have hel : e < s.heap.objs.size := Heap.lt_size he
    have hil : it < s.heap.objs.size := by obtain ⟨_, q, _⟩ := hit; exact Heap.lt_size q
    refine wpAny_pyNext_enum_itemC (Draws.list (A := X.A.in1) (I.ok.hd hc) it a nit its.toArray) he ⟨hit, pT⟩ (by simp; omega) hne (by simp [hne, nea]) fun u h' tk hu ho hst' hT hsz hk => ?_
    have hu' : its[i]? = some u := by simpa using hu
    have ru : RelV x u := by
      obtain ⟨u', q1, q2⟩ := rv.get hx
      rw [hu'] at q1
      cases q1
      exact q2
    refine ⟨_, rfl, wpAny_letOwnedTupleGo_enum (s := { s with heap := h', toks := tk + 1 }) ho fun h'' he' sb => ?_⟩
    have hT2 := (sb.2 _ (Nat.ne_of_gt hel)).trans hT
    have new : ObjOk X.prog X.w (upd H s.heap.objs.size (.tup [.int ((k0 : Int) + (i : Nat)), x])) h'' s.heap.objs.size (.tup [.int ((k0 : Int) + (i : Nat)), x]) := ⟨by show 2 ≤ sizeLine; decide, [.int ((k0 : Int) + (i : Nat)) tk, u], .cons ⟨_, rfl⟩ (.cons ru .nil), ⟨_, hT2, rfl, _, rfl⟩⟩
    have I1 : Inv X pins σ (upd H s.heap.objs.size (.tup [.int ((k0 : Int) + (i : Nat)), x])) { s with heap := h'', toks := tk + 1 } :=
      I.turnedNew (ch := [e, it]) (fun b ob hb q => (sb.2 b (fun z => hb (by simp [z]))).trans (hk b ob (fun z => hb (by simp [z])) (fun z => hb (by simp [z])) q)) hf (Nat.le_refl _) new
    refine ⟨.ref s.heap.objs.size, _, I1, rfl, ⟨_, x, rfl, I.hok.fresh (Nat.le_refl _), rfl, fun ys hy => by rw [I.list_inj hy hq]; exact hx⟩, ⟨⟨u, by rw [Int.natCast_succ, ← Int.add_assoc]; exact he'⟩, hst'.1.at fun o q => (sb.2 it (Ne.symm hne)).trans q, hne⟩, fun b hb => ?_⟩
    have hb' : b < s.heap.objs.size := by
      rcases List.mem_cons.mp hb with z | z
      · rw [z]; exact hel
      · rw [List.mem_singleton.mp z]; exact hil
    rw [upd_ne (Nat.ne_of_lt hb')]
    exact (hf b hb).1
  done := by
    intro X hP hw hK hc i pins s σ H E I hf st hg
    subst hP hw hK
    obtain ⟨⟨old, he⟩, hit, hne⟩ := st
    obtain ⟨xs, hq, hx⟩ := hg
    obtain ⟨its, rv, p, hz⟩ := I.list hq
    have pT : s.heap.IsList a its.toArray := p.isList
    have le := rv.length
    have nit : a ≠ it := fun z => by
      obtain ⟨o, q1, q2, _⟩ := pT
      obtain ⟨o', q3, q4, _⟩ := hit
      rw [z, q3] at q1
      cases q1
      rw [q4] at q2
      simp at q2
    obtain ⟨f0, f1, f2, f3, f4, f5⟩ := hf it (by simp)
    refine wpAny_pyNext_enum_endD (Draws.list (A := X.A.in1) (I.ok.hd hc) it a nit its.toArray) he ⟨?_, pT⟩ fun h' eb => ⟨rfl, I.turned (t' := s.toks) (fun b o hb q => eb b o hb q) f0 f1 f3 f4 f5⟩
    have e1 : its.toArray.size = i := by simp; omega
    rw [e1]
    exact hit
  self := fun A i s Q E st h => let ⟨⟨_, he⟩, _⟩ := st; wpAny_pyIter_enum he h
section
variable {X : Cx} {W : WX} {K : KK} {F F' H H' : Hp} {adr adr' : List Addr} {s s' : S} {σ σ' : L2.St} {d : D} {v : V} {e a b c tg : Expr} {es : List Expr} {m ma mb mc : M D} {ms : List (M D)} {pos : Pos} {E : Ends}
def iEnumK (K : PySem.W.Frag) (k0 : Nat) (ta : TA) : TI := fun σ H R => ta σ H fun vs H1 => ∃ a xs, vs = [.ref a] ∧ SqL K H1 a xs ∧ R (Itek K k0 a) H1
theorem pi_enumK {ta : TA} {p tpos kp cp : Pos} {elts : List Expr} {kk ck : Nat} {k0 : Nat} (hk0 : k0 < 1000) (hg : Gl X "enumerate") (hm : X.mg "enumerate" = none) (ha : PA X [e] ta) (hs : starEach [e] X.env = [(false, eval e X.env)] := by rfl) :
    PI X (.Tuple elts kk tpos) (.Call (.Name "enumerate" p) [e] [⟨some "start", .Constant (.int (k0 : Int)) ck cp, kp⟩] pos) (iEnumK X.K k0 ta) := by
  refine ⟨fun pins s σ H R I h => wpAny_Call_Name_kw (ld_blt I hg hm boot_enumerate (callWith_type_start (thn (ha.run pos pins s σ H _ I h) fun us s1 ⟨vs, H1, I1, r1, q1⟩ => kws_cons (wpAny_Constant_int (kws_nil ?_))) hs))⟩
  obtain ⟨a, xs, ex, hq, q⟩ := q1
  subst ex
  obtain rfl := r1.ref1
  have I2 : Inv X pins σ H1 { s1 with toks := s1.toks + 1 } := I1.tok _
  have fp : ∀ b ∈ [s1.heap.objs.size + 1, s1.heap.objs.size], FpOk X pins H1 b := fun b hb => by
    have hle : s1.heap.objs.size ≤ b := by
      rcases List.mem_cons.mp hb with z | z
      · omega
      · rw [List.mem_singleton.mp z]; exact Nat.le_refl _
    exact I1.fpOk hle (I1.hok.fresh hle)
  obtain ⟨its, rv, p', hz⟩ := I2.list hq
  refine enum_begins_start (s := { s1 with toks := s1.toks + 1 }) (begins_list a its.toArray) p'.isList (by omega) (by omega) fun h' he hit hsz hk => wpAny_pyIter_enum he ?_
  exact ⟨s1.heap.objs.size + 1, [s1.heap.objs.size + 1, s1.heap.objs.size], _, _, H1, rfl, I2.kept (t' := s1.toks + 1) hk, turn_enumK k0 a (s1.heap.objs.size + 1) s1.heap.objs.size, ⟨⟨.none, by simpa using he⟩, ⟨_, hit, rfl, rfl⟩, Nat.succ_ne_self _⟩, fp, q⟩
theorem walks_enK {a0 : Addr} {vs : List V} {ds : List D} {k0 : Nat} (h1 : F a0 = some (.lst vs)) (h2 : RpL K F adr ds vs) : Walks K F adr (Itek K.K k0 a0) (nums k0 ds) where
  go := fun F' adr' H' e p eh i d hi => by
    have hL : SqL K.K H' a0 vs := SqL.of (ex_i eh (fun z => z) (ex_i e (fun z => z) h1))
    obtain ⟨y, q1, rfl⟩ := nums_get hi
    obtain ⟨w, q2, q3⟩ := (h2.mono e p).get q1
    refine ⟨⟨vs, w, hL, q2⟩, fun x H'' ⟨T, x', z1, z2, z3, z4⟩ => .inr ⟨T, _, z2, z3, fun hF => ?_⟩⟩
    have := z4 vs hL
    rw [q2] at this
    cases this
    subst z1
    rw [Int.natCast_add]
    exact rp_pair hF q3
  stop := fun F' adr' H' e p eh => ⟨vs, SqL.of (ex_i eh (fun z => z) (ex_i e (fun z => z) h1)), by rw [h2.length, nums_len]⟩
def enumK (k0 : Nat) (d : D) : M (List D) := fun s => match d with
  | .lst xs => .ok (nums k0 xs) s
  | _ => .bad
def menumK (k0 : Nat) (m : M D) : M (List D) := bnd (mal [m]) fun ds => enumK k0 (ds.headD .non)
theorem si_enumK {p tpos kp cp : Pos} {elts : List Expr} {kk ck : Nat} {k0 : Nat} (hk0 : k0 < 1000) (hg : Gl X "enumerate") (hm : X.mg "enumerate" = none) (ha : SAL X W [e] (mal [m])) (hs : starEach [e] X.env = [(false, eval e X.env)] := by rfl) :
    SI X W (.Tuple elts kk tpos) (.Call (.Name "enumerate" p) [e] [⟨some "start", .Constant (.int (k0 : Int)) ck cp, kp⟩] pos) (menumK k0 m) := PI.imp (pi_enumK hk0 hg hm ha hs) fun σ H Q t => by
  obtain ⟨F, adr, s, ab, po⟩ := t
  refine ⟨F, adr, s, ab, (PostG.bindE po).imp ?_⟩
  rintro xs H1 ⟨F1, adr1, ds, s1, e1, st1, ab1, rp1, po1⟩
  have hl := mal_len e1
  match ds, hl with
  | [d], _ =>
    obtain ⟨v, r, rfl, r1, r2⟩ := rp1
    cases r2
    cases d with
    | lst ys =>
      obtain ⟨a, vs, rfl, h1, h2⟩ := r1
      exact ⟨a, vs, rfl, SqL.of (ex_i ab1.sub (fun z => z) h1), po1 _ F1 adr1 H1 .refl ab1 (walks_enK h1 h2)⟩
    | _ => exact po1.elim
end
end Bx
namespace Bx
open PySem L2 PySem.Spec PyProof.Rows
end Bx
namespace Bx
open PySem L2 PySem.Spec PyProof.Rows
section
variable {X : Cx} {W : WX}
theorem call_int_txt : CallR X (.type "int") (fun xs H Q => ∃ x n, xs = [.str x] ∧ PySem.intText? x = some n ∧ x.length ≤ 640 ∧ Q (.int n) H) := by
  intro pins s σ H xs us Q I r h
  obtain ⟨x, n, rfl, e, hl, q⟩ := h
  obtain ⟨u, rfl, t, rfl⟩ := vals1 r
  refine PySem.W.KIN.call_text e hl ?_
  exact ⟨.int n, H, I.tok _, ⟨_, rfl⟩, q⟩
/-- int of a text of digits, of a number, of a truth -/
def intT (d : D) : M D := fun s => match rsl s d with
  | .str x => if x.length ≤ 640 then (match PySem.intText? x with
    | some n => .ok (.int n) s
    | none => .bad) else .bad
  | _ => intD d s
theorem cr_intT : CallR X (.type "int") (rCI (kk X) W (f1 intT)) := CallR.imp (call_int_txt.or call_int1) fun xs H Q h => by
  obtain ⟨x, rfl, F, adr, s, σ, d, ab, r, po⟩ := f1_of h
  have t := ab.t r
  unfold intT intD at po
  generalize rsl s d = e1 at *
  cases e1 <;> try (exact po.elim)
  case str z =>
    by_cases hl : z.length ≤ 640
    · simp only [hl, if_true] at po
      cases hn : PySem.intText? z with
      | none => rw [hn] at po; exact po.elim
      | some n =>
        rw [hn] at po
        rw [RpT.str t]
        exact .inl ⟨z, n, rfl, hn, hl, Post.at ab po rfl⟩
    · simp only [hl, if_false] at po; exact po.elim
  case int i => rw [RpT.int t]; exact .inr (.inl ⟨i, rfl, Post.at ab po rfl⟩)
  case bl i => rw [RpT.bl t]; exact .inr (.inr ⟨i, rfl, Post.at ab po rfl⟩)
end
end Bx
namespace Bx
open PySem L2 PySem.Spec PyProof.Rows
end Bx
namespace Bx
open PySem L2 PySem.Spec PyProof.Rows
section
variable {X : Cx} {W : WX} {K : KK} {F F' H H' : Hp} {adr adr' : List Addr} {s s' : S} {σ σ' : L2.St} {d : D} {v : V} {e o : Expr} {es : List Expr} {m : M D} {ms : List (M D)} {pos apos c0 c1 cp : Pos} {y z c : Str} {j k : Nat}
theorem PET.imp {t t' : TE} (h : PET X e t) (q : ∀ σ H Q, t' σ H Q → t σ H Q) : PET X e t' := fun pins s σ H Q h0 I w => h pins s σ H Q h0 I (q σ H Q w)
theorem PAT.imp {t t' : TA} (h : PAT X es t) (q : ∀ σ H Q, t' σ H Q → t σ H Q) : PAT X es t' := fun pos pins s σ H Q h0 I w => h pos pins s σ H Q h0 I (q σ H Q w)
end
end Bx
namespace Bx
open PySem L2 PySem.Spec PyProof.Rows
def dctM (d : D) : M MO := fun s => match d with
  | .dct kds => .ok (.dct kds) s
  | _ => .bad
def ndcopy (m : M D) : M MO := bnd m dctM
end Bx
namespace Bx
open PySem L2 PySem.Spec PyProof.Rows PySem.SeqAt
open AutoSeq1 (wpAny_loadPart')
open MeetsSeq
end Bx
namespace Bx
open PySem L2 PySem.Spec PyProof.Rows PySem.SeqAt
open AutoSeq1 (wpAny_loadPart')
open MeetsSeq
/-- things of the plain kinds -/
def plK : D → Option String
  | .non => some "NoneType"
  | .bl _ => some "bool"
  | .int _ => some "int"
  | .str _ => some "str"
  | .tup _ => some "tuple"
  | .lst _ => some "list"
  | .dct _ => some "dict"
  | _ => none
section
variable {X : Cx} {W : WX} {K : KK} {F F' H H' : Hp} {adr adr' : List Addr} {s s' : S} {σ σ' : L2.St} {d : D} {v : V}
theorem RpV.rp {n : String} (h : plK d = some n) (r : RpV K F adr σ d v) : Rp K F adr d v := by
  cases d <;> first | (cases h; done) | exact r
end
end Bx
namespace Bx
open PySem L2 PySem.Spec PyProof.Rows
end Bx
namespace Bx
open PySem L2 PySem.Spec PyProof.Rows
section
variable {X : Cx} {W : WX} {K : KK} {F F' H H' : Hp} {adr adr' : List Addr} {s s' : S} {σ σ' : L2.St} {d : D} {v : V} {e o i : Expr} {m mo mi : M D} {mm : M MO} {pos : Pos}
def lookN (k : NestedKey) (kds : List (NestedKey × D)) : Option D := (kds.find? fun p => decide (p.1 = k)).map (·.2)
end
end Bx
namespace Bx
open PySem L2 PySem.Spec PyProof.Rows
section
variable {X : Cx} {W : WX} {K : KK} {F F' H H' : Hp} {adr adr' : List Addr} {s s' : S} {σ σ' : L2.St} {d : D} {v : V} {e o i f a b c : Expr} {m mo mi mf : M D} {mm : M MO} {pos apos cpos : Pos}
def pop0D (d : D) : M D := fun s => match s.mo d with
  | some (.lst xs) => match xs[xs.length - 1]? with
    | some y => .ok y (s.mut d (.lst xs.dropLast))
    | none => .bad
  | _ => .bad
def mpop0 (m : M D) : M D := bnd m fun d => bnd (chk isL d) pop0D
theorem RpL.dropLast : ∀ {ds : List D} {vs : List V}, RpL K F adr ds vs → RpL K F adr ds.dropLast vs.dropLast
  | [], _, h => by
    have e : _ = [] := h
    subst e
    exact rfl
  | [d], _, ⟨v, r, q, h1, h2⟩ => by
    have e : r = [] := h2
    subst q e
    exact rfl
  | d :: d' :: ds, _, ⟨v, r, q, h1, h2⟩ => by
    subst q
    have ih := RpL.dropLast h2
    obtain ⟨v', r', q', h3, h4⟩ := h2
    subst q'
    exact ⟨v, _, rfl, h1, ih⟩
def isDc (s : S) (d : D) : Bool := match rsl s d with
  | .dct _ => true
  | _ => false
def getxD (a k z : D) : M D := fun s => match rsl s a, k with
  | .dct _, .non => .ok z s
  | .dct kvs, k => match keyD k with
    | some k => .ok ((lookK k kvs).getD z) s
    | none => .bad
  | _, _ => .bad
def mget2 (m mi mf : M D) : M D := bnd m fun a => bnd (chk isDc a) fun a => bnd mi fun k => bnd mf fun z => getxD a k z
def rangeC (lo c : Int) (n : Nat) : List D := (List.range n).map fun (i : Nat) => D.int (lo + i * c)
def rg3 : List D → M (List D)
  | [.int i, .int j, .int c] => fun s => if (inRg i && inRg j) = true then (if c = 1 then .ok (rangeC i c (j - i).toNat) s else if c = -1 then .ok (rangeC i c (i - j).toNat) s else .bad) else .bad
  | _ => fun _ => .bad
def mrange3 (ms : List (M D)) : M (List D) := bnd (margs ms) rg3
end
end Bx
namespace Bx
open PySem L2 PySem.Spec PyProof.Rows
end Bx
namespace Bx
open PySem L2 PySem.Spec PyProof.Rows PySem.W PySem.Calls
end Bx
namespace Bx
open PySem L2 PySem.Spec PyProof.Rows
end Bx
namespace Bx
open PySem L2 PySem.Spec PyProof.Rows PySem.W PySem.Calls
/-- the dict's rows: the keys are texts, the values pairs, their second an int -/
def RowsAt (K : PySem.W.Frag) (H : Hp) (kvs : List (L2.Key × V)) (rows : List (Str × Int)) : Prop :=
  kvs.map (·.1) = rows.map (fun r => (Sum.inr r.1 : L2.Key)) ∧ ∀ x i, rows.lookup x = some i → ∃ t lo, valV kvs (Sum.inr x) = some (.ref t) ∧ SqT K H t [lo, .int i]
end Bx
namespace Bx
open PySem L2 PySem.Spec PyProof.Rows PySem.W PySem.Calls
section
variable {X : Cx} {W : WX} {K : KK} {F F' H H' : Hp} {adr adr' : List Addr} {s s' : S} {σ σ' : L2.St}
theorem rd_wr {H : Hp} {a p : Addr} {u o : HO} (n : H p = none ∨ ∃ tt, H p = some (.tbl tt)) (nu : ∀ tt, u ≠ .tbl tt) (h : Rd H a u) : Rd (upd H p o) a u := by
  have ne : a ≠ p := fun e => by
    subst e
    rcases h with h | ⟨z, h⟩
    · rcases n with n | ⟨tt, n⟩
      · rw [n] at h; cases h
      · rw [n] at h; cases h; exact nu tt rfl
    · rcases n with n | ⟨tt, n⟩ <;> (rw [n] at h; cases h)
  rcases h with h | ⟨z, h⟩
  · exact .inl (by rw [upd_ne ne]; exact h)
  · exact .inr ⟨z, by rw [upd_ne ne]; exact h⟩
theorem sqt_wr {K : PySem.W.Frag} {H : Hp} {a p : Addr} {o : HO} {xs : List V} (n : H p = none ∨ ∃ tt, H p = some (.tbl tt)) (h : SqT K H a xs) : SqT K (upd H p o) a xs := by
  rcases h with h | h
  · exact .inl (rd_wr n (fun _ z => by cases z) h)
  · exact .inr h
theorem RowsAt.wr {K : PySem.W.Frag} {H : Hp} {p : Addr} {o : HO} {kvs : List (L2.Key × V)} {rows : List (Str × Int)} (n : H p = none ∨ ∃ tt, H p = some (.tbl tt)) (h : RowsAt K H kvs rows) : RowsAt K (upd H p o) kvs rows :=
  ⟨h.1, fun x i e => by
    obtain ⟨t, lo, e1, e2⟩ := h.2 x i e
    exact ⟨t, lo, e1, sqt_wr n e2⟩⟩
end
end Bx
namespace Bx
open PySem L2 PySem.Spec PyProof.Rows PySem.W PySem.Calls
section
variable {X : Cx} {W : WX} {K : KK} {F F' H H' : Hp} {adr adr' : List Addr} {s s' : S} {σ σ' : L2.St}
theorem RowsAt.ex {K : PySem.W.Frag} {kvs : List (L2.Key × V)} {rows : List (Str × Int)} (e : Ex F H) (h : RowsAt K F kvs rows) : RowsAt K H kvs rows := ⟨h.1, fun x i z => by
  obtain ⟨t, lo, y1, y2⟩ := h.2 x i z
  exact ⟨t, lo, y1, ex_t e y2⟩⟩
end
end Bx
namespace Bx
open PySem L2 PySem.Spec PyProof.Rows
end Bx
namespace Bx
open PySem L2 PySem.Spec PyProof.Rows
end Bx
namespace Bx
open PySem PySem.W L2 HandSHeadRun
end Bx
namespace Bx
open PySem L2 PySem.Spec PyProof.Rows
end Bx
namespace Bx
open PySem L2 PySem.Spec PyProof.Rows
end Bx
namespace Bx
open PySem L2 PySem.Spec PyProof.Rows PySem.SeqAt
open PySem.AutoSeq1 (wpAny_loadPart')
open PySem.MeetsSeq PySem.MeetsSeq2 PySem.MeetsSeq3
end Bx
namespace Bx
open PySem L2 PySem.Spec PyProof.Rows
end Bx
namespace Bx
open PySem L2 PySem.Spec PyProof.Rows
end Bx
namespace Bx
open PySem L2 PySem.Spec PyProof.Rows
end Bx
namespace Bx
open PySem L2 PySem.Spec PyProof.Rows
end Bx
namespace Bx
open PySem L2 PySem.Spec PyProof.Rows
end Bx
namespace Bx
open PySem
section
variable {α β : Type} {s : S} {f : α → M β} {g : α → MS} {m : M α} {a : α} {x : Xc}
@[simp] theorem bind_ok : (R.ok a s).bind f = f a s := rfl
@[simp] theorem bind_exc : (R.exc x s : R α).bind f = .exc x s := rfl
@[simp] theorem bind_bad : (R.bad : R α).bind f = .bad := rfl
@[simp] theorem toS_ok : (R.ok a s).toS g = g a s := rfl
@[simp] theorem toS_exc : (R.exc x s : R α).toS g = .exc x s := rfl
@[simp] theorem toS_bad : (R.bad : R α).toS g = .bad := rfl
@[simp] theorem bnd_ap : bnd m f s = (m s).bind f := rfl
@[simp] theorem pur_ap : (pur a : M α) s = .ok a s := rfl
@[simp] theorem con_ap {d : D} : con d s = .ok d s := rfl
@[simp] theorem yes_ap : yes s = .ok true s := rfl
@[simp] theorem skip_ap : skip s = .nx s := rfl
@[simp] theorem bin_ap {h : D → D → M D} {p q : M D} : Bx.bin h p q s = (p s).bind fun x => bnd q fun y => h x y := rfl
@[simp] theorem stl_ap {p : M D} : stl p s = (p s).bind Bx.settle := rfl
@[simp] theorem sset_ap {j : Nat} {p : M D} : sset j p s = (stl p s).toS fun d s => .nx (s.put j (.val d)) := rfl
@[simp] theorem sret_ap {p : M D} : sret p s = (stl p s).toS fun d s => .rt d s := rfl
@[simp] theorem sexpr_ap {p : M D} : sexpr p s = (p s).toS fun _ => skip := rfl
@[simp] theorem sif_ap {t : M Bool} {p q : MS} : sif t p q s = (t s).toS fun b => if b then p else q := rfl
@[simp] theorem ssub_ap {p o i : M D} : ssub p o i s = (stl p s).toS fun x s => (o s).toS fun d s => (i s).toS fun k s => setD d k x s := rfl
@[simp] theorem sasg_ap {h : D → MS} {p : M D} : sasg h p s = (stl p s).toS h := rfl
@[simp] theorem sfor_ap {it : M (List D)} {h : D → MS} {p : MS} : sfor it h p s = (it s).toS (floop h p) := rfl
@[simp] theorem gset_ap {j : Nat} {d : D} : gset j d s = .nx (s.put j (.val d)) := rfl
@[simp] theorem gsub_ap {o i : M D} {d : D} : gsub o i d s = (o s).toS fun e s => (i s).toS fun k s => setD e k d s := rfl
@[simp] theorem margs_nil : margs [] s = .ok [] s := rfl
@[simp] theorem margs_cons {p : M D} {ps : List (M D)} : margs (p :: ps) s = (p s).bind fun d => bnd (margs ps) fun ds => pur (d :: ds) := rfl
@[simp] theorem mal_nil : mal [] s = .ok [] s := rfl
@[simp] theorem mal_cons {p : M D} {ps : List (M D)} : mal (p :: ps) s = (p s).bind fun d => bnd (Bx.settle d) fun d => bnd (mal ps) fun ds => pur (d :: ds) := rfl
@[simp] theorem mtup_ap {ps : List (M D)} : mtup ps s = (mal ps s).bind fun ds => pur (.tup ds) := rfl
@[simp] theorem mlst_ap {ps : List (M D)} : mlst ps s = (mal ps s).bind fun ds => pur (.lst ds) := rfl
@[simp] theorem callK_ap {den : Den} {ix : List Nat} {dds : List D} {p k : M (List D)} : callK den ix dds p k s = (p s).bind fun ds => bnd k fun es => callD den (pick .non ix (ds ++ es ++ dds)) := rfl
@[simp] theorem f1_ap {h : D → M D} {d : D} : f1 h [d] = h d := rfl
@[simp] theorem f2_ap {h : D → D → M D} {d e : D} : f2 h [d, e] = h d e := rfl
@[simp] theorem tru_bl {p : M D} {b : Bool} {s' : S} (h : p s = .ok (.bl b) s') : tru p s = .ok b s' := by unfold tru; simp [h]
end
section
variable {s s' : S} {i j : Int} {d e : D} {xs ys : List D} {b : Bool} {x y : Str}
@[simp] theorem add_int : addD (.int i) (.int j) s = .ok (.int (i + j)) s := rfl
@[simp] theorem sub_int : subD (.int i) (.int j) s = .ok (.int (i - j)) s := rfl
@[simp] theorem lt_int : ltD (.int i) (.int j) s = .ok (.bl (decide (i < j))) s := rfl
@[simp] theorem le_int : leD (.int i) (.int j) s = .ok (.bl (decide (i ≤ j))) s := rfl
@[simp] theorem gt_int : gtD (.int i) (.int j) s = .ok (.bl (decide (j < i))) s := rfl
@[simp] theorem ge_int : geD (.int i) (.int j) s = .ok (.bl (decide (j ≤ i))) s := rfl
@[simp] theorem mod_int (h0 : 0 < j) : modD (.int i) (.int j) s = .ok (.int (i % j)) s := by
  unfold modD iic
  simp [rsl, h0]
@[simp] theorem fdiv_int (h0 : 0 < j) (h1 : j < 1073741824) : fdivD (.int i) (.int j) s = .ok (.int (i / j)) s := by
  unfold fdivD iic
  simp [rsl, h0, h1]
@[simp] theorem div_int (h0 : 0 < j) (h1 : j < 1073741824) : divD (.int i) (.int j) s = .ok (.twk [.int (i / j), .int (i % j)]) s := by
  unfold divD
  simp [rsl, h0, h1]
@[simp] theorem mul_int : mulD (.int i) (.int j) s = if mulOk i j then .ok (.int (i * j)) s else .bad := rfl
@[simp] theorem abs_int : absD (.int i) s = .ok (.int i.natAbs) s := by
  unfold absD
  simp [rsl]
  try omega
@[simp] theorem settle_int : Bx.settle (.int i) s = .ok (.int i) s := rfl
@[simp] theorem settle_bl : Bx.settle (.bl b) s = .ok (.bl b) s := rfl
@[simp] theorem settle_str : Bx.settle (.str x) s = .ok (.str x) s := rfl
@[simp] theorem settle_non : Bx.settle .non s = .ok .non s := rfl
@[simp] theorem settle_tup : Bx.settle (.tup xs) s = .ok (.tup xs) s := rfl
@[simp] theorem settle_twk : Bx.settle (.twk xs) s = .ok (.twk xs) s := rfl
@[simp] theorem settle_lst : Bx.settle (.lst xs) s = .ok (.lst xs) s := rfl
@[simp] theorem settle_ref {k : Nat} : Bx.settle (.ref k) s = .ok (.ref k) s := rfl
@[simp] theorem settle_scr {ns : List Int} : Bx.settle (.scr ns) s = .ok (.scr ns) s := rfl
@[simp] theorem settle_obj {c : Str} {fs : List (Str × D)} : Bx.settle (.obj c fs) s = .ok (.obj c fs) s := rfl
end
def RS.thn (r : RS) (b : MS) : RS := match r with
  | .nx s => b s
  | r => r
def RS.fin (r : RS) : RF := match r with
  | .nx s => .ok .non s.μ
  | .rt d s => .ok d s.μ
  | .exc x s => .exc x s.μ
  | _ => .bad
section
variable {s : S} {a b : MS} {d : D} {x : Xc} {n : Nat} {ds : List D} {μ : List MO}
@[simp] theorem sq_ap : sq a b s = (a s).thn b := by
  unfold sq
  cases a s <;> rfl
@[simp] theorem thn_nx : (RS.nx s).thn b = b s := rfl
@[simp] theorem thn_rt : (RS.rt d s).thn b = .rt d s := rfl
@[simp] theorem thn_bk : (RS.bk s).thn b = .bk s := rfl
@[simp] theorem thn_ct : (RS.ct s).thn b = .ct s := rfl
@[simp] theorem thn_exc : (RS.exc x s).thn b = .exc x s := rfl
@[simp] theorem thn_bad : RS.bad.thn b = .bad := rfl
theorem runB_ap : runB n a ds μ = (a ⟨frame n ds, μ⟩).fin := by
  unfold runB
  cases a ⟨frame n ds, μ⟩ <;> rfl
@[simp] theorem fin_nx : (RS.nx s).fin = .ok .non s.μ := rfl
@[simp] theorem fin_rt : (RS.rt d s).fin = .ok d s.μ := rfl
@[simp] theorem fin_exc : (RS.exc x s).fin = .exc x s.μ := rfl
end
theorem atI_ok {α : Type} {xs : List α} {k : Int} (h0 : 0 ≤ k) (h1 : k < xs.length) : L2.atI xs k = some (xs[k.toNat]'(by omega)) := by
  unfold L2.atI L2.ixN
  rw [if_pos h0, if_pos h1]
  simp
section
variable {s : S} {i j : Int} {d e : D}
@[simp] theorem mrange1_ap {ps : List (M D)} : mrange1 ps s = (margs ps s).bind (on1 rg1) := rfl
@[simp] theorem mrange2_ap {ps : List (M D)} : mrange2 ps s = (margs ps s).bind (on2 rg2) := rfl
@[simp] theorem on1_ap {α : Type} {f : D → M α} : on1 f [d] = f d := rfl
@[simp] theorem on2_ap {α : Type} {f : D → D → M α} : on2 f [d, e] = f d e := rfl
@[simp] theorem rg1_int (h0 : inRg j = true) : rg1 (.int j) s = .ok (rangeI 0 j.toNat) s := by simp [rg1, h0]
@[simp] theorem rg2_int (h0 : inRg i = true) (h1 : inRg j = true) : rg2 (.int i) (.int j) s = .ok (rangeI i (j - i).toNat) s := by simp [rg2, h0, h1]
theorem inRg_of (h0 : -1000000 ≤ j) (h1 : j ≤ 1000000) : inRg j = true := by
  unfold inRg
  rw [Bool.and_eq_true]
  exact ⟨decide_eq_true (by omega), decide_eq_true (by omega)⟩
@[simp] theorem mcomp_ap {vs : List Nat} {it : M (List D)} {asg : D → MS} {t : M Bool} {el : M D} : mcomp vs it asg t el s = (it s).bind fun items s => cloop vs asg t el items [] (wipeS vs s) := rfl
@[simp] theorem mits_ap {m : M D} : mits m s = (m s).bind fun d => bnd (Bx.settle d) itemsD := rfl
@[simp] theorem items_lst {xs : List D} : itemsD (.lst xs) s = .ok xs s := rfl
@[simp] theorem items_tup {xs : List D} : itemsD (.tup xs) s = .ok xs s := rfl
@[simp] theorem items_str {x : Str} : itemsD (.str x) s = .ok (x.cps.toList.map fun c => .str ⟨#[c]⟩) s := rfl
theorem callD_ok {den : Den} {ds : List D} {r : D} {μ' : List MO} (h : den ds s.μ = .ok r μ') : callD den ds s = .ok r { s with μ := μ' } := by simp [callD, h]
end
theorem floop_cons {asg : D → MS} {b : MS} {d : D} {r : List D} {s s1 s2 : S} (h1 : asg d s = .nx s1) (h2 : b s1 = .nx s2) : floop asg b (d :: r) s = floop asg b r s2 := by simp [floop, h1, h2]
/-- a comprehension that changes nothing -/
theorem cloop_pure {vs : List Nat} {asg : D → MS} {t : M Bool} {el : M D} {s0 : S} (p : D → Bool) (h : D → D) : ∀ (items acc : List D), acc.length + items.length ≤ 100000 →
    (∀ d ∈ items, ∃ s1 s2, asg d s0 = .nx s1 ∧ t s1 = .ok (p d) s2 ∧ (p d = false → wipeS vs s2 = s0) ∧ (p d = true → ∃ s3, stl el s2 = .ok (h d) s3 ∧ wipeS vs s3 = s0)) →
    cloop vs asg t el items acc s0 = .ok (.lst (acc ++ (items.filter p).map h)) (wipeS vs s0)
  | [], acc, _, _ => by simp [cloop]
  | d :: r, acc, hl, hd => by
    obtain ⟨s1, s2, e1, e2, e3, e4⟩ := hd d (List.mem_cons_self ..)
    have hr : ∀ d ∈ r, _ := fun d hm => hd d (List.mem_cons_of_mem _ hm)
    rw [List.length_cons] at hl
    cases hp : p d with
    | false =>
      rw [hp] at e2
      rw [cloop]
      simp only [e1, e2, e3 hp]
      rw [cloop_pure p h r acc (by omega) hr, List.filter_cons_of_neg (by simp [hp])]
    | true =>
      rw [hp] at e2
      obtain ⟨s3, e5, e6⟩ := e4 hp
      rw [cloop]
      simp only [e1, e2, e5, e6]
      rw [if_pos (by omega), cloop_pure p h r (acc ++ [h d]) (by rw [List.length_append, List.length_singleton]; omega) hr, List.filter_cons_of_pos hp, List.map_cons, List.append_assoc]
      rfl
def T (l : List Nat) : Str := ⟨l.toArray⟩
@[simp] theorem T_len {l : List Nat} : (T l).length = l.length := by simp [T, Str.length]
@[simp] theorem T_cps {l : List Nat} : (T l).cps.toList = l := rfl
theorem ix_str {s : S} {l : List Nat} {k : Int} (h0 : 0 ≤ k) (h1 : k < l.length) (hz : l.length ≤ 100000) : ixD (.str (T l)) (.int k) s = .ok (.str (T [l[k.toNat]'(by omega)])) s := by
  have e : L2.atI (T l).cps.toList k = some (l[k.toNat]'(by omega)) := atI_ok h0 h1
  unfold ixD
  simp only [rsl, e]
  rw [if_pos (by simpa using hz)]
  rfl
theorem ix_lst {s : S} {l : List D} {k : Int} (h0 : 0 ≤ k) (h1 : k < l.length) : ixD (.lst l) (.int k) s = .ok (l[k.toNat]'(by omega)) s := by
  unfold ixD
  simp only [rsl, atI_ok h0 h1]
theorem mulOk_l {i j : Int} (h0 : -(2 ^ 64) < i) (h1 : i < 2 ^ 64) : mulOk i j = true := by
  unfold mulOk
  simp only [decide_eq_true h0, decide_eq_true h1, Bool.and_self, Bool.true_or]
theorem mulOk_r {i j : Int} (h0 : -(2 ^ 64) < j) (h1 : j < 2 ^ 64) : mulOk i j = true := by
  unfold mulOk
  simp only [decide_eq_true h0, decide_eq_true h1, Bool.and_self, Bool.or_true]
end Bx
namespace Bx
open PySem
def wE {α : Type} (m : M α) (s : S) (Q : R α → Prop) : Prop := Q (m s)
def wS (m : MS) (s : S) (Q : RS → Prop) : Prop := Q (m s)
def wD (den : Den) (ds : List D) (μ : List MO) (Q : RF → Prop) : Prop := Q (den ds μ)
def kB {α β : Type} (f : α → M β) (Q : R β → Prop) : R α → Prop := fun r => Q (r.bind f)
def kS {α : Type} (f : α → MS) (Q : RS → Prop) : R α → Prop := fun r => Q (r.toS f)
def kN (b : MS) (Q : RS → Prop) : RS → Prop := fun r => Q (r.thn b)
def kF (Q : RF → Prop) : RS → Prop := fun r => Q r.fin
def kC (ρ : List Sl) (Q : R D → Prop) : RF → Prop := fun r => match r with
  | .ok d μ => Q (.ok d ⟨ρ, μ⟩)
  | .exc x μ => Q (.exc x ⟨ρ, μ⟩)
  | .bad => Q .bad
/-- of a turn of a loop: I holds of what goes on -/
def kL (I : S → Prop) (Q : RS → Prop) : RS → Prop := fun r => match r with
  | .nx s => I s
  | .ct s => I s
  | .bk s => Q (.nx s)
  | .rt d s => Q (.rt d s)
  | .exc x s => Q (.exc x s)
  | .bad => False
/-- it is a value -/
def kV {α : Type} (P : α → S → Prop) : R α → Prop := fun r => match r with
  | .ok a s => P a s
  | _ => False
section
variable {α β : Type} {s : S} {f : α → M β} {g : α → MS} {m : M α} {a : α} {x : Xc} {b c : MS} {d : D} {ρ : List Sl} {μ : List MO} {P : α → S → Prop} {I : S → Prop}
section
variable {Q : R β → Prop}
@[simp] theorem kB_ok : kB f Q (.ok a s) = wE (f a) s Q := id rfl
@[simp] theorem kB_exc : kB f Q (.exc x s) = Q (.exc x s) := id rfl
@[simp] theorem kB_bad : kB f Q .bad = Q .bad := id rfl
@[simp] theorem wE_bnd : wE (bnd m f) s Q = wE m s (kB f Q) := id rfl
end
section
variable {Q : RS → Prop}
@[simp] theorem kS_ok : kS g Q (.ok a s) = wS (g a) s Q := id rfl
@[simp] theorem kS_exc : kS g Q (.exc x s) = Q (.exc x s) := id rfl
@[simp] theorem kS_bad : kS g Q (R.bad : R α) = Q .bad := id rfl
@[simp] theorem kN_nx : kN b Q (.nx s) = wS b s Q := id rfl
@[simp] theorem kN_rt : kN b Q (.rt d s) = Q (.rt d s) := id rfl
@[simp] theorem kN_bk : kN b Q (.bk s) = Q (.bk s) := id rfl
@[simp] theorem kN_ct : kN b Q (.ct s) = Q (.ct s) := id rfl
@[simp] theorem kN_exc : kN b Q (.exc x s) = Q (.exc x s) := id rfl
@[simp] theorem kN_bad : kN b Q .bad = Q .bad := id rfl
@[simp] theorem kL_nx : kL I Q (.nx s) = I s := id rfl
@[simp] theorem kL_ct : kL I Q (.ct s) = I s := id rfl
@[simp] theorem kL_bk : kL I Q (.bk s) = Q (.nx s) := id rfl
@[simp] theorem kL_rt : kL I Q (.rt d s) = Q (.rt d s) := id rfl
@[simp] theorem kL_exc : kL I Q (.exc x s) = Q (.exc x s) := id rfl
end
section
variable {Q : RF → Prop}
@[simp] theorem kF_nx : kF Q (.nx s) = Q (.ok .non s.μ) := id rfl
@[simp] theorem kF_rt : kF Q (.rt d s) = Q (.ok d s.μ) := id rfl
@[simp] theorem kF_exc : kF Q (.exc x s) = Q (.exc x s.μ) := id rfl
end
@[simp] theorem kV_ok : kV P (.ok a s) = P a s := id rfl
section
variable {Q : R D → Prop}
@[simp] theorem kC_ok : kC ρ Q (.ok d μ) = Q (.ok d ⟨ρ, μ⟩) := id rfl
@[simp] theorem kC_exc : kC ρ Q (.exc x μ) = Q (.exc x ⟨ρ, μ⟩) := id rfl
@[simp] theorem wE_call {den : Den} {ds : List D} : wE (callD den ds) ⟨ρ, μ⟩ Q = wD den ds μ (kC ρ Q) := by
  unfold wE wD callD kC
  cases h : den ds μ <;> rfl
end
end
section
variable {s : S} {Q : R D → Prop} {p q : M D} {ps : List (M D)} {d : D} {ρ : List Sl} {μ : List MO} {j : Nat} {t : M Bool}
@[simp] theorem wE_pur {α : Type} {a : α} {Q : R α → Prop} : wE (pur a) s Q = Q (.ok a s) := id rfl
@[simp] theorem wE_con : wE (con d) s Q = Q (.ok d s) := id rfl
@[simp] theorem wE_yes {Q : R Bool → Prop} : wE yes s Q = Q (.ok true s) := id rfl
@[simp] theorem wE_bin {h : D → D → M D} : wE (Bx.bin h p q) s Q = wE p s (kB (fun x => bnd q fun y => h x y) Q) := id rfl
@[simp] theorem wE_stl : wE (stl p) s Q = wE p s (kB Bx.settle Q) := id rfl
@[simp] theorem wE_margs0 {Q : R (List D) → Prop} : wE (margs []) s Q = Q (.ok [] s) := id rfl
@[simp] theorem wE_margs {Q : R (List D) → Prop} : wE (margs (p :: ps)) s Q = wE p s (kB (fun d => bnd (margs ps) fun ds => pur (d :: ds)) Q) := id rfl
@[simp] theorem wE_mal0 {Q : R (List D) → Prop} : wE (mal []) s Q = Q (.ok [] s) := id rfl
@[simp] theorem wE_mal {Q : R (List D) → Prop} : wE (mal (p :: ps)) s Q = wE p s (kB (fun d => bnd (Bx.settle d) fun d => bnd (mal ps) fun ds => pur (d :: ds)) Q) := id rfl
@[simp] theorem wE_mtup : wE (mtup ps) s Q = wE (mal ps) s (kB (fun ds => pur (.tup ds)) Q) := id rfl
@[simp] theorem wE_mlst : wE (mlst ps) s Q = wE (mal ps) s (kB (fun ds => pur (.lst ds)) Q) := id rfl
@[simp] theorem wE_nlst {Q : R MO → Prop} : wE (nlst ps) s Q = wE (mal ps) s (kB (fun ds => pur (.lst ds)) Q) := id rfl
@[simp] theorem wE_callK {den : Den} {ix : List Nat} {dds : List D} {p k : M (List D)} : wE (callK den ix dds p k) s Q = wE p s (kB (fun ds => bnd k fun es => callD den (pick .non ix (ds ++ es ++ dds))) Q) := id rfl
@[simp] theorem wE_mkK {cn : Str} {den : DenI} {ix : List Nat} {dds : List D} {p k : M (List D)} : wE (mkK cn den ix dds p k) s Q = wE p s (kB (fun ds => bnd k fun es => makeD cn den (pick .non ix (ds ++ es ++ dds))) Q) := id rfl
@[simp] theorem wE_methK {cn mn : Str} {den : Den} {ix : List Nat} {dds : List D} {o : M D} {p k : M (List D)} : wE (methK cn mn den ix dds o p k) s Q = wE o s (kB (fun d => bnd (Bx.settle d) fun d => bnd (recv cn mn d) fun d => bnd p fun ds => bnd k fun es => callD den (d :: pick .non ix (ds ++ es ++ dds))) Q) := id rfl
@[simp] theorem wE_andT {t u : M Bool} {Q : R Bool → Prop} : wE (andT t u) s Q = wE t s (kB (fun x => if x then u else pur false) Q) := id rfl
@[simp] theorem wE_orT {t u : M Bool} {Q : R Bool → Prop} : wE (orT t u) s Q = wE t s (kB (fun x => if x then pur true else u) Q) := id rfl
@[simp] theorem wE_notT {Q : R Bool → Prop} : wE (notT t) s Q = wE t s (kB (fun x => pur !x) Q) := id rfl
@[simp] theorem wE_ifD : wE (ifD t p q) s Q = wE t s (kB (fun x => if x then p else q) Q) := id rfl
def truK : D → M Bool := fun d => match d with
  | .bl b => pur b
  | _ => fun _ => .bad
theorem tru_def (p : M D) : tru p = bnd p truK := by
  rfl
@[simp] theorem wE_tru {Q : R Bool → Prop} : wE (tru p) s Q = wE p s (kB truK Q) := by rw [tru_def]; rfl
@[simp] theorem truK_bl {b : Bool} {Q : R Bool → Prop} : wE (truK (.bl b)) s Q = Q (.ok b s) := id rfl
def trthK : D → M Bool := fun d s => match truthD s d with
  | some b => .ok b s
  | none => .bad
theorem truth_def (p : M D) : truth p = bnd p trthK := rfl
@[simp] theorem wE_truth {Q : R Bool → Prop} : wE (truth p) s Q = wE p s (kB trthK Q) := by rw [truth_def]; rfl
@[simp] theorem trthK_bl {b : Bool} {Q : R Bool → Prop} : wE (trthK (.bl b)) s Q = Q (.ok b s) := id rfl
@[simp] theorem wE_mits {Q : R (List D) → Prop} : wE (mits p) s Q = wE p s (kB (fun d => bnd (Bx.settle d) itemsD) Q) := id rfl
@[simp] theorem wE_range1 {Q : R (List D) → Prop} : wE (mrange1 ps) s Q = wE (margs ps) s (kB (on1 rg1) Q) := id rfl
@[simp] theorem wE_range2 {Q : R (List D) → Prop} : wE (mrange2 ps) s Q = wE (margs ps) s (kB (on2 rg2) Q) := id rfl
def cmpK (vs : List Nat) (asg : D → MS) (t : M Bool) (el : M D) : List D → M D := fun items s => cloop vs asg t el items [] (wipeS vs s)
@[simp] theorem wE_mcomp {vs : List Nat} {it : M (List D)} {asg : D → MS} {t : M Bool} {el : M D} : wE (mcomp vs it asg t el) s Q = wE it s (kB (cmpK vs asg t el) Q) := id rfl
@[simp] theorem wE_cmpK {vs : List Nat} {items : List D} {asg : D → MS} {t : M Bool} {el : M D} : wE (cmpK vs asg t el items) s Q = wE (cloop vs asg t el items []) (wipeS vs s) Q := id rfl
@[simp] theorem wipeS_mk {vs : List Nat} : wipeS vs ⟨ρ, μ⟩ = ⟨wipeR ρ vs, μ⟩ := id rfl
@[simp] theorem wipeR_nil : wipeR ρ [] = ρ := id rfl
@[simp] theorem wipeR_cons {vs : List Nat} : wipeR ρ (j :: vs) = (wipeR ρ vs).set j .no := id rfl
@[simp] theorem tgt_name {k : Nat} : Tgt.asg (.name k) = gset k := id rfl
@[simp] theorem tgt_tup {js : List Nat} : Tgt.asg (.tup js) = gtup js := id rfl
end
section
variable {s : S} {Q : RS → Prop} {p q : M D} {a b : MS} {d : D} {j : Nat} {t : M Bool} {h : D → MS}
@[simp] theorem wS_sq : wS (sq a b) s Q = wS a s (kN b Q) := by
  unfold wS kN
  rw [sq_ap]
@[simp] theorem wS_skip : wS skip s Q = Q (.nx s) := id rfl
@[simp] theorem wS_break : wS sbreak s Q = Q (.bk s) := id rfl
@[simp] theorem wS_cont : wS scont s Q = Q (.ct s) := id rfl
@[simp] theorem wS_sset : wS (sset j p) s Q = wE (stl p) s (kS (fun d s => .nx (s.put j (.val d))) Q) := id rfl
@[simp] theorem wS_setO {m : M MO} : wS (ssetO j m) s Q = wE m s (kS (fun mo s => .nx (s.put j (.own mo))) Q) := id rfl
@[simp] theorem wS_sret : wS (sret p) s Q = wE (stl p) s (kS (fun d s => .rt d s) Q) := id rfl
@[simp] theorem wS_sretN : wS sretN s Q = Q (.rt .non s) := id rfl
@[simp] theorem wS_sexpr : wS (sexpr p) s Q = wE p s (kS (fun _ => skip) Q) := id rfl
@[simp] theorem wS_sif : wS (sif t a b) s Q = wE t s (kS (fun x => if x then a else b) Q) := id rfl
@[simp] theorem wS_sasg : wS (sasg h p) s Q = wE (stl p) s (kS h Q) := id rfl
@[simp] theorem wS_sfor {it : M (List D)} : wS (sfor it h a) s Q = wE it s (kS (floop h a) Q) := id rfl
@[simp] theorem wS_gset : wS (gset j d) s Q = Q (.nx (s.put j (.val d))) := id rfl
@[simp] theorem wS_rt : wS (fun s => .rt d s) s Q = Q (.rt d s) := id rfl
@[simp] theorem wS_put {x : Sl} : wS (fun s => .nx (s.put j x)) s Q = Q (.nx (s.put j x)) := id rfl
@[simp] theorem wS_ite {c : Prop} [Decidable c] : wS (if c then a else b) s Q = if c then wS a s Q else wS b s Q := by split <;> rfl
@[simp] theorem wE_ite {α : Type} {c : Prop} [Decidable c] {m n : M α} {Q : R α → Prop} : wE (if c then m else n) s Q = if c then wE m s Q else wE n s Q := by split <;> rfl
@[simp] theorem put_mk {ρ : List Sl} {μ : List MO} {x : Sl} : S.put ⟨ρ, μ⟩ j x = ⟨ρ.set j x, μ⟩ := id rfl
end
section
variable {s : S} {ρ : List Sl} {μ : List MO} {d x : D} {j : Nat} {xs : List D}
@[simp] theorem wE_mmix0 {Q : R (List Sl) → Prop} : wE (mmix []) s Q = Q (.ok [] s) := id rfl
@[simp] theorem wE_mmixv {m : M D} {r : List MX} {Q : R (List Sl) → Prop} : wE (mmix (.v m :: r)) s Q = wE m s (kB (fun d => bnd (Bx.settle d) fun d => bnd (mmix r) fun xs => pur (.val d :: xs)) Q) := id rfl
@[simp] theorem wE_mmixf {m : M MO} {r : List MX} {Q : R (List Sl) → Prop} : wE (mmix (.f m :: r)) s Q = wE m s (kB (fun o => bnd (mmix r) fun xs => pur (.own o :: xs)) Q) := id rfl
@[simp] theorem wS_spar {js : List Nat} {ms : List MX} {Q : RS → Prop} : wS (spar js ms) s Q = wE (mmix ms) s (kS (fun xs s => .nx (s.puts js xs)) Q) := id rfl
@[simp] theorem wS_puts {js : List Nat} {xs : List Sl} {Q : RS → Prop} : wS (fun s => .nx (s.puts js xs)) s Q = Q (.nx (s.puts js xs)) := id rfl
@[simp] theorem puts_cons {x : Sl} {xs : List Sl} {js : List Nat} : S.puts ⟨ρ, μ⟩ (j :: js) (x :: xs) = S.puts ⟨ρ.set j x, μ⟩ js xs := id rfl
@[simp] theorem puts_nil : S.puts ⟨ρ, μ⟩ [] [] = ⟨ρ, μ⟩ := id rfl
@[simp] theorem wE_nset {Q : R MO → Prop} : wE nset s Q = Q (.ok (.set []) s) := id rfl
@[simp] theorem wE_ndct {Q : R MO → Prop} : wE ndct s Q = Q (.ok (.dct []) s) := id rfl
@[simp] theorem wE_var {Q : R D → Prop} (h : ρ[j]? = some (.val d)) : wE (var j) ⟨ρ, μ⟩ Q = Q (.ok d ⟨ρ, μ⟩) := by
  unfold wE var
  simp [h]
@[simp] theorem wE_varO {Q : R D → Prop} {m : MO} (h : ρ[j]? = some (.own m)) : wE (var j) ⟨ρ, μ⟩ Q = Q (.ok (.loc j) ⟨ρ, μ⟩) := by
  unfold wE var
  simp [h]
@[simp] theorem wE_mapp {m a : M D} {Q : R D → Prop} : wE (mapp m a) s Q = wE m s (kB (fun d => bnd (chk isL d) fun d => bnd (mal [a]) (on1 (appD d))) Q) := id rfl
@[simp] theorem wE_msadd {m a : M D} {Q : R D → Prop} : wE (msadd m a) s Q = wE m s (kB (fun d => bnd (chk isSet d) fun d => bnd (mal [a]) (on1 (sadD d))) Q) := id rfl
@[simp] theorem wE_chkL {Q : R D → Prop} (h : ρ[j]? = some (.own (.lst xs))) : wE (chk isL (.loc j)) ⟨ρ, μ⟩ Q = Q (.ok (.loc j) ⟨ρ, μ⟩) := by
  unfold wE chk isL
  simp [rsl, h]
@[simp] theorem wE_app {Q : R D → Prop} (h : ρ[j]? = some (.own (.lst xs))) (hl : xs.length < 100000) : wE (appD (.loc j) x) ⟨ρ, μ⟩ Q = Q (.ok .non ⟨ρ.set j (.own (.lst (xs ++ [x]))), μ⟩) := by
  unfold wE appD
  simp [S.mo, h, hl, S.mut, S.put]
@[simp] theorem wE_chkS {Q : R D → Prop} {ks : List L2.Key} (h : ρ[j]? = some (.own (.set ks))) : wE (chk isSet (.loc j)) ⟨ρ, μ⟩ Q = Q (.ok (.loc j) ⟨ρ, μ⟩) := by
  unfold wE chk isSet
  simp [S.mo, h]
@[simp] theorem wE_sad {Q : R D → Prop} {ks : List L2.Key} {k : L2.Key} (h : ρ[j]? = some (.own (.set ks))) (hk : keyD x = some k) (hl : ks.length < 1000) : wE (sadD (.loc j) x) ⟨ρ, μ⟩ Q = Q (.ok .non ⟨ρ.set j (.own (.set (addK ks k))), μ⟩) := by
  unfold wE sadD
  simp [S.mo, h, hk, hl, S.mut, S.put]
/-- a list of one's own that comes to stand still -/
@[simp] theorem wE_stlO {Q : R D → Prop} (h : ρ[j]? = some (.own (.lst xs))) : wE (Bx.settle (.loc j)) ⟨ρ, μ⟩ Q = Q (.ok (.lst xs) ⟨ρ.set j (.val (.lst xs)), μ⟩) := by
  unfold wE Bx.settle
  simp [h]
end
theorem wE_of {α : Type} {m : M α} {s : S} {r : R α} {Q : R α → Prop} (h : m s = r) : wE m s Q = Q r := by unfold wE; rw [h]
theorem wS_of {m : MS} {s : S} {r : RS} {Q : RS → Prop} (h : m s = r) : wS m s Q = Q r := by unfold wS; rw [h]
theorem wD_of {den : Den} {ds : List D} {μ : List MO} {r : RF} {Q : RF → Prop} (h : den ds μ = r) : wD den ds μ Q = Q r := by unfold wD; rw [h]
theorem wE_make {cn : Str} {den : DenI} {ds : List D} {ρ : List Sl} {μ μ' : List MO} {fs : List (Str × D)} {Q : R D → Prop} (h : den 0 0 ds μ = .ok fs μ') : wE (makeD cn den ds) ⟨ρ, μ⟩ Q = Q (.ok (.obj cn fs) ⟨ρ, μ'⟩) := by
  unfold wE makeD
  simp [h]
theorem of_wD {den : Den} {ds : List D} {μ : List MO} {P : RF → Prop} (h : wD den ds μ P) : P (den ds μ) := h
section
variable {s : S} {i j : Int} {d e : D} {b : Bool} {Q : R D → Prop}
@[simp] theorem wE_add : wE (addD (.int i) (.int j)) s Q = Q (.ok (.int (i + j)) s) := id rfl
@[simp] theorem wE_sub : wE (subD (.int i) (.int j)) s Q = Q (.ok (.int (i - j)) s) := id rfl
@[simp] theorem wE_lt : wE (ltD (.int i) (.int j)) s Q = Q (.ok (.bl (decide (i < j))) s) := id rfl
@[simp] theorem wE_le : wE (leD (.int i) (.int j)) s Q = Q (.ok (.bl (decide (i ≤ j))) s) := id rfl
@[simp] theorem wE_gt : wE (gtD (.int i) (.int j)) s Q = Q (.ok (.bl (decide (j < i))) s) := id rfl
@[simp] theorem wE_ge : wE (geD (.int i) (.int j)) s Q = Q (.ok (.bl (decide (j ≤ i))) s) := id rfl
theorem wE_fdiv (h0 : 0 < j) (h1 : j < 1073741824) : wE (fdivD (.int i) (.int j)) s Q = Q (.ok (.int (i / j)) s) := wE_of (fdiv_int h0 h1)
@[simp] theorem wE_eqI : wE (eqD (.int i) (.int j)) s Q = Q (.ok (.bl (i == j)) s) := id rfl
@[simp] theorem wE_neI : wE (neD (.int i) (.int j)) s Q = Q (.ok (.bl (!(i == j))) s) := id rfl
@[simp] theorem wE_max : wE (maxD (.int i) (.int j)) s Q = Q (.ok (.int (if j > i then j else i)) s) := id rfl
@[simp] theorem wE_min : wE (minD (.int i) (.int j)) s Q = Q (.ok (.int (if j < i then j else i)) s) := id rfl
@[simp] theorem wE_settle_int : wE (Bx.settle (.int i)) s Q = Q (.ok (.int i) s) := id rfl
@[simp] theorem wE_settle_bl : wE (Bx.settle (.bl b)) s Q = Q (.ok (.bl b) s) := id rfl
@[simp] theorem wE_settle_str {x : Str} : wE (Bx.settle (.str x)) s Q = Q (.ok (.str x) s) := id rfl
@[simp] theorem wE_settle_non : wE (Bx.settle .non) s Q = Q (.ok .non s) := id rfl
@[simp] theorem wE_settle_tup {xs : List D} : wE (Bx.settle (.tup xs)) s Q = Q (.ok (.tup xs) s) := id rfl
@[simp] theorem wE_settle_twk {xs : List D} : wE (Bx.settle (.twk xs)) s Q = Q (.ok (.twk xs) s) := id rfl
@[simp] theorem wE_settle_lst {xs : List D} : wE (Bx.settle (.lst xs)) s Q = Q (.ok (.lst xs) s) := id rfl
@[simp] theorem wE_settle_ref {k : Nat} : wE (Bx.settle (.ref k)) s Q = Q (.ok (.ref k) s) := id rfl
@[simp] theorem wE_settle_scr {ns : List Int} : wE (Bx.settle (.scr ns)) s Q = Q (.ok (.scr ns) s) := id rfl
@[simp] theorem wE_settle_obj {c : Str} {fs : List (Str × D)} : wE (Bx.settle (.obj c fs)) s Q = Q (.ok (.obj c fs) s) := id rfl
@[simp] theorem wE_settle_dct {fs : List (L2.Key × D)} : wE (Bx.settle (.dct fs)) s Q = Q (.ok (.dct fs) s) := id rfl
@[simp] theorem wE_f1 {h : D → M D} : wE (f1 h [d]) s Q = wE (h d) s Q := id rfl
@[simp] theorem wE_f2 {h : D → D → M D} : wE (f2 h [d, e]) s Q = wE (h d e) s Q := id rfl
@[simp] theorem wE_on1 {α : Type} {h : D → M α} {Q : R α → Prop} : wE (on1 h [d]) s Q = wE (h d) s Q := id rfl
@[simp] theorem wE_on2 {α : Type} {h : D → D → M α} {Q : R α → Prop} : wE (on2 h [d, e]) s Q = wE (h d e) s Q := id rfl
@[simp] theorem wE_items_lst {xs : List D} {Q : R (List D) → Prop} : wE (itemsD (.lst xs)) s Q = Q (.ok xs s) := id rfl
@[simp] theorem wE_items_tup {xs : List D} {Q : R (List D) → Prop} : wE (itemsD (.tup xs)) s Q = Q (.ok xs s) := id rfl
@[simp] theorem wE_items_str {x : Str} {Q : R (List D) → Prop} : wE (itemsD (.str x)) s Q = Q (.ok (x.cps.toList.map fun c => .str ⟨#[c]⟩) s) := id rfl
theorem wE_rg1 {Q : R (List D) → Prop} (h0 : -1000000 ≤ j) (h1 : j ≤ 1000000) : wE (rg1 (.int j)) s Q = Q (.ok (rangeI 0 j.toNat) s) := wE_of (rg1_int (inRg_of h0 h1))
theorem wE_rg2 {Q : R (List D) → Prop} (h0 : -1000000 ≤ i) (h1 : i ≤ 1000000) (h2 : -1000000 ≤ j) (h3 : j ≤ 1000000) : wE (rg2 (.int i) (.int j)) s Q = Q (.ok (rangeI i (j - i).toNat) s) := wE_of (rg2_int (inRg_of h0 h1) (inRg_of h2 h3))
def chnK (g : D → D → M D) (y : D) (c : M D) : D → M D := fun z => match z with
  | .bl true => bnd c fun w => g y w
  | .bl false => pur (.bl false)
  | _ => fun _ => .bad
@[simp] theorem wE_chain {f g : D → D → M D} {a b c : M D} : wE (chain f g a b c) s Q = wE a s (kB (fun x => bnd b fun y => bnd (f x y) (chnK g y c)) Q) := id rfl
@[simp] theorem chnK_bl {g : D → D → M D} {c : M D} : wE (chnK g d c (.bl b)) s Q = if b = true then wE c s (kB (fun w => g d w) Q) else Q (.ok (.bl false) s) := by cases b <;> rfl
def andK (c : M D) : D → M D := fun z => match z with
  | .bl true => c
  | .bl false => pur (.bl false)
  | _ => fun _ => .bad
def orK (c : M D) : D → M D := fun z => match z with
  | .bl false => c
  | .bl true => pur (.bl true)
  | _ => fun _ => .bad
def notK : D → M D := fun z => match z with
  | .bl b => pur (.bl !b)
  | _ => fun _ => .bad
@[simp] theorem wE_andD {a c : M D} : wE (andD a c) s Q = wE a s (kB (andK c) Q) := id rfl
@[simp] theorem andK_bl {c : M D} : wE (andK c (.bl b)) s Q = if b = true then wE c s Q else Q (.ok (.bl false) s) := by cases b <;> rfl
@[simp] theorem wE_orD {a c : M D} : wE (orD a c) s Q = wE a s (kB (orK c) Q) := id rfl
@[simp] theorem orK_bl {c : M D} : wE (orK c (.bl b)) s Q = if b = true then Q (.ok (.bl true) s) else wE c s Q := by cases b <;> rfl
@[simp] theorem wE_notD {a : M D} : wE (notD a) s Q = wE a s (kB notK Q) := id rfl
@[simp] theorem notK_bl : wE (notK (.bl b)) s Q = Q (.ok (.bl !b) s) := id rfl
@[simp] theorem wE_tupleL {xs : List D} : wE (tupleD (.lst xs)) s Q = Q (.ok (.tup xs) s) := id rfl
@[simp] theorem wE_tupleT {xs : List D} : wE (tupleD (.tup xs)) s Q = Q (.ok (.tup xs) s) := id rfl
@[simp] theorem wE_lenL {xs : List D} : wE (lenD (.lst xs)) s Q = Q (.ok (.int xs.length) s) := id rfl
@[simp] theorem wE_lenT {xs : List D} : wE (lenD (.tup xs)) s Q = Q (.ok (.int xs.length) s) := id rfl
@[simp] theorem wE_lenS {x : Str} (h : x.length ≤ 100000) : wE (lenD (.str x)) s Q = Q (.ok (.int x.length) s) := by
  unfold wE lenD
  simp [rsl, h]
@[simp] theorem wE_lenR {ns : List Int} : wE (lenD (.scr ns)) s Q = Q (.ok (.int ns.length) s) := id rfl
@[simp] theorem wE_lenO {ρ : List Sl} {μ : List MO} {k : Nat} {xs : List D} (h : ρ[k]? = some (.own (.lst xs))) : wE (lenD (.loc k)) ⟨ρ, μ⟩ Q = Q (.ok (.int xs.length) ⟨ρ, μ⟩) := by
  unfold wE lenD
  simp [rsl, h]
@[simp] theorem wE_tupleO {ρ : List Sl} {μ : List MO} {k : Nat} {xs : List D} (h : ρ[k]? = some (.own (.lst xs))) : wE (tupleD (.loc k)) ⟨ρ, μ⟩ Q = Q (.ok (.tup xs) ⟨ρ, μ⟩) := by
  unfold wE tupleD
  simp [rsl, h]
end
theorem wD_runB {n : Nat} {b : MS} {ds : List D} {μ : List MO} {Q : RF → Prop} : wD (runB n b) ds μ Q = wS b ⟨frame n ds, μ⟩ (kF Q) := by
  unfold wD wS kF
  rw [runB_ap]
/-- a target is set, then the body -/
def kA (body : MS) (I : S → Prop) (Q : RS → Prop) : RS → Prop := fun r => match r with
  | .nx s => wS body s (kL I Q)
  | _ => False
@[simp] theorem kA_nx {body : MS} {I : S → Prop} {Q : RS → Prop} {s : S} : kA body I Q (.nx s) = wS body s (kL I Q) := id rfl
section
variable {asg : D → MS} {body : MS} {Q : RS → Prop}
/-- over a list: I done rest -/
theorem wfor {α : Type} {s : S} (f : α → D) (xs : List α) (I : List α → List α → S → Prop) (h0 : I [] xs s) (hI : ∀ l x r s, l ++ x :: r = xs → I l (x :: r) s → wS (asg (f x)) s (kA body (I (l ++ [x]) r) Q)) (hE : ∀ s, I xs [] s → Q (.nx s)) : wS (floop asg body (xs.map f)) s Q := by
  have go : ∀ (r l : List α) (s : S), l ++ r = xs → I l r s → wS (floop asg body (r.map f)) s Q := by
    intro r
    induction r with
    | nil => intro l s e h; rw [List.append_nil] at e; subst e; exact hE s h
    | cons x r ih =>
      intro l s e h
      have h1 : kA body (I (l ++ [x]) r) Q (asg (f x) s) := hI l x r s e h
      have ih' := fun s => ih (l ++ [x]) s (by rw [List.append_assoc]; exact e)
      show Q (floop asg body (f x :: r.map f) s)
      rw [floop]
      cases e : asg (f x) s with
      | nx s1 =>
        rw [e] at h1
        have h2 : kL (I (l ++ [x]) r) Q (body s1) := h1
        simp only
        cases e2 : body s1 with
        | nx s2 => rw [e2] at h2; exact ih' s2 h2
        | ct s2 => rw [e2] at h2; exact ih' s2 h2
        | bk s2 => rw [e2] at h2; exact h2
        | rt d2 s2 => rw [e2] at h2; exact h2
        | exc x s2 => rw [e2] at h2; exact h2
        | bad => rw [e2] at h2; exact h2.elim
      | _ => rw [e] at h1; exact h1.elim
  exact go xs [] s rfl h0
/-- over a range -/
theorem wforR {s : S} {lo : Int} {n : Nat} (I : Nat → S → Prop) (h0 : I 0 s) (hI : ∀ k s, k < n → I k s → wS (asg (.int (lo + k))) s (kA body (I (k + 1)) Q)) (hE : ∀ s, I n s → Q (.nx s)) : wS (floop asg body (rangeI lo n)) s Q := by
  unfold rangeI
  refine wfor (fun (i : Nat) => D.int (lo + i)) (List.range n) (fun l _ s => I l.length s) h0 (fun l x r s e h => ?_) (fun s h => hE s (by rwa [List.length_range] at h))
  have hx : x = l.length := by
    have h1 := congrArg (fun z => z[l.length]?) e
    simp only [List.getElem?_append_right (Nat.le_refl _), Nat.sub_self, List.getElem?_cons_zero] at h1
    rw [List.getElem?_eq_some_iff.mpr ⟨by rw [← e]; simp, rfl⟩] at h1
    simpa using h1
  have hl : l.length < n := by
    have h1 := congrArg List.length e
    simp at h1
    omega
  subst hx
  rw [List.length_append, List.length_singleton]
  exact hI l.length s hl h
end
/-- a turn of a comprehension: what is yielded, or that nothing is -/
def kY (vs : List Nat) (t : M Bool) (el : M D) (P : Option D → S → Prop) : RS → Prop := fun r => match r with
  | .nx s1 => wE t s1 (kV fun b s2 => if b then wE (stl el) s2 (kV fun d s3 => P (some d) (wipeS vs s3)) else P none (wipeS vs s2))
  | _ => False
@[simp] theorem kY_nx {vs : List Nat} {t : M Bool} {el : M D} {P : Option D → S → Prop} {s1 : S} : kY vs t el P (.nx s1) = wE t s1 (kV fun b s2 => if b then wE (stl el) s2 (kV fun d s3 => P (some d) (wipeS vs s3)) else P none (wipeS vs s2)) := id rfl
section
variable {vs : List Nat} {asg : D → MS} {t : M Bool} {el : M D} {Q : R D → Prop}
/-- I done acc -/
theorem wcomp_go {α : Type} (f : α → D) (I : List α → List D → S → Prop) {N : Nat} (hN : N ≤ 100000) (hA : ∀ r acc s, I r acc s → acc.length + r.length ≤ N)
    (hI : ∀ x r acc s, I (x :: r) acc s → wS (asg (f x)) s (kY vs t el fun o s' => I r (acc ++ o.toList) s')) (hE : ∀ acc s, I [] acc s → Q (.ok (.lst acc) (wipeS vs s))) : ∀ (r : List α) (acc : List D) (s : S), I r acc s → wE (cloop vs asg t el (r.map f) acc) s Q
  | [], acc, s, h => hE acc s h
  | x :: r, acc, s, h => by
    have h1 : kY vs t el (fun o s' => I r (acc ++ o.toList) s') (asg (f x) s) := hI x r acc s h
    have hl := hA _ _ _ h
    rw [List.length_cons] at hl
    show Q (cloop vs asg t el (f x :: r.map f) acc s)
    rw [cloop]
    cases e : asg (f x) s with
    | nx s1 =>
      rw [e] at h1
      have h2 : kV _ (t s1) := h1
      simp only
      cases e2 : t s1 with
      | ok b s2 =>
        rw [e2] at h2
        cases b with
        | false =>
          have h3 : I r (acc ++ []) (wipeS vs s2) := h2
          rw [List.append_nil] at h3
          exact wcomp_go f I hN hA hI hE r acc _ h3
        | true =>
          have h3 : kV (fun d s3 => I r (acc ++ (some d).toList) (wipeS vs s3)) (stl el s2) := h2
          simp only
          cases e3 : stl el s2 with
          | ok y s3 =>
            rw [e3] at h3
            simp only
            rw [if_pos (by omega)]
            exact wcomp_go f I hN hA hI hE r _ _ h3
          | exc x s3 => rw [e3] at h3; exact h3.elim
          | bad => rw [e3] at h3; exact h3.elim
      | exc x s2 => rw [e2] at h2; exact h2.elim
      | bad => rw [e2] at h2; exact h2.elim
    | _ => rw [e] at h1; exact h1.elim
/-- nothing else changes -/
theorem wcomp {α : Type} {s : S} (f : α → D) (xs : List α) (p : α → Bool) (h : α → D) (hw : wipeS vs s = s) (hl : xs.length ≤ 100000) (hI : ∀ x, x ∈ xs → wS (asg (f x)) s (kY vs t el fun o s' => o = (if p x then some (h x) else none) ∧ s' = s)) (hE : Q (.ok (.lst ((xs.filter p).map h)) s)) : wE (cloop vs asg t el (xs.map f) []) s Q := by
  refine wcomp_go (N := xs.length) f (fun r acc s' => s' = s ∧ ∃ l, l ++ r = xs ∧ acc = (l.filter p).map h) hl (fun r acc s' h1 => ?_) (fun x r acc s' h1 => ?_) (fun acc s' h1 => ?_) xs [] s ⟨rfl, [], rfl, rfl⟩
  · obtain ⟨_, l, e, rfl⟩ := h1
    have := List.length_filter_le p l
    rw [← e, List.length_map, List.length_append]
    omega
  · obtain ⟨rfl, l, e, rfl⟩ := h1
    have h2 : kY vs t el (fun o s'' => o = (if p x then some (h x) else none) ∧ s'' = s') (asg (f x) s') := hI x (by rw [← e]; simp)
    show kY vs t el _ (asg (f x) s')
    cases e : asg (f x) s' with
    | nx s1 =>
      rw [e] at h2
      have h2' : kV _ (t s1) := h2
      show kV _ (t s1)
      cases e2 : t s1 with
      | ok b s2 =>
        rw [e2] at h2'
        cases b with
        | false =>
          obtain ⟨h3, h4⟩ : none = (if p x then some (h x) else none) ∧ wipeS vs s2 = s' := h2'
          refine ⟨h4, l ++ [x], by simpa using ‹l ++ x :: r = xs›, ?_⟩
          cases hp : p x with
          | false => simp [hp]
          | true => rw [hp] at h3; cases h3
        | true =>
          have h2'' : kV (fun d s3 => some d = (if p x then some (h x) else none) ∧ wipeS vs s3 = s') (stl el s2) := h2'
          show kV _ (stl el s2)
          cases e3 : stl el s2 with
          | ok y s3 =>
            rw [e3] at h2''
            obtain ⟨h3, h4⟩ := h2''
            refine ⟨h4, l ++ [x], by simpa using ‹l ++ x :: r = xs›, ?_⟩
            cases hp : p x with
            | false => rw [hp] at h3; cases h3
            | true => rw [hp] at h3; cases h3; simp [hp]
          | exc x s3 => rw [e3] at h2''; exact h2''.elim
          | bad => rw [e3] at h2''; exact h2''.elim
      | exc x s2 => rw [e2] at h2'; exact h2'.elim
      | bad => rw [e2] at h2'; exact h2'.elim
    | _ => rw [e] at h2; exact h2.elim
  · obtain ⟨rfl, l, e, rfl⟩ := h1
    rw [List.append_nil] at e
    subst e
    rw [hw]
    exact hE
end
theorem wcompY {α : Type} {vs : List Nat} {asg : D → MS} {t : M Bool} {el : M D} {Q : R D → Prop} {s : S} (f : α → D) (xs : List α) (h : α → D) (hw : wipeS vs s = s) (hl : xs.length ≤ 100000) (hI : ∀ x, x ∈ xs → wS (asg (f x)) s (kY vs t el fun o s' => o = some (h x) ∧ s' = s)) (hE : Q (.ok (.lst (xs.map h)) s)) : wE (cloop vs asg t el (xs.map f) []) s Q := by
  refine wcomp f xs (fun _ => true) h hw hl (fun x hx => ?_) ?_
  · simpa using hI x hx
  · rwa [List.filter_eq_self.mpr (fun _ _ => rfl)]
def kX (P : S → Prop) : RS → Prop := fun r => match r with
  | .nx s => P s
  | _ => False
@[simp] theorem kX_nx {P : S → Prop} {s : S} : kX P (.nx s) = P s := id rfl
end Bx
namespace Bx
open PySem
def asc (x : Str) : Bool := x.cps.toList.all (· < 128)
mutual
def okS : D → Bool
  | .non => true
  | .bl _ => true
  | .int i => decide (-10000000000000000000000000000000000000000 < i) && decide (i < 10000000000000000000000000000000000000000)
  | .str x => asc x
  | .tup ds => okSL ds
  | .lst ds => okSL ds
  | _ => false
def okSL : List D → Bool
  | [] => true
  | d :: r => okS d && okSL r
end
mutual
def wt : D → Nat
  | .str x => 4 * x.length + 2
  | .tup ds => wtL ds + 3
  | .lst ds => wtL ds + 3
  | _ => 45
def wtL : List D → Nat
  | [] => 0
  | d :: r => wt d + 2 + wtL r
end
mutual
def dpt : D → Nat
  | .tup ds => dptL ds + 1
  | .lst ds => dptL ds + 1
  | _ => 0
def dptL : List D → Nat
  | [] => 0
  | d :: r => max (dpt d) (dptL r)
end
theorem int_text (i : Int) : (PyData.int i).shown = Str.ofString (toString i) := rfl
theorem cps_ofString (x : String) : (Str.ofString x).cps.toList = x.toList.map Char.toNat := PyProof.Rows.signs_ofString x
theorem int_signs (i : Int) : ∃ l : List Char, ((PyData.int i).shown.cps.toList = l.map Char.toNat ∨ (PyData.int i).shown.cps.toList = 45 :: l.map Char.toNat) ∧ l = Nat.toDigits 10 i.natAbs := by
  refine ⟨_, ?_, rfl⟩
  rw [int_text, cps_ofString]
  cases i with
  | ofNat n =>
    refine .inl ?_
    show (Nat.repr n).toList.map Char.toNat = _
    rw [Nat.toList_repr]
    rfl
  | negSucc n =>
    refine .inr ?_
    show (String.append "-" (Nat.repr (n + 1))).toList.map Char.toNat = _
    have : (String.append "-" (Nat.repr (n + 1))).toList = '-' :: (Nat.repr (n + 1)).toList := by
      show ("-" ++ Nat.repr (n + 1)).toList = _
      rw [String.toList_append]
      rfl
    rw [this, Nat.toList_repr]
    rfl
theorem show_int : ∀ i : Int, -10000000000000000000000000000000000000000 < i → i < 10000000000000000000000000000000000000000 → ((PyData.int i).shown).length ≤ 45 := by
  intro i h0 h1
  obtain ⟨l, h, rfl⟩ := int_signs i
  have h2 : (Nat.toDigits 10 i.natAbs).length ≤ 40 := PyProof.Rows.digits10_le (by omega) (by omega)
  show (PyData.int i).shown.cps.size ≤ 45
  rw [← Array.length_toList]
  rcases h with h | h <;> rw [h] <;> simp <;> omega
theorem rch_len : ∀ c, c < 128 → (PySem.Builtin.Str.reprChar 34 c).length ≤ 4 ∧ (PySem.Builtin.Str.reprChar 39 c).length ≤ 4 := by decide +kernel
theorem fold_len (q : Nat) (hq : ∀ c, c < 128 → (PySem.Builtin.Str.reprChar q c).length ≤ 4) : ∀ (l : List Nat) (n : Nat), (∀ c ∈ l, c < 128) → l.foldl (fun n c => n + (PySem.Builtin.Str.reprChar q c).length) n ≤ n + 4 * l.length
  | [], n, _ => by simp
  | c :: r, n, h => by
    have h1 := hq c (h c (List.mem_cons_self ..))
    have h2 := fold_len q hq r (n + (PySem.Builtin.Str.reprChar q c).length) fun d hd => h d (List.mem_cons_of_mem _ hd)
    rw [List.foldl_cons, List.length_cons]
    omega
theorem show_str (x : Str) (h : asc x = true) : ((PyData.str x).shown).length ≤ 4 * x.length + 2 := by
  have hc : ∀ c ∈ x.cps.toList, c < 128 := fun c hc => by
    have := List.all_eq_true.mp h c hc
    simpa using this
  show (reprText x).length ≤ _
  rw [← reprLen_eq, ← Array.foldl_toList]
  have hx : x.length = x.cps.toList.length := rfl
  have hq : ∀ c, c < 128 → (PySem.Builtin.Str.reprChar (reprQuote x) c).length ≤ 4 := by
    unfold reprQuote
    intro c h
    have := rch_len c h
    split
    · exact this.1
    · exact this.2
  have := fold_len (reprQuote x) hq x.cps.toList 2 hc
  rw [hx]
  omega
theorem show_tup (ts : List Str) : (tupleText ts).length ≤ piled ts + 3 := by
  unfold tupleText
  rw [strLen_append, strLen_append]
  have e1 : ((if ts.length == 1 then ",)" else ")" : String) : Str).length ≤ 2 := by split <;> decide
  have e2 : (("(" : String) : Str).length = 1 := rfl
  by_cases h : ts = []
  · subst h
    have : (Str.join ", " []).length = 0 := rfl
    omega
  · have := join_length_add ts h
    omega
theorem show_from : ∀ (ts : List Str) (k : Nat) (acc : Str), (textFrom k acc ts).length ≤ acc.length + piled ts
  | [], k, acc => by simp [textFrom, piled_nil]
  | t :: r, k, acc => by
    rw [textFrom, piled_cons]
    have := show_from r (k + 1) (acc ++ (if k > 0 then ", " else "" : String) ++ t)
    rw [strLen_append, strLen_append] at this
    have e1 : ((if k > 0 then ", " else "" : String) : Str).length ≤ 2 := by split <;> decide
    omega
theorem show_lst (ts : List Str) : (listText ts).length ≤ piled ts + 3 := by
  unfold listText
  rw [strLen_append]
  have := show_from ts 0 "["
  have e2 : (("[" : String) : Str).length = 1 := rfl
  have e3 : (("]" : String) : Str).length = 1 := rfl
  omega
structure Shows (d : D) (p : PyData) : Prop where
  pd : pd d = some p
  can : p.canLay0 = true
  able : p.showable = true
  len : p.shown.length ≤ wt d
  dep : p.depth ≤ dpt d
structure ShowsL (d : List D) (p : List PyData) : Prop where
  pd : pdL d = some p
  can : PyData.canLayAll0 p = true
  able : PyData.showableAll p = true
  len : piled (PyData.shownAll p) ≤ wtL d
  dep : PyData.depthAll p ≤ dptL d
theorem log_small {i : Int} (h0 : -10000000000000000000000000000000000000000 < i) (h1 : i < 10000000000000000000000000000000000000000) : i.natAbs.log2 < 1920 := by
  by_cases h : i.natAbs = 0
  · rw [h]; decide
  · rw [Nat.log2_lt h]
    exact Nat.lt_of_lt_of_le (show i.natAbs < 2 ^ 140 by omega) (Nat.pow_le_pow_right (by decide) (by decide))
mutual
theorem shows_of : ∀ d : D, okS d = true → ∃ p, Shows d p
  | .non, _ => ⟨.none, rfl, rfl, rfl, by decide, by decide⟩
  | .bl b, _ => ⟨.bool b, rfl, rfl, rfl, by cases b <;> decide, Nat.le_refl _⟩
  | .int i, h => by
    have h' : -10000000000000000000000000000000000000000 < i ∧ i < 10000000000000000000000000000000000000000 := by simpa [okS] using h
    exact ⟨.int i, rfl, rfl, by simp [PyData.showable, log_small h'.1 h'.2], show_int i h'.1 h'.2, Nat.le_refl _⟩
  | .str x, h => by
    refine ⟨.str x, rfl, ?_, rfl, show_str x h, Nat.le_refl _⟩
    show PyData.strOk x = true
    unfold PyData.strOk
    rw [← Array.all_toList, List.all_eq_true]
    intro c hc
    have := List.all_eq_true.mp (show x.cps.toList.all (· < 128) = true from h) c hc
    simp at this ⊢
    omega
  | .tup ds, h => by
    obtain ⟨ps, h1⟩ := showsL_of ds h
    refine ⟨.tuple ps, by simp [pd, h1.pd], h1.can, h1.able, ?_, ?_⟩
    · have := show_tup (PyData.shownAll ps)
      have := h1.len
      show (tupleText (PyData.shownAll ps)).length ≤ wtL ds + 3
      omega
    · show PyData.depthAll ps + 1 ≤ dptL ds + 1
      have := h1.dep
      omega
  | .lst ds, h => by
    obtain ⟨ps, h1⟩ := showsL_of ds h
    refine ⟨.list ps, by simp [pd, h1.pd], h1.can, h1.able, ?_, ?_⟩
    · have := show_lst (PyData.shownAll ps)
      have := h1.len
      show (listText (PyData.shownAll ps)).length ≤ wtL ds + 3
      omega
    · show PyData.depthAll ps + 1 ≤ dptL ds + 1
      have := h1.dep
      omega
  | .dct _, h => by simp [okS] at h
  | .obj _ _, h => by simp [okS] at h
  | .ref _, h => by simp [okS] at h
  | .loc _, h => by simp [okS] at h
  | .glo _, h => by simp [okS] at h
  | .ty _, h => by simp [okS] at h
  | .scr _, h => by simp [okS] at h
theorem showsL_of : ∀ d : List D, okSL d = true → ∃ p, ShowsL d p
  | [], _ => ⟨[], rfl, rfl, rfl, by simp [PyData.shownAll, piled_nil, wtL], Nat.le_refl _⟩
  | d :: r, h => by
    have h' : okS d = true ∧ okSL r = true := by simpa [okSL] using h
    obtain ⟨p, h1⟩ := shows_of d h'.1
    obtain ⟨ps, h2⟩ := showsL_of r h'.2
    refine ⟨p :: ps, by simp [pdL, h1.pd, h2.pd], by simp [PyData.canLayAll0, h1.can, h2.can], by simp [PyData.showableAll, h1.able, h2.able], ?_, ?_⟩
    · rw [PyData.shownAll, piled_cons, wtL]
      have := h1.len
      have := h2.len
      omega
    · show max _ _ ≤ max _ _
      have := h1.dep
      have := h2.dep
      omega
end
/-- the text of a row -/
def shw (d : D) : Str := match pd d with
  | some p => p.shown
  | none => ""
def seqD : D → Bool
  | .tup _ => true
  | .lst _ => true
  | _ => false
theorem okS_rsl {d : D} (s : S) (h : okS d = true) : rsl s d = d := by cases d <;> first | rfl | (simp [okS] at h)
theorem repr_ok {d : D} (s : S) (h : okS d = true) (hs : seqD d = true) (hw : wt d ≤ 16000000) (hd : dpt d ≤ 60) : reprD d s = .ok (.str (shw d)) s := by
  obtain ⟨p, h1⟩ := shows_of d h
  have h2 := h1.len
  have h3 := h1.dep
  have h4 := PyData.hasDict_of_canLay p h1.can
  unfold reprD
  rw [okS_rsl s h, h1.pd]
  unfold shw
  rw [h1.pd]
  have h5 := h1.able
  cases d with
  | tup ds =>
    have := h1.pd
    simp only [pd, Option.map_eq_some_iff] at this
    obtain ⟨ps, _, rfl⟩ := this
    simp only
    rw [if_pos ⟨h5, h4, by omega, by omega⟩]
  | lst ds =>
    have := h1.pd
    simp only [pd, Option.map_eq_some_iff] at this
    obtain ⟨ps, _, rfl⟩ := this
    simp only
    rw [if_pos ⟨h5, h4, by omega, by omega⟩]
  | _ => simp [seqD] at hs
mutual
/-- no truths within -/
def noB : D → Bool
  | .bl _ => false
  | .tup ds => noBL ds
  | .lst ds => noBL ds
  | _ => true
def noBL : List D → Bool
  | [] => true
  | d :: r => noB d && noBL r
end
theorem okSL_all {ds : List D} : okSL ds = true ↔ ∀ d ∈ ds, okS d = true := by
  induction ds with
  | nil => simp [okSL]
  | cons d r ih => simp [okSL, ih]
theorem noBL_all {ds : List D} : noBL ds = true ↔ ∀ d ∈ ds, noB d = true := by
  induction ds with
  | nil => simp [noBL]
  | cons d r ih => simp [noBL, ih]
theorem wtL_le {n : Nat} : ∀ {ds : List D}, (∀ d ∈ ds, wt d ≤ n) → wtL ds ≤ (n + 2) * ds.length
  | [], _ => by simp [wtL]
  | d :: r, h => by
    have h1 := h d (List.mem_cons_self ..)
    have h2 := wtL_le (ds := r) fun e he => h e (List.mem_cons_of_mem _ he)
    rw [wtL, List.length_cons, Nat.mul_succ]
    omega
theorem dptL_le {n : Nat} : ∀ {ds : List D}, (∀ d ∈ ds, dpt d ≤ n) → dptL ds ≤ n
  | [], _ => by simp [dptL]
  | d :: r, h => by
    have h1 := h d (List.mem_cons_self ..)
    have h2 := dptL_le (ds := r) fun e he => h e (List.mem_cons_of_mem _ he)
    rw [dptL]
    omega
end Bx
namespace Bx
open PySem
section
variable {s : S} {ρ : List Sl} {μ : List MO} {d x y : D} {j : Nat} {xs ys : List D} {Q : R D → Prop} {i : Int} {b : Bool}
@[simp] theorem wE_mext {m a : M D} : wE (mext m a) s Q = wE m s (kB (fun d => bnd (chk isL d) fun d => bnd (mal [a]) (on1 (extD d))) Q) := id rfl
@[simp] theorem wE_ext (h : ρ[j]? = some (.own (.lst xs))) (hl : xs.length + ys.length ≤ 100000) : wE (extD (.loc j) (.lst ys)) ⟨ρ, μ⟩ Q = Q (.ok .non ⟨ρ.set j (.own (.lst (xs ++ ys))), μ⟩) := by
  unfold wE extD
  simp [S.mo, h, hl, S.mut, S.put]
@[simp] theorem wE_strS {z : Str} : wE (strD (.str z)) s Q = Q (.ok (.str z) s) := id rfl
@[simp] theorem wE_strN : wE (strD .non) s Q = Q (.ok (.str "None") s) := id rfl
@[simp] theorem wE_intB : wE (intD (.bl b)) s Q = Q (.ok (.int (if b = true then 1 else 0)) s) := by cases b <;> exact id rfl
@[simp] theorem wE_intI : wE (intD (.int i)) s Q = Q (.ok (.int i) s) := id rfl
def dcmpK (vs : List Nat) (asg : D → MS) (t : M Bool) (ek ev : M D) : List D → M D := fun items s => dloop vs asg t ek ev items [] (wipeS vs s)
@[simp] theorem wE_mdcomp {vs : List Nat} {it : M (List D)} {asg : D → MS} {t : M Bool} {ek ev : M D} : wE (mdcomp vs it asg t ek ev) s Q = wE it s (kB (dcmpK vs asg t ek ev) Q) := id rfl
@[simp] theorem wE_dcmpK {vs : List Nat} {items : List D} {asg : D → MS} {t : M Bool} {ek ev : M D} : wE (dcmpK vs asg t ek ev items) s Q = wE (dloop vs asg t ek ev items []) (wipeS vs s) Q := id rfl
@[simp] theorem wE_menum {m : M D} {Q : R (List D) → Prop} : wE (menum m) s Q = wE (mal [m]) s (kB (fun ds => enumD (ds.headD .non)) Q) := id rfl
@[simp] theorem wE_enumT {Q : R (List D) → Prop} : wE (enumD (.tup xs)) s Q = Q (.ok (nums 0 xs) s) := id rfl
@[simp] theorem wE_enumL {Q : R (List D) → Prop} : wE (enumD (.lst xs)) s Q = Q (.ok (nums 0 xs) s) := id rfl
@[simp] theorem wE_gtup2 {a b : Nat} {Q : RS → Prop} : wS (gtup [a, b] (.tup [x, y])) ⟨ρ, μ⟩ Q = Q (.nx ⟨(ρ.set a (.val x)).set b (.val y), μ⟩) := id rfl
@[simp] theorem wE_gtup2w {a b : Nat} {Q : RS → Prop} : wS (gtup [a, b] (.twk [x, y])) ⟨ρ, μ⟩ Q = Q (.nx ⟨(ρ.set a (.val x)).set b (.val y), μ⟩) := id rfl
@[simp] theorem wE_gtup3 {a b c : Nat} {z : D} {Q : RS → Prop} : wS (gtup [a, b, c] (.tup [x, y, z])) ⟨ρ, μ⟩ Q = Q (.nx ⟨((ρ.set a (.val x)).set b (.val y)).set c (.val z), μ⟩) := id rfl
@[simp] theorem wE_addT (h : xs.length + ys.length ≤ 100000) : wE (addD (.tup xs) (.tup ys)) s Q = Q (.ok (.tup (xs ++ ys)) s) := wE_of (by simp [addD, rsl, h])
@[simp] theorem wE_addL (h : xs.length + ys.length ≤ 100000) : wE (addD (.lst xs) (.lst ys)) s Q = Q (.ok (.lst (xs ++ ys)) s) := wE_of (by simp [addD, rsl, h])
@[simp] theorem wE_addS {x y : Str} (h : x.length + y.length ≤ 100000) : wE (addD (.str x) (.str y)) s Q = Q (.ok (.str (x ++ y)) s) := wE_of (by simp [addD, rsl, h])
@[simp] theorem wE_revT : wE (revD (.tup xs)) s Q = Q (.ok (.tup xs.reverse) s) := id rfl
@[simp] theorem wE_slc {a : M D} {l h : MP} : wE (slc a l h) s Q = wE a s (kB (fun x => mpart l fun lo => mpart h fun hi => slD x lo hi) Q) := id rfl
@[simp] theorem wE_mpartN {k : Option Int → M D} : wE (mpart .no k) s Q = wE (k none) s Q := id rfl
def prtK (f : Option Int → M D) : D → M D := fun d => match d with
  | .int i => f (some i)
  | _ => fun _ => .bad
@[simp] theorem wE_mpartY {m : M D} {k : Option Int → M D} : wE (mpart (.yes m) k) s Q = wE m s (kB (prtK k) Q) := id rfl
@[simp] theorem wE_prtK {k : Option Int → M D} : wE (prtK k (.int i)) s Q = wE (k (some i)) s Q := id rfl
@[simp] theorem wE_slT {lo hi : Option Int} : wE (slD (.tup xs) lo hi) s Q = Q (.ok (.tup (cutD xs lo hi)) s) := id rfl
@[simp] theorem wE_slL {lo hi : Option Int} : wE (slD (.lst xs) lo hi) s Q = Q (.ok (.lst (cutD xs lo hi)) s) := id rfl
/-- who sits on a seat -/
def seat : Option Str → D
  | some x => .str x
  | none => .non
@[simp] theorem wE_isN {o : Option Str} : wE (isND (seat o) .non) s Q = Q (.ok (.bl o.isNone) s) := by cases o <;> exact id rfl
@[simp] theorem wE_notN {o : Option Str} : wE (notND (seat o) .non) s Q = Q (.ok (.bl o.isSome) s) := by cases o <;> exact id rfl
@[simp] theorem wE_settle_seat {o : Option Str} : wE (Bx.settle (seat o)) s Q = Q (.ok (seat o) s) := by cases o <;> exact id rfl
@[simp] theorem wE_isNs {x : Str} : wE (isND (.str x) .non) s Q = Q (.ok (.bl false) s) := id rfl
@[simp] theorem wE_notNs {x : Str} : wE (notND (.str x) .non) s Q = Q (.ok (.bl true) s) := id rfl
@[simp] theorem wE_isNn : wE (isND .non .non) s Q = Q (.ok (.bl true) s) := id rfl
@[simp] theorem wE_notNn : wE (notND .non .non) s Q = Q (.ok (.bl false) s) := id rfl
@[simp] theorem wE_isNi : wE (isND (.int i) .non) s Q = Q (.ok (.bl false) s) := id rfl
@[simp] theorem wE_notNi : wE (notND (.int i) .non) s Q = Q (.ok (.bl true) s) := id rfl
@[simp] theorem wE_isNt : wE (isND (.tup xs) .non) s Q = Q (.ok (.bl false) s) := id rfl
@[simp] theorem wE_notNt : wE (notND (.tup xs) .non) s Q = Q (.ok (.bl true) s) := id rfl
@[simp] theorem wE_isNb : wE (isND (.bl b) .non) s Q = Q (.ok (.bl false) s) := id rfl
@[simp] theorem wE_notNb : wE (notND (.bl b) .non) s Q = Q (.ok (.bl true) s) := id rfl
theorem ixL {k : Int} (h0 : 0 ≤ k) (h1 : k < xs.length) : wE (ixD (.lst xs) (.int k)) s Q = Q (.ok (xs[k.toNat]'(by omega)) s) := wE_of (ix_lst h0 h1)
end
theorem nums_map {α : Type} (f : α → D) : ∀ (xs : List α) (k : Nat), nums k (xs.map f) = (xs.zipIdx k).map fun p => .twk [.int (p.2 : Nat), f p.1]
  | [], _ => rfl
  | x :: r, k => by
    rw [List.map_cons, nums, nums_map f r (k + 1)]
    rfl
/-- over enumerate(xs) -/
theorem wforE {α : Type} {asg : D → MS} {body : MS} {Q : RS → Prop} {s : S} (f : α → D) (xs : List α) (I : Nat → S → Prop) (h0 : I 0 s) (hI : ∀ (k : Nat) (hk : k < xs.length) s, I k s → wS (asg (.twk [.int k, f xs[k]])) s (kA body (I (k + 1)) Q)) (hE : ∀ s, I xs.length s → Q (.nx s)) : wS (floop asg body (nums 0 (xs.map f))) s Q := by
  rw [nums_map]
  refine wfor (fun p : α × Nat => D.twk [.int (p.2 : Nat), f p.1]) xs.zipIdx (fun l _ s => I l.length s) h0 (fun l p r s e h => ?_) (fun s h => hE s (by rwa [List.length_zipIdx] at h))
  have h1 := congrArg (fun z => z[l.length]?) e
  simp only [List.getElem?_append_right (Nat.le_refl _), Nat.sub_self, List.getElem?_cons_zero, List.getElem?_zipIdx] at h1
  cases h2 : xs[l.length]? with
  | none => rw [h2] at h1; cases h1
  | some x =>
    rw [h2] at h1
    simp at h1
    obtain ⟨hk, hx⟩ := List.getElem?_eq_some_iff.mp h2
    have := hI l.length hk s h
    rw [hx] at this
    rw [List.length_append, List.length_singleton, h1]
    exact this
/-- what a turn of {k: v for ..} yields -/
def kZ (vs : List Nat) (t : M Bool) (ek ev : M D) (k : L2.Key) (d : D) (s0 : S) : RS → Prop := fun r => match r with
  | .nx s1 => wE t s1 (kV fun b s2 => b = true ∧ wE ek s2 (kV fun kd s3 => keyD kd = some k ∧ wE (stl ev) s3 (kV fun y s4 => y = d ∧ wipeS vs s4 = s0)))
  | _ => False
@[simp] theorem kZ_nx {vs : List Nat} {t : M Bool} {ek ev : M D} {k : L2.Key} {d : D} {s0 s1 : S} : kZ vs t ek ev k d s0 (.nx s1) = wE t s1 (kV fun b s2 => b = true ∧ wE ek s2 (kV fun kd s3 => keyD kd = some k ∧ wE (stl ev) s3 (kV fun y s4 => y = d ∧ wipeS vs s4 = s0))) := id rfl
@[simp] theorem wE_neg {i : Int} {s : S} {Q : R D → Prop} : wE (negD (.int i)) s Q = Q (.ok (.int (-i)) s) := id rfl
@[simp] theorem wE_mtm {f : D → D → M D} {m a : M D} {s : S} {Q : R D → Prop} : wE (mtm f m a) s Q = wE m s (kB (fun d => bnd (Bx.settle d) fun d => bnd (chk isTup d) fun d => bnd (mal [a]) (on1 (f d))) Q) := id rfl
@[simp] theorem wE_chkT {xs : List D} {s : S} {Q : R D → Prop} : wE (chk isTup (.tup xs)) s Q = Q (.ok (.tup xs) s) := id rfl
@[simp] theorem wE_isB {a b : Bool} {s : S} {Q : R D → Prop} : wE (isBD (.bl a) (.bl b)) s Q = Q (.ok (.bl (decide (a = b))) s) := id rfl
@[simp] theorem wE_notB {a b : Bool} {s : S} {Q : R D → Prop} : wE (notBD (.bl a) (.bl b)) s Q = Q (.ok (.bl (!decide (a = b))) s) := id rfl
def kepK (vs : List Nat) (s0 : S) (Q : R D → Prop) : R D → Prop := fun r => match r with
  | .ok d s' => Q (.ok d (keepS vs s0 s'))
  | r => Q r
@[simp] theorem wE_kept {vs : List Nat} {m : M D} {s : S} {Q : R D → Prop} : wE (kept vs m) s Q = wE m s (kepK vs s Q) := by
  unfold wE kept kepK
  cases m s <;> rfl
@[simp] theorem kepK_ok {vs : List Nat} {s0 s : S} {d : D} {Q : R D → Prop} : kepK vs s0 Q (.ok d s) = Q (.ok d (keepS vs s0 s)) := id rfl
@[simp] theorem keepS_mk {vs : List Nat} {ρ0 ρ : List Sl} {μ0 μ : List MO} : keepS vs ⟨ρ0, μ0⟩ ⟨ρ, μ⟩ = ⟨keepR ρ0 vs ρ, μ⟩ := id rfl
@[simp] theorem keepR_nil {ρ0 ρ : List Sl} : keepR ρ0 [] ρ = ρ := id rfl
end Bx
namespace Bx
open PySem
theorem shw_len {d : D} (h : okS d = true) : (shw d).length ≤ wt d := by
  obtain ⟨p, h1⟩ := shows_of d h
  unfold shw
  rw [h1.pd]
  exact h1.len
section
variable {s : S} {Q : R D → Prop} {x y : Str}
@[simp] theorem wE_eqS : wE (eqD (.str x) (.str y)) s Q = Q (.ok (.bl (decide (x = y))) s) := id rfl
@[simp] theorem wE_neS : wE (neD (.str x) (.str y)) s Q = Q (.ok (.bl (!decide (x = y))) s) := id rfl
theorem wE_repr {d : D} (h : okS d = true) (hs : seqD d = true) (hw : wt d ≤ 16000000) (hd : dpt d ≤ 60) : wE (reprD d) s Q = Q (.ok (.str (shw d)) s) := wE_of (repr_ok s h hs hw hd)
end
end Bx
namespace Bx
open PySem
section
variable {s : S} {Q : R D → Prop} {m a : M D} {ds : List D} {f : D → D → M D} {d : D}
@[simp] theorem wE_mlm : wE (mlm f m a) s Q = wE m s (kB (fun d => bnd (Bx.settle d) fun d => bnd (chk isLst d) fun d => bnd (mal [a]) (on1 (f d))) Q) := id rfl
@[simp] theorem wE_chkLst : wE (chk isLst (.lst ds)) s Q = Q (.ok (.lst ds) s) := id rfl
@[simp] theorem wE_settleX {e : EX} {fs : List (Str × D)} : wE (Bx.settle (.exv e fs)) s Q = Q (.ok (.exv e fs) s) := id rfl
@[simp] theorem wE_reprT : wE (reprA (.tup ds)) s Q = wE (reprD (.tup ds)) s Q := id rfl
@[simp] theorem wE_reprL : wE (reprA (.lst ds)) s Q = wE (reprD (.lst ds)) s Q := id rfl
@[simp] theorem wE_reprJ {j : Nat} : wE (reprA (.loc j)) s Q = wE (reprD (.loc j)) s Q := id rfl
@[simp] theorem wE_reprN : wE (reprA .non) s Q = Q (.ok (.str "None") s) := id rfl
theorem wE_reprBT (h : (pd (.tup ds)).isSome = true) : wE (reprB (.tup ds)) s Q = wE (reprD (.tup ds)) s Q := by
  unfold wE reprB
  cases pdT (.tup ds) with
  | none => rfl
  | some p => simp only [h, if_true]
@[simp] theorem wE_reprBL : wE (reprB (.lst ds)) s Q = wE (reprD (.lst ds)) s Q := id rfl
@[simp] theorem wE_reprBJ {j : Nat} : wE (reprB (.loc j)) s Q = wE (reprD (.loc j)) s Q := id rfl
@[simp] theorem wE_reprBN : wE (reprB .non) s Q = Q (.ok (.str "None") s) := id rfl
@[simp] theorem wE_reprBB {b : Bool} : wE (reprB (.bl b)) s Q = Q (.ok (.str (if b then "True" else "False")) s) := id rfl
theorem wE_fldX {e : EX} {fl : List (Str × Str)} {g : Str} {fs : List (Str × D)} {x : D} (h : (e.cn, g) ∈ fl) (hl : lookD g fs = some x) : wE (fldX e fl g (.exv e fs)) s Q = Q (.ok x s) := by
  refine wE_of ?_
  simp only [fldX, true_and, h, if_true, hl]
end
section
variable {s : S} {Q : R MO → Prop} {m : M D} {ds : List D}
@[simp] theorem wE_nlist : wE (nlist m) s Q = wE m s (kB listM Q) := id rfl
@[simp] theorem wE_listMT : wE (listM (.tup ds)) s Q = Q (.ok (.lst ds) s) := id rfl
@[simp] theorem wE_listML : wE (listM (.lst ds)) s Q = Q (.ok (.lst ds) s) := id rfl
end
section
variable {s : S} {Q : RS → Prop} {x : Xc} {cn f : Str} {m : M D} {tbl : List (Str × Bool)} {mb ms : MS} {i : Nat} {mx : EX → MS} {d : D}
@[simp] theorem wS_raise0 : wS (sraise0 cn) s Q = Q (.exc ⟨cn, none⟩ s) := id rfl
@[simp] theorem wS_raise1 : wS (sraise1 cn f m) s Q = wE (stl m) s (kS (fun d s => .exc ⟨cn, some (f, d)⟩ s) Q) := id rfl
@[simp] theorem wS_excL : wS (fun s => RS.exc x s) s Q = Q (.exc x s) := id rfl
def kT (tbl : List (Str × Bool)) (ms : MS) (Q : RS → Prop) : RS → Prop := fun r => match r with
  | .exc x s1 => match tbl.lookup x.cls with
    | some true => Q (noX (ms s1))
    | some false => Q (.exc x s1)
    | none => Q .bad
  | r => Q r
@[simp] theorem wS_stry : wS (stry tbl mb ms) s Q = wS mb s (kT tbl ms Q) := by
  unfold wS stry kT
  cases mb s with
  | exc x s1 =>
    simp only
    cases tbl.lookup x.cls with
    | none => rfl
    | some b => cases b <;> rfl
  | _ => rfl
@[simp] theorem kT_rt : kT tbl ms Q (.rt d s) = Q (.rt d s) := id rfl
@[simp] theorem kT_nx : kT tbl ms Q (.nx s) = Q (.nx s) := id rfl
def kTE (tbl : List (Str × Bool)) (i : Nat) (mx : EX → MS) (Q : RS → Prop) : RS → Prop := fun r => match r with
  | .exc x s1 => match tbl.lookup x.cls with
    | some true => Q (hot x i mx s1)
    | some false => Q (.exc x s1)
    | none => Q .bad
  | r => Q r
@[simp] theorem wS_stryE : wS (stryE tbl i mb mx) s Q = wS mb s (kTE tbl i mx Q) := by
  unfold wS stryE kTE
  cases mb s with
  | exc x s1 =>
    simp only
    cases tbl.lookup x.cls with
    | none => rfl
    | some b => cases b <;> rfl
  | _ => rfl
@[simp] theorem kTE_rt : kTE tbl i mx Q (.rt d s) = Q (.rt d s) := id rfl
@[simp] theorem kTE_nx : kTE tbl i mx Q (.nx s) = Q (.nx s) := id rfl
end
end Bx
namespace Bx
open PySem
section
variable {s : S} {ρ : List Sl} {μ : List MO} {Q : RS → Prop} {p o i : M D} {x d : D} {j : Nat} {k : Int} {xs : List D}
def ssK2 (i : M D) (x d : D) : MS := fun s => (i s).toS fun k s => setD d k x s
def ssK (o i : M D) (x : D) : MS := fun s => (o s).toS fun d s => ssK2 i x d s
@[simp] theorem wS_ssub : wS (ssub p o i) s Q = wE (stl p) s (kS (ssK o i) Q) := id rfl
@[simp] theorem wS_ssK : wS (ssK o i x) s Q = wE o s (kS (ssK2 i x) Q) := id rfl
@[simp] theorem wS_ssK2 : wS (ssK2 i x d) s Q = wE i s (kS (fun k => setD d k x) Q) := id rfl
theorem wS_setD (hj : ρ[j]? = some (.own (.lst xs))) (h0 : 0 ≤ k) (h1 : k < xs.length) : wS (setD (.loc j) (.int k) x) ⟨ρ, μ⟩ Q = Q (.nx ⟨ρ.set j (.own (.lst (xs.set k.toNat x))), μ⟩) := by
  have h2 : ¬ (k < 0) := by omega
  have h3 : k.toNat < xs.length := by omega
  unfold wS
  simp [setD, L2.ixN, S.mo, S.mut, S.put, hj, h0, h1]
end
end Bx
namespace Bx
open PySem
/-- a tuple shows as some text -/
theorem repr_some {ds : List D} (h : okS (.tup ds) = true) (hw : wt (.tup ds) ≤ 16000000) (hd : dpt (.tup ds) ≤ 50) : ∃ x : Str, ∀ s (Q : R D → Prop), wE (reprB (.tup ds)) s Q = Q (.ok (.str x) s) := by
  obtain ⟨p, h1⟩ := shows_of _ h
  exact ⟨_, fun s Q => (wE_reprBT (by rw [h1.pd]; rfl)).trans (wE_repr h rfl hw (by omega))⟩
end Bx
namespace Bx
open PySem
section
variable {s : S} {ρ : List Sl} {μ : List MO} {m : M D} {j : Nat} {kds : List (L2.Key × D)}
@[simp] theorem wE_mkeys {Q : R (List D) → Prop} : wE (mkeys m) s Q = wE m s (kB (fun d => bnd (Bx.settle d) keysM) Q) := id rfl
@[simp] theorem wE_keysM {Q : R (List D) → Prop} : wE (keysM (.dct kds)) s Q = Q (.ok (kds.map fun p => keyB p.1) s) := id rfl
@[simp] theorem wE_stlOd {Q : R D → Prop} (h : ρ[j]? = some (.own (.dct kds))) : wE (Bx.settle (.loc j)) ⟨ρ, μ⟩ Q = Q (.ok (.dct kds) ⟨ρ.set j (.val (.dct kds)), μ⟩) := by
  unfold wE Bx.settle
  simp [h]
def skK2 (i : M D) (x d : D) : MS := fun s => (i s).toS fun k s => setK d k x s
def skK (o i : M D) (x : D) : MS := fun s => (o s).toS fun d s => skK2 i x d s
@[simp] theorem wS_ssubK {p o i : M D} {Q : RS → Prop} : wS (ssubK p o i) s Q = wE (stl p) s (kS (skK o i) Q) := id rfl
@[simp] theorem wS_skK {o i : M D} {x : D} {Q : RS → Prop} : wS (skK o i x) s Q = wE o s (kS (skK2 i x) Q) := id rfl
@[simp] theorem wS_skK2 {i : M D} {x d : D} {Q : RS → Prop} : wS (skK2 i x d) s Q = wE i s (kS (fun k => setK d k x) Q) := id rfl
@[simp] theorem wE_ssort0 {Q : R D → Prop} : wE (ssort0 (.tup [])) s Q = Q (.ok (.lst []) s) := id rfl
@[simp] theorem wE_revL {ds : List D} {Q : R D → Prop} : wE (revL (.lst ds)) s Q = Q (.ok (.lst ds.reverse) s) := id rfl
@[simp] theorem wE_listT {ds : List D} {Q : R D → Prop} : wE (listD (.tup ds)) s Q = Q (.ok (.lst ds) s) := id rfl
@[simp] theorem wE_listL {ds : List D} {Q : R D → Prop} : wE (listD (.lst ds)) s Q = Q (.ok (.lst ds) s) := id rfl
end
end Bx
namespace Bx
open PySem
section
variable {s : S} {Q : R D → Prop} {m a : M D} {ds : List D} {f : D → D → M D} {d : D}
@[simp] theorem wE_reprML : wE (reprM (.lst ds)) s Q = wE (reprD (.lst ds)) s Q := by
  unfold wE reprM
  cases pdM (.lst ds) <;> rfl
@[simp] theorem wE_reprMJ {j : Nat} : wE (reprM (.loc j)) s Q = wE (reprD (.loc j)) s Q := id rfl
@[simp] theorem wE_reprMN : wE (reprM .non) s Q = Q (.ok (.str "None") s) := id rfl
@[simp] theorem wE_reprMB {b : Bool} : wE (reprM (.bl b)) s Q = Q (.ok (.str (if b then "True" else "False")) s) := id rfl
end
end Bx
namespace Bx
open PySem
section
variable {s : S} {ρ : List Sl} {μ : List MO} {j : Nat} {kds : List (NestedKey × D)}
def snK2 (i : M D) (x : D) (d : D) : MS := fun s => (i s).toS fun k s => setN d k x s
def snK (o i : M D) (x : D) : MS := fun s => (o s).toS fun d s => snK2 i x d s
@[simp] theorem wS_ssubN {p o i : M D} {Q : RS → Prop} : wS (ssubN p o i) s Q = wE (stl p) s (kS (snK o i) Q) := id rfl
@[simp] theorem wS_snK {o i : M D} {x : D} {Q : RS → Prop} : wS (snK o i x) s Q = wE o s (kS (snK2 i x) Q) := id rfl
@[simp] theorem wS_snK2 {i : M D} {x d : D} {Q : RS → Prop} : wS (snK2 i x d) s Q = wE i s (kS (fun k => setN d k x) Q) := id rfl
@[simp] theorem wE_mkeysN {m : M D} {Q : R (List D) → Prop} : wE (mkeysN m) s Q = wE m s (kB (fun d => bnd (Bx.settle d) keysNM) Q) := id rfl
@[simp] theorem wE_keysNM {Q : R (List D) → Prop} : wE (keysNM (.dcn kds)) s Q = Q (.ok (kds.map fun p => nkD p.1) s) := id rfl
@[simp] theorem wE_stlV {Q : R D → Prop} : wE (Bx.settle (.dcn kds)) s Q = Q (.ok (.dcn kds) s) := id rfl
@[simp] theorem wE_ndcn {Q : R MO → Prop} : wE ndcn s Q = Q (.ok (.dcn []) s) := id rfl
end
end Bx
namespace Bx
open PySem
section
variable {s : S} {ρ : List Sl} {μ : List MO} {j : Nat}
@[simp] theorem wE_mpop {m a : M D} {Q : R D → Prop} : wE (mpop m a) s Q = wE m s (kB (fun d => bnd (chk isL d) fun d => bnd (mal [a]) (on1 (popD d))) Q) := id rfl
end
end Bx
namespace Bx
open PySem
section
variable {s : S} {ρ : List Sl} {μ : List MO} {j : Nat} {xs ys : List D}
@[simp] theorem wE_naddL {a b : M D} {Q : R MO → Prop} : wE (naddL a b) s Q = wE a s (kB (fun x => bnd b fun y => naddM x y) Q) := id rfl
@[simp] theorem wE_mdpop {m a : M D} {Q : R D → Prop} : wE (mdpop m a) s Q = wE m s (kB (fun d => bnd (chk isDct d) fun d => bnd a fun i => dpopD d i) Q) := id rfl
@[simp] theorem wE_msdisc {m a : M D} {Q : R D → Prop} : wE (msdisc m a) s Q = wE m s (kB (fun d => bnd (chk isSet d) fun d => bnd (mal [a]) (on1 (discD d))) Q) := id rfl
@[simp] theorem wE_nsetK {m : M D} {Q : R MO → Prop} : wE (nsetK m) s Q = wE m s (kB (fun d => nsetM d) Q) := id rfl
def ncK (vs : List Nat) (asg : D → MS) (t : M Bool) (el : M D) : List D → M MO := fun items s => ncv (cloop vs asg t el items [] (wipeS vs s))
@[simp] theorem wE_ncomp {vs : List Nat} {it : M (List D)} {asg : D → MS} {t : M Bool} {el : M D} {Q : R MO → Prop} : wE (ncomp vs it asg t el) s Q = wE it s (kB (ncK vs asg t el) Q) := id rfl
@[simp] theorem wE_mcompO {vs : List Nat} {asg : D → MS} {t : M Bool} {el : M D} {Q : R D → Prop} (h : ρ[j]? = some (.own (.lst xs))) : wE (mcompO j vs asg t el) ⟨ρ, μ⟩ Q = wE (cloopO j vs asg t el 100001 0 []) (wipeS vs ⟨ρ, μ⟩) Q := by
  unfold mcompO
  show Q (R.bind _ _) = Q _
  have e : itsO j ⟨ρ, μ⟩ = .ok xs ⟨ρ, μ⟩ := by
    unfold itsO
    simp [h]
  rw [e]
  rfl
/-- nothing else changes -/
theorem wcompO {α : Type} {vs : List Nat} {asg : D → MS} {t : M Bool} {el : M D} {Q : R D → Prop} {s : S} (f : α → D) (as : List α) (p : α → Bool) (h : α → D) (hρ : s.ρ[j]? = some (.own (.lst (as.map f)))) (hw : wipeS vs s = s) (hl : as.length ≤ 100000) (hI : ∀ x, x ∈ as → wS (asg (f x)) s (kY vs t el fun o s' => o = (if p x then some (h x) else none) ∧ s' = s)) (hE : Q (.ok (.lst ((as.filter p).map h)) s)) : wE (cloopO j vs asg t el 100001 0 []) s Q := by
  have go : ∀ (r l : List α) (n : Nat), l ++ r = as → r.length < n → cloopO j vs asg t el n l.length ((l.filter p).map h) s = .ok (.lst ((as.filter p).map h)) s := by
    intro r
    induction r with
    | nil =>
      intro l n e hn
      rw [List.append_nil] at e
      subst e
      obtain ⟨m, rfl⟩ : ∃ m, n = m + 1 := ⟨n - 1, by omega⟩
      rw [cloopO, hρ]
      have hx : (l.map f)[l.length]? = none := List.getElem?_eq_none_iff.mpr (by simp)
      simp only [hx, hw]
    | cons x r ih =>
      intro l n e hn
      obtain ⟨m, rfl⟩ : ∃ m, n = m + 1 := ⟨n - 1, by omega⟩
      have h1 : kY vs t el (fun o s' => o = (if p x then some (h x) else none) ∧ s' = s) (asg (f x) s) := hI x (by rw [← e]; simp)
      have hx : (as.map f)[l.length]? = some (f x) := by
        rw [← e]
        simp
      have hacc : ((l.filter p).map h).length < 100000 := by
        have h2 := List.length_filter_le p l
        have h3 := congrArg List.length e
        simp at h3 ⊢
        omega
      have nxt : ∀ b, p x = b → (((l ++ [x]).filter p).map h) = (l.filter p).map h ++ (if b then [h x] else []) := fun b hb => by
        rw [List.filter_append, List.map_append]
        cases b <;> simp [hb]
      rw [cloopO, hρ]
      simp only [hx]
      cases e1 : asg (f x) s with
      | nx s1 =>
        rw [e1] at h1
        have h2 : kV _ (t s1) := h1
        simp only
        cases e2 : t s1 with
        | ok b s2 =>
          rw [e2] at h2
          cases b with
          | false =>
            obtain ⟨h3, h4⟩ : none = (if p x then some (h x) else none) ∧ wipeS vs s2 = s := h2
            have hp : p x = false := by
              cases hp : p x with
              | false => rfl
              | true => rw [hp] at h3; cases h3
            have := ih (l ++ [x]) m (by simpa using e) (by simp at hn; omega)
            rw [nxt false hp] at this
            simp only [h4]
            simpa using this
          | true =>
            have h2 : kV _ (stl el s2) := h2
            simp only
            cases e3 : stl el s2 with
            | ok y s3 =>
              rw [e3] at h2
              obtain ⟨h3, h4⟩ : some y = (if p x then some (h x) else none) ∧ wipeS vs s3 = s := h2
              have hp : p x = true := by
                cases hp : p x with
                | true => rfl
                | false => rw [hp] at h3; cases h3
              rw [hp] at h3
              have hy : y = h x := by simpa using h3
              subst hy
              have := ih (l ++ [x]) m (by simpa using e) (by simp at hn; omega)
              rw [nxt true hp] at this
              simp only [hacc, if_true, h4]
              simpa using this
            | exc _ _ => rw [e3] at h2; exact h2.elim
            | bad => rw [e3] at h2; exact h2.elim
        | exc _ _ => rw [e2] at h2; exact h2.elim
        | bad => rw [e2] at h2; exact h2.elim
      | _ => rw [e1] at h1; exact h1.elim
  have := go as [] 100001 rfl (by omega)
  exact wE_of this ▸ hE
@[simp] theorem wE_orV {a b : M D} {Q : R D → Prop} : wE (orV a b) s Q = wE a s (kB (orVK b) Q) := id rfl
@[simp] theorem orVK_non {b : M D} {Q : R D → Prop} : wE (orVK b .non) s Q = wE b s Q := id rfl
end
theorem sortS_nil : sortS [] = [] := List.eq_nil_of_length_eq_zero (by rw [(sortS_perm []).length_eq]; rfl)
@[simp] theorem wE_ssortT0 {s : S} {Q : R D → Prop} : wE (ssortT (.tup [])) s Q = Q (.ok (.lst []) s) := wE_of (by
  have e := ssortT_strs (xs := []) (s := s) (by decide)
  rw [show onceT [] = [] from rfl, sortS_nil] at e
  exact e)
end Bx
namespace Bx
open PySem
section
variable {s : S} {ρ : List Sl} {μ : List MO} {j : Nat} {xs ys : List D}
def kNX (Q : RS → Prop) : RS → Prop := fun r => Q (noX r)
@[simp] theorem wS_sNoX {mb : MS} {Q : RS → Prop} : wS (sNoX mb) s Q = wS mb s (kNX Q) := id rfl
@[simp] theorem kNX_rt {d : D} {Q : RS → Prop} : kNX Q (.rt d s) = Q (.rt d s) := id rfl
@[simp] theorem kNX_nx {Q : RS → Prop} : kNX Q (.nx s) = Q (.nx s) := id rfl
@[simp] theorem wE_menumK {k : Nat} {m : M D} {Q : R (List D) → Prop} : wE (menumK k m) s Q = wE m s (kB (fun d => bnd (Bx.settle d) fun d => bnd (mal []) fun ds => bnd (pur (d :: ds)) fun ds => enumK k (ds.headD .non)) Q) := by
  unfold menumK
  unfold wE kB bnd
  show Q (R.bind ((m s).bind _) _) = Q ((m s).bind _)
  cases m s with
  | ok d s1 =>
    show Q (R.bind (R.bind (Bx.settle d s1) _) _) = Q (R.bind (Bx.settle d s1) _)
    cases Bx.settle d s1 <;> rfl
  | exc x s1 => rfl
  | bad => rfl
@[simp] theorem wE_enumK {k : Nat} {Q : R (List D) → Prop} : wE (enumK k (.lst xs)) s Q = Q (.ok (nums k xs) s) := id rfl
theorem wforEK {α : Type} {asg : D → MS} {body : MS} {Q : RS → Prop} {s : S} (k0 : Nat) (f : α → D) (xs : List α) (I : Nat → S → Prop) (h0 : I 0 s) (hI : ∀ (k : Nat) (hk : k < xs.length) s, I k s → wS (asg (.twk [.int ((k0 + k : Nat) : Int), f xs[k]])) s (kA body (I (k + 1)) Q)) (hE : ∀ s, I xs.length s → Q (.nx s)) : wS (floop asg body (nums k0 (xs.map f))) s Q := by
  rw [nums_map]
  refine wfor (fun p : α × Nat => D.twk [.int (p.2 : Nat), f p.1]) (xs.zipIdx k0) (fun l _ s => I l.length s) h0 (fun l p r s e h => ?_) (fun s h => hE s (by rwa [List.length_zipIdx] at h))
  have h1 := congrArg (fun z => z[l.length]?) e
  simp only [List.getElem?_append_right (Nat.le_refl _), Nat.sub_self, List.getElem?_cons_zero, List.getElem?_zipIdx] at h1
  cases h2 : xs[l.length]? with
  | none => rw [h2] at h1; cases h1
  | some x =>
    rw [h2] at h1
    simp at h1
    obtain ⟨hk, hx⟩ := List.getElem?_eq_some_iff.mp h2
    have := hI l.length hk s h
    rw [hx] at this
    rw [List.length_append, List.length_singleton, h1]
    exact this
theorem wS_gstar1 {a b : Nat} {x : D} {Q : RS → Prop} (h : xs.length ≤ 10000) : wS (gstar 1 [a, b] (.lst (x :: xs))) ⟨ρ, μ⟩ Q = Q (.nx ⟨(ρ.set a (.val x)).set b (.val (.lst xs)), μ⟩) := by
  refine wS_of ?_
  unfold gstar starOf
  have h1 : 1 < [a, b].length ∧ [a, b].length ≤ (x :: xs).length + 1 ∧ (x :: xs).length ≤ 16384 := by simp; omega
  dsimp only
  rw [if_pos h1]
  simp [S.puts]
end
end Bx
namespace Bx
open PySem
section
@[simp] theorem wE_ndcopy {m : M D} {s : S} {Q : R MO → Prop} : wE (ndcopy m) s Q = wE m s (kB dctM Q) := id rfl
@[simp] theorem wE_dctM {kds : List (L2.Key × D)} {s : S} {Q : R MO → Prop} : wE (dctM (.dct kds)) s Q = Q (.ok (.dct kds) s) := id rfl
end
end Bx
namespace Bx
open PySem
section
variable {s : S} {ρ : List Sl} {μ : List MO} {Q : R D → Prop} {m mi mf : M D} {j i : Nat} {xs : List D} {d x y z : D} {mo : MO}
@[simp] theorem wE_get2 : wE (mget2 m mi mf) s Q = wE m s (kB (fun a => bnd (chk isDc a) fun a => bnd mi fun k => bnd mf fun z => getxD a k z) Q) := id rfl
@[simp] theorem wE_chkDc {kds : List (L2.Key × D)} : wE (chk isDc (.dct kds)) s Q = Q (.ok (.dct kds) s) := id rfl
@[simp] theorem wE_range3 {ms : List (M D)} {Q : R (List D) → Prop} : wE (mrange3 ms) s Q = wE (margs ms) s (kB rg3 Q) := id rfl
@[simp] theorem wE_mpop0 : wE (mpop0 m) s Q = wE m s (kB (fun d => bnd (chk isL d) pop0D) Q) := id rfl
end
end Bx
namespace Mth
section
variable {α : Type}
def can (R : α → Int × Int) (o : Option α) (k : Nat) : Prop := ∀ x, o = some x → (R x).1 ≤ k ∧ (k : Int) ≤ (R x).2
def Sits (R : α → Int × Int) (t : List (Option α)) : Prop := ∀ (i : Nat) (h : i < t.length), can R t[i] i
/-- all seats from b to e are taken by people who keep to them -/
def Full (R : α → Int × Int) (t : List (Option α)) (b e : Nat) : Prop := ∀ i, b ≤ i → i ≤ e → ∃ x, t[i]? = some (some x) ∧ (b : Int) ≤ (R x).1 ∧ (R x).2 ≤ e
/-- no window but all seats is full -/
def Unshut (R : α → Int × Int) (t : List (Option α)) (l h : Nat) : Prop := ∀ b e, l ≤ b → b ≤ e → e ≤ h → ¬ (b = l ∧ e = h) → ¬ Full R t b e
def swp (t : List (Option α)) (k : Nat) : List (Option α) := match t[k]?, t[k + 1]? with
  | some a, some b => (t.set k b).set (k + 1) a
  | _, _ => t
/-- an exchange that may be done -/
structure May (R : α → Int × Int) (t : List (Option α)) (k : Nat) : Prop where
  lt : k + 1 < t.length
  some : t[k] ≠ none ∨ t[k + 1] ≠ none
  left : can R t[k] (k + 1)
  right : can R t[k + 1] k
def goF (t : List (Option α)) : List Nat → List (Option α)
  | [] => t
  | k :: r => goF (swp t k) r
def goes (R : α → Int × Int) (t : List (Option α)) : List Nat → Prop
  | [] => True
  | k :: r => May R t k ∧ goes R (swp t k) r
variable {R : α → Int × Int} {t : List (Option α)} {k : Nat}
theorem swp_len : (swp t k).length = t.length := by
  unfold swp
  split <;> simp
theorem swp_get (h : k + 1 < t.length) (i : Nat) : (swp t k)[i]? = t[if i = k then k + 1 else if i = k + 1 then k else i]? := by
  unfold swp
  rw [List.getElem?_eq_getElem (show k < t.length by omega), List.getElem?_eq_getElem h]
  simp only
  by_cases h1 : i = k + 1
  · subst h1
    rw [List.getElem?_set_self (by simpa using h), if_neg (by omega), if_pos rfl, List.getElem?_eq_getElem]
  · rw [List.getElem?_set_ne (fun z => h1 z.symm)]
    by_cases h2 : i = k
    · subst h2
      rw [List.getElem?_set_self (by omega), if_pos rfl, List.getElem?_eq_getElem h]
    · rw [List.getElem?_set_ne (fun z => h2 z.symm), if_neg h2, if_neg h1]
theorem swp_swp (h : k + 1 < t.length) : swp (swp t k) k = t := by
  apply List.ext_getElem?
  intro i
  rw [swp_get (by rw [swp_len]; exact h), swp_get h]
  congr 1
  split <;> split <;> (try split) <;> omega
theorem swp_split {l r : List (Option α)} {a b : Option α} : swp (l ++ a :: b :: r) l.length = l ++ b :: a :: r := by
  unfold swp
  rw [List.getElem?_append_right (Nat.le_refl _), List.getElem?_append_right (Nat.le_succ _)]
  simp
theorem row_split (h : k + 1 < t.length) : ∃ l r a b, l.length = k ∧ t = l ++ a :: b :: r := by
  refine ⟨t.take k, t.drop (k + 2), t[k], t[k + 1], by rw [List.length_take]; omega, ?_⟩
  rw [← List.drop_eq_getElem_cons h, ← List.drop_eq_getElem_cons (show k < t.length by omega), List.take_append_drop]
theorem swp_perm (h : k + 1 < t.length) : (swp t k).Perm t := by
  obtain ⟨l, r, a, b, rfl, rfl⟩ := row_split h
  rw [swp_split]
  exact List.Perm.append_left l (List.Perm.swap a b r)
theorem swp_bare (h : k + 1 < t.length) (h1 : t[k] = none) (h2 : t[k + 1] = none) : swp t k = t := by
  apply List.ext_getElem?
  intro i
  rw [swp_get h]
  by_cases e : i = k
  · subst e; rw [if_pos rfl, List.getElem?_eq_getElem h, List.getElem?_eq_getElem (by omega), h1, h2]
  · rw [if_neg e]
    by_cases e' : i = k + 1
    · subst e'; rw [if_pos rfl, List.getElem?_eq_getElem h, List.getElem?_eq_getElem (by omega), h1, h2]
    · rw [if_neg e']
theorem can_none : can R none k := fun _ h => by cases h
theorem Sits.get (h : Sits R t) {i : Nat} {o : Option α} (e : t[i]? = some o) : can R o i := by
  obtain ⟨hl, e⟩ := List.getElem?_eq_some_iff.mp e
  have := h i hl
  rwa [e] at this
theorem sits_of (h : ∀ i o, t[i]? = some o → can R o i) : Sits R t := fun i hi => h i _ (List.getElem?_eq_getElem hi)
/-- behind an exchange all sit on their stretches -/
theorem Sits.swp (hs : Sits R t) (hk : k + 1 < t.length) (h1 : can R t[k] (k + 1)) (h2 : can R t[k + 1] k) : Sits R (swp t k) := by
  refine sits_of fun i o e => ?_
  rw [swp_get hk] at e
  by_cases h : i = k
  · subst h
    rw [if_pos rfl, List.getElem?_eq_getElem hk] at e
    cases e; exact h2
  · rw [if_neg h] at e
    by_cases h' : i = k + 1
    · subst h'
      rw [if_pos rfl, List.getElem?_eq_getElem (by omega)] at e
      cases e; exact h1
    · rw [if_neg h'] at e
      exact hs.get e
theorem May.sits (hs : Sits R t) (h : May R t k) : Sits R (swp t k) := hs.swp h.lt h.left h.right
theorem goF_append (t : List (Option α)) (a b : List Nat) : goF t (a ++ b) = goF (goF t a) b := by
  induction a generalizing t with
  | nil => rfl
  | cons k r ih => exact ih (swp t k)
theorem goes_append {a b : List Nat} : goes R t (a ++ b) ↔ goes R t a ∧ goes R (goF t a) b := by
  induction a generalizing t with
  | nil => simp [goes, goF]
  | cons k r ih => simp [goes, goF, ih, and_assoc]
theorem goes.sits : ∀ {row : List Nat} {t : List (Option α)}, Sits R t → goes R t row → Sits R (goF t row)
  | [], _, hs, _ => hs
  | k :: r, t, hs, h => goes.sits (row := r) (t := swp t k) (h.1.sits hs) h.2
theorem goF_perm : ∀ {row : List Nat} {t : List (Option α)}, goes R t row → (goF t row).Perm t
  | [], _, _ => .refl _
  | k :: r, t, h => (goF_perm (row := r) (t := swp t k) h.2).trans (swp_perm h.1.lt)
theorem goF_len {row : List Nat} (h : goes R t row) : (goF t row).length = t.length := (goF_perm h).length_eq
theorem Full.swp (hk : k + 1 < t.length) (h1 : can R t[k] (k + 1)) (h2 : can R t[k + 1] k) {b e : Nat} (h : Full R t b e) : Full R (swp t k) b e := by
  intro i hb he
  rw [swp_get hk]
  by_cases hi : i = k
  · rw [if_pos hi]
    subst hi
    by_cases hh : i + 1 ≤ e
    · exact h _ (by omega) hh
    · obtain ⟨x, e1, e2, e3⟩ := h i hb he
      rw [List.getElem?_eq_getElem (by omega)] at e1
      have := h1 x (Option.some.inj e1)
      omega
  · rw [if_neg hi]
    by_cases hi' : i = k + 1
    · rw [if_pos hi']
      subst hi'
      by_cases hh : b ≤ k
      · exact h _ hh (by omega)
      · obtain ⟨x, e1, e2, e3⟩ := h (k + 1) hb he
        rw [List.getElem?_eq_getElem (by omega)] at e1
        have := h2 x (Option.some.inj e1)
        omega
    · rw [if_neg hi']
      exact h i hb he
theorem unswp (hs : Sits R t) (hk : k + 1 < t.length) : ∃ hk' : k + 1 < (swp t k).length, can R (swp t k)[k] (k + 1) ∧ can R (swp t k)[k + 1] k := by
  have g1 : (Mth.swp t k)[k]? = t[k + 1]? := by rw [swp_get hk, if_pos rfl]
  have g2 : (Mth.swp t k)[k + 1]? = t[k]? := by rw [swp_get hk, if_neg (by omega), if_pos rfl]
  have hl : k + 1 < (Mth.swp t k).length := by rw [swp_len]; exact hk
  rw [List.getElem?_eq_getElem (show k < (Mth.swp t k).length by omega), List.getElem?_eq_getElem hk] at g1
  rw [List.getElem?_eq_getElem hl, List.getElem?_eq_getElem (show k < t.length by omega)] at g2
  refine ⟨hl, ?_, ?_⟩
  · rw [Option.some.inj g1]; exact hs _ hk
  · rw [Option.some.inj g2]; exact hs _ (by omega)
theorem full_swp (hs : Sits R t) (hk : k + 1 < t.length) (h1 : can R t[k] (k + 1)) (h2 : can R t[k + 1] k) {b e : Nat} : Full R (swp t k) b e ↔ Full R t b e := by
  refine ⟨fun h => ?_, fun h => h.swp hk h1 h2⟩
  obtain ⟨hl, g1, g2⟩ := unswp hs hk
  have := h.swp hl g1 g2
  rwa [swp_swp hk] at this
theorem Unshut.swp (hs : Sits R t) (hk : k + 1 < t.length) (h1 : can R t[k] (k + 1)) (h2 : can R t[k + 1] k) {l h : Nat} (hu : Unshut R t l h) : Unshut R (swp t k) l h := fun b e a1 a2 a3 a4 => by
  rw [full_swp hs hk h1 h2]
  exact hu b e a1 a2 a3 a4
theorem goes_full : ∀ {row : List Nat} {t : List (Option α)} {b e : Nat}, Sits R t → goes R t row → (Full R (goF t row) b e ↔ Full R t b e)
  | [], _, _, _, _, _ => Iff.rfl
  | k :: r, t, _, _, hs, h => (goes_full (row := r) (t := swp t k) (h.1.sits hs) h.2).trans (full_swp hs h.1.lt h.1.left h.1.right)
theorem goes_unshut {row : List Nat} {l h : Nat} (hs : Sits R t) (hg : goes R t row) (hu : Unshut R t l h) : Unshut R (goF t row) l h := fun b e a1 a2 a3 a4 => by
  rw [goes_full hs hg]
  exact hu b e a1 a2 a3 a4
/-- what is on a seat may lie on another one -/
def lie (R : α → Int × Int) (o : Option α) (k : Nat) : Bool := match o with
  | none => true
  | some x => decide ((R x).1 ≤ (k : Int)) && decide ((k : Int) ≤ (R x).2)
theorem lie_iff {o : Option α} {k : Nat} : lie R o k = true ↔ can R o k := by
  cases o with
  | none => exact ⟨fun _ => can_none, fun _ => rfl⟩
  | some x => simp [lie, can]
def stepR (t : List (Option α)) (k : Nat) : List Nat := if (t[k]?.join).isNone && (t[k + 1]?.join).isNone then [] else [k]
theorem step_ok (hk : k + 1 < t.length) (h1 : can R t[k] (k + 1)) (h2 : can R t[k + 1] k) : goes R t (stepR t k) ∧ goF t (stepR t k) = swp t k := by
  unfold stepR
  rw [List.getElem?_eq_getElem (show k < t.length by omega), List.getElem?_eq_getElem hk]
  by_cases hb : t[k] = none ∧ t[k + 1] = none
  · rw [hb.1, hb.2]
    simp only [Option.join, Option.bind, Option.isNone, Bool.and_self, if_true]
    exact ⟨trivial, (swp_bare hk hb.1 hb.2).symm⟩
  · have : ((some t[k]).join.isNone && (some t[k + 1]).join.isNone) = false := by
      cases e1 : t[k] with
      | none =>
        cases e2 : t[k + 1] with
        | none => exact (hb ⟨e1, e2⟩).elim
        | some y => rfl
      | some x => rfl
    rw [this]
    refine ⟨⟨⟨hk, ?_, h1, h2⟩, trivial⟩, rfl⟩
    cases e1 : t[k] with
    | none => cases e2 : t[k + 1] with
      | none => exact (hb ⟨e1, e2⟩).elim
      | some y => exact .inr (by simp)
    | some x => exact .inl (by simp)
theorem stepR_len : (stepR t k).length ≤ 1 := by unfold stepR; split <;> simp
/-- the first seat of these whose occupant may lie on a seat -/
def pick (R : α → Int × Int) (t : List (Option α)) (a : Nat) (l : List Nat) : Nat := (l.find? fun r => lie R (t[r]?.join) a).getD 0
def downTo (n g : Nat) : List Nat := (List.range (n + 1 - g)).map fun i => n - i
def upTo (n g : Nat) : List Nat := (List.range (g + 1 - n)).map fun i => n + i
/-- the row by which what sits on a seat comes to another, and the seats behind it -/
def br (R : α → Int × Int) : Nat → List (Option α) → Nat → Nat → List Nat × List (Option α)
  | 0, t, _, _ => ([], t)
  | n + 1, t, a, g =>
    if a = g then ([], t) else
    if g < a then
      let p := br R n t (pick R t a (downTo (a - 1) g)) (a - 1)
      let q := br R n (swp p.2 (a - 1)) (a - 1) g
      (p.1 ++ stepR p.2 (a - 1) ++ q.1, q.2)
    else
      let p := br R n t (pick R t a (upTo (a + 1) g)) (a + 1)
      let q := br R n (swp p.2 a) (a + 1) g
      (p.1 ++ stepR p.2 a ++ q.1, q.2)
/-- how a bringing goes -/
inductive BrT (R : α → Int × Int) : List (Option α) → Nat → Nat → List Nat → List (Option α) → Prop
  | here {t : List (Option α)} {a : Nat} : BrT R t a a [] t
  | down {t : List (Option α)} {a g : Nat} {p1 : List Nat} {p2 : List (Option α)} {q1 : List Nat} {q2 : List (Option α)} : g ≤ a → (∃ r, g ≤ r ∧ r ≤ a ∧ lie R (t[r]?.join) (a + 1) = true) → BrT R t (pick R t (a + 1) (downTo a g)) a p1 p2 → a + 1 < p2.length → BrT R (swp p2 a) a g q1 q2 → BrT R t (a + 1) g (p1 ++ stepR p2 a ++ q1) q2
  | up {t : List (Option α)} {a g : Nat} {p1 : List Nat} {p2 : List (Option α)} {q1 : List Nat} {q2 : List (Option α)} : a < g → (∃ r, a + 1 ≤ r ∧ r ≤ g ∧ lie R (t[r]?.join) a = true) → BrT R t (pick R t a (upTo (a + 1) g)) (a + 1) p1 p2 → a + 1 < p2.length → BrT R (swp p2 a) (a + 1) g q1 q2 → BrT R t a g (p1 ++ stepR p2 a ++ q1) q2
/-- what a bringing does: the row can be done, the one comes there, those between stay between -/
structure Brings (R : α → Int × Int) (t : List (Option α)) (a g : Nat) (n : Nat) (p : List Nat × List (Option α)) : Prop where
  go : goes R t p.1
  to : goF t p.1 = p.2
  here : p.2[g]? = t[a]?
  else_ : ∀ i, (i < g ∧ i < a) ∨ (g < i ∧ a < i) → p.2[i]? = t[i]?
  from_ : ∀ i, i ≠ g → ((g < i ∧ i ≤ a) ∨ (a ≤ i ∧ i < g)) → ∃ j, ((g ≤ j ∧ j < a) ∨ (a < j ∧ j ≤ g)) ∧ p.2[i]? = t[j]?
  len : p.1.length < 2 ^ n
  tr : BrT R t a g p.1 p.2
theorem pick_down {a n g : Nat} (h : ∃ r, g ≤ r ∧ r ≤ n ∧ lie R (t[r]?.join) a = true) : g ≤ pick R t a (downTo n g) ∧ pick R t a (downTo n g) ≤ n ∧ lie R (t[pick R t a (downTo n g)]?.join) a = true ∧ ∀ i, pick R t a (downTo n g) < i → i ≤ n → lie R (t[i]?.join) a = false := by
  obtain ⟨r, h1, h2, h3⟩ := h
  unfold pick downTo
  rw [List.find?_map]
  cases e : (List.range (n + 1 - g)).find? ((fun r => lie R (t[r]?.join) a) ∘ fun i => n - i) with
  | none =>
    rw [List.find?_eq_none] at e
    have := e (n - r) (List.mem_range.mpr (by omega))
    simp only [Function.comp] at this
    rw [show n - (n - r) = r by omega] at this
    exact (this h3).elim
  | some j =>
    have hj := List.find?_some e
    have hm := List.mem_range.mp (List.mem_of_find?_eq_some e)
    simp only [Option.map_some, Option.getD_some]
    refine ⟨by omega, by omega, by simpa [Function.comp] using hj, fun i hi hi2 => ?_⟩
    have := (List.find?_range_eq_some.mp e).2.2 (n - i) (by omega)
    simp only [Function.comp] at this
    rw [show n - (n - i) = i by omega] at this
    simpa using this
theorem pick_up {a n g : Nat} (h : ∃ r, n ≤ r ∧ r ≤ g ∧ lie R (t[r]?.join) a = true) : n ≤ pick R t a (upTo n g) ∧ pick R t a (upTo n g) ≤ g ∧ lie R (t[pick R t a (upTo n g)]?.join) a = true ∧ ∀ i, n ≤ i → i < pick R t a (upTo n g) → lie R (t[i]?.join) a = false := by
  obtain ⟨r, h1, h2, h3⟩ := h
  unfold pick upTo
  rw [List.find?_map]
  cases e : (List.range (g + 1 - n)).find? ((fun r => lie R (t[r]?.join) a) ∘ fun i => n + i) with
  | none =>
    rw [List.find?_eq_none] at e
    have := e (r - n) (List.mem_range.mpr (by omega))
    simp only [Function.comp] at this
    rw [show n + (r - n) = r by omega] at this
    exact (this h3).elim
  | some j =>
    have hj := List.find?_some e
    have hm := List.mem_range.mp (List.mem_of_find?_eq_some e)
    simp only [Option.map_some, Option.getD_some]
    refine ⟨by omega, by omega, by simpa [Function.comp] using hj, fun i hi hi2 => ?_⟩
    have := (List.find?_range_eq_some.mp e).2.2 (i - n) (by omega)
    simp only [Function.comp] at this
    rw [show n + (i - n) = i by omega] at this
    simpa using this
end
end Mth
namespace Mth
section
variable {α : Type} {R : α → Int × Int}
theorem br_self {n : Nat} {t : List (Option α)} {a : Nat} : br R n t a a = ([], t) := by
  cases n with
  | zero => rfl
  | succ n => simp [br]
theorem brings_self {t : List (Option α)} {a n : Nat} : Brings R t a a n ([], t) := ⟨trivial, rfl, rfl, fun _ _ => rfl, fun i h1 h2 => by omega, by simp; exact Nat.two_pow_pos n, .here⟩
theorem pow_sum {m i j k s n : Nat} (h1 : i < 2 ^ j) (hj : j ≤ m) (h2 : k < 2 ^ m) (hs : s ≤ 1) (hn : n = m + 1) : i + s + k < 2 ^ n := by
  subst hn
  have : 2 ^ j ≤ 2 ^ m := Nat.pow_le_pow_right (by omega) hj
  rw [Nat.pow_succ]
  omega
theorem can_mid {o : Option α} {a b k : Nat} (h1 : can R o a) (h2 : can R o b) (h : (a ≤ k ∧ k ≤ b) ∨ (b ≤ k ∧ k ≤ a)) : can R o k := fun x e => by
  have := h1 x e
  have := h2 x e
  omega
/-- one exchange, by what is on the two seats -/
theorem swap_at {t : List (Option α)} {k : Nat} {o p : Option α} (hs : Sits R t) (e1 : t[k]? = some o) (e2 : t[k + 1]? = some p) (h1 : can R o (k + 1)) (h2 : can R p k) :
    goes R t (stepR t k) ∧ goF t (stepR t k) = swp t k ∧ Sits R (swp t k) ∧ (∀ l h, Unshut R t l h → Unshut R (swp t k) l h) ∧ (swp t k)[k]? = some p ∧ (swp t k)[k + 1]? = some o ∧ ∀ i, i ≠ k → i ≠ k + 1 → (swp t k)[i]? = t[i]? := by
  obtain ⟨k1, e1'⟩ := List.getElem?_eq_some_iff.mp e1
  obtain ⟨k2, e2'⟩ := List.getElem?_eq_some_iff.mp e2
  have c1 : can R t[k] (k + 1) := by rw [e1']; exact h1
  have c2 : can R t[k + 1] k := by rw [e2']; exact h2
  refine ⟨(step_ok k2 c1 c2).1, (step_ok k2 c1 c2).2, hs.swp k2 c1 c2, fun l h hu => hu.swp hs k2 c1 c2, ?_, ?_, fun i a b => ?_⟩
  · rw [swp_get k2, if_pos rfl, e2]
  · rw [swp_get k2, if_neg (by omega), if_pos rfl, e1]
  · rw [swp_get k2, if_neg a, if_neg b]
theorem glue {t t1 : List (Option α)} {r1 r2 r3 : List Nat} {k : Nat} (h1 : goes R t r1) (e1 : goF t r1 = t1) (h2 : goes R t1 r2) (e2 : goF t1 r2 = swp t1 k) (h3 : goes R (swp t1 k) r3) : goes R t (r1 ++ r2 ++ r3) ∧ goF t (r1 ++ r2 ++ r3) = goF (swp t1 k) r3 := by
  subst e1
  rw [goes_append, goes_append, goF_append, goF_append, goF_append, e2]
  exact ⟨⟨⟨h1, h2⟩, h3⟩, rfl⟩
theorem inner : ∀ (n : Nat) (t : List (Option α)) (a g l h : Nat) (o : Option α), Sits R t → Unshut R t l h → h < t.length → l ≤ a → l ≤ g → a ≤ h → g ≤ h → t[a]? = some o → can R o g →
    (g ≤ a → a - g ≤ n → (∀ i x, g ≤ i → i < a → t[i]? = some (some x) → (g : Int) ≤ (R x).1) → Brings R t a g (a - g) (br R n t a g)) ∧
    (a ≤ g → g - a ≤ n → (∀ i x, a < i → i ≤ g → t[i]? = some (some x) → (R x).2 ≤ g) → Brings R t a g (g - a) (br R n t a g)) := by
  intro n
  induction n with
  | zero =>
    intro t a g l h o hs hu hh h1 h2 h3 h4 eo ho
    refine ⟨fun z1 z2 _ => ?_, fun z1 z2 _ => ?_⟩
    · have : a = g := by omega
      subst this
      exact brings_self
    · have : a = g := by omega
      subst this
      exact brings_self
  | succ n ih =>
    intro t a g l h o hs hu hh h1 h2 h3 h4 eo ho
    refine ⟨fun z1 z2 hb => ?_, fun z1 z2 hb => ?_⟩
    · by_cases hag : a = g
      · subst hag; rw [br_self]; exact brings_self
      have hlt : g < a := by omega
      obtain ⟨m, rfl⟩ : ∃ m, a = m + 1 := ⟨a - 1, by omega⟩
      have hr : ∃ r, g ≤ r ∧ r ≤ m ∧ lie R (t[r]?.join) (m + 1) = true := by
        have hf := hu g m h2 (by omega) (by omega) (by omega)
        refine Classical.byContradiction fun hc => hf fun i hi1 hi2 => ?_
        have hil : i < t.length := by omega
        have hn : ¬ lie R (t[i]?.join) (m + 1) = true := fun z => hc ⟨i, hi1, hi2, z⟩
        have hsi := hs i hil
        have ei := List.getElem?_eq_getElem hil
        cases e : t[i] with
        | none => rw [ei, e] at hn; exact (hn rfl).elim
        | some x =>
          rw [e] at ei
          have a1 := hb i x hi1 (by omega) ei
          have a2 := hsi x e
          refine ⟨x, ei, a1, ?_⟩
          rw [ei] at hn
          rw [lie_iff] at hn
          refine Classical.byContradiction fun z => hn fun y ey => ?_
          cases ey
          omega
      obtain ⟨p1, p2, p3, p4⟩ := pick_down hr
      simp only [br, if_neg hag, if_pos hlt, Nat.add_sub_cancel]
      generalize hpk : pick R t (m + 1) (downTo m g) = r at p1 p2 p3 p4
      have hrl : r < t.length := by omega
      have er := List.getElem?_eq_getElem hrl
      rw [er, lie_iff] at p3
      have cr : can R t[r] m := can_mid (hs r hrl) p3 (by omega)
      have hB := (ih t r m l h t[r] hs hu hh (by omega) (by omega) (by omega) (by omega) er cr).2 p2 (by omega) fun i x hi1 hi2 ex => by
        have a1 := p4 i hi1 hi2
        have a2 := hs.get ex x rfl
        rw [ex, ← Bool.not_eq_true, lie_iff] at a1
        refine Classical.byContradiction fun z => a1 fun y ey => ?_
        cases ey
        omega
      generalize br R n t r m = p at hB
      obtain ⟨B1, B2, B3, B4, B5, B6, B7⟩ := hB
      have S1 : Sits R p.2 := by rw [← B2]; exact goes.sits hs B1
      have U1 : Unshut R p.2 l h := by rw [← B2]; exact goes_unshut hs B1 hu
      have L1 : p.2.length = t.length := by rw [← B2]; exact goF_len B1
      have g1 : p.2[m]? = some t[r] := B3.trans er
      have g2 : p.2[m + 1]? = some o := (B4 (m + 1) (by omega)).trans eo
      have co : can R o m := can_mid ho (hs.get eo) (by omega)
      obtain ⟨w1, w2, w3, w4, w5, w6, w7⟩ := swap_at S1 g1 g2 p3 co
      have old : ∀ i, g ≤ i → i < m → ∃ j, g ≤ j ∧ j ≤ m ∧ (swp p.2 m)[i]? = t[j]? := fun i i1 i2 => by
        rw [w7 i (by omega) (by omega)]
        by_cases hi : i < r
        · exact ⟨i, i1, by omega, B4 i (by omega)⟩
        · obtain ⟨j, j1, j2⟩ := B5 i (by omega) (by omega)
          exact ⟨j, by omega, by omega, j2⟩
      have hC := (ih (swp p.2 m) m g l h o w3 (w4 l h U1) (by rw [swp_len]; omega) (by omega) h2 (by omega) h4 w5 ho).1 (by omega) (by omega) fun i x i1 i2 ex => by
        obtain ⟨j, j1, j2, j3⟩ := old i i1 i2
        rw [j3] at ex
        exact hb j x j1 (by omega) ex
      generalize br R n (swp p.2 m) m g = q at hC
      obtain ⟨C1, C2, C3, C4, C5, C6, C7⟩ := hC
      obtain ⟨G1, G2⟩ := glue B1 B2 w1 w2 C1
      refine ⟨G1, G2.trans C2, C3.trans (w5.trans eo.symm), fun i hi => ?_, fun i hi1 hi2 => ?_, ?_, .down (by omega) hr (by rw [hpk]; exact B7) (by omega) C7⟩
      · rw [C4 i (by omega), w7 i (by omega) (by omega), B4 i (by omega)]
      · by_cases him : i = m + 1
        · subst him
          exact ⟨r, by omega, by rw [C4 (m + 1) (by omega), w6, er]⟩
        · obtain ⟨j, j1, j2⟩ := C5 i hi1 (by omega)
          obtain ⟨j', k1, k2, k3⟩ := old j (by omega) (by omega)
          exact ⟨j', by omega, j2.trans k3⟩
      · rw [List.length_append, List.length_append]
        exact pow_sum (m := m - g) B6 (by omega) C6 stepR_len (by omega)
    · by_cases hag : a = g
      · subst hag; rw [br_self]; exact brings_self
      have hlt : ¬ g < a := by omega
      have hr : ∃ r, a + 1 ≤ r ∧ r ≤ g ∧ lie R (t[r]?.join) a = true := by
        have hf := hu (a + 1) g (by omega) (by omega) h4 (by omega)
        refine Classical.byContradiction fun hc => hf fun i hi1 hi2 => ?_
        have hil : i < t.length := by omega
        have hn : ¬ lie R (t[i]?.join) a = true := fun z => hc ⟨i, hi1, hi2, z⟩
        have hsi := hs i hil
        have ei := List.getElem?_eq_getElem hil
        cases e : t[i] with
        | none => rw [ei, e] at hn; exact (hn rfl).elim
        | some x =>
          rw [e] at ei
          have a1 := hb i x (by omega) hi2 ei
          have a2 := hsi x e
          refine ⟨x, ei, ?_, a1⟩
          rw [ei] at hn
          rw [lie_iff] at hn
          refine Classical.byContradiction fun z => hn fun y ey => ?_
          cases ey
          omega
      obtain ⟨p1, p2, p3, p4⟩ := pick_up hr
      simp only [br, if_neg hag, if_neg hlt]
      generalize hpk : pick R t a (upTo (a + 1) g) = r at p1 p2 p3 p4
      have hrl : r < t.length := by omega
      have er := List.getElem?_eq_getElem hrl
      rw [er, lie_iff] at p3
      have cr : can R t[r] (a + 1) := can_mid (hs r hrl) p3 (by omega)
      have hB := (ih t r (a + 1) l h t[r] hs hu hh (by omega) (by omega) (by omega) (by omega) er cr).1 p1 (by omega) fun i x hi1 hi2 ex => by
        have a1 := p4 i hi1 hi2
        have a2 := hs.get ex x rfl
        rw [ex, ← Bool.not_eq_true, lie_iff] at a1
        refine Classical.byContradiction fun z => a1 fun y ey => ?_
        cases ey
        omega
      generalize br R n t r (a + 1) = p at hB
      obtain ⟨B1, B2, B3, B4, B5, B6, B7⟩ := hB
      have S1 : Sits R p.2 := by rw [← B2]; exact goes.sits hs B1
      have U1 : Unshut R p.2 l h := by rw [← B2]; exact goes_unshut hs B1 hu
      have L1 : p.2.length = t.length := by rw [← B2]; exact goF_len B1
      have g1 : p.2[a + 1]? = some t[r] := B3.trans er
      have g2 : p.2[a]? = some o := (B4 a (by omega)).trans eo
      have co : can R o (a + 1) := can_mid ho (hs.get eo) (by omega)
      obtain ⟨w1, w2, w3, w4, w5, w6, w7⟩ := swap_at S1 g2 g1 co p3
      have old : ∀ i, a + 1 < i → i ≤ g → ∃ j, a < j ∧ j ≤ g ∧ (swp p.2 a)[i]? = t[j]? := fun i i1 i2 => by
        rw [w7 i (by omega) (by omega)]
        by_cases hi : r < i
        · exact ⟨i, by omega, by omega, B4 i (by omega)⟩
        · obtain ⟨j, j1, j2⟩ := B5 i (by omega) (by omega)
          exact ⟨j, by omega, by omega, j2⟩
      have hC := (ih (swp p.2 a) (a + 1) g l h o w3 (w4 l h U1) (by rw [swp_len]; omega) (by omega) h2 (by omega) h4 w6 ho).2 (by omega) (by omega) fun i x i1 i2 ex => by
        obtain ⟨j, j1, j2, j3⟩ := old i i1 i2
        rw [j3] at ex
        exact hb j x j1 j2 ex
      generalize br R n (swp p.2 a) (a + 1) g = q at hC
      obtain ⟨C1, C2, C3, C4, C5, C6, C7⟩ := hC
      obtain ⟨G1, G2⟩ := glue B1 B2 w1 w2 C1
      refine ⟨G1, G2.trans C2, C3.trans (w6.trans eo.symm), fun i hi => ?_, fun i hi1 hi2 => ?_, ?_, .up (by omega) hr (by rw [hpk]; exact B7) (by omega) C7⟩
      · rw [C4 i (by omega), w7 i (by omega) (by omega), B4 i (by omega)]
      · by_cases him : i = a
        · subst him
          exact ⟨r, by omega, by rw [C4 i (by omega), w5, er]⟩
        · obtain ⟨j, j1, j2⟩ := C5 i hi1 (by omega)
          obtain ⟨j', k1, k2, k3⟩ := old j (by omega) (by omega)
          exact ⟨j', by omega, j2.trans k3⟩
      · rw [List.length_append, List.length_append]
        exact pow_sum (m := g - (a + 1)) B6 (by omega) C6 stepR_len (by omega)
/-- the top: who may sit on the goal ends no sooner than the one that comes -/
theorem outer : ∀ (n : Nat) (t : List (Option α)) (a g l h : Nat) (o : Option α) (E : Int), Sits R t → Unshut R t l h → h < t.length → l ≤ g → g ≤ a → a ≤ h → a - g ≤ n → t[a]? = some o → can R o g → (a : Int) ≤ E →
    (∀ i x, g ≤ i → i < a → t[i]? = some (some x) → (R x).1 ≤ g → E ≤ (R x).2) → Brings R t a g (a - g) (br R n t a g) := by
  intro n
  induction n with
  | zero =>
    intro t a g l h o E hs hu hh h1 h2 h3 h4 eo ho hE hb
    have : a = g := by omega
    subst this
    exact brings_self
  | succ n ih =>
    intro t a g l h o E hs hu hh h1 h2 h3 h4 eo ho hE hb
    by_cases hag : a = g
    · subst hag; rw [br_self]; exact brings_self
    have hlt : g < a := by omega
    obtain ⟨m, rfl⟩ : ∃ m, a = m + 1 := ⟨a - 1, by omega⟩
    have hr : ∃ r, g ≤ r ∧ r ≤ m ∧ lie R (t[r]?.join) (m + 1) = true := by
      have hgl : g < t.length := by omega
      have eg := List.getElem?_eq_getElem hgl
      refine ⟨g, by omega, by omega, ?_⟩
      rw [eg, lie_iff]
      intro x ex
      have ex : t[g] = some x := ex
      have a1 := hs g hgl x ex
      have a2 := hb g x (by omega) hlt (by rw [eg, ex]) a1.1
      omega
    obtain ⟨p1, p2, p3, p4⟩ := pick_down hr
    simp only [br, if_neg hag, if_pos hlt, Nat.add_sub_cancel]
    generalize hpk : pick R t (m + 1) (downTo m g) = r at p1 p2 p3 p4
    have hrl : r < t.length := by omega
    have er := List.getElem?_eq_getElem hrl
    rw [er, lie_iff] at p3
    have cr : can R t[r] m := can_mid (hs r hrl) p3 (by omega)
    have hB := (inner n t r m l h t[r] hs hu hh (by omega) (by omega) (by omega) (by omega) er cr).2 p2 (by omega) fun i x hi1 hi2 ex => by
      have a1 := p4 i hi1 hi2
      have a2 := hs.get ex x rfl
      rw [ex, ← Bool.not_eq_true, lie_iff] at a1
      refine Classical.byContradiction fun z => a1 fun y ey => ?_
      cases ey
      omega
    generalize br R n t r m = p at hB
    obtain ⟨B1, B2, B3, B4, B5, B6, B7⟩ := hB
    have S1 : Sits R p.2 := by rw [← B2]; exact goes.sits hs B1
    have U1 : Unshut R p.2 l h := by rw [← B2]; exact goes_unshut hs B1 hu
    have L1 : p.2.length = t.length := by rw [← B2]; exact goF_len B1
    have g1 : p.2[m]? = some t[r] := B3.trans er
    have g2 : p.2[m + 1]? = some o := (B4 (m + 1) (by omega)).trans eo
    have co : can R o m := can_mid ho (hs.get eo) (by omega)
    obtain ⟨w1, w2, w3, w4, w5, w6, w7⟩ := swap_at S1 g1 g2 p3 co
    have old : ∀ i, g ≤ i → i < m → ∃ j, g ≤ j ∧ j ≤ m ∧ (swp p.2 m)[i]? = t[j]? := fun i i1 i2 => by
      rw [w7 i (by omega) (by omega)]
      by_cases hi : i < r
      · exact ⟨i, i1, by omega, B4 i (by omega)⟩
      · obtain ⟨j, j1, j2⟩ := B5 i (by omega) (by omega)
        exact ⟨j, by omega, by omega, j2⟩
    have hC := ih (swp p.2 m) m g l h o E w3 (w4 l h U1) (by rw [swp_len]; omega) h1 (by omega) (by omega) (by omega) w5 ho (by omega) fun i x i1 i2 ex => by
      obtain ⟨j, j1, j2, j3⟩ := old i i1 i2
      rw [j3] at ex
      exact hb j x j1 (by omega) ex
    generalize br R n (swp p.2 m) m g = q at hC
    obtain ⟨C1, C2, C3, C4, C5, C6, C7⟩ := hC
    obtain ⟨G1, G2⟩ := glue B1 B2 w1 w2 C1
    refine ⟨G1, G2.trans C2, C3.trans (w5.trans eo.symm), fun i hi => ?_, fun i hi1 hi2 => ?_, ?_, .down (by omega) hr (by rw [hpk]; exact B7) (by omega) C7⟩
    · rw [C4 i (by omega), w7 i (by omega) (by omega), B4 i (by omega)]
    · by_cases him : i = m + 1
      · subst him
        exact ⟨r, by omega, by rw [C4 (m + 1) (by omega), w6, er]⟩
      · obtain ⟨j, j1, j2⟩ := C5 i hi1 (by omega)
        obtain ⟨j', k1, k2, k3⟩ := old j (by omega) (by omega)
        exact ⟨j', by omega, j2.trans k3⟩
    · rw [List.length_append, List.length_append]
      exact pow_sum (m := m - g) B6 (by omega) C6 stepR_len (by omega)
end
end Mth
namespace Mth
section
variable {α : Type} {R : α → Int × Int} {t : List (Option α)}
/-- a stretch cut to the seats from l to h -/
def cutR (R : α → Int × Int) (l h : Nat) : α → Int × Int := fun x => (max (l : Int) (R x).1, min (h : Int) (R x).2)
/-- seats from l to h, one lot behind the other -/
def Cover : Nat → Nat → List (Nat × Nat) → Prop
  | _, _, [] => False
  | l, h, [p] => p.1 = l ∧ p.2 = h ∧ l ≤ h
  | l, h, p :: q :: r => p.1 = l ∧ l ≤ p.2 ∧ p.2 < h ∧ Cover (p.2 + 1) h (q :: r)
theorem Cover.le : ∀ {ps : List (Nat × Nat)} {l h : Nat}, Cover l h ps → l ≤ h
  | [p], _, _, c => c.2.2
  | p :: q :: r, _, _, c => by have := c.2.1; have := c.2.2.1; omega
theorem Cover.append : ∀ {ps qs : List (Nat × Nat)} {l m h : Nat}, Cover l m ps → Cover (m + 1) h qs → Cover l h (ps ++ qs)
  | [p], qs, l, m, h, c, d => by
    obtain ⟨c1, c2, c3⟩ := c
    subst c2
    have := d.le
    cases qs with
    | nil => exact d.elim
    | cons q r => exact ⟨c1, c3, by omega, d⟩
  | p :: q :: r, qs, l, m, h, c, d => by
    obtain ⟨c1, c2, c3, c4⟩ := c
    have ih := Cover.append c4 d
    have := d.le
    exact ⟨c1, c2, by omega, ih⟩
theorem Cover.mem : ∀ {ps : List (Nat × Nat)} {l h : Nat} {p : Nat × Nat}, Cover l h ps → p ∈ ps → l ≤ p.1 ∧ p.1 ≤ p.2 ∧ p.2 ≤ h
  | [q], l, h, p, c, m => by
    obtain ⟨c1, c2, c3⟩ := c
    rw [List.mem_singleton] at m
    subst m
    omega
  | q :: s :: r, l, h, p, c, m => by
    obtain ⟨c1, c2, c3, c4⟩ := c
    rcases List.mem_cons.mp m with rfl | m
    · omega
    · have := Cover.mem c4 m
      omega
/-- each seat lies in one -/
theorem Cover.at_ : ∀ {ps : List (Nat × Nat)} {l h : Nat} {k : Nat}, Cover l h ps → l ≤ k → k ≤ h → ∃ p ∈ ps, p.1 ≤ k ∧ k ≤ p.2
  | [q], l, h, k, c, h1, h2 => ⟨q, by simp, by have := c.1; omega, by have := c.2.1; omega⟩
  | q :: s :: r, l, h, k, c, h1, h2 => by
    obtain ⟨c1, c2, c3, c4⟩ := c
    by_cases hk : k ≤ q.2
    · exact ⟨q, by simp, by omega, hk⟩
    · obtain ⟨p, hp, h3, h4⟩ := Cover.at_ (k := k) c4 (by omega) h2
      exact ⟨p, List.mem_cons_of_mem _ hp, h3, h4⟩
theorem Cover.inj : ∀ {ps : List (Nat × Nat)} {l h : Nat} {p q : Nat × Nat} {k : Nat}, Cover l h ps → p ∈ ps → q ∈ ps → p.1 ≤ k → k ≤ p.2 → q.1 ≤ k → k ≤ q.2 → p = q
  | [s], l, h, p, q, k, c, m1, m2, _, _, _, _ => by
    rw [List.mem_singleton] at m1 m2
    rw [m1, m2]
  | s :: u :: r, l, h, p, q, k, c, m1, m2, a1, a2, a3, a4 => by
    obtain ⟨c1, c2, c3, c4⟩ := c
    rcases List.mem_cons.mp m1 with e1 | m1
    · rcases List.mem_cons.mp m2 with e2 | m2
      · rw [e1, e2]
      · have := Cover.mem c4 m2
        rw [e1] at a1 a2
        omega
    · rcases List.mem_cons.mp m2 with e2 | m2
      · have := Cover.mem c4 m1
        rw [e2] at a3 a4
        omega
      · exact Cover.inj c4 m1 m2 a1 a2 a3 a4
end
end Mth
namespace Mth
section
variable {α : Type} {R : α → Int × Int} {t : List (Option α)}
def seg {β : Type} (t : List β) (l h : Nat) : List β := (t.take (h + 1)).drop l
theorem seg_split {β : Type} {t : List β} {l m h : Nat} (h1 : l ≤ m) (h2 : m ≤ h + 1) : seg t l h = (t.take m).drop l ++ (t.take (h + 1)).drop m := by
  unfold seg
  have e : t.take (h + 1) = t.take m ++ (t.take (h + 1)).drop m := by
    have := List.take_append_drop m (t.take (h + 1))
    rw [List.take_take, Nat.min_eq_left h2] at this
    exact this.symm
  by_cases hm : m ≤ t.length
  · have hl : (t.take m).length = m := by rw [List.length_take]; omega
    rw [e, List.drop_append_of_le_length (by omega)]
    congr 1
    rw [List.drop_append, hl]
    simp [hl]
  · rw [List.take_of_length_le (by omega), List.take_of_length_le (by omega), List.drop_eq_nil_of_le (i := m) (by omega), List.append_nil]
theorem Sits.cut (hs : Sits R t) {l h : Nat} : ∀ i o, l ≤ i → i ≤ h → t[i]? = some o → can (cutR R l h) o i := fun i o h1 h2 e x ex => by
  have := hs.get e x ex
  simp only [cutR]
  omega
end
end Mth
namespace Mth
section
variable {α : Type} {R R' : α → Int × Int} {t t1 : List (Option α)} {ps : List (Nat × Nat)}
/-- in each lot the same ones -/
def Same (ps : List (Nat × Nat)) (t t1 : List (Option α)) : Prop := ∀ p ∈ ps, (seg t p.1 p.2).Perm (seg t1 p.1 p.2)
theorem segs_cover {β : Type} {t : List β} : ∀ {ps : List (Nat × Nat)} {l h : Nat}, Cover l h ps → ps.flatMap (fun v => seg t v.1 v.2) = seg t l h
  | [p], l, h, c => by
    obtain ⟨c1, c2, c3⟩ := c
    simp [c1, c2]
  | p :: q :: r, l, h, c => by
    obtain ⟨c1, c2, c3, c4⟩ := c
    rw [List.flatMap_cons, segs_cover c4, c1]
    exact (seg_split (t := t) (l := l) (m := p.2 + 1) (h := h) (by omega) (by omega)).symm
theorem Same.flat : ∀ {ps : List (Nat × Nat)}, Same ps t t1 → (ps.flatMap fun v => seg t v.1 v.2).Perm (ps.flatMap fun v => seg t1 v.1 v.2)
  | [], _ => .refl _
  | p :: r, h => by
    rw [List.flatMap_cons, List.flatMap_cons]
    exact (h p (by simp)).append (Same.flat (ps := r) fun q hq => h q (by simp [hq]))
theorem Same.seg {l h : Nat} (s : Same ps t t1) (c : Cover l h ps) : (seg t l h).Perm (seg t1 l h) := by
  rw [← segs_cover c, ← segs_cover c]
  exact s.flat
theorem Same.left {qs : List (Nat × Nat)} (s : Same (ps ++ qs) t t1) : Same ps t t1 := fun p hp => s p (List.mem_append_left _ hp)
theorem Same.right {qs : List (Nat × Nat)} (s : Same (ps ++ qs) t t1) : Same qs t t1 := fun p hp => s p (List.mem_append_right _ hp)
/-- stretches cut by the lots -/
def Cuts (R : α → Int × Int) (ps : List (Nat × Nat)) (t : List (Option α)) (R' : α → Int × Int) : Prop := ∀ i x, t[i]? = some (some x) → ∃ v ∈ ps, v.1 ≤ i ∧ i ≤ v.2 ∧ R' x = cutR R v.1 v.2 x
theorem Cuts.sits (C : Cuts R ps t R') (hs : Sits R t) : Sits R' t := sits_of fun i o e x ex => by
  subst ex
  obtain ⟨v, hv, h1, h2, h3⟩ := C i x e
  have := hs.get e x rfl
  rw [h3]
  simp only [cutR]
  omega
theorem Cuts.wide (C : Cuts R ps t R') {x : α} (hx : some x ∈ t) : (R x).1 ≤ (R' x).1 ∧ (R' x).2 ≤ (R x).2 := by
  obtain ⟨i, e⟩ := List.getElem?_of_mem hx
  obtain ⟨v, hv, h1, h2, h3⟩ := C i x e
  rw [h3]
  simp only [cutR]
  omega
theorem Cuts.up (C : Cuts R ps t R') (hs : Sits R' t) : Sits R t := sits_of fun i o e x ex => by
  subst ex
  have h1 := C.wide (List.mem_of_getElem? e)
  have h2 := hs.get e x rfl
  omega
end
end Mth
namespace Mth
open Classical
section
variable {α : Type} {R : α → Int × Int} {av : Nat → Bool} {h : Nat}
/-- all seats from s on that are free and one's own lie from x to below z -/
def Within (R : α → Int × Int) (av : Nat → Bool) (h s x z : Nat) (j : α) : Prop := ∀ k, s ≤ k → k ≤ h → av k = true → (R j).1 ≤ (k : Int) → (k : Int) ≤ (R j).2 → x ≤ k ∧ k < z
/-- how many free seats from x to below z -/
def nav (av : Nat → Bool) (x z : Nat) : Nat := (List.range (z - x)).countP fun i => av (x + i)
theorem nav_self {x : Nat} : nav av x x = 0 := by unfold nav; rw [Nat.sub_self]; rfl
theorem nav_split {x y z : Nat} (h1 : x ≤ y) (h2 : y ≤ z) : nav av x z = nav av x y + nav av y z := by
  unfold nav
  have e : z - x = (y - x) + (z - y) := by omega
  rw [e, List.range_add, List.countP_append, List.countP_map]
  congr 1
  refine List.countP_congr fun i _ => ?_
  have e2 : x + ((y - x) + i) = y + i := by omega
  simp only [Function.comp]
  rw [e2]
theorem nav_one {x : Nat} : nav av x (x + 1) = if av x = true then 1 else 0 := by
  unfold nav
  have e : x + 1 - x = 1 := by omega
  rw [e, show List.range 1 = [0] from rfl, List.countP_singleton, Nat.add_zero]
theorem nav_pos {x z : Nat} (h0 : nav av x z ≠ 0) : ∃ k, x ≤ k ∧ k < z ∧ av k = true := by
  have h1 : 0 < nav av x z := by omega
  unfold nav at h1
  rw [List.countP_pos_iff] at h1
  obtain ⟨i, hi, e⟩ := h1
  have := List.mem_range.mp hi
  exact ⟨x + i, by omega, by omega, e⟩
/-- no window is crowded, from s on -/
def Hall (R : α → Int × Int) (av : Nat → Bool) (h s : Nat) (J : List α) : Prop := ∀ x z, s ≤ x → x ≤ z → z ≤ h + 1 → J.countP (fun j => decide (Within R av h s x z j)) ≤ nav av x z
theorem countP_le {J : List α} {p q : α → Bool} (h : ∀ j ∈ J, p j = true → q j = true) : J.countP p ≤ J.countP q := List.countP_mono_left h
theorem count_erase [DecidableEq α] {J : List α} {j0 : α} (h0 : j0 ∈ J) (p : α → Bool) : J.countP p = (J.erase j0).countP p + (if p j0 = true then 1 else 0) := by
  have := (List.perm_cons_erase h0).countP_eq p
  rw [this, List.countP_cons]
theorem Hall.take [DecidableEq α] {s : Nat} {J : List α} {j0 : α} (H : Hall R av h s J) (hs : s ≤ h) (ha : av s = true) (h0 : j0 ∈ J) (h1 : (R j0).1 ≤ (s : Int)) (h2 : ∀ j ∈ J, (R j).1 ≤ (s : Int) → (R j0).2 ≤ (R j).2) : (s : Int) ≤ (R j0).2 ∧ Hall R av h (s + 1) (J.erase j0) := by
  have hend : ∀ j ∈ J, (R j).1 ≤ (s : Int) → (s : Int) ≤ (R j).2 := fun j hj hj1 => by
    by_cases c : (s : Int) ≤ (R j).2
    · exact c
    · exfalso
      have := H s s (Nat.le_refl _) (Nat.le_refl _) (by omega)
      rw [nav_self] at this
      have hp : 0 < J.countP (fun j => decide (Within R av h s s s j)) := List.countP_pos_iff.mpr ⟨j, hj, decide_eq_true fun k k1 k2 k3 k4 k5 => by omega⟩
      omega
  refine ⟨hend j0 h0 h1, fun x z a1 a2 a3 => ?_⟩
  have key : (∀ j ∈ J.erase j0, Within R av h (s + 1) x z j → ¬ (R j).1 ≤ (s : Int)) → (J.erase j0).countP (fun j => decide (Within R av h (s + 1) x z j)) ≤ nav av x z := fun hn => by
    refine Nat.le_trans (countP_le (q := fun j => decide (Within R av h s x z j)) fun j hj hw => ?_) (Nat.le_trans ?_ (H x z (by omega) a2 a3))
    · rw [decide_eq_true_eq] at hw ⊢
      intro k k1 k2 k3 k4 k5
      by_cases e : k = s
      · subst e
        exact (hn j hj hw k4).elim
      · exact hw k (by omega) k2 k3 k4 k5
    · rw [count_erase h0]
      omega
  by_cases c : nav av (s + 1) x = 0
  · by_cases c2 : Within R av h s s z j0
    · have e1 : nav av s z = 1 + nav av x z := by
        rw [nav_split (y := s + 1) (by omega) (by omega), nav_split (x := s + 1) (y := x) (by omega) a2, nav_one, if_pos ha, c]
        omega
      have e2 := H s z (Nat.le_refl _) (by omega) a3
      rw [count_erase h0, if_pos (decide_eq_true c2)] at e2
      have e3 : (J.erase j0).countP (fun j => decide (Within R av h (s + 1) x z j)) ≤ (J.erase j0).countP (fun j => decide (Within R av h s s z j)) := countP_le fun j hj hw => by
        rw [decide_eq_true_eq] at hw ⊢
        intro k k1 k2 k3 k4 k5
        by_cases e : k = s
        · subst e
          exact ⟨Nat.le_refl _, by omega⟩
        · have := hw k (by omega) k2 k3 k4 k5
          exact ⟨k1, this.2⟩
      omega
    · refine key fun j hj hw hj1 => c2 fun k k1 k2 k3 k4 k5 => ⟨k1, ?_⟩
      have hj2 := h2 j (List.mem_of_mem_erase hj) hj1
      by_cases e : k = s
      · subst e; omega
      · exact (hw k (by omega) k2 k3 (by omega) (by omega)).2
  · obtain ⟨p, p1, p2, p3⟩ := nav_pos c
    refine key fun j hj hw hj1 => ?_
    have hJ := List.mem_of_mem_erase hj
    have hb : (R j).2 < p := by
      by_cases e : (R j).2 < p
      · exact e
      · have := hw p p1 (by omega) p3 (by omega) (by omega)
        omega
    have wj : ∀ i : α, (R i).2 ≤ (R j).2 → Within R av h s s (s + 1) i := fun i hi k k1 k2 k3 k4 k5 => by
      refine ⟨k1, ?_⟩
      by_cases e : k = s
      · omega
      · have := hw k (by omega) k2 k3 (by omega) (by omega)
        omega
    have e2 := H s (s + 1) (Nat.le_refl _) (by omega) (by omega)
    rw [nav_one, if_pos ha, count_erase h0, if_pos (decide_eq_true (wj j0 (h2 j hJ hj1)))] at e2
    have : 0 < (J.erase j0).countP (fun j => decide (Within R av h s s (s + 1) j)) := List.countP_pos_iff.mpr ⟨j, hj, decide_eq_true (wj j (by omega))⟩
    omega
end
end Mth
namespace Mth
section
variable {α : Type} {R : α → Int × Int} {t u t' : List (Option α)} {row : List Nat} {k l h a g s : Nat}
def In (l h : Nat) (row : List Nat) : Prop := ∀ k ∈ row, l ≤ k ∧ k + 1 ≤ h
def Agr (l h : Nat) (t u : List (Option α)) : Prop := ∀ i, l ≤ i → i ≤ h → t[i]? = u[i]?
theorem Agr.swp (g : Agr l h t u) (h1 : l ≤ k) (h2 : k + 1 ≤ h) (ht : h < t.length) (hu : h < u.length) : Agr l h (swp t k) (swp u k) := fun i a b => by
  rw [swp_get (by omega), swp_get (by omega)]
  split
  · exact g _ (by omega) (by omega)
  · split
    · exact g _ (by omega) (by omega)
    · exact g i a b
end
end Mth
namespace Bx
open PySem L2 PySem.Spec PyProof.Rows PySem.W PySem.Calls
end Bx
namespace Bx
open PySem L2 PySem.Spec PyProof.Rows PySem.W PySem.Calls
end Bx
namespace Bx
open PySem L2 PySem.Spec PyProof.Rows PySem.W PySem.Calls
end Bx
namespace Bx
open PySem L2 PySem.Spec PyProof.Rows PySem.W
end Bx
namespace Bx
open PySem L2 PySem.Spec PyProof.Rows
end Bx
namespace Bx
open PySem L2 PySem.Spec PyProof.Rows PySem.W
end Bx
namespace Bx
open PySem L2 PySem.Spec PyProof.Rows
end Bx
namespace Bx
open PySem L2 PySem.Spec PyProof.Rows PySem.W
end Bx
namespace Bx
open PySem L2 PySem.Spec PyProof.Rows PySem.W
section
variable {X : Cx} {W : WX} {K : KK} {F F' H H' : Hp} {adr adr' : List Addr} {s s' : S} {σ σ' : L2.St} {o : Expr} {mo : M D} {apos cpos pos p : Pos}
theorem vals_ints : ∀ {kds : List (NestedKey × D)} {rows : List NRow} {is : List Int}, RpN K F adr kds rows → intsD (kds.map (·.2)) = some is → rows.map (·.2.2) = is.map V.int
  | [], _, is, h, e => by
    cases h
    cases e
    rfl
  | (k, d) :: kds, _, is, ⟨b, v, r, q, h1, h2, h3, h4⟩, e => by
    subst q
    rw [List.map_cons] at e
    match d, e, h3 with
    | .int n, e, h3 =>
      obtain ⟨cs, e1, rfl⟩ := Option.map_eq_some_iff.mp (show (intsD (kds.map (·.2))).map (n :: ·) = some _ from e)
      have : v = V.int n := h3
      rw [List.map_cons, List.map_cons, vals_ints h4 e1, this]
end
end Bx
namespace Bx
open PySem L2 PySem.Spec PyProof.Rows
section
variable {X : Cx} {W : WX} {K : KK} {F F' H H' : Hp} {adr adr' : List Addr} {s s' : S} {σ σ' : L2.St} {d : D} {v : V} {e a b c tg o iter elt : Expr} {es : List Expr} {m ma mb mc : M D} {ms : List (M D)} {pos apos : Pos} {E : Ends}
def makeR (cn : Str) (den : DenI) (ds : List D) : M D := fun s => match den 0 0 ds s.μ with
  | .ok fs μ' => .ok (.ref μ'.length) { s with μ := μ' ++ [.ins cn fs] }
  | .exc x μ' => .exc x { s with μ := μ' }
  | .bad => .bad
/-- C(e, ..), to change later -/
def mkR (cn : Str) (den : DenI) (ix : List Nat) (dds : List D) (a k : M (List D)) : M D := bnd a fun ds => bnd k fun es => makeR cn den (pick .non ix (ds ++ es ++ dds))
end
end Bx
namespace Bx
open PySem L2 PySem.Spec PyProof.Rows
end Bx
namespace Bx
open PySem L2 PySem.Spec PyProof.Rows
end Bx
namespace Bx
open PySem L2 PySem.Spec PyProof.Rows
section
variable {X : Cx} {W : WX} {K : KK} {F F' H H' : Hp} {adr adr' : List Addr} {s s' : S} {σ σ' : L2.St} {d : D} {v : V} {e a b c o : Expr} {m ma mb mo : M D} {pos apos cpos : Pos}
abbrev GG := S → Option D
end
end Bx
namespace Bx
open PySem L2 PySem.Spec PyProof.Rows PySem.SeqAt
open AutoSeq1 (wpAny_loadPart')
open MeetsSeq
end Bx
namespace Bx
open PySem L2 PySem.Spec PyProof.Rows
end Bx
namespace Bx
open PySem L2 PySem.Spec PyProof.Rows
structure FnGN (P : Program) (w : World) (K : PySem.W.Frag) (mg : Str → Option Value) (base : Heap) (k : Nat) (f : Addr) (fd : FuncData) (ps : List Str) (sp : Sp) : Prop where
  len : ∀ vs H Q E, sp vs H Q E → vs.length = ps.length
  run : ∀ (A : Around) (outer : List Env) (s : Shared) (H : Hp) (args : Args) (us : List Value) (vs : List V) (Q : VK) (E : XK), Room k A → A.guards = some [] → Env0 P w K mg base A outer s H →
    BindsTo s fd args (ps.zip us) → Vals vs us → sp vs H Q E → codeAny (model P w) A (.call (.ref f) args) (CR (L2N.CX P w) outer P w H s Q E) s
theorem FnGN.mono {P : Program} {w : World} {K : PySem.W.Frag} {mg : Str → Option Value} {base : Heap} {j k : Nat} {f : Addr} {fd : FuncData} {ps : List Str} {sp : Sp} (G : FnGN P w K mg base j f fd ps sp) (h : j ≤ k) : FnGN P w K mg base k f fd ps sp :=
  ⟨G.len, fun A outer s H args us vs Q E hr => G.run A outer s H args us vs Q E (hr.mono h)⟩
theorem fnGN_of {P : Program} {w : World} {K : PySem.W.Frag} {mg : Str → Option Value} {base : Heap} {k : Nat} {f : Addr} {x qual : Str} {params : Arguments} {body : List Stmt} {scope : Scope} {dvs : List V} {kws : List (Str × V)} {fd : FuncData}
    {N ps : List Str} {sp : Sp} (D : FunD K x qual params body scope dvs kws f fd) (S : FnScope N ps scope) (len : ∀ vs H Q E, sp vs H Q E → vs.length = ps.length)
    (hbody : ∀ (cdv : Value) (A : Around) (outer : List Env) (s : Shared) (H : Hp) (vs : List V) (Q : VK) (E : XK), Room k (A.deeper (envOfC qual scope s.heap.objs.size f cdv)) → A.guards = some [] → sp vs H Q E →
      ∃ t, PSs (cxOf (L2N.CX P w) P w K mg base N qual scope f cdv A outer s H E) body t ∧ t { nx := fun _ H' => Q .non H', rt := Q } (start N vs) H) :
    FnGN P w K mg base (k + 1) f fd ps sp := by
  obtain ⟨oc, od, dV, kV, doc, pm, an, cdv, ct, osl, rfl, lk, hcd, _, _⟩ := D.ex
  refine ⟨len, fun A outer s H args us vs Q E hr hgd e0 hb rv hsp => ?_⟩
  have kin : K.In s.heap := e0.mod.kin.keeps fun b o e => (e0.bs b o e).1
  have kinds : ∀ y ∈ ps.zip us, scope.names.lookup y.1 = some .local ∨ (scope.names.lookup y.1 = some .cell ∧ ((cellsFrom (s.heap.objs.size + 1) scope.names []).lookup y.1).isSome = true) := by
    rintro ⟨n, v⟩ hy
    rcases S.par n (List.of_mem_zip hy).1 with q | q
    · exact .inl q
    · exact .inr ⟨q, PySem.W.cellsFrom_some _ _ _ (.inl q)⟩
  refine codeAny_call_function hr.depth (kin _ _ lk) rfl S.co S.gen rfl (PySem.W.codeRec_of kin hcd) (hb _ _ _ _ ?_)
  refine wpAny_newFunctionEnv_cells S.kind kinds fun env he s1 ic => ?_
  subst he
  refine ⟨(e0.mod.nolimit.keeps fun b o e => (e0.bs b o e).1).keeps ic.toInCall.keep, codeAny_func ?_⟩
  obtain ⟨t, ht, hq⟩ := hbody cdv A outer s H vs Q E (hr.deeper _) hgd hsp
  have inv := inv_start (CX := L2N.CX P w) (w := w) (N := N) (E := E) S hr.hd e0 (len _ _ _ _ hsp) rv ic
  refine wpAny_mono (ht.run [] s1 (start N vs) H _ inv hq) (fun fl s' hs => ?_) fun e s' hs => hs
  cases fl with
  | ret u => obtain ⟨v, σ', H', J, r1, q⟩ := hs; exact ⟨v, H', J.os, J.bare, J.base, J.hok, r1, q⟩
  | next => obtain ⟨σ', H', J, q⟩ := hs; exact ⟨V.non, H', J.os, J.bare, J.base, J.hok, rfl, q⟩
  | brk => obtain ⟨_, _, _, q⟩ := hs; exact q.elim
  | cont => obtain ⟨_, _, _, q⟩ := hs; exact q.elim
theorem fnGN_body {P : Program} {w : World} {K : PySem.W.Frag} {mg : Str → Option Value} {base : Heap} {k : Nat} {f : Addr} {x qual : Str} {params : Arguments} {body : List Stmt} {scope : Scope} {dvs : List V} {kws : List (Str × V)} {fd : FuncData}
    {N ps : List Str} {b : MS} (D : FunD K x qual params body scope dvs kws f fd) (S : FnScope N ps scope)
    (hb : ∀ (cdv : Value) (A : Around) (outer : List Env) (s : Shared) (H : Hp) (E : XK), Room k (cxOf (L2N.CX P w) P w K mg base N qual scope f cdv A outer s H E).A → (cxOf (L2N.CX P w) P w K mg base N qual scope f cdv A outer s H E).A.guards = some [] →
      L2N.Takes (cxOf (L2N.CX P w) P w K mg base N qual scope f cdv A outer s H E) (fun cls d _ H => E cls d H) →
      SB (cxOf (L2N.CX P w) P w K mg base N qual scope f cdv A outer s H E) (fun cls d _ H => E cls d H) body b) :
    FnGN P w K mg base (k + 1) f fd ps (spD ⟨K, P, w⟩ ps.length (runB N.length b)) := by
  refine fnGN_of D S (fun vs H Q E ⟨_, _, _, _, _, _, h, _⟩ => h) fun cdv A outer s H vs Q E hr hgd ⟨F, adr, μ, ds, ah, rl, hl, po⟩ => ⟨_, hb cdv A outer s H E hr hgd (L2N.takes_of rfl rfl rfl rfl), F, adr, ⟨frame N.length ds, μ⟩, Abs.begin ah rl, ?_⟩
  unfold runB at po
  cases e : b ⟨frame N.length ds, μ⟩ with
  | nx s' => rw [e] at po; exact fun σ' F' adr' H' st ab => po .non F' adr' H' st.bare ab.toAbsH rfl
  | rt d s' => rw [e] at po; exact fun σ' v F' adr' H' st ab rp => po v F' adr' H' st.bare ab.toAbsH rp
  | exc x s' => rw [e] at po; exact fun cls dd σ' F' adr' H' st ab rp => po cls dd F' adr' H' st.bare ab.toAbsH rp
  | bk s' => rw [e] at po; exact po.elim
  | ct s' => rw [e] at po; exact po.elim
  | bad => rw [e] at po; exact po.elim
theorem fnGN_init {P : Program} {w : World} {K : PySem.W.Frag} {mg : Str → Option Value} {base : Heap} {k : Nat} {f : Addr} {x qual cn : Str} {params : Arguments} {body : List Stmt} {scope : Scope} {dvs : List V} {kws : List (Str × V)} {fd : FuncData}
    {N ps : List Str} {b : MS} (D : FunD K x qual params body scope dvs kws f fd) (S : FnScope N ps scope) (hN : N ≠ [])
    (hb : ∀ (cdv : Value) (A : Around) (outer : List Env) (s : Shared) (H : Hp) (E : XK), Room k (cxOf (L2N.CX P w) P w K mg base N qual scope f cdv A outer s H E).A → (cxOf (L2N.CX P w) P w K mg base N qual scope f cdv A outer s H E).A.guards = some [] →
      L2N.Takes (cxOf (L2N.CX P w) P w K mg base N qual scope f cdv A outer s H E) (fun cls d _ H => E cls d H) →
      SB (cxOf (L2N.CX P w) P w K mg base N qual scope f cdv A outer s H E) (fun cls d _ H => E cls d H) body b) :
    FnGN P w K mg base (k + 1) f fd ps (spI ⟨K, P, w⟩ cn ps.length (runI cn N.length b)) := by
  refine fnGN_of D S (fun vs H Q E h => h.elim fun _ h => h.elim fun _ h => h.elim fun _ h => h.elim fun _ h => h.elim fun _ h => h.elim fun _ h => h.elim fun _ h => h.2.2.2.2.2.2.1)
    fun cdv A outer s H vs Q E hr hgd ⟨F, adr, μ, ds, x, dx, r, hv, hx, fx, nx, ah, rl, hl, po⟩ => ⟨_, hb cdv A outer s H E hr hgd (L2N.takes_of rfl rfl rfl rfl), F, adr, ⟨frameI cn N.length x dx ds, μ⟩, by rw [hv]; exact Abs.beginI ah rl hx fx nx hN, ?_⟩
  subst hv
  unfold runI at po
  cases e : b ⟨frameI cn N.length x dx ds, μ⟩ with
  | nx s' =>
    rw [e] at po
    intro σ' F' adr' H' st ab
    cases e2 : slfOf cn x dx s' with
    | none => simp only [e2] at po; exact po.elim
    | some fs =>
      simp only [e2] at po
      obtain ⟨q1, q2, q3, q4, fv, q5, q6⟩ := slf_at ab e2
      exact po F' adr' H' fv (st.bareI q1 q2) ab.toAbsH q3 q4 q5 q6
  | rt d s' => rw [e] at po; exact po.elim
  | exc y s' =>
    rw [e] at po
    intro cls dd σ' F' adr' H' st ab rp
    cases e2 : slfOf cn x dx s' with
    | none => simp only [e2] at po; exact po.elim
    | some fs =>
      simp only [e2] at po
      obtain ⟨q1, q2, q3, q4, fv, q5, q6⟩ := slf_at ab e2
      exact po cls dd F' adr' H' (st.bareI q1 q2) ab.toAbsH q3 q4 rp
  | bk s' => rw [e] at po; exact po.elim
  | ct s' => rw [e] at po; exact po.elim
  | bad => rw [e] at po; exact po.elim
section
variable {X : Cx} {W : WX} {K : KK} {F F' H H' : Hp} {adr adr' : List Addr} {s s' : S} {σ σ' : L2.St} {d : D} {v : V} {e a b c tg o iter elt : Expr} {es : List Expr} {m ma mb mc : M D} {ms : List (M D)} {pos apos : Pos} {E : Ends}
theorem run_GN {k n : Nat} {f : Addr} {fd : FuncData} {ps ks : List Str} {ix : List Nat} {dds : List D} {den : Den} {pins : List (Addr × Obj)} {sh : Shared} {Q : VK} {us ws : List Value} {vs zs : List V} {ds es : List D} {σ0 : L2.St}
    (G : FnGN X.prog X.w X.K X.mg X.base k f fd ps (spD (kk X) ps.length den)) (hr : Room k X.A) (hgd : X.A.guards = some []) (hb : CallB (kk X) fd ps n ks ix dds) (hix : ix.length = ps.length) (tk : L2N.Takes X W)
    (I : Inv X pins σ H sh) (rv : Vals vs us) (rz : Vals zs ws) (l1 : ds.length = n) (l2 : es.length = ks.length)
    (ab : Abs (kk X) F adr s σ H) (r1 : RpL (kk X) F adr ds vs) (r2 : RpL (kk X) F adr es zs) (po : Post (kk X) W F adr s σ H (callD den (pick .non ix (ds ++ es ++ dds)) s) Q) :
    wpAny (model X.prog X.w) X.A (call (.ref f) us (ks.zip ws)) (EP X pins σ Q) X.xe sh := by
  obtain ⟨dfl, dvs, hv, hd, hbt⟩ := hb.ex
  have rAll : Vals (vs ++ zs ++ dvs) (us ++ ws ++ dfl) := (rv.append rz).append hv
  have dAll : RpL (kk X) F adr (ds ++ es ++ dds) (vs ++ zs ++ dvs) := (r1.append r2).append (hd F adr)
  have hlen : (pick V.non ix (vs ++ zs ++ dvs)).length = ps.length := by unfold pick; rw [List.length_map, hix]
  refine wpAny_call (codeAny_mono (G.run X.A X.stack sh H ⟨us, ks.zip ws⟩ (pick .none ix (us ++ ws ++ dfl)) (pick .non ix (vs ++ zs ++ dvs)) Q (fun c dd H' => W c dd σ H') hr hgd I.env0
    (hbt sh us ws I.kIn (by rw [← rv.length, r1.length, l1]) (by rw [← rz.length, r2.length, l2])) (vals_pick ix rAll) ⟨F, adr, s.μ, _, ab.toAbsH, rpl_pick ix dAll, hlen, call_post ab po⟩) fun r s' hq => ?_)
  cases r with
  | error e => exact tk e s' (L2N.XE.of_call I (fun _ _ _ h => h) hq)
  | ok fl =>
    cases fl with
    | ret u => exact I.after hq
    | next => exact hq.elim
    | brk => exact hq.elim
    | cont => exact hq.elim
theorem run_mkN {k n : Nat} {f : Addr} {fd : FuncData} {ps ks : List Str} {ix : List Nat} {dds : List D} {den : DenI} {cn : Str} {pins : List (Addr × Obj)} {sh : Shared} {Q : VK} {us ws : List Value} {vs zs : List V} {ds es : List D}
    (bl : Blind den) (M : Mk X.K (He.ga X.K cn) f) (G : FnGN X.prog X.w X.K X.mg X.base k f fd ps (spI (kk X) cn ps.length den)) (hr : Room (k + 1) X.A) (hgd : X.A.guards = some []) (hb : CallI (kk X) fd ps n ks ix dds) (hix : ix.length + 1 = ps.length) (tk : L2N.Takes X W)
    (I : Inv X pins σ H sh) (rv : Vals vs us) (rz : Vals zs ws) (l1 : ds.length = n) (l2 : es.length = ks.length)
    (ab : Abs (kk X) F adr s σ H) (r1 : RpL (kk X) F adr ds vs) (r2 : RpL (kk X) F adr es zs) (po : Post (kk X) W F adr s σ H (makeD cn den (pick .non ix (ds ++ es ++ dds)) s) Q) :
    wpAny (model X.prog X.w) X.A (call (.ref (He.ga X.K cn)) us (ks.zip ws)) (EP X pins σ Q) X.xe sh := by
  obtain ⟨dfl, dvs, hv, hd, hbt⟩ := hb.ex
  have rAll : Vals (vs ++ zs ++ dvs) (us ++ ws ++ dfl) := (rv.append rz).append hv
  have dAll : RpL (kk X) F adr (ds ++ es ++ dds) (vs ++ zs ++ dvs) := (r1.append r2).append (hd F adr)
  have nx : H (sh.heap.objs.size + 1) = none := I.hok.fresh (Nat.le_succ _)
  have ndx : H sh.heap.objs.size = none := I.hok.fresh (Nat.le_refl _)
  have ne : sh.heap.objs.size ≠ sh.heap.objs.size + 1 := Nat.ne_of_lt (Nat.lt_succ_self _)
  have I2 := Inv.made (C := He.ga X.K cn) I
  have hlen : (V.ref (sh.heap.objs.size + 1) :: pick V.non ix (vs ++ zs ++ dvs)).length = ps.length := by unfold pick; rw [List.length_cons, List.length_map, hix]
  -- the abstract heap behind the two new things
  obtain ⟨_, ab1, _⟩ := ab.allocM (o := .own (sh.heap.objs.size + 1)) (mo := .lst []) ndx
  obtain ⟨_, ab2, _⟩ := ab1.allocM (p := sh.heap.objs.size + 1) (o := .ins (He.ga X.K cn) sh.heap.objs.size []) (mo := .lst []) (by rw [upd_ne (Ne.symm ne)]; exact nx)
  have hg2 : (X.A.under (.builtin "type.__call__" ⟨.ref (He.ga X.K cn) :: us, ks.zip ws⟩)).guards = some [] := by
    rw [← hgd]
    first | rfl | simp [Around.under, Code.guards, pushGuards, hgd, Code.isGuard, guardIds]
  refine wpAny_call (make_map (f := f) I.kIn M.makes M.init (beq_iff_eq.mp M.fn) (codeAny_mono (G.run _ X.stack _ _ ⟨Value.ref (sh.heap.objs.size + 1) :: us, ks.zip ws⟩ (Value.ref (sh.heap.objs.size + 1) :: pick .none ix (us ++ ws ++ dfl)) (V.ref (sh.heap.objs.size + 1) :: pick .non ix (vs ++ zs ++ dvs)) _ (fun c dd H' => W c dd σ H')
    (hr.make _ us _) hg2 (I2.env0.make _ us _) (hbt _ _ us ws I2.kIn (by rw [← rv.length, r1.length, l1]) (by rw [← rz.length, r2.length, l2])) (.cons rfl (vals_pick ix rAll))
    ⟨F, adr, s.μ, _, sh.heap.objs.size + 1, sh.heap.objs.size, _, rfl, upd_same, ab.fnone nx, fun z => (ab.adrH z).1 nx, ab2.toAbsH, rpl_pick ix dAll, hlen, make_post bl ab nx ndx ne po⟩) fun r s' hq => ?_))
  cases r with
  | error er => exact tk er s' (L2N.XE.of_call I2 (fun _ _ _ h => h) hq)
  | ok fl =>
    cases fl with
    | ret u =>
      obtain ⟨v, H', I3, rv, ev, q3⟩ := I2.after hq
      subst ev
      exact ⟨rv, ⟨V.ref (sh.heap.objs.size + 1), H', I3, rfl, q3⟩⟩
    | next => exact hq.elim
    | brk => exact hq.elim
    | cont => exact hq.elim
theorem run_mtN {k n : Nat} {f : Addr} {fd : FuncData} {ps ks : List Str} {ix : List Nat} {dds : List D} {den : Den} {pins : List (Addr × Obj)} {sh : Shared} {Q : VK} {u : Value} {us ws : List Value} {vs zs : List V} {ds es : List D}
    (G : FnGN X.prog X.w X.K X.mg X.base k f fd ps (spD (kk X) ps.length den)) (hr : Room k X.A) (hgd : X.A.guards = some []) (hb : CallI (kk X) fd ps n ks ix dds) (hix : ix.length + 1 = ps.length) (tk : L2N.Takes X W)
    (I : Inv X pins σ H sh) (ru : RelV v u) (rv : Vals vs us) (rz : Vals zs ws) (l1 : ds.length = n) (l2 : es.length = ks.length)
    (ab : Abs (kk X) F adr s σ H) (r0 : Rp (kk X) F adr d v) (r1 : RpL (kk X) F adr ds vs) (r2 : RpL (kk X) F adr es zs) (po : Post (kk X) W F adr s σ H (callD den (d :: pick .non ix (ds ++ es ++ dds)) s) Q) :
    wpAny (model X.prog X.w) X.A (call (.ref f) (u :: us) (ks.zip ws)) (EP X pins σ Q) X.xe sh := by
  obtain ⟨dfl, dvs, hv, hd, hbt⟩ := hb.ex
  have rAll : Vals (vs ++ zs ++ dvs) (us ++ ws ++ dfl) := (rv.append rz).append hv
  have dAll : RpL (kk X) F adr (ds ++ es ++ dds) (vs ++ zs ++ dvs) := (r1.append r2).append (hd F adr)
  have hlen : (v :: pick V.non ix (vs ++ zs ++ dvs)).length = ps.length := by unfold pick; rw [List.length_cons, List.length_map, hix]
  refine wpAny_call (codeAny_mono (G.run X.A X.stack sh H ⟨u :: us, ks.zip ws⟩ (u :: pick .none ix (us ++ ws ++ dfl)) (v :: pick .non ix (vs ++ zs ++ dvs)) Q (fun c dd H' => W c dd σ H') hr hgd I.env0
    (hbt sh u us ws I.kIn (by rw [← rv.length, r1.length, l1]) (by rw [← rz.length, r2.length, l2])) (.cons ru (vals_pick ix rAll)) ⟨F, adr, s.μ, _, ab.toAbsH, .cons r0 (rpl_pick ix dAll), hlen, call_post ab po⟩) fun r s' hq => ?_)
  cases r with
  | error er => exact tk er s' (L2N.XE.of_call I (fun _ _ _ h => h) hq)
  | ok fl =>
    cases fl with
    | ret u => exact I.after hq
    | next => exact hq.elim
    | brk => exact hq.elim
    | cont => exact hq.elim
end
section
variable {X : Cx} {W : WX} {K : KK} {F F' H H' : Hp} {adr adr' : List Addr} {s s' : S} {σ σ' : L2.St} {d : D} {v : V} {o : Expr} {pos apos : Pos} {k : Nat} {f : Addr} {fd : FuncData} {ps ks : List Str} {ix : List Nat} {dds : List D} {den : Den} {cn mn x : Str} {p : Pos} {kws : List Keyword} {ms mk : List (M D)} {mo : M D} {e : Expr} {es : List Expr}
theorem se_callN (G : FnGN X.prog X.w X.K X.mg X.base k f fd ps (spD (kk X) ps.length den)) (hr : Room k X.A) (hgd : X.A.guards = some []) (hg : Gl X x) (hm : X.mg x = some (.ref f)) (hk : PySem.W.keepIn X.K (.ref f) = true)
    (hb : CallB (kk X) fd ps ms.length [] ix dds) (hix : ix.length = ps.length) (tk : L2N.Takes X W) (ha : SAL X W (e :: es) (mal ms)) (hdb : (x == ("__debug__" : Str)) = false := by decide)
    (he : starEach (e :: es) X.env = (false, eval e X.env) :: starEach es X.env := by rfl) (hpl : (backTo pos (starEach es X.env)).any (·.1) = false := by rfl) :
    SE X W (.Call (.Name x p) (e :: es) [] pos) (callK den ix dds (mal ms) (mal [])) := by
  refine ⟨fun pins sh σ H Q I h => ?_⟩
  obtain ⟨F, adr, s, ab, po⟩ := h
  refine wpAny_Call_Name_kw (ld_glob I hg hm ?_ hdb)
  have hA := ha.run pos pins sh σ H _ I ⟨F, adr, s, ab, PostG.bindE po⟩
  refine PySem.W.callWith_K (h₀ := X.base) I.ok.mod.kin hk (thn hA fun us s1 ⟨vs, H1, I1, rv, F1, adr1, ds, s1', e1, st1, ab1, rp1, po1⟩ => ⟨I1.kIn, ?_⟩) he hpl
  exact run_GN (ws := []) (zs := []) (es := []) (n := ms.length) (ks := []) (σ0 := σ) G hr hgd hb hix tk I1 rv .nil (mal_len e1) rfl ab1 rp1 rfl po1
theorem se_methN {pl : Sem Bool} (ho : SE X W o mo) (cl : Cls X.K (He.ga X.K cn)) (hm : Meth X.K (He.ga X.K cn) mn f) (G : FnGN X.prog X.w X.K X.mg X.base k f fd ps (spD (kk X) ps.length den)) (hr : Room k X.A) (hgd : X.A.guards = some [])
    (hb : CallI (kk X) fd ps ms.length [] ix dds) (hix : ix.length + 1 = ps.length) (tk : L2N.Takes X W) (ha : SAL X W (e :: es) (mal ms))
    (hst : starEach (e :: es) X.env = (false, eval e X.env) :: starEach es X.env := by rfl) (hpl : (backTo pos (starEach es X.env)).any (·.1) = false := by rfl)
    (ht : eval (.Call (.Attribute o mn apos) (e :: es) [] pos) X.env = (do
      let ov ← eval o X.env
      standAt apos.atName
      let (f, first) ← holding [ov] (getMethod ov mn pl)
      callWith pos f first (backTo pos (starEach (e :: es) X.env)) (backToKw pos (keywordEach [] X.env))) := by rfl) :
    SE X W (.Call (.Attribute o mn apos) (e :: es) [] pos) (methK cn mn den ix dds mo (mal ms) (mal [])) := by
  refine ⟨fun pins sh σ H Q I h => ?_⟩
  obtain ⟨F, adr, s, ab, po⟩ := h
  refine PySem.W.methodCall_KW (pl := pl) (thn (ho.run pins sh σ H _ I ⟨F, adr, s, ab, PostG.bind po⟩) fun u s1 ⟨x, H1, I1, rx, F1, adr1, d1, s1', st1, ab1, rp1, po1⟩ => ?_) ht
  obtain ⟨F2, d2, s2, q1, q2, q3, q4⟩ := settle_bind ab1 rp1 po1
  obtain ⟨⟨a, dx, vs, z1, z2, z3⟩, po3⟩ := recv_ok q2 q3 q4
  subst z1
  obtain rfl : u = Value.ref a := rx
  refine getmeth_ok I1 z2 cl hm z3 ?_
  have hA := ha.run pos pins s1 σ H1 _ I1 ⟨F2, adr1, s2, q2, PostG.bindE po3⟩
  refine PySem.W.callWith_K (first := [.ref a]) (h₀ := X.base) I.ok.mod.kin hm.kp (thn hA fun us s3 ⟨ws, H3, I3, rv, F3, adr3, ds, s3', e3, st3, ab3, rp3, po4⟩ => ⟨I3.kIn, ?_⟩) hst hpl
  exact run_mtN (v := .ref a) (ws := []) (zs := []) (es := []) (n := ms.length) (ks := []) G hr hgd hb hix tk I3 rfl rv .nil (mal_len e3) rfl ab3 (q3.mono st3.ex st3.pre) rp3 rfl po4
end
section
variable {X : Cx} {W : WX} {σ σ' : L2.St} {H : Hp} {k : Nat} {f : Addr} {fd : FuncData} {ps ks : List Str} {ix : List Nat} {dds : List D} {den : DenI} {cn : Str} {p pos : Pos} {kws : List Keyword} {ms mk : List (M D)} {e : Expr} {es : List Expr}
theorem se_makeN (bl : Blind den) (M : Mk X.K (He.ga X.K cn) f) (G : FnGN X.prog X.w X.K X.mg X.base k f fd ps (spI (kk X) cn ps.length den)) (hr : Room (k + 1) X.A) (hgd : X.A.guards = some []) (hg : Gl X cn) (hm : X.mg cn = some (.ref (He.ga X.K cn)))
    (hb : CallI (kk X) fd ps ms.length [] ix dds) (hix : ix.length + 1 = ps.length) (tk : L2N.Takes X W) (ha : SAL X W (e :: es) (mal ms)) (hdb : (cn == ("__debug__" : Str)) = false := by decide)
    (he : starEach (e :: es) X.env = (false, eval e X.env) :: starEach es X.env := by rfl) (hpl : (backTo pos (starEach es X.env)).any (·.1) = false := by rfl) :
    SE X W (.Call (.Name cn p) (e :: es) [] pos) (mkK cn den ix dds (mal ms) (mal [])) := by
  refine ⟨fun pins sh σ H Q I h => ?_⟩
  obtain ⟨F, adr, s, ab, po⟩ := h
  refine wpAny_Call_Name_kw (ld_glob I hg hm ?_ hdb)
  have hA := ha.run pos pins sh σ H _ I ⟨F, adr, s, ab, PostG.bindE po⟩
  refine PySem.W.callWith_K (h₀ := X.base) I.ok.mod.kin M.kp (thn hA fun us s1 ⟨vs, H1, I1, rv, F1, adr1, ds, s1', e1, st1, ab1, rp1, po1⟩ => ⟨I1.kIn, ?_⟩) he hpl
  exact run_mkN (ws := []) (zs := []) (es := []) (n := ms.length) (ks := []) bl M G hr hgd hb hix tk I1 rv .nil (mal_len e1) rfl ab1 rp1 rfl po1
end
theorem FnGN.blind {P : Program} {w : World} {K : PySem.W.Frag} {mg : Str → Option Value} {base : Heap} {k n : Nat} {f : Addr} {fd : FuncData} {ps : List Str} {K0 : KK} {cn : Str} {den : DenI} (G : FnGN P w K mg base k f fd ps (spI K0 cn n den)) : FnGN P w K mg base k f fd ps (spI K0 cn n (blindOf den)) :=
  ⟨fun vs H Q E h => G.len vs H Q E (spI_blind h), fun A outer s H args us vs Q E hr hg e0 hb rv h => G.run A outer s H args us vs Q E hr hg e0 hb rv (spI_blind h)⟩
theorem mkp_N {X : Cx} {pins : List (Addr × Obj)} {σ : L2.St} {Q : XK} {a C d : Addr} {H2 : Hp} {s' : Shared} (h : MkP X pins σ Q (.ref a) s') (hok : HOk X.prog X.w H2 s'.heap) (e : H2 a = some (exo a C (some d))) : L2N.MkP X pins σ Q (.ref a) s' ∧ L2H.Six (.ref a) s' := by
  obtain ⟨a', oe, vs, sI, H', cls, dd, e1, h1, h2, h3, h4, h5, h6, h7, h8, h9, h10, h11, h12⟩ := h
  cases e1
  obtain ⟨t1, ho⟩ := exo_at hok e
  rw [ho] at h4
  cases h4
  refine ⟨⟨a, _, vs, sI, H', cls, dd, rfl, h1, h2, h3, ho, ⟨h5.1, h5.2, fun vs hv => ?_⟩, h6, h7, h8, h9, h10, h11, h12⟩, fun a' oe' vs' q1 q2 q3 => ?_⟩
  · cases hv; rfl
  · cases q1
    rw [ho] at q2
    cases q2
    cases q3
    simp
section
variable {X : Cx} {W : WX} {cn f sf y x : Str} {C fI : Addr} {te : TE} {B newId initId : String} {bmB : List Value} {k j : Nat} {fd : FuncData} {e : Expr} {m : M D} {p p2 pos pos' : Pos} {txt : Str}
theorem pmk_oxN (xb : XB B newId initId bmB) (T : Ox X.K C bmB newId) (iC : PySem.W.findIn X.K (.ref C) "__init__" = some (some (.ref fI))) (tI : PySem.W.typeIn X.K (.ref fI) = some (.type "function"))
    (G : FnG X.prog X.w X.K X.mg X.base k fI fd [sf, y] (spX C f)) (hr : Room (k + 1) X.A) (hgd : X.A.guards = some []) (hb : Binds X.K fd [sf, y] []) (hg : Gl X x) (hm : X.mg x = some (.ref C)) (he : PE X e te) (htm : ∀ (σ : L2.St) (H : Hp) (Q Q' : VK), te σ H Q → (∀ v H1, Q v H1 → Q' v H1) → te σ H Q')
    (hdb : (x == ("__debug__" : Str)) = false := by decide) (hst : starEach [e] X.env = (false, eval e X.env) :: starEach [] X.env := by rfl) :
    L2N.PMk X (.Call (.Name x p) [e] [] pos) (fun σ H Q => te σ H fun v H1 => ∀ d, H1 d = none → Q (.ref C) (some d) (upd H1 d (.xd [(f, v)]))) := by
  intro pins s σ H Q I h
  refine wpAny_Call_Name_kw (ld_glob I hg hm ?_ hdb)
  have ha : PA X [e] (tCons te tNil) := pa_cons he pa_nil hst
  refine PySem.W.callWith_K (h₀ := X.base) I.ok.mod.kin T.kC (thn (ha.run pos pins s σ H (fun vs H1 => ∃ v, vs = [v] ∧ ∀ d, H1 d = none → Q (.ref C) (some d) (upd H1 d (.xd [(f, v)]))) I (htm _ _ _ _ h fun v H1 q => ⟨v, rfl, q⟩)) fun us s1 ⟨vs, H1, I1, r1, v, ev, q1⟩ => ⟨I1.kIn, ?_⟩) hst rfl
  subst ev
  cases r1 with
  | @cons _ u0 _ ur ra rn =>
    cases rn
    show wpAny _ _ (call (.ref C) [u0]) _ _ _
    obtain ⟨nm, N, qn, bs, bm, hdct, sn, sub, ab, col, dd, k0, k1, k2, k3, k5, hC, hT⟩ := PySem.W.excInit_of I1.kIn T.ini
    obtain ⟨hp, g, dr, tk, os⟩ := s1
    have hsz : hp.objs.size ≤ hp.objs.size + 1 := Nat.le_succ _
    have hn : H1 (hp.objs.size + 1) = none := I1.hok.fresh hsz
    have kk : ∀ b o, hp.get? b = some o → ((hp.push (PySem.W.kdv_tup [u0])).push (PySem.HandSPX.excO C hp.objs.size)).get? b = some o := fun b o e => Heap.get?_push_of_some _ (Heap.get?_push_of_some _ e)
    have hget : ((hp.push (PySem.W.kdv_tup [u0])).push (PySem.HandSPX.excO C hp.objs.size)).get? (hp.objs.size + 1) = some (PySem.HandSPX.excO C hp.objs.size) := by heap_get
    have I2 : Inv X pins σ (upd H1 (hp.objs.size + 1) (exo (hp.objs.size + 1) C none)) ⟨(hp.push (PySem.W.kdv_tup [u0])).push (PySem.HandSPX.excO C hp.objs.size), g, dr, tk, os⟩ :=
      I1.laid (t' := tk) (a := hp.objs.size + 1) (o := exo (hp.objs.size + 1) C none) (h' := (hp.push (PySem.W.kdv_tup [u0])).push (PySem.HandSPX.excO C hp.objs.size)) kk hsz (exo_ok hget)
    have hg2 : (X.A.under (.builtin "type.__call__" ⟨.ref C :: [u0], []⟩)).guards = some [] := by
      rw [← hgd]
      first | rfl | simp [Around.under, Code.guards, pushGuards, hgd, Code.isGuard, guardIds]
    refine wpAny_call (PySem.HandSPX.call_own xb.base hT hC (PySem.W.looks_findIn I1.kIn iC) (fun self => PySem.W.bind_fn I1.kIn self tI) (by show 1 ≤ sizeLine; rw [sizeLine_eq]; decide)
      (codeAny_mono (G.run _ X.stack _ _ ⟨[Value.ref (hp.objs.size + 1), u0], []⟩ [Value.ref (hp.objs.size + 1), u0] [V.ref (hp.objs.size + 1), v] (fun w H2 => w = .non ∧ ∃ d, H1 d = none ∧ d ≠ hp.objs.size + 1 ∧ H2 = upd (upd (upd H1 (hp.objs.size + 1) (exo (hp.objs.size + 1) C none)) d (exd d [(f, v)])) (hp.objs.size + 1) (exo (hp.objs.size + 1) C (some d))) (fun _ _ _ => False) (hr.make C [u0] []) hg2 (I2.env0.make C [u0] []) (hb _ [Value.ref (hp.objs.size + 1), u0] I2.kIn rfl) (.cons rfl (.cons ra .nil))
        ⟨_, _, rfl, upd_same, fun dx n ne => ⟨rfl, dx, by rw [upd_ne ne] at n; exact n, ne, rfl⟩⟩) fun r s' hq => ?_))
    cases r with
    | error er => exact takesF er s' (XE.of_call I2 (fun _ _ _ h => h) hq)
    | ok fl =>
      cases fl with
      | ret u =>
        obtain ⟨w, H2, os2, bare2, un2, hok2, rv, ev, d, hd1, hne, e2⟩ := hq
        subst ev
        obtain ⟨h2, g2, d2, t2, os'⟩ := s'
        refine ⟨rv, (mkp_N (C := C) (d := d) (mk_end (fs := [(f, v)]) (raises_own T.exC T.tyC) I1 hsz kk un2 hok2 os2 bare2 (by rw [e2, upd_same]) (by rw [e2, upd_ne hne, upd_same]) hd1 ?_) hok2 (by rw [e2, upd_same])).1⟩
        have eq : upd (del H2 (hp.objs.size + 1)) d (.xd [(f, v)]) = upd H1 d (.xd [(f, v)]) := by
          funext b
          by_cases hb : b = d
          · rw [hb, upd_same, upd_same]
          · rw [upd_ne hb, upd_ne hb]
            by_cases hb2 : b = hp.objs.size + 1
            · rw [hb2, del_same, hn]
            · rw [del_ne hb2, e2, upd_ne hb2, upd_ne hb, upd_ne hb2]
        rw [eq]
        exact q1 d hd1
      | next => exact hq.elim
      | brk => exact hq.elim
      | cont => exact hq.elim
theorem ss_raise0N (hc : X.calm = true) (tk : L2N.Takes X W) (xb : XB B newId initId bmB) (q : PySem.W.excIn X.K (He.ga X.K cn) bmB newId = true) (kC : PySem.W.keepIn X.K (.ref (He.ga X.K cn)) = true) (exC : PySem.W.subIn X.K (.ref (He.ga X.K cn)) (.type "BaseException") = some true)
    (tyC : PySem.W.typeIn X.K (.ref (He.ga X.K cn)) = some (.type "type")) (hg : Gl X cn) (hm : X.mg cn = some (.ref (He.ga X.K cn))) (hdb : (cn == ("__debug__" : Str)) = false := by decide) :
    SS X W (.Raise (some (.Call (.Name cn p) [.Constant (.str txt) j p2] [] pos)) none pos') (sraise0 cn) := PS.imp (L2N.ps_raise hc tk (L2N.pmk_own xb.base q hm kC (raises_own exC tyC) hg hdb)) fun E σ H t => by
  obtain ⟨F, adr, s, ab, po⟩ := t
  exact po _ _ σ F adr H .refl ab ⟨rfl, rfl⟩
theorem ss_raise1N (hc : X.calm = true) (tk : L2N.Takes X W) (xb : XB B newId initId bmB) (T : Ox X.K (He.ga X.K cn) bmB newId) (iC : PySem.W.findIn X.K (.ref (He.ga X.K cn)) "__init__" = some (some (.ref fI))) (tI : PySem.W.typeIn X.K (.ref fI) = some (.type "function"))
    (G : FnG X.prog X.w X.K X.mg X.base k fI fd [sf, y] (spX (He.ga X.K cn) f)) (hr : Room (k + 1) X.A) (hgd : X.A.guards = some []) (hb : Binds X.K fd [sf, y] []) (hg : Gl X cn) (hm : X.mg cn = some (.ref (He.ga X.K cn))) (he : SE X W e m)
    (hdb : (cn == ("__debug__" : Str)) = false := by decide) (hst : starEach [e] X.env = (false, eval e X.env) :: starEach [] X.env := by rfl) :
    SS X W (.Raise (some (.Call (.Name cn p) [e] [] pos)) none pos') (sraise1 cn f m) :=
  PS.imp (L2N.ps_raise hc tk (pmk_oxN xb T iC tI G hr hgd hb hg hm he (fun σ H Q Q' ⟨F, adr, s, ab, po⟩ q => ⟨F, adr, s, ab, PostG.imp po q⟩) hdb hst)) fun E σ H t => by
    obtain ⟨F, adr, s, ab, po⟩ := t
    refine ⟨F, adr, s, ab, PostG.imp (t_stl ab po) ?_⟩
    rintro v H1 ⟨F1, adr1, d1, s1, st1, ab1, rp1, po1⟩ dx hdx
    obtain ⟨z1, z2⟩ := ab1.alloc (o := .xd [(f, v)]) hdx
    exact po1 _ _ σ _ adr1 _ z1 z2 ⟨rfl, dx, v, rfl, upd_same, rp1.mono z1.ex z1.pre⟩
end
end Bx
namespace Bx
open PySem L2 PySem.Spec PyProof.Rows
theorem fnH_exc {P : Program} {w : World} {K : PySem.W.Frag} {mg : Str → Option Value} {base : Heap} {fI : Addr} {x qual : Str} {params : Arguments} {body : List Stmt} {scope : Scope} {dvs : List V} {kws : List (Str × V)} {fd : FuncData}
    {C CB : Addr} {f bn sf y txt : Str} {B newId initId : String} {bmB : List Value} {j : Nat} {p1 p2 p3 p4 p5 p6 q1 q2 q3 q4 : Pos}
    (D : FunD K x qual params body scope dvs kws fI fd) (S : FnScope [sf, y] [sf, y] scope)
    (hbody : body = [.Expr (.Call (.Attribute (.Name bn p1) "__init__" p2) [.Name sf p3, .Constant (.str txt) j p4] [] p5) p6, .Assign [.Attribute (.Name sf q1) f q2] (.Name y q3) q4])
    (xb : XB B newId initId bmB) (T : Ox K C bmB newId) (hno : PySem.W.findIn K (.ref C) f = some none) (hm : mg bn = some (.ref CB)) (rd : ClX.CRead K CB (.type "type")) (at_ : PySem.W.findCls K (.ref CB) (.type "type") "__init__" = some (.val (.builtin initId)))
    (hg : scope.names.lookup bn = some .globalImplicit) (hv : scope.names.lookup sf = some .local) (hv' : scope.names.lookup y = some .local)
    (hd1 : (sf == ("__debug__" : Str)) = false) (hd2 : (sf == ("__classdict__" : Str)) = false) (hd1' : (y == ("__debug__" : Str)) = false) (hd2' : (y == ("__classdict__" : Str)) = false) (hdb : (bn == ("__debug__" : Str)) = false)
    (hc : ∀ env : Env, ∃ pl : Sem Bool, eval (.Call (.Attribute (.Name bn p1) "__init__" p2) [.Name sf p3, .Constant (.str txt) j p4] [] p5) env = (do
      let ov ← eval (.Name bn p1) env
      standAt p2.atName
      let (f, first) ← holding [ov] (getMethod ov "__init__" pl)
      callWith p5 f first (backTo p5 (starEach [.Name sf p3, .Constant (.str txt) j p4] env)) (backToKw p5 (keywordEach [] env)))) :
    L2H.FnH P w K mg base (L2.CX P w) 2 fI fd [sf, y] (spX C f) := by
  subst hbody
  obtain ⟨oc, od, dV, kV, doc, pm, an, cdv, ct, osl, rfl, lk, hcd, _, _⟩ := D.ex
  refine L2H.fn_ofH lk hcd S (fun vs H Q E h => by obtain ⟨a, v, rfl, _⟩ := h; rfl) fun A outer s H vs Q E pp hot hr hsp => ?_
  obtain ⟨a, v, rfl, ea, q⟩ := hsp
  obtain ⟨pl, hc⟩ := hc (L2H.cxH (L2.CX P w) P w K mg base [sf, y] qual scope fI cdv A outer s H E pp).env
  refine ⟨_, pss_cons (ps_expr (pe_xinit (i := 0) (C := C) xb T hg hm rd at_ rfl (.inl hv) hd1 hd2 hdb hc) rfl) (pss_one (ps_xst (i := 0) (k := 1) (C := C) xb T hno rfl (.inl hv) hd1 hd2 rfl (.inl hv') hd1' hd2' rfl)), ?_⟩
  exact ⟨a, rfl, ea, a, v, rfl, rfl, ea, q⟩
section
variable {X : Cx} {W : WX} {cn f sf y x : Str} {C fI : Addr} {te : TE} {B newId initId : String} {bmB : List Value} {k j : Nat} {fd : FuncData} {e : Expr} {m : M D} {p p2 pos pos' cpos : Pos} {txt : Str}
theorem pmk5_ox (xb : XB B newId initId bmB) (T : Ox X.K C bmB newId) (iC : PySem.W.findIn X.K (.ref C) "__init__" = some (some (.ref fI))) (tI : PySem.W.typeIn X.K (.ref fI) = some (.type "function"))
    (G : L2H.FnH X.prog X.w X.K X.mg X.base (L2.CX X.prog X.w) k fI fd [sf, y] (spX C f)) (hr : L2H.RoomH (k + 1) X.A) (hot : L2H.HotC X) (hb : Binds X.K fd [sf, y] []) (hg : Gl X x) (hm : X.mg x = some (.ref C)) (he : PE X e te) (htm : ∀ (σ : L2.St) (H : Hp) (Q Q' : VK), te σ H Q → (∀ v H1, Q v H1 → Q' v H1) → te σ H Q')
    (hdb : (x == ("__debug__" : Str)) = false := by decide) (hst : starEach [e] X.env = (false, eval e X.env) :: starEach [] X.env := by rfl) :
    L2H.PMk5 X (.Call (.Name x p) [e] [] pos) (fun σ H Q => te σ H fun v H1 => ∀ d, H1 d = none → Q (.ref C) (some d) (upd H1 d (.xd [(f, v)]))) := by
  intro pins s σ H Q I h
  refine wpAny_Call_Name_kw (ld_glob I hg hm ?_ hdb)
  have ha : PA X [e] (tCons te tNil) := pa_cons he pa_nil hst
  refine PySem.W.callWith_K (h₀ := X.base) I.ok.mod.kin T.kC (thn (ha.run pos pins s σ H (fun vs H1 => ∃ v, vs = [v] ∧ ∀ d, H1 d = none → Q (.ref C) (some d) (upd H1 d (.xd [(f, v)]))) I (htm _ _ _ _ h fun v H1 q => ⟨v, rfl, q⟩)) fun us s1 ⟨vs, H1, I1, r1, v, ev, q1⟩ => ⟨I1.kIn, ?_⟩) hst rfl
  subst ev
  cases r1 with
  | @cons _ u0 _ ur ra rn =>
    cases rn
    show wpAny _ _ (call (.ref C) [u0]) _ _ _
    obtain ⟨nm, N, qn, bs, bm, hdct, sn, sub, ab, col, dd, k0, k1, k2, k3, k5, hC, hT⟩ := PySem.W.excInit_of I1.kIn T.ini
    obtain ⟨hp, g, dr, tk, os⟩ := s1
    have hsz : hp.objs.size ≤ hp.objs.size + 1 := Nat.le_succ _
    have hn : H1 (hp.objs.size + 1) = none := I1.hok.fresh hsz
    have kk : ∀ b o, hp.get? b = some o → ((hp.push (PySem.W.kdv_tup [u0])).push (PySem.HandSPX.excO C hp.objs.size)).get? b = some o := fun b o e => Heap.get?_push_of_some _ (Heap.get?_push_of_some _ e)
    have hget : ((hp.push (PySem.W.kdv_tup [u0])).push (PySem.HandSPX.excO C hp.objs.size)).get? (hp.objs.size + 1) = some (PySem.HandSPX.excO C hp.objs.size) := by heap_get
    have I2 : Inv X pins σ (upd H1 (hp.objs.size + 1) (exo (hp.objs.size + 1) C none)) ⟨(hp.push (PySem.W.kdv_tup [u0])).push (PySem.HandSPX.excO C hp.objs.size), g, dr, tk, os⟩ :=
      I1.laid (t' := tk) (a := hp.objs.size + 1) (o := exo (hp.objs.size + 1) C none) (h' := (hp.push (PySem.W.kdv_tup [u0])).push (PySem.HandSPX.excO C hp.objs.size)) kk hsz (exo_ok hget)
    obtain ⟨pp, hot1, hotm⟩ := hot
    obtain ⟨g1, g2, g3, g4, g5⟩ := I2.pin pp (List.mem_append_left _ hotm)
    have hpin : L2H.PinOk X.stack (upd H1 (hp.objs.size + 1) (exo (hp.objs.size + 1) C none)) ⟨(hp.push (PySem.W.kdv_tup [u0])).push (PySem.HandSPX.excO C hp.objs.size), g, dr, tk, os⟩ pp := ⟨g1, g2, fun z => (List.mem_cons.mp (I2.stkSub pp.1 z)).elim g3 g4, g5⟩
    refine wpAny_call (PySem.HandSPX.call_own xb.base hT hC (PySem.W.looks_findIn I1.kIn iC) (fun self => PySem.W.bind_fn I1.kIn self tI) (by show 1 ≤ sizeLine; rw [sizeLine_eq]; decide)
      (codeAny_mono (G.run _ X.stack _ _ ⟨[Value.ref (hp.objs.size + 1), u0], []⟩ [Value.ref (hp.objs.size + 1), u0] [V.ref (hp.objs.size + 1), v] (fun w H2 => w = .non ∧ ∃ d, H1 d = none ∧ d ≠ hp.objs.size + 1 ∧ H2 = upd (upd (upd H1 (hp.objs.size + 1) (exo (hp.objs.size + 1) C none)) d (exd d [(f, v)])) (hp.objs.size + 1) (exo (hp.objs.size + 1) C (some d))) (fun _ _ _ => False) pp (hr.make C [u0] []) hot1 hpin (I2.env0.make C [u0] []) (hb _ [Value.ref (hp.objs.size + 1), u0] I2.kIn rfl) (.cons rfl (.cons ra .nil))
        ⟨_, _, rfl, upd_same, fun dx n ne => ⟨rfl, dx, by rw [upd_ne ne] at n; exact n, ne, rfl⟩⟩) fun r s' hq => ?_))
    cases r with
    | error er => exact takesF er s' (XE.of_call I2 (fun _ _ _ h => h) hq)
    | ok fl =>
      cases fl with
      | ret u =>
        obtain ⟨w, H2, os2, bare2, un2, hok2, rv, ev, d, hd1, hne, e2⟩ := hq
        subst ev
        obtain ⟨h2, g2, d2, t2, os'⟩ := s'
        refine ⟨rv, mkp_N (C := C) (d := d) (mk_end (fs := [(f, v)]) (raises_own T.exC T.tyC) I1 hsz kk un2 hok2 os2 bare2 (by rw [e2, upd_same]) (by rw [e2, upd_ne hne, upd_same]) hd1 ?_) hok2 (by rw [e2, upd_same])⟩
        have eq : upd (del H2 (hp.objs.size + 1)) d (.xd [(f, v)]) = upd H1 d (.xd [(f, v)]) := by
          funext b
          by_cases hb : b = d
          · rw [hb, upd_same, upd_same]
          · rw [upd_ne hb, upd_ne hb]
            by_cases hb2 : b = hp.objs.size + 1
            · rw [hb2, del_same, hn]
            · rw [del_ne hb2, e2, upd_ne hb2, upd_ne hb, upd_ne hb2]
        rw [eq]
        exact q1 d hd1
      | next => exact hq.elim
      | brk => exact hq.elim
      | cont => exact hq.elim
theorem ss_raise1H (hot : L2H.HotC X) (tk : Takes X W) (xb : XB B newId initId bmB) (T : Ox X.K (He.ga X.K cn) bmB newId) (iC : PySem.W.findIn X.K (.ref (He.ga X.K cn)) "__init__" = some (some (.ref fI))) (tI : PySem.W.typeIn X.K (.ref fI) = some (.type "function"))
    (G : L2H.FnH X.prog X.w X.K X.mg X.base (L2.CX X.prog X.w) k fI fd [sf, y] (spX (He.ga X.K cn) f)) (hr : L2H.RoomH (k + 1) X.A) (hb : Binds X.K fd [sf, y] []) (hg : Gl X cn) (hm : X.mg cn = some (.ref (He.ga X.K cn))) (he : SE X W e m)
    (hdb : (cn == ("__debug__" : Str)) = false := by decide) (hst : starEach [e] X.env = (false, eval e X.env) :: starEach [] X.env := by rfl) :
    SS X W (.Raise (some (.Call (.Name cn p) [e] [] pos)) (some (.Constant .none j cpos)) pos') (sraise1 cn f m) :=
  PS.imp (L2H.ps_raiseHN hot tk (pmk5_ox xb T iC tI G hr hot hb hg hm he (fun σ H Q Q' ⟨F, adr, s, ab, po⟩ q => ⟨F, adr, s, ab, PostG.imp po q⟩) hdb hst)) fun E σ H t => by
    obtain ⟨F, adr, s, ab, po⟩ := t
    refine ⟨F, adr, s, ab, PostG.imp (t_stl ab po) ?_⟩
    rintro v H1 ⟨F1, adr1, d1, s1, st1, ab1, rp1, po1⟩ dx hdx
    obtain ⟨z1, z2⟩ := ab1.alloc (o := .xd [(f, v)]) hdx
    exact po1 _ _ σ _ adr1 _ z1 z2 ⟨rfl, dx, v, rfl, upd_same, rp1.mono z1.ex z1.pre⟩
end
def stryX (tbl : List (Str × Bool)) (mb ms : MS) : MS := fun s => match mb s with
  | .exc x s1 => match tbl.lookup x.cls with
    | some true => ms s1
    | some false => .exc x s1
    | none => .bad
  | r => r
theorem ss_tryX {X : Cx} {W : WX} {x1 : Str} {body suite : List Stmt} {b₀ : Stmt} {np1 pos pos' : Pos} {mb ms : MS} {tbl : List (Str × Bool)} (hs : X.stack = X.env :: X.outer) (hf : X.env.frame = some X.env.locals)
    (nm : Names X x1 (.ref (He.ga X.K x1))) (hp : ∀ (hd : Option Value), PassesOwnAt (model X.prog X.w) (X.A.mark hd) X.A X.env X.xe) (tk : Takes X W)
    (hb : ∀ (W : WX) (pn : List (Addr × Obj)) (xe : Value → Shared → Prop), L2N.Takes (X.tr pn xe) W → SB (X.tr pn xe) W body mb)
    (hsu : ∀ (a : Addr) (oe : Obj) (pn : List (Addr × Obj)), Takes (L2H.suiteX X a ((a, oe) :: pn)) W → L2H.HotC (L2H.suiteX X a ((a, oe) :: pn)) → SB (L2H.suiteX X a ((a, oe) :: pn)) W (b₀ :: suite) ms)
    (ht : tbl.all fun p => decide (PySem.W.exmOne X.K (.ref (He.ga X.K p.1)) (.ref (He.ga X.K x1)) = some p.2)) :
    SS X W (.Try body [.ExceptHandler (some (.Name x1 np1)) none (b₀ :: suite) pos'] [] [] pos) (stryX tbl mb ms) :=
  PS.imp (L2H.ps_try_onlyX (tb := fun W => tS (kk X) W mb) (ts := fun _ _ _ => tS (kk X) W ms) hs hf nm hp tk (fun W pn xe t _ _ => hb W pn xe t) (fun a oe _ _ pn _ _ t h => hsu a oe pn t h)) fun D σ H t => by
    obtain ⟨F, adr, s, ab, po⟩ := t
    refine ⟨F, adr, s, ab, ?_⟩
    unfold stryX at po
    cases e : mb s with
    | exc x s1 =>
      rw [e] at po
      intro cls dd σ1 F1 adr1 H1 st ab1 rp
      obtain ⟨rfl, rp2⟩ := id rp
      cases el : tbl.lookup x.cls with
      | none => simp only [el] at po; exact po.elim
      | some b =>
        have hx := of_decide_eq_true (List.all_eq_true.mp ht _ (lookup_mem el))
        cases b with
        | true =>
          simp only [el] at po
          exact ⟨true, hx, fun _ a _ => ⟨F1, adr1, s1, ab1, PostS.from st po⟩, fun z => Bool.noConfusion z⟩
        | false =>
          simp only [el] at po
          exact ⟨false, hx, fun z => Bool.noConfusion z, fun _ => po _ _ σ1 F1 adr1 H1 st ab1 rp⟩
    | _ => rw [e] at po; exact po
end Bx
namespace Bx
end Bx
namespace Bx
open PySem PySem.W L2 HandSHeadRun
end Bx
namespace Bx
open PySem L2 PySem.Spec PyProof.Rows
end Bx
namespace Bx
open PySem L2 PySem.Spec PyProof.Rows PySem.SeqAt
end Bx
namespace Bx
open PySem L2 PySem.Spec PyProof.Rows PySem.SeqAt
end Bx
namespace Bx
open PySem L2 PySem.Spec PyProof.Rows PySem.SeqAt
open AutoSeq1 (wpAny_loadPart')
open MeetsSeq MeetsSeq2 SeqRoads2
end Bx
namespace Bx
open PySem L2 PySem.Spec PyProof.Rows PySem.SeqAt
end Bx
namespace Bx
open PySem L2
section
variable {s : S} {ρ : List Sl} {μ μ' : List MO} {h j : Nat} {cn f : Str} {fs : List (Str × D)} {d x : D} {den : Den} {xs : List D}
@[simp] theorem wE_mkR {dI : DenI} {ix : List Nat} {dds : List D} {p k : M (List D)} {Q : R D → Prop} : wE (mkR cn dI ix dds p k) s Q = wE p s (kB (fun ds => bnd k fun es => makeR cn dI (pick .non ix (ds ++ es ++ dds))) Q) := id rfl
end
end Bx
namespace K08
open PySem PySem.Spec PyProof.Rows L2 Bx
def top (i : Nat) : Stmt := PySem.Challenge.pw_benchstretch_k08_whole_any_text_of_a_ben.main.body.getD i (.Pass ⟨0, 0, 0, 0⟩)
def clsB : Stmt → List Stmt
  | .ClassDef (body := b) .. => b
  | _ => []
def isC : List Str := ["Bench"]
abbrev s__law_draw : Stmt := top 25
def d__law_draw : He.DefD := ⟨("_law_draw", none), "_law_draw", "_law_draw", defArgs s__law_draw, defBody s__law_draw, defScope s__law_draw, [], []⟩
theorem sc__law_draw : FnScope ["_law_hand_here", "_law_top", "_law_digit", "_law_state"] ["_law_hand_here", "_law_top"] (defScope s__law_draw) := ⟨rfl, rfl, rfl, by decide +kernel, rfl, by decide +kernel, by decide +kernel⟩
noncomputable def b__law_draw : MS := sq (ssub (bin addD (bin ixD (var 0) (con (.int 2))) (con (.int 1))) (var 0) (con (.int 2)))
  (sq (sif (tru (bin gtD (bin ixD (var 0) (con (.int 0))) (con (.int 0)))) (sq (sasg (gtupG [gsub (var 0) (con (.int 0)), gset 2]) (bnd (margs [bin ixD (var 0) (con (.int 0)), var 1]) (f2 divD)))
  (sret (var 2))) (skip))
  (sq (sset 3 (bin modD (bin ixD (var 0) (con (.int 1))) (con (.int 1000000123))))
  (sq (ssub (bin addD (bin mulD (var 3) (bin addD (bin modD (var 3) (con (.int 46049))) (con (.int 30013)))) (bin mulD (con (.int 80051)) (bin ixD (var 0) (con (.int 2))))) (var 0) (con (.int 1)))
  (sret (bin modD (bin fdivD (bin modD (bin ixD (var 0) (con (.int 1))) (con (.int 1000000123))) (con (.int 16))) (var 1))))))
noncomputable def den__law_draw : Den := runB 4 b__law_draw
abbrev s__law_row : Stmt := top 26
def d__law_row : He.DefD := ⟨("_law_row", none), "_law_row", "_law_row", defArgs s__law_row, defBody s__law_row, defScope s__law_row, [], []⟩
theorem sc__law_row : FnScope ["_law_hand_here", "_law_wide", "_law_names", "_law_call", "_law_low", "_law_ends", "_law_at"] ["_law_hand_here", "_law_wide"] (defScope s__law_row) := ⟨rfl, rfl, rfl, by decide +kernel, rfl, by decide +kernel, by decide +kernel⟩
noncomputable def b__law_row : MS := sq (sset 2 (mlst [con (.str "a"), con (.str "b"), con (.str "ab"), con (.str "abc"), con (.str "seats"), con (.str "abcdef"), con (.str "z"), con (.str "zz"), con (.str "cc"), con (.str "d"), con (.str "abcdefg"), con (.str "A")]))
  (sq (spar [3, 4] [.v (bin ixD (var 2) (callK den__law_draw [0, 1] [] (mal [var 0, con (.int 12)]) (mal []))), .v (callK den__law_draw [0, 1] [] (mal [var 0, var 1]) (mal []))])
  (sq (ssetO 5 (nlst [bnd (margs [var 4]) (f1 strD), bnd (margs [bin addD (var 4) (callK den__law_draw [0, 1] [] (mal [var 0, bin subD (var 1) (var 4)]) (mal []))]) (f1 strD)]))
  (sq (sset 6 (callK den__law_draw [0, 1] [] (mal [var 0, con (.int 24)]) (mal [])))
  (sq (sif (tru (bin ltD (var 6) (con (.int 2)))) (ssub (bin ixD (mlst [con (.str ""), con (.str "00"), con (.str "01"), con (.str "-1"), con (.str "12"), con (.str "x"), con (.str "13"), bnd (margs [var 1]) (f1 strD)]) (callK den__law_draw [0, 1] [] (mal [var 0, con (.int 8)]) (mal []))) (var 5) (var 6)) (skip))
  (sret (mjoin (con (.str " ")) (bin addD (mlst [var 3]) (var 5))))))))
noncomputable def den__law_row : Den := runB 7 b__law_row
abbrev s__law_bent : Stmt := top 27
def d__law_bent : He.DefD := ⟨("_law_bent", none), "_law_bent", "_law_bent", defArgs s__law_bent, defBody s__law_bent, defScope s__law_bent, [], []⟩
theorem sc__law_bent : FnScope ["_law_hand_here", "_law_lines_here", "_law_odd", "_law_at", "_law_sign"] ["_law_hand_here", "_law_lines_here"] (defScope s__law_bent) := ⟨rfl, rfl, rfl, by decide +kernel, rfl, by decide +kernel, by decide +kernel⟩
noncomputable def b__law_bent : MS := sq (sset 2 (mlst [con (.str ""), con (.str " "), con (.str "0"), con (.str "1"), con (.str "a"), con (.str "A"), con (.str "-"), con (.str "\n"), con (.str "seats"), con (.str "  "), con (.str "2"), con (.str "."), con (.str " 1"), con (.str "b 0 0"), con (.str "+"), con (.str "s")]))
  (sq (spar [3, 4] [.v (callK den__law_draw [0, 1] [] (mal [var 0, bin addD (bnd (margs [var 1]) (f1 lenD)) (con (.int 1))]) (mal [])), .v (bin ixD (var 2) (callK den__law_draw [0, 1] [] (mal [var 0, con (.int 16)]) (mal [])))])
  (sret (bin addD (bin addD (slc (var 1) .no (.yes (var 3))) (var 4)) (slc (var 1) (.yes (bin addD (var 3) (callK den__law_draw [0, 1] [] (mal [var 0, con (.int 3)]) (mal [])))) .no))))
noncomputable def den__law_bent : Den := runB 5 b__law_bent
abbrev s__law_lines : Stmt := top 28
def d__law_lines : He.DefD := ⟨("_law_lines", none), "_law_lines", "_law_lines", defArgs s__law_lines, defBody s__law_lines, defScope s__law_lines, [], []⟩
theorem sc__law_lines : FnScope ["_law_hand_here", "_law_wide", "_law_rows", "_law_turn", "_law_lines_here"] ["_law_hand_here"] (defScope s__law_lines) := ⟨rfl, rfl, rfl, by decide +kernel, rfl, by decide +kernel, by decide +kernel⟩
noncomputable def b__law_lines : MS := sq (sset 1 (bin ixD (mlst [con (.int 1), con (.int 2), con (.int 3), con (.int 4), con (.int 6), con (.int 6), con (.int 9), con (.int 12), con (.int 12)]) (callK den__law_draw [0, 1] [] (mal [var 0, con (.int 9)]) (mal []))))
  (sq (ssetO 2 (nlst [bin addD (con (.str "seats ")) (bin ixD (mlst [bnd (margs [var 1]) (f1 strD), bnd (margs [var 1]) (f1 strD), con (.str "0"), con (.str "13")]) (bin fdivD (callK den__law_draw [0, 1] [] (mal [var 0, con (.int 13)]) (mal [])) (con (.int 4))))]))
  (sq (sfor (mrange1 [callK den__law_draw [0, 1] [] (mal [var 0, con (.int 9)]) (mal [])]) (gset 3) (sexpr (mapp (var 2) (callK den__law_row [0, 1] [] (mal [var 0, var 1]) (mal [])))))
  (sq (sset 4 (mjoin (con (.str "\n")) (var 2)))
  (sret (ifD (tru (bin eqD (callK den__law_draw [0, 1] [] (mal [var 0, con (.int 2)]) (mal [])) (con (.int 1)))) (callK den__law_bent [0, 1] [] (mal [var 0, var 4]) (mal [])) (var 4))))))
noncomputable def den__law_lines : Den := runB 5 b__law_lines
abbrev s__law_hand : Stmt := top 24
def d__law_hand : He.DefD := ⟨("_law_hand", none), "_law_hand", "_law_hand", defArgs s__law_hand, defBody s__law_hand, defScope s__law_hand, [], []⟩
theorem sc__law_hand : FnScope ["_law_cell_here", "_law_digits"] ["_law_cell_here"] (defScope s__law_hand) := ⟨rfl, rfl, rfl, by decide +kernel, rfl, by decide +kernel, by decide +kernel⟩
noncomputable def b__law_hand : MS := sq (sset 1 (ifD (orT (tru (bin ltD (var 0) (con (.int 0)))) (tru (bin geD (var 0) (bin powD (con (.int 10)) (con (.int 18)))))) (bnd (margs [var 0]) (f1 absD)) (con (.int 0))))
  (sretS (nlst [var 1, bin addD (bin mulD (bin modD (var 0) (con (.int 1000000123))) (con (.int 7019))) (con (.int 4013)), con (.int 0)]))
noncomputable def den__law_hand : Den := runB 2 b__law_hand
abbrev s__law_cell : Stmt := top 23
def d__law_cell : He.DefD := ⟨("_law_cell", none), "_law_cell", "_law_cell", defArgs s__law_cell, defBody s__law_cell, defScope s__law_cell, [], []⟩
theorem sc__law_cell : FnScope ["_law_script", "_law_k", "_law_state", "_law_cell_here"] ["_law_script", "_law_k"] (defScope s__law_cell) := ⟨rfl, rfl, rfl, by decide +kernel, rfl, by decide +kernel, by decide +kernel⟩
noncomputable def b__law_cell : MS := sq (sif (tru (bin ltD (var 1) (bnd (margs [var 0]) (f1 lenD)))) (sret (bin ixD (var 0) (var 1))) (skip))
  (sq (sset 2 (bin modD (bin mulD (con (.int 50021)) (bin addD (bin addD (bin mulD (var 1) (var 1)) (bin mulD (con (.int 9)) (var 1))) (con (.int 11)))) (con (.int 1000000123))))
  (sq (sfor (mits (slc (var 0) .no (.yes (con (.int 4))))) (gset 3) (sset 2 (bin modD (bin addD (bin mulD (var 2) (con (.int 30029))) (var 3)) (con (.int 1000000123)))))
  (sret (var 2))))
noncomputable def den__law_cell : Den := runB 4 b__law_cell
abbrev s_NoText_init : Stmt := (clsB (top 7)).getD 0 (.Pass ⟨0, 0, 0, 0⟩)
def d_NoText_init : He.DefD := ⟨("NoText", some "__init__"), "__init__", "NoText.__init__", defArgs s_NoText_init, defBody s_NoText_init, defScope s_NoText_init, [], []⟩
theorem sc_NoText_init : FnScope ["self", "row"] ["self", "row"] (defScope s_NoText_init) := ⟨rfl, rfl, rfl, by decide +kernel, rfl, by decide +kernel, by decide +kernel⟩
abbrev s_is_whole : Stmt := top 9
def d_is_whole : He.DefD := ⟨("is_whole", none), "is_whole", "is_whole", defArgs s_is_whole, defBody s_is_whole, defScope s_is_whole, [], []⟩
theorem sc_is_whole : FnScope ["thing"] ["thing"] (defScope s_is_whole) := ⟨rfl, rfl, rfl, by decide +kernel, rfl, by decide +kernel, by decide +kernel⟩
noncomputable def b_is_whole : MS := sret (andD (bnd (margs [var 0, con (.ty "int")]) (f2 (isiD isC))) (notD (bnd (margs [var 0, con (.ty "bool")]) (f2 (isiD isC)))))
noncomputable def den_is_whole : Den := runB 1 b_is_whole
abbrev s_NoPeople_init : Stmt := (clsB (top 5)).getD 0 (.Pass ⟨0, 0, 0, 0⟩)
def d_NoPeople_init : He.DefD := ⟨("NoPeople", some "__init__"), "__init__", "NoPeople.__init__", defArgs s_NoPeople_init, defBody s_NoPeople_init, defScope s_NoPeople_init, [], []⟩
theorem sc_NoPeople_init : FnScope ["self", "place"] ["self", "place"] (defScope s_NoPeople_init) := ⟨rfl, rfl, rfl, by decide +kernel, rfl, by decide +kernel, by decide +kernel⟩
abbrev s_is_name : Stmt := top 10
def d_is_name : He.DefD := ⟨("is_name", none), "is_name", "is_name", defArgs s_is_name, defBody s_is_name, defScope s_is_name, [], []⟩
theorem sc_is_name : FnScope ["thing", "sign"] ["thing"] (defScope s_is_name) := ⟨rfl, rfl, rfl, by decide +kernel, rfl, by decide +kernel, by decide +kernel⟩
noncomputable def b_is_name : MS := sq (sif (orT (notT (truth (bnd (margs [var 0, con (.ty "str")]) (f2 (isiD isC))))) (notT (tru (chain leD leD (con (.int 1)) (bnd (margs [var 0]) (f1 lenD)) (con (.int 6)))))) (sret (con (.bl false))) (skip))
  (sret (bnd (margs [mcomp [1] (mits (var 0)) (Tgt.asg (.name 1)) (yes) (bin (inA false) (var 1) (con (.str "abcdefghijklmnopqrstuvwxyz")))]) (f1 allD)))
noncomputable def den_is_name : Den := runB 2 b_is_name
abbrev s_is_seat : Stmt := top 11
def d_is_seat : He.DefD := ⟨("is_seat", none), "is_seat", "is_seat", defArgs s_is_seat, defBody s_is_seat, defScope s_is_seat, [], []⟩
theorem sc_is_seat : FnScope ["thing", "seats"] ["thing", "seats"] (defScope s_is_seat) := ⟨rfl, rfl, rfl, by decide +kernel, rfl, by decide +kernel, by decide +kernel⟩
noncomputable def b_is_seat : MS := sret (andD (callK den_is_whole [0] [] (mal [var 0]) (mal [])) (chain leD ltD (con (.int 0)) (var 0) (var 1)))
noncomputable def den_is_seat : Den := runB 2 b_is_seat
abbrev s_is_stretch : Stmt := top 12
def d_is_stretch : He.DefD := ⟨("is_stretch", none), "is_stretch", "is_stretch", defArgs s_is_stretch, defBody s_is_stretch, defScope s_is_stretch, [], []⟩
theorem sc_is_stretch : FnScope ["thing", "seats", "low", "high"] ["thing", "seats"] (defScope s_is_stretch) := ⟨rfl, rfl, rfl, by decide +kernel, rfl, by decide +kernel, by decide +kernel⟩
noncomputable def b_is_stretch : MS := sq (sif (orT (notT (truth (bnd (margs [var 0, con (.ty "tuple")]) (f2 (isiD isC))))) (tru (bin neD (bnd (margs [var 0]) (f1 lenD)) (con (.int 2))))) (sret (con (.bl false))) (skip))
  (sq (sasg (gtup [2, 3]) (var 0))
  (sret (andD (callK den_is_seat [0, 1] [] (mal [var 2, var 1]) (mal [])) (andD (callK den_is_seat [0, 1] [] (mal [var 3, var 1]) (mal [])) (bin leD (var 2) (var 3))))))
noncomputable def den_is_stretch : Den := runB 4 b_is_stretch
abbrev s_is_person : Stmt := top 13
def d_is_person : He.DefD := ⟨("is_person", none), "is_person", "is_person", defArgs s_is_person, defBody s_is_person, defScope s_is_person, [], []⟩
theorem sc_is_person : FnScope ["thing", "seats", "name", "ends"] ["thing", "seats"] (defScope s_is_person) := ⟨rfl, rfl, rfl, by decide +kernel, rfl, by decide +kernel, by decide +kernel⟩
noncomputable def b_is_person : MS := sq (sif (orT (notT (truth (bnd (margs [var 0, con (.ty "tuple")]) (f2 (isiD isC))))) (tru (bin neD (bnd (margs [var 0]) (f1 lenD)) (con (.int 3))))) (sret (con (.bl false))) (skip))
  (sq (sasg (gstar 1 [2, 3]) (var 0))
  (sret (andD (callK den_is_name [0] [] (mal [var 2]) (mal [])) (callK den_is_stretch [0, 1] [] (mal [bnd (margs [var 3]) (f1 tupleD), var 1]) (mal [])))))
noncomputable def den_is_person : Den := runB 4 b_is_person
abbrev s_first_odd : Stmt := top 14
def d_first_odd : He.DefD := ⟨("first_odd", none), "first_odd", "first_odd", defArgs s_first_odd, defBody s_first_odd, defScope s_first_odd, [], []⟩
theorem sc_first_odd : FnScope ["people", "seats", "known", "number", "thing"] ["people", "seats"] (defScope s_first_odd) := ⟨rfl, rfl, rfl, by decide +kernel, rfl, by decide +kernel, by decide +kernel⟩
noncomputable def b_first_odd : MS := sq (ssetO 2 (nset))
  (sq (sfor (menum (var 0)) (gtup [3, 4]) (sq (sif (orT (notT (truth (callK den_is_person [0, 1] [] (mal [var 4, var 1]) (mal [])))) (tru (bin (inA false) (bin ixD (var 4) (con (.int 0))) (var 2)))) (sret (var 3)) (skip))
  (sexpr (msadd (var 2) (bin ixD (var 4) (con (.int 0)))))))
  (sret (con .non)))
noncomputable def den_first_odd : Den := runB 5 b_first_odd
abbrev s_Bench_init : Stmt := (clsB (top 15)).getD 0 (.Pass ⟨0, 0, 0, 0⟩)
def d_Bench_init : He.DefD := ⟨("Bench", some "__init__"), "__init__", "Bench.__init__", defArgs s_Bench_init, defBody s_Bench_init, defScope s_Bench_init, [.adr (He.dflAt ("Bench", some "__init__") 0)], []⟩
theorem sc_Bench_init : FnScope ["self", "seats", "people", "place"] ["self", "seats", "people"] (defScope s_Bench_init) := ⟨rfl, rfl, rfl, by decide +kernel, rfl, by decide +kernel, by decide +kernel⟩
noncomputable def b_Bench_init : MS := sq (sif (orT (notT (truth (callK den_is_whole [0] [] (mal [var 1]) (mal [])))) (notT (tru (chain leD leD (con (.int 1)) (var 1) (con (.int 12)))))) (sraise0 "NoSeats") (skip))
  (sq (sif (orT (notT (truth (bnd (margs [var 2, con (.ty "tuple")]) (f2 (isiD isC))))) (tru (bin gtD (bnd (margs [var 2]) (f1 lenD)) (var 1)))) (sraise1 "NoPeople" "place" (con .non)) (skip))
  (sq (sset 3 (callK den_first_odd [0, 1] [] (mal [var 2, var 1]) (mal [])))
  (sq (sif (tru (bin notND (var 3) (con .non))) (sraise1 "NoPeople" "place" (var 3)) (skip))
  (sq (sfld "Bench" "seats" (var 0) (var 1))
  (sfld "Bench" "people" (var 0) (var 2))))))
noncomputable def den_Bench_init : DenI := blindOf (runI "Bench" 4 b_Bench_init)
theorem blind_Bench_init : Blind den_Bench_init := blind_of
abbrev s_figured : Stmt := top 18
def d_figured : He.DefD := ⟨("figured", none), "figured", "figured", defArgs s_figured, defBody s_figured, defScope s_figured, [], []⟩
theorem sc_figured : FnScope ["word", "sign"] ["word"] (defScope s_figured) := ⟨rfl, rfl, rfl, by decide +kernel, rfl, by decide +kernel, by decide +kernel⟩
noncomputable def b_figured : MS := sq (sif (orT (tru (bin eqD (var 0) (con (.str "")))) (notT (truth (bnd (margs [mcomp [1] (mits (var 0)) (Tgt.asg (.name 1)) (yes) (bin (inA false) (var 1) (con (.str "0123456789")))]) (f1 allD))))) (sret (con .non)) (skip))
  (sq (sif (andT (tru (bin eqD (bin ixD (var 0) (con (.int 0))) (con (.str "0")))) (tru (bin neD (var 0) (con (.str "0"))))) (sret (con .non)) (skip))
  (sret (bnd (margs [var 0]) (f1 intT))))
noncomputable def den_figured : Den := runB 2 b_figured
abbrev s_bare_bench : Stmt := top 19
def d_bare_bench : He.DefD := ⟨("bare_bench", none), "bare_bench", "bare_bench", defArgs s_bare_bench, defBody s_bare_bench, defScope s_bare_bench, [], []⟩
theorem sc_bare_bench : FnScope ["row", "words"] ["row"] (defScope s_bare_bench) := ⟨rfl, rfl, rfl, by decide +kernel, rfl, by decide +kernel, by decide +kernel⟩
noncomputable def b_bare_bench : MS := sq (sset 1 (mspl (var 0) (con (.str " "))))
  (sq (sif (orT (tru (bin neD (bnd (margs [var 1]) (f1 lenD)) (con (.int 2)))) (tru (bin neD (bin ixD (var 1) (con (.int 0))) (con (.str "seats"))))) (sraise1 "NoText" "row" (con (.int 0))) (skip))
  (stryX [("NoSeats", true), ("NoPeople", false), ("NoText", false)] (sret (mkK "Bench" den_Bench_init [0, 1] [.tup []] (mal [callK den_figured [0] [] (mal [bin ixD (var 1) (con (.int 1))]) (mal [])]) (mal []))) (sraise1 "NoText" "row" (con (.int 0)))))
noncomputable def den_bare_bench : Den := runB 2 b_bare_bench
abbrev s_Bench_plus : Stmt := (clsB (top 15)).getD 8 (.Pass ⟨0, 0, 0, 0⟩)
def d_Bench_plus : He.DefD := ⟨("Bench", some "plus"), "plus", "Bench.plus", defArgs s_Bench_plus, defBody s_Bench_plus, defScope s_Bench_plus, [], []⟩
theorem sc_Bench_plus : FnScope ["self", "person"] ["self", "person"] (defScope s_Bench_plus) := ⟨rfl, rfl, rfl, by decide +kernel, rfl, by decide +kernel, by decide +kernel⟩
noncomputable def b_Bench_plus : MS := sret (mkK "Bench" den_Bench_init [0, 1] [] (mal [bnd (var 0) (fldD "Bench" "seats"), bin addD (bnd (var 0) (fldD "Bench" "people")) (mtup [var 1])]) (mal []))
noncomputable def den_Bench_plus : Den := runB 2 b_Bench_plus
abbrev s_with_row : Stmt := top 20
def d_with_row : He.DefD := ⟨("with_row", none), "with_row", "with_row", defArgs s_with_row, defBody s_with_row, defScope s_with_row, [], []⟩
theorem sc_with_row : FnScope ["bench", "number", "row", "words", "call", "ends"] ["bench", "number", "row"] (defScope s_with_row) := ⟨rfl, rfl, rfl, by decide +kernel, rfl, by decide +kernel, by decide +kernel⟩
noncomputable def b_with_row : MS := sq (sset 3 (mspl (var 2) (con (.str " "))))
  (sq (sif (tru (bin neD (bnd (margs [var 3]) (f1 lenD)) (con (.int 3)))) (sraise1 "NoText" "row" (var 1)) (skip))
  (sq (sasg (gstar 1 [4, 5]) (var 3))
  (stryX [("NoSeats", false), ("NoPeople", true), ("NoText", false)] (sret (methK "Bench" "plus" den_Bench_plus [0] [] (var 0) (mal [mtup [var 4, callK den_figured [0] [] (mal [bin ixD (var 5) (con (.int 0))]) (mal []), callK den_figured [0] [] (mal [bin ixD (var 5) (con (.int 1))]) (mal [])]]) (mal []))) (sraise1 "NoText" "row" (var 1)))))
noncomputable def den_with_row : Den := runB 6 b_with_row
abbrev s_read_bench : Stmt := top 21
def d_read_bench : He.DefD := ⟨("read_bench", none), "read_bench", "read_bench", defArgs s_read_bench, defBody s_read_bench, defScope s_read_bench, [], []⟩
theorem sc_read_bench : FnScope ["text", "head", "rows", "told", "number", "row"] ["text"] (defScope s_read_bench) := ⟨rfl, rfl, rfl, by decide +kernel, rfl, by decide +kernel, by decide +kernel⟩
noncomputable def b_read_bench : MS := sq (sif (notT (truth (bnd (margs [var 0, con (.ty "str")]) (f2 (isiD isC))))) (sraise1 "NoText" "row" (con (.int 0))) (skip))
  (sq (sasg (gstar 1 [1, 2]) (mspl (var 0) (con (.str "\n"))))
  (sq (sset 3 (callK den_bare_bench [0] [] (mal [var 1]) (mal [])))
  (sq (sfor (menumK 1 (var 2)) (gtup [4, 5]) (sset 3 (callK den_with_row [0, 1, 2] [] (mal [var 3, var 4, var 5]) (mal []))))
  (sret (var 3)))))
noncomputable def den_read_bench : Den := runB 6 b_read_bench
abbrev s_Bench_str : Stmt := (clsB (top 15)).getD 3 (.Pass ⟨0, 0, 0, 0⟩)
def d_Bench_str : He.DefD := ⟨("Bench", some "__str__"), "__str__", "Bench.__str__", defArgs s_Bench_str, defBody s_Bench_str, defScope s_Bench_str, [], []⟩
theorem sc_Bench_str : FnScope ["self", "name", "low", "high"] ["self"] (defScope s_Bench_str) := ⟨rfl, rfl, rfl, by decide +kernel, rfl, by decide +kernel, by decide +kernel⟩
noncomputable def b_Bench_str : MS := sret (mjoin (con (.str "\n")) (bin addD (mlst [mjs [con (.str "seats "), bnd (bnd (var 0) (fldD "Bench" "seats")) fmtD] Str.empty]) (mcomp [1, 2, 3] (mits (bnd (var 0) (fldD "Bench" "people"))) (Tgt.asg (.tup [1, 2, 3])) (yes) (mjs [bnd (var 1) fmtD, con (.str " "), bnd (var 2) fmtD, con (.str " "), bnd (var 3) fmtD] Str.empty))))
noncomputable def den_Bench_str : Den := runB 4 b_Bench_str
abbrev s__law_told : Stmt := top 33
def d__law_told : He.DefD := ⟨("_law_told", none), "_law_told", "_law_told", defArgs s__law_told, defBody s__law_told, defScope s__law_told, [], []⟩
theorem sc__law_told : FnScope ["_law_lines_here", "_law_found", "e"] ["_law_lines_here"] (defScope s__law_told) := ⟨rfl, rfl, rfl, by decide +kernel, rfl, by decide +kernel, by decide +kernel⟩
noncomputable def b__law_told : MS := sq (sset 1 (con .non))
  (sq (stryM [.as "NoText" [("NoSeats", false), ("NoPeople", false), ("NoText", true)] 2 (fun e => sret (mtup [con (.str "none"), bnd (var 2) (fldX e [("NoText", "row")] "row")]))] (sset 1 (callK den_read_bench [0] [] (mal [var 0]) (mal []))))
  (sq (sif (orT (notT (truth (bnd (margs [var 1, con (.glo "Bench")]) (f2 (isiD isC))))) (tru (bin neD (bnd (margs [var 1]) (f1 (strO "Bench" den_Bench_str))) (var 0)))) (sret (mtup [con (.str "other"), var 0])) (skip))
  (sret (mtup [con (.str "read"), bnd (var 1) (fldD "Bench" "seats"), bnd (var 1) (fldD "Bench" "people")]))))
noncomputable def den__law_told : Den := runB 3 b__law_told
abbrev s__law_is_number : Stmt := top 29
def d__law_is_number : He.DefD := ⟨("_law_is_number", none), "_law_is_number", "_law_is_number", defArgs s__law_is_number, defBody s__law_is_number, defScope s__law_is_number, [], []⟩
theorem sc__law_is_number : FnScope ["_law_word", "_law_low", "_law_high", "_law_figure"] ["_law_word", "_law_low", "_law_high"] (defScope s__law_is_number) := ⟨rfl, rfl, rfl, by decide +kernel, rfl, by decide +kernel, by decide +kernel⟩
noncomputable def b__law_is_number : MS := sret (bin (inA false) (var 0) (mcomp [3] (mrange2 [var 1, bin addD (var 2) (con (.int 1))]) (Tgt.asg (.name 3)) (yes) (bnd (margs [var 3]) (f1 strD))))
noncomputable def den__law_is_number : Den := runB 4 b__law_is_number
abbrev s__law_is_name : Stmt := top 30
def d__law_is_name : He.DefD := ⟨("_law_is_name", none), "_law_is_name", "_law_is_name", defArgs s__law_is_name, defBody s__law_is_name, defScope s__law_is_name, [], []⟩
theorem sc__law_is_name : FnScope ["_law_word", "_law_sign"] ["_law_word"] (defScope s__law_is_name) := ⟨rfl, rfl, rfl, by decide +kernel, rfl, by decide +kernel, by decide +kernel⟩
noncomputable def b__law_is_name : MS := sret (andD (chain ltD ltD (con (.int 0)) (bnd (margs [var 0]) (f1 lenD)) (con (.int 7))) (bnd (margs [mcomp [1] (mits (var 0)) (Tgt.asg (.name 1)) (yes) (bin (inA false) (var 1) (con (.str "abcdefghijklmnopqrstuvwxyz")))]) (f1 allD)))
noncomputable def den__law_is_name : Den := runB 2 b__law_is_name
abbrev s__law_person : Stmt := top 31
def d__law_person : He.DefD := ⟨("_law_person", none), "_law_person", "_law_person", defArgs s__law_person, defBody s__law_person, defScope s__law_person, [], []⟩
theorem sc__law_person : FnScope ["_law_words", "_law_wide", "_law_known", "_law_word"] ["_law_words", "_law_wide", "_law_known"] (defScope s__law_person) := ⟨rfl, rfl, rfl, by decide +kernel, rfl, by decide +kernel, by decide +kernel⟩
noncomputable def b__law_person : MS := sq (sif (orT (tru (bin neD (bnd (margs [var 0]) (f1 lenD)) (con (.int 3)))) (orT (notT (truth (callK den__law_is_name [0] [] (mal [bin ixD (var 0) (con (.int 0))]) (mal [])))) (orT (tru (bin (inA false) (bin ixD (var 0) (con (.int 0))) (var 2))) (tru (bin geD (bnd (margs [var 2]) (f1 lenD)) (var 1)))))) (sret (con (.bl false))) (skip))
  (sq (sif (notT (truth (bnd (margs [mcomp [3] (mits (slc (var 0) (.yes (con (.int 1))) .no)) (Tgt.asg (.name 3)) (yes) (callK den__law_is_number [0, 1, 2] [] (mal [var 3, con (.int 0), bin subD (var 1) (con (.int 1))]) (mal []))]) (f1 allD)))) (sret (con (.bl false))) (skip))
  (sret (bin leD (bnd (margs [bin ixD (var 0) (con (.int 1))]) (f1 intT)) (bnd (margs [bin ixD (var 0) (con (.int 2))]) (f1 intT)))))
noncomputable def den__law_person : Den := runB 4 b__law_person
abbrev s__law_due : Stmt := top 32
def d__law_due : He.DefD := ⟨("_law_due", none), "_law_due", "_law_due", defArgs s__law_due, defBody s__law_due, defScope s__law_due, [], []⟩
theorem sc__law_due : FnScope ["_law_lines_here", "_law_rows", "_law_folk", "_law_at", "_law_line", "_law_pal"] ["_law_lines_here"] (defScope s__law_due) := ⟨rfl, rfl, rfl, by decide +kernel, rfl, by decide +kernel, by decide +kernel⟩
noncomputable def b__law_due : MS := sq (sset 1 (mcomp [4] (mits (mspl (var 0) (con (.str "\n")))) (Tgt.asg (.name 4)) (yes) (mspl (var 4) (con (.str " ")))))
  (sq (sif (orT (tru (bin neD (bnd (margs [bin ixD (var 1) (con (.int 0))]) (f1 lenD)) (con (.int 2)))) (orT (tru (bin neD (bin ixD (bin ixD (var 1) (con (.int 0))) (con (.int 0))) (con (.str "seats")))) (notT (truth (callK den__law_is_number [0, 1, 2] [] (mal [bin ixD (bin ixD (var 1) (con (.int 0))) (con (.int 1)), con (.int 1), con (.int 12)]) (mal [])))))) (sret (mtup [con (.str "none"), con (.int 0)])) (skip))
  (sq (ssetO 2 (nlst []))
  (sq (sfor (mrange2 [con (.int 1), bnd (margs [var 1]) (f1 lenD)]) (gset 3) (sq (sif (notT (truth (callK den__law_person [0, 1, 2] [] (mal [bin ixD (var 1) (var 3), bnd (margs [bin ixD (bin ixD (var 1) (con (.int 0))) (con (.int 1))]) (f1 intT), mcompO 2 [5] (Tgt.asg (.name 5)) (yes) (bin ixD (var 5) (con (.int 0)))]) (mal [])))) (sret (mtup [con (.str "none"), var 3])) (skip))
  (sexpr (mapp (var 2) (mtup [bin ixD (bin ixD (var 1) (var 3)) (con (.int 0)), bnd (margs [bin ixD (bin ixD (var 1) (var 3)) (con (.int 1))]) (f1 intT), bnd (margs [bin ixD (bin ixD (var 1) (var 3)) (con (.int 2))]) (f1 intT)])))))
  (sret (mtup [con (.str "read"), bnd (margs [bin ixD (bin ixD (var 1) (con (.int 0))) (con (.int 1))]) (f1 intT), bnd (margs [var 2]) (f1 tupleD)])))))
noncomputable def den__law_due : Den := runB 6 b__law_due
abbrev s_law : Stmt := top 34
def d_law : He.DefD := ⟨("law", none), "law", "law", defArgs s_law, defBody s_law, defScope s_law, [], []⟩
theorem sc_law : FnScope ["_law_script", "_law_k", "_law_lines_here"] ["_law_script"] (defScope s_law) := ⟨rfl, rfl, rfl, by decide +kernel, rfl, by decide +kernel, by decide +kernel⟩
noncomputable def b_law : MS := sq (sfor (mrange1 [bnd (margs [con (.int 2), bnd (margs [bnd (margs [var 0]) (f1 lenD), con (.int 40)]) (f2 minD)]) (f2 maxD)]) (gset 1) (sq (sset 2 (callK den__law_lines [0] [] (mal [callK den__law_hand [0] [] (mal [callK den__law_cell [0, 1] [] (mal [var 0, var 1]) (mal [])]) (mal [])]) (mal [])))
  (sif (tru (bin neD (bnd (margs [callK den__law_told [0] [] (mal [var 2]) (mal [])]) (f1 reprB)) (bnd (margs [callK den__law_due [0] [] (mal [var 2]) (mal [])]) (f1 reprB)))) (sret (con (.bl false))) (skip))))
  (sret (con (.bl true)))
noncomputable def den_law : Den := runB 3 b_law
def fn : List He.DefD := [d__law_draw, d__law_row, d__law_bent, d__law_lines, d__law_hand, d__law_cell, d_NoText_init, d_is_whole, d_NoPeople_init, d_is_name, d_is_seat, d_is_stretch, d_is_person, d_first_odd, d_Bench_init, d_figured, d_bare_bench, d_Bench_plus, d_with_row, d_read_bench, d_Bench_str, d__law_told, d__law_is_number, d__law_is_name, d__law_person, d__law_due, d_law]
def tds : List ((Str × Option Str) × Nat) := [(("Bench", some "__init__"), 0)]
def xl0 : List (PySem.W.Frag → Bool) := [fun K => oxB K "NoText" "row" veT "ValueError.__new__", fun K => obB K "BenchError" "ValueError.__init__", fun K => o0B K "NoSeats" veT "ValueError.__new__", fun K => oxB K "NoPeople" "place" veT "ValueError.__new__", fun K => tmB K "NoSeats" [("NoSeats", true), ("NoPeople", false), ("NoText", false)]]
def xl1 : List (PySem.W.Frag → Bool) := [fun K => tmB K "NoPeople" [("NoSeats", false), ("NoPeople", true), ("NoText", false)], fun K => tmB K "NoText" [("NoSeats", false), ("NoPeople", false), ("NoText", true)], fun K => fldB K [("NoText", "row")]]
def xl : List (PySem.W.Frag → Bool) := xl0 ++ xl1
def ex0 (K : PySem.W.Frag) : Bool := (isC.all fun c => isB K c) && tds.all fun p => etB K p.1 p.2
def ex (K : PySem.W.Frag) : Bool := ex0 K && xl.all fun f => f K
structure Hyp (K : PySem.W.Frag) (mg : Str → Option Value) : Prop where
  kin : ∃ h : Heap, K.In h ∧ h.Ns mainGlobals mg
  says : He.SaysD fa fn K
  ex : ex K = true
section
variable {K : PySem.W.Frag} {mg : Str → Option Value}
theorem Hyp.glo (h : Hyp K mg) (i : Nat) {x : Str} (e : fa[i]? = some (.glo x)) : mg x = some (.ref (He.ga K x)) := let ⟨_, X, G⟩ := h.kin; He.glo_ok X G (h.says.fact i e)
theorem Hyp.free (h : Hyp K mg) (i : Nat) {x : Str} (e : fa[i]? = some (.free x)) : mg x = none := let ⟨_, X, G⟩ := h.kin; He.free_ok X G (h.says.fact i e)
theorem Hyp.int (h : Hyp K mg) (k : Nat) {x : Str} {i : Int} (e : fa[k]? = some (.int x i)) : ∃ t, mg x = some (.int i t) := let ⟨_, X, G⟩ := h.kin; He.int_ok X G (h.says.fact k e)
theorem Hyp.gstr (h : Hyp K mg) (k : Nat) {x z : Str} (e : fa[k]? = some (.str x z)) : ∃ t, mg x = some (.str z t) := let ⟨_, X, G⟩ := h.kin; He.str_ok X G (h.says.fact k e)
theorem Hyp.cls (h : Hyp K mg) (i : Nat) {x : Str} (e : fa[i]? = some (.cls x)) : Cls K (He.ga K x) := He.cls_ok (h.says.fact i e)
theorem Hyp.noat (h : Hyp K mg) (i : Nat) {x f : Str} (e : fa[i]? = some (.noat x f)) : NoAttr K (He.ga K x) f := He.noat_ok (h.says.fact i e)
theorem Hyp.meth (h : Hyp K mg) (i : Nat) {x m : Str} (e : fa[i]? = some (.meth x m)) : Meth K (He.ga K x) m (He.ma K (He.ga K x) m) := He.meth_ok (h.says.fact i e)
theorem Hyp.mkr (h : Hyp K mg) (i : Nat) {x : Str} (e : fa[i]? = some (.mkr x)) : Mk K (He.ga K x) (He.ma K (He.ga K x) "__init__") := He.mkr_ok (h.says.fact i e)
theorem Hyp.chk (h : Hyp K mg) (i : Nat) {f : PySem.W.Frag → Bool} (e : xl[i]? = some f) : f K = true := List.all_eq_true.mp (Bool.and_eq_true_iff.mp h.ex).2 f (List.mem_of_getElem? e)
theorem Hyp.tup (h : Hyp K mg) (i : Nat) {p : (Str × Option Str) × Nat} (e : tds[i]? = some p) : etB K p.1 p.2 = true := List.all_eq_true.mp (Bool.and_eq_true_iff.mp (Bool.and_eq_true_iff.mp h.ex).1).2 p (List.mem_of_getElem? e)
theorem Hyp.isc (h : Hyp K mg) : ∀ C ∈ isC, IsC K C := fun C hC => isB_ok (by
    have : ∀ C ∈ isC, Cls K (He.ga K C) := by
      intro C hC
      simp only [isC, List.mem_cons, List.not_mem_nil, or_false] at hC
      rcases hC with rfl
      · exact h.cls 31 (x := "Bench") rfl
    exact this C hC) (List.all_eq_true.mp (Bool.and_eq_true_iff.mp (Bool.and_eq_true_iff.mp h.ex).1).1 C hC)
end
abbrev hk : PySem.W.Hook := hookB 7 fa fn ex
def ob (s : PySem.W.SharedT) : AlB := obsB 7 fa fn ex (HandSHeadRun.getT s)
theorem ob_eq (s : PySem.W.SharedT) : ob s = hk.obs s.abs := obsB_eq (HandSHeadRun.getT_eq s)
theorem runHd (w : World) : RunOb RowR 8000 7 [] fn (fun _ => true) w := by
  intro os
  kernel_rfl
theorem runX0 (w : World) : RunOb RowR 8000 7 [] [] (fun K => ex0 K && xl0.all fun f => f K) w := by
  intro os
  kernel_rfl
theorem runX1 (w : World) : RunOb RowR 8000 7 [] [] (fun K => xl1.all fun f => f K) w := by
  intro os
  kernel_rfl
theorem run (w : World) : HandSHeadRun.RunEq RowR (PySem.W.view RowR.prog [34]) hk ob 8000 names w := by
  refine run_of (es := [fun K => ex0 K && xl0.all fun f => f K, fun K => xl1.all fun f => f K]) (runA w) (runHd w) (fun e m => ?_) (fun K h => ?_)
  · simp only [List.mem_cons, List.not_mem_nil, or_false] at m
    rcases m with rfl | rfl
    · exact runX0 w
    · exact runX1 w
  · simp only [List.forall_mem_cons, Bool.and_eq_true] at h
    obtain ⟨⟨h0, h1⟩, h2, _⟩ := h
    simp only [ex, xl, List.all_append, h0, h1, h2, List.all_nil, Bool.and_self]
end K08
noncomputable section
namespace K08
open PySem Bx
noncomputable section
/-- a hand in the store -/
def Hand (μ : List MO) (i : Nat) : Prop := ∃ a b n : Int, μ[i]? = some (.lst [.int a, .int b, .int n])
theorem hand_set {μ : List MO} {i : Nat} {a b n : Int} (hi : i < μ.length) : Hand (μ.set i (.lst [.int a, .int b, .int n])) i := ⟨a, b, n, List.getElem?_set_self hi⟩
theorem draw_ok {μ : List MO} {i : Nat} {t : Int} (h : Hand μ i) (h0 : 0 < t) (h1 : t < 1073741824) : ∃ (r : Int) (μ' : List MO), 0 ≤ r ∧ r < t ∧ Hand μ' i ∧ den__law_draw [.ref i, .int t] μ = .ok (.int r) μ' := by
  obtain ⟨a, b, n, h⟩ := h
  have hi : i < μ.length := (List.getElem?_eq_some_iff.mp h).1
  have hs : ∀ x, (μ.set i x)[i]? = some x := fun x => List.getElem?_set_self hi
  have m1 : mulOk (b % 1000000123) ((b % 1000000123) % 46049 + 30013) = true := mulOk_l (by omega) (by omega)
  have m2 : mulOk 80051 (n + 1) = true := mulOk_l (by decide) (by decide)
  by_cases ha : 0 < a
  · refine ⟨a % t, _, Int.emod_nonneg a (by omega), Int.emod_lt_of_pos a h0, hand_set hi (a := a / t) (b := b) (n := n + 1), ?_⟩
    rw [den__law_draw, runB_ap, b__law_draw]
    simp [frame, var, ixD, rsl, h, L2.atI, L2.ixN, setD, S.mo, S.mut, S.put, hs, tru, ha, gtupG, unT, gseq, h0, h1]
  · refine ⟨(b % 1000000123 * (b % 1000000123 % 46049 + 30013) + 80051 * (n + 1)) % 1000000123 / 16 % t, _, Int.emod_nonneg _ (by omega), Int.emod_lt_of_pos _ h0, hand_set hi (a := a) (b := b % 1000000123 * (b % 1000000123 % 46049 + 30013) + 80051 * (n + 1)) (n := n + 1), ?_⟩
    rw [den__law_draw, runB_ap, b__law_draw]
    simp [frame, var, ixD, rsl, h, L2.atI, L2.ixN, setD, S.mo, S.mut, S.put, hs, tru, ha, gtupG, unT, gseq, h0, h1, m1, m2]
theorem hand_ok (c : Int) (μ : List MO) : ∃ μ', Hand μ' μ.length ∧ den__law_hand [.int c] μ = .ok (.ref μ.length) μ' := by
  have m1 : mulOk (c % 1000000123) 7019 = true := mulOk_r (by decide) (by decide)
  have fin : ∀ d : Int, Hand (μ ++ [.lst [.int d, .int (c % 1000000123 * 7019 + 4013), .int 0]]) μ.length := fun d => ⟨d, c % 1000000123 * 7019 + 4013, 0, by simp⟩
  by_cases h0 : c < 0
  · refine ⟨_, fin c.natAbs, ?_⟩
    rw [den__law_hand, runB_ap, b__law_hand]
    simp [frame, var, ifD, orT, tru, h0, S.put, sretS, nlst, m1, powD, iic, rsl]
  · by_cases h1 : 10 ^ 18 ≤ c
    · refine ⟨_, fin c.natAbs, ?_⟩
      rw [den__law_hand, runB_ap, b__law_hand]
      simp at h1
      simp [frame, var, ifD, orT, tru, h0, h1, S.put, sretS, nlst, m1, powD, iic, rsl]
    · refine ⟨_, fin 0, ?_⟩
      rw [den__law_hand, runB_ap, b__law_hand]
      have h2 : ¬ (1000000000000000000 : Int) ≤ c := by simp at h1; omega
      simp [frame, var, ifD, orT, tru, h0, h2, S.put, sretS, nlst, m1, powD, iic, rsl]
theorem cell_loop (μ : List MO) (x y : Sl) : ∀ (ns : List Int) (c : Int) (z : Sl), ∃ c' z', floop (gset 3) (sset 2 (Bx.bin modD (Bx.bin addD (Bx.bin mulD (var 2) (con (.int 30029))) (var 3)) (con (.int 1000000123)))) (ns.map .int) ⟨[x, y, .val (.int c), z], μ⟩ = .nx ⟨[x, y, .val (.int c'), z'], μ⟩
  | [], c, z => ⟨c, z, rfl⟩
  | n :: ns, c, z => by
    obtain ⟨c', z', e⟩ := cell_loop μ x y ns ((c * 30029 + n) % 1000000123) (.val (.int n))
    refine ⟨c', z', ?_⟩
    have m1 : mulOk c 30029 = true := mulOk_r (by decide) (by decide)
    rw [List.map_cons, floop]
    simp [S.put, var, m1, e]
theorem cell_ok (ns : List Int) (k : Int) (μ : List MO) (hk : 0 ≤ k) (hk2 : k < 1000) : ∃ c, den__law_cell [.scr ns, .int k] μ = .ok (.int c) μ := by
  by_cases h : k < ns.length
  · refine ⟨ns[k.toNat]'(by omega), ?_⟩
    rw [den__law_cell, runB_ap, b__law_cell]
    simp [frame, var, lenD, rsl, tru, h, ixD, atI_ok hk h]
  · have m1 : mulOk k k = true := mulOk_l (by omega) (by omega)
    have m2 : mulOk 9 k = true := mulOk_l (by decide) (by decide)
    have m3 : mulOk 50021 (k * k + 9 * k + 11) = true := mulOk_l (by decide) (by decide)
    obtain ⟨c, z, e⟩ := cell_loop μ (.val (.scr ns)) (.val (.int k)) (cutI ns none (some 4)) (50021 * (k * k + 9 * k + 11) % 1000000123) .no
    refine ⟨c, ?_⟩
    rw [den__law_cell, runB_ap, b__law_cell]
    simp [frame, var, lenD, rsl, tru, h, m1, m2, m3, S.put, mits, slc, mpart, slD, itemsD, e]
def low1 (c : Nat) : Prop := 97 ≤ c ∧ c ≤ 122
def okName (x : Str) : Prop := ∃ l : List Nat, x = T l ∧ 1 ≤ l.length ∧ l.length ≤ 6 ∧ ∀ c ∈ l, low1 c
def abc : List Nat := (List.range 26).map (· + 97)
theorem abc_eq : (Str.ofString "abcdefghijklmnopqrstuvwxyz") = T abc := by decide +kernel
theorem abc_low : ∀ c ∈ abc, 97 ≤ c ∧ c ≤ 122 := by decide
theorem mem_str (y : Str) (xs : List Str) : memD (.str y) (xs.map .str) = decide (y ∈ xs) := by
  unfold memD L2.inV
  induction xs with
  | nil => rfl
  | cons x r ih =>
    have ih' : ((r.map D.str).map toV).any (fun z => L2.eqV z (toV (.str y))) = decide (y ∈ r) := ih
    rw [List.map_cons, List.map_cons, List.any_cons, ih']
    show (L2.eqV (.str x) (.str y) || decide (y ∈ r)) = _
    by_cases h : x = y
    · subst h; simp [L2.eqV]
    · have : L2.eqV (.str x) (.str y) = false := by simp [L2.eqV, h]
      rw [this]
      simp
      exact fun z => absurd z.symm h
theorem flat_strs (xs : List Str) : (xs.map D.str).all flatD = true := by
  rw [List.all_map, List.all_eq_true]
  intro x _
  rfl
def okNames (xs : List Str) : Prop := xs.Nodup ∧ ∀ x ∈ xs, okName x
abbrev Folk := List (Str × Int × Int)
def per (p : Str × Int × Int) : D := .tup [.str p.1, .int p.2.1, .int p.2.2]
def okP (w : Int) (p : Str × Int × Int) : Prop := 0 ≤ p.2.1 ∧ p.2.1 ≤ p.2.2 ∧ p.2.2 < w
def okFolk (w : Int) (fs : Folk) : Prop := okNames (fs.map (·.1)) ∧ (∀ p ∈ fs, okP w p) ∧ (fs.length : Int) ≤ w
section
variable {μ : List MO} {i : Nat} {t w : Int} {Q : RF → Prop}
theorem draw_w (h : Hand μ i) (h0 : 0 < t) (h1 : t < 1073741824) (q : ∀ r μ', 0 ≤ r → r < t → Hand μ' i → Q (.ok (.int r) μ')) : wD den__law_draw [.ref i, .int t] μ Q := by
  obtain ⟨r, μ', a, b, c, e⟩ := draw_ok h h0 h1
  rw [wD_of e]
  exact q r μ' a b c
theorem hand_w {c : Int} (q : ∀ μ', Hand μ' μ.length → Q (.ok (.ref μ.length) μ')) : wD den__law_hand [.int c] μ Q := by
  obtain ⟨μ', a, e⟩ := hand_ok c μ
  rw [wD_of e]
  exact q μ' a
theorem cell_w {ns : List Int} {k : Int} (hk : 0 ≤ k) (hk2 : k < 1000) (q : ∀ c, Q (.ok (.int c) μ)) : wD den__law_cell [.scr ns, .int k] μ Q := by
  obtain ⟨c, e⟩ := cell_ok ns k μ hk hk2
  rw [wD_of e]
  exact q c
end
def satD (sat : List (Option Str)) : D := .tup (sat.map seat)
structure IsSat (w : Int) (fs : Folk) (sat : List (Option Str)) : Prop where
  len : (sat.length : Int) = w
  perm : (sat.filterMap id).Perm (fs.map (·.1))
  on : ∀ (i : Nat) (x : Str) (lo hi : Int), sat[i]? = some (some x) → (x, lo, hi) ∈ fs → lo ≤ i ∧ (i : Int) ≤ hi
theorem IsSat.at {w : Int} {fs : Folk} {sat : List (Option Str)} (h : IsSat w fs sat) {p : Str × Int × Int} (hp : p ∈ fs) : ∃ i : Nat, sat[i]? = some (some p.1) := by
  have h1 : p.1 ∈ sat.filterMap id := h.perm.mem_iff.mpr (List.mem_map.mpr ⟨p, hp, rfl⟩)
  obtain ⟨o, h2, h3⟩ := List.mem_filterMap.mp h1
  have h3 : o = some p.1 := h3
  subst h3
  exact List.getElem?_of_mem h2
theorem whole_ok (n : Int) (μ : List MO) : den_is_whole [.int n] μ = .ok (.bl true) μ := by
  rfl
theorem isi_str (x : Str) (s : S) : isiD isC (.str x) (.ty "str") s = .ok (.bl true) s := by rfl
theorem isi_tup (x : List D) (s : S) : isiD isC (.tup x) (.ty "tuple") s = .ok (.bl true) s := by rfl
theorem bls_true : ∀ (xs : List Nat), blsD (xs.map fun _ => D.bl true) = some (xs.map fun _ => true)
  | [] => rfl
  | x :: r => by simp [blsD, bls_true r]
theorem name_ok {x : Str} (h : okName x) (μ : List MO) : den_is_name [.str x] μ = .ok (.bl true) μ := by
  obtain ⟨l, rfl, h1, h2, h3⟩ := h
  rw [den_is_name, runB_ap, b_is_name]
  have e0 : lenD (.str (T l)) ⟨[.val (.str (T l)), .no], μ⟩ = .ok (.int l.length) ⟨[.val (.str (T l)), .no], μ⟩ := by
    unfold lenD
    simp [rsl]
    omega
  have e1 : sif (orT (notT (truth (bnd (margs [var 0, con (.ty "str")]) (f2 (isiD isC))))) (notT (tru (chain leD leD (con (.int 1)) (bnd (margs [var 0]) (f1 lenD)) (con (.int 6)))))) (sret (con (.bl false))) (skip) ⟨frame 2 [.str (T l)], μ⟩ = .nx ⟨[.val (.str (T l)), .no], μ⟩ := by
    have g1 : (1 : Int) ≤ l.length := by omega
    have g2 : (l.length : Int) ≤ 6 := by omega
    simp [frame, orT, notT, truth, truthD, rsl, var, isi_str, tru, chain, e0, g1, g2]
  have e2 := cloop_pure (vs := [1]) (asg := Tgt.asg (.name 1)) (t := yes) (el := Bx.bin (inA false) (var 1) (con (.str "abcdefghijklmnopqrstuvwxyz"))) (s0 := ⟨[.val (.str (T l)), .no], μ⟩) (fun _ => true) (fun _ => .bl true) (l.map fun c => .str (T [c])) [] (by simp; omega) (fun d hd => by
    obtain ⟨c, hc, rfl⟩ := List.mem_map.mp hd
    refine ⟨⟨[.val (.str (T l)), .val (.str (T [c]))], μ⟩, ⟨[.val (.str (T l)), .val (.str (T [c]))], μ⟩, rfl, rfl, fun z => Bool.noConfusion z, fun _ => ⟨⟨[.val (.str (T l)), .val (.str (T [c]))], μ⟩, ?_, rfl⟩⟩
    rw [abc_eq]
    have hm : c ∈ abc := by
      obtain ⟨q1, q2⟩ := h3 c hc
      exact List.mem_map.mpr ⟨c - 97, by simp; omega, by omega⟩
    show Bx.R.bind (.ok (.bl (decide (c ∈ abc))) _) Bx.settle = _
    rw [decide_eq_true hm]
    rfl)
  rw [sq_ap, e1, thn_nx, sret_ap, stl_ap, bnd_ap, margs_cons, mcomp_ap]
  have e3 : mits (var 0) ⟨[.val (.str (T l)), .no], μ⟩ = .ok (l.map fun c => .str (T [c])) ⟨[.val (.str (T l)), .no], μ⟩ := rfl
  have e4 : wipeS [1] ⟨[.val (.str (T l)), .no], μ⟩ = ⟨[.val (.str (T l)), .no], μ⟩ := rfl
  have e5 : ((l.map fun c => D.str (T [c])).filter fun _ => true) = l.map fun c => D.str (T [c]) := List.filter_eq_self.mpr fun _ _ => rfl
  rw [e3, bind_ok, e4, e2, e5, e4, List.map_map, List.nil_append]
  simp only [bind_ok, bnd_ap, margs_nil, pur_ap, f1_ap]
  unfold allD
  simp only [rsl]
  have e6 : blsD (l.map ((fun _ => D.bl true) ∘ fun c => D.str (T [c]))) = some (l.map fun _ => true) := bls_true l
  rw [e6]
  simp
theorem seat_ok {n w : Int} (h0 : 0 ≤ n) (h1 : n < w) (μ : List MO) : den_is_seat [.int n, .int w] μ = .ok (.bl true) μ := by
  rw [den_is_seat, runB_ap, b_is_seat]
  simp [frame, andD, var, pick, callD, whole_ok, chain, h0, h1]
theorem stretch_ok {lo hi w : Int} (h0 : 0 ≤ lo) (h1 : lo ≤ hi) (h2 : hi < w) (μ : List MO) : den_is_stretch [.tup [.int lo, .int hi], .int w] μ = .ok (.bl true) μ := by
  rw [den_is_stretch, runB_ap, b_is_stretch]
  have e1 : sif (orT (notT (truth (bnd (margs [var 0, con (.ty "tuple")]) (f2 (isiD isC))))) (tru (Bx.bin neD (bnd (margs [var 0]) (f1 lenD)) (con (.int 2))))) (sret (con (.bl false))) (skip) ⟨frame 4 [.tup [.int lo, .int hi], .int w], μ⟩ = .nx ⟨frame 4 [.tup [.int lo, .int hi], .int w], μ⟩ := by rfl
  rw [sq_ap, e1, thn_nx, sq_ap]
  have e2 : sasg (gtup [2, 3]) (var 0) ⟨frame 4 [.tup [.int lo, .int hi], .int w], μ⟩ = .nx ⟨[.val (.tup [.int lo, .int hi]), .val (.int w), .val (.int lo), .val (.int hi)], μ⟩ := rfl
  rw [e2, thn_nx]
  have s1 := seat_ok (n := lo) (w := w) h0 (by omega) μ
  have s2 := seat_ok (n := hi) (w := w) (by omega) h2 μ
  simp [andD, var, pick, callD, s1, s2, h1]
theorem person_ok {p : Str × Int × Int} {w : Int} (hn : okName p.1) (hp : okP w p) (μ : List MO) : den_is_person [per p, .int w] μ = .ok (.bl true) μ := by
  obtain ⟨x, lo, hi⟩ := p
  obtain ⟨h0, h1, h2⟩ := hp
  rw [den_is_person, runB_ap, b_is_person]
  have e1 : sif (orT (notT (truth (bnd (margs [var 0, con (.ty "tuple")]) (f2 (isiD isC))))) (tru (Bx.bin neD (bnd (margs [var 0]) (f1 lenD)) (con (.int 3))))) (sret (con (.bl false))) (skip) ⟨frame 4 [per (x, lo, hi), .int w], μ⟩ = .nx ⟨frame 4 [per (x, lo, hi), .int w], μ⟩ := by rfl
  have e2 : sasg (gstar 1 [2, 3]) (var 0) ⟨frame 4 [per (x, lo, hi), .int w], μ⟩ = .nx ⟨[.val (per (x, lo, hi)), .val (.int w), .val (.str x), .val (.lst [.int lo, .int hi])], μ⟩ := rfl
  rw [sq_ap, e1, thn_nx, sq_ap, e2, thn_nx]
  have s1 := name_ok hn μ
  have s2 := stretch_ok h0 h1 h2 μ
  simp at s1 s2
  simp [andD, var, pick, callD, s1, s2, tupleD, rsl]
def stF (ps : List D) (w : Int) (ks : List L2.Key) (a b : Sl) (μ : List MO) : S := ⟨[.val (.tup ps), .val (.int w), .own (.set ks), a, b], μ⟩
def turnF : MS := sq (sif (orT (notT (truth (callK den_is_person [0, 1] [] (mal [var 4, var 1]) (mal [])))) (tru (Bx.bin (inA false) (Bx.bin ixD (var 4) (con (.int 0))) (var 2)))) (sret (var 3)) (skip))
  (sexpr (msadd (var 2) (Bx.bin ixD (var 4) (con (.int 0)))))
theorem has_not {ks : List Str} {x : Str} (h : x ∉ ks) : hasK (ks.map Sum.inr) (.inr x) = false := by
  unfold hasK
  rw [List.any_map, List.any_eq_false]
  intro y hy
  simp
  exact fun z => h (z ▸ hy)
theorem turnF_ok {ps : List D} {w n : Int} {ks : List Str} {p : Str × Int × Int} {μ : List MO} (hn : okName p.1) (hp : okP w p) (hk : p.1 ∉ ks) (hl : ks.length < 100) :
    turnF (stF ps w (ks.map Sum.inr) (.val (.int n)) (.val (per p)) μ) = .nx (stF ps w ((ks ++ [p.1]).map Sum.inr) (.val (.int n)) (.val (per p)) μ) := by
  have e1 : Bx.bin ixD (var 4) (con (.int 0)) (stF ps w (ks.map Sum.inr) (.val (.int n)) (.val (per p)) μ) = .ok (.str p.1) (stF ps w (ks.map Sum.inr) (.val (.int n)) (.val (per p)) μ) := rfl
  have e2 : callK den_is_person [0, 1] [] (mal [var 4, var 1]) (mal []) (stF ps w (ks.map Sum.inr) (.val (.int n)) (.val (per p)) μ) = .ok (.bl true) (stF ps w (ks.map Sum.inr) (.val (.int n)) (.val (per p)) μ) := by
    rw [callK_ap]
    show callD den_is_person [per p, .int w] (stF ps w (ks.map Sum.inr) (.val (.int n)) (.val (per p)) μ) = _
    rw [callD_ok (person_ok hn hp μ)]
    rfl
  have e3 : Bx.bin (inA false) (Bx.bin ixD (var 4) (con (.int 0))) (var 2) (stF ps w (ks.map Sum.inr) (.val (.int n)) (.val (per p)) μ) = .ok (.bl false) (stF ps w (ks.map Sum.inr) (.val (.int n)) (.val (per p)) μ) := by
    have g1 : var 2 (stF ps w (ks.map Sum.inr) (.val (.int n)) (.val (per p)) μ) = .ok (.loc 2) (stF ps w (ks.map Sum.inr) (.val (.int n)) (.val (per p)) μ) := rfl
    have g2 : (stF ps w (ks.map Sum.inr) (.val (.int n)) (.val (per p)) μ).mo (.loc 2) = some (.set (ks.map Sum.inr)) := rfl
    rw [bin_ap, e1, bind_ok, bnd_ap, g1, bind_ok]
    unfold inA
    simp only [g2, keyD, has_not hk]
    rfl
  unfold turnF
  have e4 : sif (orT (notT (truth (callK den_is_person [0, 1] [] (mal [var 4, var 1]) (mal [])))) (tru (Bx.bin (inA false) (Bx.bin ixD (var 4) (con (.int 0))) (var 2)))) (sret (var 3)) (skip) (stF ps w (ks.map Sum.inr) (.val (.int n)) (.val (per p)) μ) = .nx (stF ps w (ks.map Sum.inr) (.val (.int n)) (.val (per p)) μ) := by
    rw [sif_ap]
    unfold orT notT truth
    rw [bnd_ap, bnd_ap, bnd_ap, e2]
    simp only [bind_ok, truthD, rsl, pur_ap, Bool.not_true, Bool.false_eq_true, if_false, tru_bl e3, toS_ok]
    rfl
  rw [sq_ap, e4, thn_nx, sexpr_ap]
  have e5 : msadd (var 2) (Bx.bin ixD (var 4) (con (.int 0))) (stF ps w (ks.map Sum.inr) (.val (.int n)) (.val (per p)) μ) = .ok .non (stF ps w ((ks ++ [p.1]).map Sum.inr) (.val (.int n)) (.val (per p)) μ) := by
    unfold msadd
    have g1 : var 2 (stF ps w (ks.map Sum.inr) (.val (.int n)) (.val (per p)) μ) = .ok (.loc 2) (stF ps w (ks.map Sum.inr) (.val (.int n)) (.val (per p)) μ) := rfl
    have g2 : chk isSet (.loc 2) (stF ps w (ks.map Sum.inr) (.val (.int n)) (.val (per p)) μ) = .ok (.loc 2) (stF ps w (ks.map Sum.inr) (.val (.int n)) (.val (per p)) μ) := rfl
    have g3 : (stF ps w (ks.map Sum.inr) (.val (.int n)) (.val (per p)) μ).mo (.loc 2) = some (.set (ks.map Sum.inr)) := rfl
    rw [bnd_ap, g1, bind_ok, bnd_ap, g2, bind_ok, bnd_ap, mal_cons, e1]
    simp only [bind_ok, settle_str, bnd_ap, mal_nil, pur_ap, on1_ap]
    unfold sadD
    simp only [g3, keyD]
    rw [if_pos (by rw [List.length_map]; omega)]
    unfold addK
    rw [has_not hk]
    simp
    rfl
  rw [e5]
  rfl
theorem odd_loop {ps : List D} {w : Int} : ∀ (fs : Folk) (i : Nat) (ks : List Str) (a b : Sl) (μ : List MO), (∀ p ∈ fs, okName p.1 ∧ okP w p) → (ks ++ fs.map (·.1)).Nodup → ks.length + fs.length < 100 → ∃ ks' a' b', floop (gtup [3, 4]) turnF (nums i (fs.map per)) (stF ps w (ks.map Sum.inr) a b μ) = .nx (stF ps w ks' a' b' μ)
  | [], i, ks, a, b, μ, _, _, _ => ⟨_, a, b, rfl⟩
  | p :: fs, i, ks, a, b, μ, hp, nd, hl => by
    rw [List.length_cons] at hl
    have hk : p.1 ∉ ks := fun z => by
      rw [List.map_cons, List.nodup_append] at nd
      exact nd.2.2 _ z _ (List.mem_cons_self ..) rfl
    obtain ⟨ks', a', b', e⟩ := odd_loop (ps := ps) (w := w) fs (i + 1) (ks ++ [p.1]) (.val (.int i)) (.val (per p)) μ (fun q hq => hp q (List.mem_cons_of_mem _ hq)) (by rw [List.append_assoc]; exact nd) (by rw [List.length_append, List.length_singleton]; omega)
    refine ⟨ks', a', b', ?_⟩
    have hq := hp p (List.mem_cons_self ..)
    rw [List.map_cons, nums, floop_cons (s1 := stF ps w (ks.map Sum.inr) (.val (.int i)) (.val (per p)) μ) rfl (turnF_ok hq.1 hq.2 hk (by omega)), e]
theorem odd_ok {w : Int} {fs : Folk} (h : okFolk w fs) (hw2 : w ≤ 12) (μ : List MO) : den_first_odd [.tup (fs.map per), .int w] μ = .ok .non μ := by
  obtain ⟨⟨n1, n2⟩, hp, hl⟩ := h
  obtain ⟨ks', a', b', e⟩ := odd_loop (ps := fs.map per) (w := w) fs 0 [] .no .no μ (fun p hm => ⟨n2 _ (List.mem_map.mpr ⟨p, hm, rfl⟩), hp p hm⟩) n1 (by simp; omega)
  rw [den_first_odd, runB_ap, b_first_odd]
  have e1 : ssetO 2 nset ⟨frame 5 [.tup (fs.map per), .int w], μ⟩ = .nx (stF (fs.map per) w [] .no .no μ) := rfl
  have e2 : menum (var 0) (stF (fs.map per) w [] .no .no μ) = .ok (nums 0 (fs.map per)) (stF (fs.map per) w [] .no .no μ) := rfl
  rw [sq_ap, e1, thn_nx, sq_ap, sfor_ap, e2, toS_ok]
  show ((floop (gtup [3, 4]) turnF (nums 0 (fs.map per)) (stF (fs.map per) w [] .no .no μ)).thn _).fin = _
  have e' : floop (gtup [3, 4]) turnF (nums 0 (fs.map per)) (stF (fs.map per) w [] .no .no μ) = .nx (stF (fs.map per) w ks' a' b' μ) := e
  rw [e']
  rfl
def benchD (w : Int) (fs : Folk) : D := .obj "Bench" [("seats", .int w), ("people", .tup (fs.map per))]
theorem init_ok {w : Int} {fs : Folk} (h : okFolk w fs) (hw : 0 < w) (hw2 : w ≤ 12) (x dx : Addr) (μ : List MO) : den_Bench_init x dx [.int w, .tup (fs.map per)] μ = .ok [("seats", .int w), ("people", .tup (fs.map per))] μ := by
  have ho := odd_ok h hw2 μ
  have hl := h.2.2
  refine blindOf_ok fun x dx => ?_
  unfold runI b_Bench_init
  simp [frameI, frame, orT, notT, truth, truthD, rsl, var, pick, callD, whole_ok, tru, chain, hw2, show (1 : Int) ≤ w by omega, isi_tup, lenD, show ¬ w < (fs.length : Int) by omega, ho, S.put, notND, sfld, setF, S.mo, S.mut, putD, slfOf]
  decide
theorem okName_asc {x : Str} (h : okName x) : asc x = true ∧ x.length ≤ 6 := by
  obtain ⟨l, rfl, h1, h2, h3⟩ := h
  refine ⟨?_, by rw [T_len]; exact h2⟩
  unfold asc
  rw [T_cps, List.all_eq_true]
  intro c hc
  have := h3 c hc
  unfold low1 at this
  exact decide_eq_true (by omega)
theorem wE_bench {w : Int} {fs : Folk} {s : S} {Q : R D → Prop} : wE (Bx.settle (benchD w fs)) s Q = Q (.ok (benchD w fs) s) := id rfl
theorem fld_seats {w : Int} {fs : Folk} {s : S} {Q : R D → Prop} : wE (fldD "Bench" "seats" (benchD w fs)) s Q = Q (.ok (.int w) s) := by
  refine wE_of ?_
  unfold fldD
  simp [objOf, benchD, rsl, lookD]
theorem fld_people {w : Int} {fs : Folk} {s : S} {Q : R D → Prop} : wE (fldD "Bench" "people" (benchD w fs)) s Q = Q (.ok (.tup (fs.map per)) s) := by
  have e1 : ((Str.ofString "people") = Str.ofString "seats") = False := by decide
  refine wE_of ?_
  unfold fldD
  simp [objOf, benchD, rsl, lookD, e1]
theorem isi_tupW {xs : List D} {s : S} {Q : R D → Prop} : wE (isiD isC (.tup xs) (.ty "tuple")) s Q = Q (.ok (.bl true) s) := wE_of (isi_tup _ _)
theorem isi_strW {x : Str} {s : S} {Q : R D → Prop} : wE (isiD isC (.str x) (.ty "str")) s Q = Q (.ok (.bl true) s) := wE_of (isi_str _ _)
theorem make_w {w : Int} {fs : Folk} (h : okFolk w fs) (hw : 0 < w) (hw2 : w ≤ 12) {ρ : List Sl} {μ : List MO} {Q : R D → Prop} : wE (makeD "Bench" den_Bench_init [.int w, .tup (fs.map per)]) ⟨ρ, μ⟩ Q = Q (.ok (benchD w fs) ⟨ρ, μ⟩) := wE_make (init_ok h hw hw2 0 0 μ)
abbrev Sat := List (Option Str)
section
variable {w : Int} {fs : Folk} {sat : Sat}
theorem seats_data {l : Sat} (h : ∀ x, some x ∈ l → okName x) (hl : l.length ≤ 1000) : okS (.tup (l.map seat)) = true ∧ noB (.tup (l.map seat)) = true ∧ dpt (.tup (l.map seat)) ≤ 1 ∧ wt (.tup (l.map seat)) ≤ 100000 := by
  have h1 : ∀ d ∈ l.map seat, okS d = true ∧ noB d = true ∧ dpt d ≤ 0 ∧ wt d ≤ 45 := fun d hd => by
    obtain ⟨o, ho, rfl⟩ := List.mem_map.mp hd
    cases o with
    | none => exact ⟨rfl, rfl, Nat.le_refl _, by decide⟩
    | some x =>
      have := okName_asc (h x ho)
      exact ⟨this.1, rfl, Nat.le_refl _, by show 4 * x.length + 2 ≤ 45; omega⟩
  have h2 := wtL_le (n := 45) fun d hd => (h1 d hd).2.2.2
  have h3 := dptL_le (n := 0) fun d hd => (h1 d hd).2.2.1
  rw [List.length_map] at h2
  exact ⟨okSL_all.mpr fun d hd => (h1 d hd).1, noBL_all.mpr fun d hd => (h1 d hd).2.1, by show dptL (l.map seat) + 1 ≤ 1; omega, by show wtL (l.map seat) + 3 ≤ _; omega⟩
theorem IsSat.names (hs : IsSat w fs sat) (hf : okFolk w fs) : ∀ x, some x ∈ sat → okName x := fun x hx => hf.1.2 x (hs.perm.mem_iff.mp (List.mem_filterMap.mpr ⟨_, hx, rfl⟩))
theorem IsSat.data (hs : IsSat w fs sat) (hf : okFolk w fs) (hw2 : w ≤ 12) : okS (satD sat) = true ∧ noB (satD sat) = true ∧ dpt (satD sat) ≤ 1 ∧ wt (satD sat) ≤ 100000 := seats_data (hs.names hf) (by have := hs.len; omega)
end
section
variable {w : Int} {fs : Folk} {sat : Sat} {μ : List MO} {Q : RF → Prop} {k : Nat}
theorem whole_w {n : Int} : wD den_is_whole [.int n] μ Q = Q (.ok (.bl true) μ) := wD_of (whole_ok n μ)
end
/-- no None, no text -/
def Odd (d : D) : Prop := (∀ s (Q : R D → Prop), wE (notND d .non) s Q = Q (.ok (.bl true) s)) ∧ ∀ s (Q : R D → Prop), wE (isiD isC d (.ty "str")) s Q = Q (.ok (.bl false) s)
def okIt (d : D) : Prop := (∃ o, d = seat o) ∨ Odd d
def Val (d : D) : Prop := ∀ s (Q : R D → Prop), wE (Bx.settle d) s Q = Q (.ok d s)
section
variable {d : D} {n T : String} {s : S} {Q : R D → Prop}
theorem val_k (h : tyD d = some n) : Val d := by
  intro s Q
  cases d <;> first | (cases h; done) | exact id rfl
theorem rsl_k (h : tyD d = some n) : rsl s d = d := by
  cases d <;> first | (cases h; done) | rfl
theorem isi_k (h : tyD d = some n) (hT : T ∈ tyN ∧ T ≠ "NoneType") : wE (isiD isC d (.ty T)) s Q = Q (.ok (.bl (isT n T)) s) := by
  refine wE_of ?_
  unfold isiD
  simp only [hT, and_self, ne_eq, not_false_eq_true, if_true, rsl_k h]
  cases d <;> first | (cases h; done) | (cases h; rfl)
theorem odd_k (h : tyD d = some n) (h1 : n ≠ "NoneType") (h2 : n ≠ "str") : Odd d := by
  refine ⟨fun s Q => wE_of ?_, fun s Q => ?_⟩
  · cases d <;> first | (cases h; done) | (cases h; first | rfl | exact absurd rfl h1)
  · rw [isi_k h (by decide)]
    have : isT n "str" = false := by
      unfold isT
      rw [Bool.or_eq_false_iff, Bool.and_eq_false_iff]
      exact ⟨by simpa using h2, .inr (by decide)⟩
    rw [this]
end
section
variable {w : Int} {fs : Folk} {sat : Sat} {μ : List MO} {Q : RF → Prop}
theorem seat_k (o : Option Str) : okIt (seat o) := .inl ⟨o, rfl⟩
theorem okIt_k {d : D} {n : String} (h : tyD d = some n) (h1 : n ≠ "NoneType") (h2 : n ≠ "str") : okIt d := .inr (odd_k h h1 h2)
theorem str_len (a b : Str) : (a ++ b).length = a.length + b.length := by
  show (a.cps ++ b.cps).size = _
  rw [Array.size_append]
  rfl
def cat (acc : Str) (ys : List Str) : Str := ys.foldl (· ++ ·) acc
theorem mjs_w {s : S} : ∀ (ms : List (M D)) (ys : List Str) (acc : Str), ms.length = ys.length → (∀ p ∈ ms.zip ys, p.1 s = .ok (.str p.2) s ∧ p.2.length ≤ 100) → acc.length + 100 * ms.length ≤ 100000 → (cat acc ys).length ≤ acc.length + 100 * ms.length ∧ mjs ms acc s = .ok (.str (cat acc ys)) s
  | [], [], acc, _, _, _ => ⟨by simp [cat], rfl⟩
  | [], _ :: _, acc, h, _, _ => by simp at h
  | m :: ms, [], acc, h, _, _ => by simp at h
  | m :: ms, y :: ys, acc, h, hp, hl => by
    obtain ⟨h1, h2⟩ := hp (m, y) (by simp)
    simp only at h1 h2
    have e := str_len acc y
    simp at hl
    have hc : (acc ++ y).length ≤ sizeLine := sz (by omega)
    obtain ⟨z1, z2⟩ := mjs_w ms ys (acc ++ y) (by simpa using h) (fun p hp' => hp p (by simp [hp'])) (by omega)
    refine ⟨by simp; show (cat (acc ++ y) ys).length ≤ _; omega, ?_⟩
    unfold mjs bnd
    rw [h1]
    simp only [R.bind, hc, if_true]
    exact z2
theorem fmt_num {i : Int} (h0 : 0 ≤ i) (h1 : i < 100) {s : S} : fmtD (.int i) s = .ok (.str (Str.ofString (toString i))) s ∧ (Str.ofString (toString i)).length ≤ 100 := by
  have hz : i.natAbs.log2 < 1920 := log_small (by omega) (by omega)
  refine ⟨by simp only [fmtD, hz, if_true], ?_⟩
  have ho : okS (.int i) = true := by simp [okS]; omega
  have := shw_len ho
  simp [wt] at this
  exact Nat.le_trans this (by omega)
theorem fmt_str {x : Str} (h : x.length ≤ 100) {s : S} : fmtD (.str x) s = .ok (.str x) s := by
  have hz : x.length ≤ sizeLine := sz (by omega)
  simp only [fmtD, hz, if_true]
theorem wE_mjoin {m n : M D} {s : S} {Q : R D → Prop} : wE (mjoin m n) s Q = wE m s (kB (fun a => bnd (isStr a) fun a => bnd n fun b => joinD a b) Q) := by
  unfold wE mjoin kB bnd
  cases m s <;> rfl
theorem wE_isStr {z : Str} {s : S} {Q : R D → Prop} : wE (isStr (.str z)) s Q = Q (.ok (.str z) s) := id rfl
theorem sum_le {n : Nat} : ∀ l : List Nat, (∀ x ∈ l, x ≤ n) → l.sum ≤ n * l.length
  | [], _ => by simp
  | a :: l, h => by
    have ih := sum_le l fun x hx => h x (List.mem_cons_of_mem _ hx)
    have := h a (List.mem_cons_self ..)
    rw [List.sum_cons, List.length_cons, Nat.mul_succ]
    omega
def rowS (p : Str × Int × Int) : Str := cat Str.empty [p.1, Str.ofString " ", Str.ofString (toString p.2.1), Str.ofString " ", Str.ofString (toString p.2.2)]
def headS (w : Int) : Str := cat Str.empty [Str.ofString "seats ", Str.ofString (toString w)]
def lineT (w : Int) (fs : Folk) : Str := Txt.join (Str.ofString "\n") (headS w :: fs.map rowS)
theorem strT_w (hf : okFolk w fs) (hw : 1 ≤ w) (hw2 : w ≤ 12) {s : S} {Q : R D → Prop} : wE (strO "Bench" den_Bench_str (benchD w fs)) s Q = Q (.ok (.str (lineT w fs)) s) := by
  have hl : fs.length ≤ 12 := by have := hf.2.2; omega
  have row : ∀ p ∈ fs, (rowS p).length ≤ 500 ∧ ∀ μ, mjs [bnd (var 1) fmtD, con (.str " "), bnd (var 2) fmtD, con (.str " "), bnd (var 3) fmtD] Str.empty ⟨[.val (benchD w fs), .val (.str p.1), .val (.int p.2.1), .val (.int p.2.2)], μ⟩ = .ok (.str (rowS p)) ⟨[.val (benchD w fs), .val (.str p.1), .val (.int p.2.1), .val (.int p.2.2)], μ⟩ := by
    intro p hp
    obtain ⟨o1, o2, o3⟩ := hf.2.1 p hp
    have hn := (okName_asc (hf.1.2 p.1 (List.mem_map.mpr ⟨p, hp, rfl⟩))).2
    have go : ∀ μ, _ := fun μ => mjs_w (s := ⟨[.val (benchD w fs), .val (.str p.1), .val (.int p.2.1), .val (.int p.2.2)], μ⟩) [bnd (var 1) fmtD, con (.str " "), bnd (var 2) fmtD, con (.str " "), bnd (var 3) fmtD] [p.1, Str.ofString " ", Str.ofString (toString p.2.1), Str.ofString " ", Str.ofString (toString p.2.2)] Str.empty rfl (fun q hq => by
      simp only [List.zip_cons_cons, List.zip_nil_right, List.mem_cons, List.not_mem_nil, or_false] at hq
      rcases hq with rfl | rfl | rfl | rfl | rfl
      · exact ⟨fmt_str (by omega), by simp only; omega⟩
      · exact ⟨rfl, by decide⟩
      · have h := fmt_num (i := p.2.1) (by omega) (by omega) (s := ⟨[.val (benchD w fs), .val (.str p.1), .val (.int p.2.1), .val (.int p.2.2)], μ⟩)
        exact ⟨h.1, h.2⟩
      · exact ⟨rfl, by decide⟩
      · have h := fmt_num (i := p.2.2) (by omega) (by omega) (s := ⟨[.val (benchD w fs), .val (.str p.1), .val (.int p.2.1), .val (.int p.2.2)], μ⟩)
        exact ⟨h.1, h.2⟩) (by decide)
    exact ⟨(go []).1, fun μ => (go μ).2⟩
  have key : ∀ μ, den_Bench_str [benchD w fs] μ = .ok (.str (lineT w fs)) μ := by
    refine fun μ => of_wD (P := fun r => r = .ok (.str (Txt.join (Str.ofString "\n") (headS w :: fs.map rowS))) μ) ?_
    have hd : ∀ ρ : List Sl, ρ[0]? = some (.val (benchD w fs)) → (headS w).length ≤ 200 ∧ mjs [con (.str "seats "), bnd (bnd (var 0) (fldD "Bench" "seats")) fmtD] Str.empty ⟨ρ, μ⟩ = .ok (.str (headS w)) ⟨ρ, μ⟩ := fun ρ h0 => by
      have h := fmt_num (i := w) (by omega) (by omega) (s := ⟨ρ, μ⟩)
      have h1 : fldD "Bench" "seats" (benchD w fs) ⟨ρ, μ⟩ = .ok (.int w) ⟨ρ, μ⟩ := (fld_seats (Q := fun r => r = R.ok (.int w) ⟨ρ, μ⟩)).mpr rfl
      refine mjs_w (s := ⟨ρ, μ⟩) [con (.str "seats "), bnd (bnd (var 0) (fldD "Bench" "seats")) fmtD] [Str.ofString "seats ", Str.ofString (toString w)] Str.empty rfl (fun q hq => ?_) (by decide)
      simp only [List.zip_cons_cons, List.zip_nil_right, List.mem_cons, List.not_mem_nil, or_false] at hq
      rcases hq with rfl | rfl
      · exact ⟨rfl, by decide⟩
      · refine ⟨?_, h.2⟩
        have hv : var 0 ⟨ρ, μ⟩ = .ok (benchD w fs) ⟨ρ, μ⟩ := by unfold var; rw [h0]
        simp only [bnd, hv, R.bind, h1, h.1]
    rw [den_Bench_str, wD_runB, b_Bench_str]
    simp [frame, wE_mjoin, wE_isStr, wE_of (hd [.val (benchD w fs), .no, .no, .no] rfl).2, fld_people]
    refine wcompY per fs (fun p => .str (rowS p)) (by rfl) (by omega) (fun p hp => ?_) ?_
    · simp [per, wE_of ((row p hp).2 μ)]
    · simp
      rw [wE_addL (by simp; omega)]
      have ej : ∀ s (Q : R D → Prop), wE (joinD (.str (Str.ofString "\n")) (.lst ([D.str (headS w)] ++ fs.map fun p => D.str (rowS p)))) s Q = Q (.ok (.str (Txt.join (Str.ofString "\n") (headS w :: fs.map rowS))) s) := fun s Q => wE_of (by
        have e : [D.str (headS w)] ++ (fs.map fun p => D.str (rowS p)) = (headS w :: fs.map rowS).map D.str := by simp
        have hb := sum_le (n := 500) ((headS w :: fs.map rowS).map (·.length)) fun n hn => by
          obtain ⟨x, hx, rfl⟩ := List.mem_map.mp hn
          rcases List.mem_cons.mp hx with rfl | hx
          · have := (hd [.val (benchD w fs), .no, .no, .no] rfl).1
            omega
          · obtain ⟨p, hp, rfl⟩ := List.mem_map.mp hx
            exact (row p hp).1
        have h1 : (Str.ofString "\n").length = 1 := by decide +kernel
        have h2 : (headS w :: fs.map rowS).length = fs.length + 1 := by simp
        rw [List.length_map, h2] at hb
        rw [e]
        unfold joinD
        simp only [rsl, strsD_map]
        rw [if_pos (by rw [h1, h2]; omega)])
      simp only [kB_ok, ej]
      simp
  refine wE_of ?_
  have e := key s.μ
  unfold benchD at e ⊢
  unfold strO
  simp only [if_true, e]
end
section
variable {w : Int} {fs : Folk} {sat : Sat} {μ : List MO} {Q : RF → Prop} {k : Nat}
theorem per_ok (hf : okFolk w fs) (hw2 : w ≤ 12) {p : Str × Int × Int} (hp : p ∈ fs) : okS (per p) = true ∧ dpt (per p) ≤ 1 ∧ wt (per p) ≤ 200 := by
  have h1 := okName_asc (hf.1.2 p.1 (List.mem_map.mpr ⟨p, hp, rfl⟩))
  have h2 := hf.2.1 p hp
  unfold okP at h2
  refine ⟨?_, ?_, ?_⟩
  · simp [per, okS, okSL]
    refine ⟨h1.1, ?_, ?_⟩ <;> omega
  · simp [per, dpt, dptL]
  · show (4 * p.1.length + 2) + 2 + (45 + 2 + (45 + 2 + 0)) + 3 ≤ 200
    omega
/-- people as data -/
theorem folk_data (hf : okFolk w fs) (hw2 : w ≤ 12) : okS (.tup (fs.map per)) = true ∧ dpt (.tup (fs.map per)) ≤ 2 ∧ wt (.tup (fs.map per)) ≤ 100000 := by
  have hl : fs.length ≤ 12 := by have := hf.2.2; omega
  have h1 : ∀ d ∈ fs.map per, okS d = true ∧ dpt d ≤ 1 ∧ wt d ≤ 200 := fun d hd => by
    obtain ⟨p, hp, rfl⟩ := List.mem_map.mp hd
    exact per_ok hf hw2 hp
  have h2 := wtL_le (n := 200) fun d hd => (h1 d hd).2.2
  have h3 := dptL_le (n := 1) fun d hd => (h1 d hd).2.1
  rw [List.length_map] at h2
  exact ⟨okSL_all.mpr fun d hd => (h1 d hd).1, by show dptL (fs.map per) + 1 ≤ 2; omega, by show wtL (fs.map per) + 3 ≤ _; omega⟩
end
theorem bls_map {α : Type} (g : α → Bool) : ∀ l : List α, blsD (l.map fun x => D.bl (g x)) = some (l.map g)
  | [] => rfl
  | x :: r => by simp [blsD, bls_map g r]
theorem all_map {α : Type} (g : α → Bool) (l : List α) {s : S} {Q : R D → Prop} : wE (allD (.lst (l.map fun x => D.bl (g x)))) s Q = Q (.ok (.bl (l.all g)) s) := by
  refine wE_of ?_
  unfold allD
  simp only [rsl, bls_map]
  simp [List.all_map]
section
variable {w : Int} {fs : Folk} {sat : Sat} {μ : List MO} {Q : RF → Prop}
def strangeL : List D := [.bl true, .int 0, .str "", .str "A", .str "-", .str "zzzzzzz", .tup [], .lst [], .dct [], .tup [.str "a"], .tup [.lst []], .int 1000000000000000000000000000000]
def Itm (x : D) : Prop := (∃ o, x = seat o ∧ ∀ y, o = some y → okName y) ∨ x ∈ strangeL
theorem Itm.ok {x : D} (h : Itm x) : okIt x := by
  rcases h with ⟨o, rfl, _⟩ | h
  · exact seat_k o
  · simp only [strangeL, List.mem_cons, List.not_mem_nil, or_false] at h
    rcases h with rfl | rfl | rfl | rfl | rfl | rfl | rfl | rfl | rfl | rfl | rfl | rfl
    · exact okIt_k (n := "bool") rfl (by decide) (by decide)
    · exact okIt_k (n := "int") rfl (by decide) (by decide)
    · exact seat_k (some _)
    · exact seat_k (some _)
    · exact seat_k (some _)
    · exact seat_k (some _)
    · exact okIt_k (n := "tuple") rfl (by decide) (by decide)
    · exact okIt_k (n := "list") rfl (by decide) (by decide)
    · exact okIt_k (n := "dict") rfl (by decide) (by decide)
    · exact okIt_k (n := "tuple") rfl (by decide) (by decide)
    · exact okIt_k (n := "tuple") rfl (by decide) (by decide)
    · exact okIt_k (n := "int") rfl (by decide) (by decide)
theorem Itm.val {x : D} (h : Itm x) : Val x := by
  rcases h with ⟨o, rfl, _⟩ | h
  · cases o <;> exact fun _ _ => rfl
  · simp only [strangeL, List.mem_cons, List.not_mem_nil, or_false] at h
    rcases h with rfl | rfl | rfl | rfl | rfl | rfl | rfl | rfl | rfl | rfl | rfl | rfl <;> exact fun _ _ => rfl
end
section
variable {w : Int} {fs : Folk} {sat : Sat} {s : S} {Q : R D → Prop}
theorem in_strs {x : Str} {xs : List Str} : wE (inA false (.str x) (.lst (xs.map .str))) s Q = Q (.ok (.bl (decide (x ∈ xs))) s) := by
  refine wE_of ?_
  show inD false (.str x) (.lst (xs.map .str)) s = _
  unfold inD
  simp only [rsl, flat_strs, mem_str]
  rfl
end
section
variable {w : Int} {fs : Folk} {μ : List MO} {Q : RF → Prop} {d : D} {n : String}
theorem whole_k (h : tyD d = some n) (h1 : n ≠ "int") : wD den_is_whole [d] μ Q = Q (.ok (.bl false) μ) := by
  refine wD_of (of_wD (P := fun r => r = .ok (.bl false) μ) ?_)
  rw [den_is_whole, wD_runB, b_is_whole]
  have e : isT n "int" = (n == "bool") := by
    unfold isT
    have : (n == "int") = false := by simpa using h1
    rw [this]
    simp
  have e2 : isT n "bool" = (n == "bool") := by
    unfold isT
    simp
  simp [frame, isi_k h (T := "int") (by decide), isi_k h (T := "bool") (by decide), e, e2]
end
section
variable {w : Int} {fs : Folk} {sat : List (Option Str)} {μ : List MO} {Q : RF → Prop} {k : Nat} {m : Int}
theorem wE_mspl {m a : M D} {s : S} {Q : R D → Prop} : wE (mspl m a) s Q = wE m s (kB (fun d => bnd (chk isStrB d) fun d => bnd (mal [a]) (on1 (splD d))) Q) := id rfl
end
end
end K08
end
noncomputable section
namespace K08
open PySem Bx
noncomputable section
section
variable {w : Int} {fs : Folk} {sat : Sat} {μ : List MO} {Q : RF → Prop} {d : D} {n : String}
def abB (l : List Nat) : Bool := l.all fun c => decide (c ∈ abc)
def nmB (x : Str) : Bool := (decide (1 ≤ x.length) && decide (x.length ≤ 6)) && abB x.cps.toList
def nB : D → Bool
  | .str x => nmB x
  | _ => false
def sB (w : Int) : D → Bool
  | .int i => decide (0 ≤ i) && decide (i < w)
  | _ => false
def leB : D → D → Bool
  | .int i, .int j => decide (i ≤ j)
  | _, _ => false
def pB (w : Int) : D → Bool
  | .tup [x, a, b] => nB x && (sB w a && (sB w b && leB a b))
  | _ => false
/-- a thing of known kind, its words short -/
def Th (d : D) : Prop := (∃ n, tyD d = some n) ∧ ∀ x, d = .str x → x.length ≤ 1000
theorem isi_strK (h : tyD d = some n) {s : S} {Q : R D → Prop} : wE (isiD isC d (.ty "str")) s Q = Q (.ok (.bl (isT n "str")) s) := isi_k h (by decide)
theorem in_abc {c : Nat} {s : S} {Q : R D → Prop} : wE (inA false (.str ⟨#[c]⟩) (.str (Str.ofString "abcdefghijklmnopqrstuvwxyz"))) s Q = Q (.ok (.bl (decide (c ∈ abc))) s) := by
  rw [abc_eq]
  exact wE_of rfl
theorem name_any (hx : ∀ x, d = .str x → x.length ≤ 1000) (h : tyD d = some n) : wD den_is_name [d] μ Q = Q (.ok (.bl (nB d)) μ) := by
  refine wD_of (of_wD (P := fun r => r = .ok (.bl (nB d)) μ) ?_)
  rw [den_is_name, wD_runB, b_is_name]
  by_cases hs : ∃ x, d = .str x
  · obtain ⟨x, rfl⟩ := hs
    have hxl := hx x rfl
    simp [frame, isi_strK (d := .str x) (n := "str") rfl, isT, wE_lenS (show x.length ≤ 100000 by omega), nB, nmB]
    by_cases c1 : 1 ≤ x.length
    · by_cases c2 : x.length ≤ 6
      · rw [if_pos (by omega), if_neg (by omega)]
        refine wcompY (fun c => D.str ⟨#[c]⟩) x.cps.toList (fun c => .bl (decide (c ∈ abc))) (by rfl) (by
          have : x.cps.toList.length = x.length := rfl
          omega) (fun c hc => by simp [in_abc]) ?_
        simp [all_map, c1, c2, abB]
      · rw [if_pos (by omega), if_pos (by omega)]
        intro _ z
        omega
    · rw [if_neg (by omega)]
      intro z
      omega
  · have e : nB d = false := by
      unfold nB
      split
      · exact absurd ⟨_, rfl⟩ hs
      · rfl
    have e2 : isT n "str" = false := by
      unfold tyD at h
      split at h <;> cases h <;> first | exact absurd ⟨_, rfl⟩ hs | decide
    simp [frame, isi_strK h, e, e2]
theorem seat_any (h : tyD d = some n) : wD den_is_seat [d, .int w] μ Q = Q (.ok (.bl (sB w d)) μ) := by
  refine wD_of (of_wD (P := fun r => r = .ok (.bl (sB w d)) μ) ?_)
  rw [den_is_seat, wD_runB, b_is_seat]
  by_cases hs : ∃ i, d = .int i
  · obtain ⟨i, rfl⟩ := hs
    by_cases h0 : 0 ≤ i
    · simp [frame, pick, whole_w, sB, h0]
    · simp [frame, pick, whole_w, sB, h0]
  · have e : sB w d = false := by
      unfold sB
      split
      · exact absurd ⟨_, rfl⟩ hs
      · rfl
    have e2 : n ≠ "int" := by
      unfold tyD at h
      split at h <;> cases h <;> first | exact absurd ⟨_, rfl⟩ hs | decide
    simp [frame, pick, val_k h _ _, whole_k h e2, e]
theorem sB_int (h : sB w d = true) : ∃ i, d = .int i := by
  unfold sB at h
  split at h
  · exact ⟨_, rfl⟩
  · cases h
theorem stretch_any {a b : D} {m : String} (ha : tyD a = some n) (hb : tyD b = some m) : wD den_is_stretch [.tup [a, b], .int w] μ Q = Q (.ok (.bl (sB w a && (sB w b && leB a b))) μ) := by
  refine wD_of (of_wD (P := fun r => r = .ok (.bl (sB w a && (sB w b && leB a b))) μ) ?_)
  rw [den_is_stretch, wD_runB, b_is_stretch]
  simp [frame, pick, isi_tupW, val_k ha _ _, val_k hb _ _, seat_any ha, seat_any hb]
  by_cases c1 : sB w a = true
  · by_cases c2 : sB w b = true
    · obtain ⟨i, rfl⟩ := sB_int c1
      obtain ⟨j, rfl⟩ := sB_int c2
      rw [if_pos c1, if_pos c2]
      simp [c1, c2, leB]
    · rw [if_pos c1, if_neg c2]
      intro _ z
      exact absurd z c2
  · rw [if_neg c1]
    intro z
    exact absurd z c1
theorem person_any (h : Th d) (hd : ∀ ds, d = .tup ds → ∀ x ∈ ds, Th x) : wD den_is_person [d, .int w] μ Q = Q (.ok (.bl (pB w d)) μ) := by
  refine wD_of (of_wD (P := fun r => r = .ok (.bl (pB w d)) μ) ?_)
  rw [den_is_person, wD_runB, b_is_person]
  obtain ⟨⟨n, h⟩, _⟩ := h
  by_cases hs : ∃ ds, d = .tup ds
  · obtain ⟨ds, rfl⟩ := hs
    have hd := hd ds rfl
    by_cases h3 : ds.length = 3
    · match ds, h3 with
      | [x, a, b], _ =>
        obtain ⟨⟨n1, e1⟩, f1⟩ := hd x (by simp)
        obtain ⟨⟨n2, e2⟩, f2⟩ := hd a (by simp)
        obtain ⟨⟨n3, e3⟩, f3⟩ := hd b (by simp)
        have gs : ∀ (ρ : List Sl) (Q : RS → Prop), wS (gstar 1 [2, 3] (.tup [x, a, b])) ⟨ρ, μ⟩ Q = Q (.nx ⟨(ρ.set 2 (.val x)).set 3 (.val (.lst [a, b])), μ⟩) := fun _ _ => id rfl
        simp [frame, pick, isi_tupW, val_k e1 _ _, val_k e2 _ _, val_k e3 _ _, name_any f1 e1, pB, gs, stretch_any e2 e3]
        by_cases c : nB x = true
        · rw [if_pos c]
          exact fun _ _ _ => c
        · rw [if_neg c]
          exact fun z => absurd z c
    · have e : pB w (.tup ds) = false := by
        unfold pB
        split
        · rename_i z
          cases z
          exact absurd rfl h3
        · rfl
      simp [frame, pick, isi_tupW, e]
      intro z
      omega
  · have e : pB w d = false := by
      unfold pB
      split
      · exact absurd ⟨_, rfl⟩ hs
      · rfl
    have e2 : isT n "tuple" = false := by
      unfold tyD at h
      split at h <;> cases h <;> first | exact absurd ⟨_, rfl⟩ hs | decide
    simp [frame, isi_k h (T := "tuple") (by decide), e, e2]
end
end
end K08
end
noncomputable section
namespace K08
open PySem Bx
noncomputable section
section
variable {w : Int} {fs : Folk} {sat : Sat} {μ : List MO} {Q : RF → Prop} {d : D} {n : String} {ds : List D}
def nmOf : D → Str
  | .tup (.str x :: _) => x
  | _ => ⟨#[]⟩
def fA (w : Int) (ds : List D) (k : Nat) : Bool := pB w (ds[k]?.getD .non) && !decide (nmOf (ds[k]?.getD .non) ∈ (ds.take k).map nmOf)
def Fo (w : Int) (ds : List D) : Option Nat := (List.range ds.length).find? fun k => !fA w ds k
theorem Fo_hit {k : Nat} (hk : k < ds.length) (h0 : ∀ j, j < k → fA w ds j = true) (h1 : fA w ds k = false) : Fo w ds = some k := by
  unfold Fo
  rw [List.find?_range_eq_some]
  refine ⟨by rw [h1]; rfl, List.mem_range.mpr hk, fun j hj => by rw [h0 j hj]; rfl⟩
theorem Fo_none (h0 : ∀ j, j < ds.length → fA w ds j = true) : Fo w ds = none := by
  unfold Fo
  rw [List.find?_eq_none]
  intro j hj
  rw [h0 j (List.mem_range.mp hj)]
  decide
def oD : Option Nat → D
  | none => .non
  | some k => .int k
theorem pB_tup (h : pB w d = true) : ∃ x a b, d = .tup [.str x, a, b] ∧ nmB x = true := by
  unfold pB at h
  split at h
  · rename_i x a b
    rw [Bool.and_eq_true] at h
    have h1 := h.1
    unfold nB at h1
    split at h1
    · exact ⟨_, a, b, rfl, h1⟩
    · cases h1
  · cases h
theorem has_iff {ks : List Str} {x : Str} : hasK (ks.map Sum.inr) (.inr x) = decide (x ∈ ks) := by
  by_cases h : x ∈ ks
  · rw [decide_eq_true h]
    unfold hasK
    rw [List.any_map, List.any_eq_true]
    exact ⟨x, h, by simp⟩
  · rw [decide_eq_false h, has_not h]
/-- things as people may be handed over -/
def Ths (ds : List D) : Prop := ∀ d ∈ ds, Th d ∧ ∀ es, d = .tup es → ∀ x ∈ es, Th x
theorem odd_any (hd : Ths ds) (hl : ds.length ≤ 50) : wD den_first_odd [.tup ds, .int w] μ Q = Q (.ok (oD (Fo w ds)) μ) := by
  refine wD_of (of_wD (P := fun r => r = .ok (oD (Fo w ds)) μ) ?_)
  rw [den_first_odd, wD_runB, b_first_odd]
  simp [frame, pick]
  rw [← List.map_id ds]
  obtain ⟨I, hI⟩ : ∃ I : Nat → S → Prop, ∀ k s, I k s ↔ (∀ j, j < k → fA w ds j = true) ∧ ∃ a b, s = ⟨[.val (.tup ds), .val (.int w), .own (.set (((ds.take k).map nmOf).map Sum.inr)), a, b], μ⟩ := ⟨_, fun _ _ => Iff.rfl⟩
  refine wforE id ds I ((hI _ _).mpr ⟨fun j hj => by omega, .no, .no, by simp⟩) (fun k hk s h0 => ?_) (fun s h0 => ?_)
  · obtain ⟨h1, a, b, rfl⟩ := (hI _ _).mp h0
    obtain ⟨e1, e2⟩ := hd ds[k] (List.getElem_mem hk)
    obtain ⟨⟨n, e3⟩, _⟩ := id e1
    have hg : ds[k]?.getD .non = ds[k] := by rw [List.getElem?_eq_getElem hk]; rfl
    obtain ⟨K, hK⟩ : ∃ K, K = (ds.take k).map nmOf := ⟨_, rfl⟩
    have hKl : K.length ≤ 50 := by rw [hK, List.length_map, List.length_take]; omega
    rw [← hK]
    simp [pick, val_k e3 _ _, person_any e1 e2]
    by_cases c : pB w ds[k] = true
    · obtain ⟨x, a1, b1, ex, hx⟩ := pB_tup c
      have e0 : ∀ s (Q : R D → Prop), wE (ixD (.tup [.str x, a1, b1]) (.int 0)) s Q = Q (.ok (.str x) s) := fun _ _ => id rfl
      have ek : ∀ u v (Q : R D → Prop), wE (inA false (.str x) (.loc 2)) ⟨[.val (.tup ds), .val (.int w), .own (.set (K.map Sum.inr)), u, v], μ⟩ Q = Q (.ok (.bl (decide (x ∈ K))) ⟨[.val (.tup ds), .val (.int w), .own (.set (K.map Sum.inr)), u, v], μ⟩) := fun u v Q => wE_of (by
        have g2 : (⟨[.val (.tup ds), .val (.int w), .own (.set (K.map Sum.inr)), u, v], μ⟩ : S).mo (.loc 2) = some (.set (K.map Sum.inr)) := rfl
        unfold inA
        simp only [g2, keyD, has_iff]
        rfl)
      rw [if_pos c]
      simp only [ex, e0, kB_ok, wE_bnd, wE_var, ek]
      by_cases m : x ∈ K
      · simp [m, ek]
        rw [Fo_hit hk h1 (by unfold fA; rw [hg, ex, ← hK]; simp [nmOf, m])]
        rfl
      · have ea : ∀ u v (Q : R D → Prop), wE (sadD (.loc 2) (.str x)) ⟨[.val (.tup ds), .val (.int w), .own (.set (K.map Sum.inr)), u, v], μ⟩ Q = Q (.ok .non ⟨[.val (.tup ds), .val (.int w), .own (.set ((K ++ [x]).map Sum.inr)), u, v], μ⟩) := fun u v Q => wE_of (by
          have g2 : (⟨[.val (.tup ds), .val (.int w), .own (.set (K.map Sum.inr)), u, v], μ⟩ : S).mo (.loc 2) = some (.set (K.map Sum.inr)) := rfl
          unfold sadD
          simp only [g2, keyD]
          rw [if_pos (by rw [List.length_map]; omega)]
          unfold addK
          rw [has_not m]
          simp
          rfl)
        have eK : K ++ [x] = (ds.take (k + 1)).map nmOf := by
          rw [List.take_succ_eq_append_getElem hk, List.map_append, ← hK, ex]
          rfl
        simp [m, ek, e0]
        rw [ea]
        simp
        refine (hI _ _).mpr ⟨fun j hj => ?_, _, _, by rw [← eK, List.map_append]; rfl⟩
        by_cases hj' : j < k
        · exact h1 j hj'
        · have : j = k := by omega
          subst this
          unfold fA
          rw [hg, c, ex, ← hK]
          simp [nmOf, m]
    · simp [c]
      rw [Fo_hit hk h1 (by unfold fA; rw [hg]; simp [c])]
      rfl
  · obtain ⟨h1, a, b, rfl⟩ := (hI _ _).mp h0
    simp
    rw [Fo_none h1]
    rfl
end
end
end K08
end
noncomputable section
namespace K08
open PySem Bx
noncomputable section
section
variable {w : Int} {fs : Folk} {sat : Sat} {μ : List MO} {d : D} {n : String} {ds : List D}
theorem make_x {ρ : List Sl} {y : Xc} {Q : R D → Prop} (h : ∀ x dx, ∃ ρ', b_Bench_init ⟨frameI "Bench" 4 x dx ds, μ⟩ = .exc y ⟨ρ', μ⟩ ∧ ρ'[0]? = some (.own (.slf "Bench" x dx []))) : wE (makeD "Bench" den_Bench_init ds) ⟨ρ, μ⟩ Q = Q (.exc y ⟨ρ, μ⟩) := by
  have e : den_Bench_init 0 0 ds μ = .exc y μ := blindOf_ok fun x dx => by
    obtain ⟨ρ', h1, h2⟩ := h x dx
    unfold runI
    rw [h1]
    simp [slfOf, h2]
  refine wE_of ?_
  unfold makeD
  simp only [e]
/-- no number of seats -/
def NoSt (d : D) : Prop := (∃ n, tyD d = some n) ∧ ∀ i, d = .int i → i < 1 ∨ 12 < i
theorem seats_x {sd pd : D} (hs : NoSt sd) (hp : ∃ n, tyD pd = some n) {ρ : List Sl} {Q : R D → Prop} : wE (makeD "Bench" den_Bench_init [sd, pd]) ⟨ρ, μ⟩ Q = Q (.exc ⟨"NoSeats", none⟩ ⟨ρ, μ⟩) := by
  refine make_x fun x dx => ⟨[.own (.slf "Bench" x dx []), .val sd, .val pd, .no], ?_, rfl⟩
  obtain ⟨⟨n, e⟩, h2⟩ := hs
  obtain ⟨m, ep⟩ := hp
  show wS b_Bench_init ⟨frameI "Bench" 4 x dx [sd, pd], μ⟩ fun r => r = .exc ⟨"NoSeats", none⟩ ⟨[.own (.slf "Bench" x dx []), .val sd, .val pd, .no], μ⟩
  unfold b_Bench_init
  by_cases hi : ∃ i, sd = .int i
  · obtain ⟨i, rfl⟩ := hi
    have := h2 i rfl
    by_cases c1 : 1 ≤ i
    · simp [frameI, frame, pick, whole_w, c1, show (12 : Int) < i by omega]
    · simp [frameI, frame, pick, whole_w, c1]
  · have e2 : n ≠ "int" := by
      unfold tyD at e
      split at e <;> cases e <;> first | exact absurd ⟨_, rfl⟩ hi | decide
    simp [frameI, frame, pick, val_k e _ _, whole_k e e2]
/-- people that are none -/
theorem people_x {pd : D} (hw : 1 ≤ w) (hw2 : w ≤ 12) (h : (∃ n, tyD pd = some n ∧ n ≠ "tuple") ∨ ∃ ds, pd = .tup ds ∧ w < ds.length) {ρ : List Sl} {Q : R D → Prop} : wE (makeD "Bench" den_Bench_init [.int w, pd]) ⟨ρ, μ⟩ Q = Q (.exc ⟨"NoPeople", some ("place", .non)⟩ ⟨ρ, μ⟩) := by
  refine make_x fun x dx => ⟨[.own (.slf "Bench" x dx []), .val (.int w), .val pd, .no], ?_, rfl⟩
  show wS b_Bench_init ⟨frameI "Bench" 4 x dx [.int w, pd], μ⟩ fun r => r = .exc ⟨"NoPeople", some ("place", .non)⟩ ⟨[.own (.slf "Bench" x dx []), .val (.int w), .val pd, .no], μ⟩
  unfold b_Bench_init
  rcases h with ⟨n, e, hn⟩ | ⟨ds, rfl, hl⟩
  · have e2 : isT n "tuple" = false := by
      unfold isT
      simp [hn]
    simp [frameI, frame, pick, whole_w, hw, show ¬ (12 : Int) < w by omega, isi_k e (T := "tuple") (by decide), e2]
  · simp [frameI, frame, pick, whole_w, hw, show ¬ (12 : Int) < w by omega, isi_tupW, hl]
theorem odd_x {k : Nat} (hw : 1 ≤ w) (hw2 : w ≤ 12) (hd : Ths ds) (hl : (ds.length : Int) ≤ w) (hF : Fo w ds = some k) {ρ : List Sl} {Q : R D → Prop} : wE (makeD "Bench" den_Bench_init [.int w, .tup ds]) ⟨ρ, μ⟩ Q = Q (.exc ⟨"NoPeople", some ("place", .int k)⟩ ⟨ρ, μ⟩) := by
  refine make_x fun x dx => ⟨[.own (.slf "Bench" x dx []), .val (.int w), .val (.tup ds), .val (.int k)], ?_, rfl⟩
  show wS b_Bench_init ⟨frameI "Bench" 4 x dx [.int w, .tup ds], μ⟩ fun r => r = .exc ⟨"NoPeople", some ("place", .int k)⟩ ⟨[.own (.slf "Bench" x dx []), .val (.int w), .val (.tup ds), .val (.int k)], μ⟩
  unfold b_Bench_init
  simp [frameI, frame, pick, whole_w, hw, show ¬ (12 : Int) < w by omega, isi_tupW, show ¬ w < (ds.length : Int) by omega, odd_any hd (show ds.length ≤ 50 by omega), hF, oD]
end
end
end K08
end
noncomputable section
namespace K08
open PySem Bx
noncomputable section
section
variable {w : Int} {fs : Folk} {sat : Sat} {μ : List MO} {Q : RF → Prop} {d : D} {n : String} {ds : List D}
theorem ok_nm {x : Str} (h : okName x) : nmB x = true := by
  obtain ⟨l, rfl, h1, h2, h3⟩ := h
  have e : (T l).cps.toList = l := rfl
  have e2 : (T l).length = l.length := rfl
  unfold nmB abB
  rw [e, e2]
  simp only [Bool.and_eq_true, decide_eq_true_eq, List.all_eq_true]
  exact ⟨⟨h1, h2⟩, fun c hc => List.mem_map.mpr ⟨c - 97, List.mem_range.mpr (by have := h3 c hc; unfold low1 at this; omega), by have := h3 c hc; unfold low1 at this; omega⟩⟩
theorem pB_ok {p : Str × Int × Int} (h1 : okName p.1) (h2 : okP w p) : pB w (per p) = true := by
  unfold okP at h2
  simp only [per, pB, nB, ok_nm h1, Bool.true_and, sB, leB, Bool.and_eq_true, decide_eq_true_eq]
  omega
theorem Fo_at {k : Nat} {B : List D} (hf : okFolk w fs) (hk : k ≤ fs.length) (hd : pB w d = false ∨ nmOf d ∈ (fs.take k).map (·.1)) : Fo w ((fs.take k).map per ++ d :: B) = some k := by
  have hl : ((fs.take k).map per).length = k := by rw [List.length_map, List.length_take]; omega
  have hn : ∀ l : Folk, (l.map per).map nmOf = l.map (·.1) := fun l => by rw [List.map_map]; rfl
  refine Fo_hit (by rw [List.length_append, hl, List.length_cons]; omega) (fun j hj => ?_) ?_
  · have hjf : j < fs.length := by omega
    have e1 : ((fs.take k).map per ++ d :: B)[j]? = some (per fs[j]) := by
      rw [List.getElem?_append_left (by omega), List.getElem?_map, List.getElem?_take, if_pos hj, List.getElem?_eq_getElem hjf]
      rfl
    have e2 : ((fs.take k).map per ++ d :: B).take j = (fs.take j).map per := by
      rw [List.take_append_of_le_length (by omega), ← List.map_take, List.take_take, Nat.min_eq_left (by omega)]
    unfold fA
    rw [e1, e2, Option.getD_some, hn, pB_ok (hf.1.2 _ (List.mem_map_of_mem (List.getElem_mem hjf))) (hf.2.1 _ (List.getElem_mem hjf)), Bool.true_and, Bool.not_eq_true', decide_eq_false_iff_not]
    intro z
    obtain ⟨i, hi, ei⟩ := List.getElem_of_mem z
    rw [List.length_map, List.length_take] at hi
    rw [List.getElem_map, List.getElem_take] at ei
    have hnd := hf.1.1
    have := (List.getElem_inj (h₀ := by rw [List.length_map]; omega) (h₁ := by rw [List.length_map]; exact hjf) hnd (i := i) (j := j)).mp (by rw [List.getElem_map, List.getElem_map]; exact ei)
    omega
  · have e1 : ((fs.take k).map per ++ d :: B)[k]? = some d := by
      rw [List.getElem?_append_right (by omega), hl, Nat.sub_self]
      rfl
    have e2 : ((fs.take k).map per ++ d :: B).take k = (fs.take k).map per := by
      rw [List.take_append_of_le_length (by omega), List.take_of_length_le (by omega)]
    unfold fA
    rw [e1, e2, Option.getD_some, hn]
    rcases hd with z | z
    · rw [z]; rfl
    · rw [decide_eq_true z]; simp
theorem ePer0 (p : Str × Int × Int) {s : S} {Q : R D → Prop} : wE (ixD (per p) (.int 0)) s Q = Q (.ok (.str p.1) s) := id rfl
theorem rcv {mn : Str} (h1 : (mn = Str.ofString "seats") = False) (h2 : (mn = Str.ofString "people") = False) {s : S} {Q : R D → Prop} : wE (recv "Bench" mn (benchD w fs)) s Q = Q (.ok (benchD w fs) s) := wE_of (by
  unfold recv
  simp [objOf, benchD, rsl, lookD, h1, h2])
theorem plus_good {p : Str × Int × Int} (hf : okFolk w (fs ++ [p])) (hw : 1 ≤ w) (hw2 : w ≤ 12) : wD den_Bench_plus [benchD w fs, per p] μ Q = Q (.ok (benchD w (fs ++ [p])) μ) := by
  refine wD_of (of_wD (P := fun r => r = .ok (benchD w (fs ++ [p])) μ) ?_)
  rw [den_Bench_plus, wD_runB, b_Bench_plus]
  have hv : ∀ s (Q : R D → Prop), wE (Bx.settle (per p)) s Q = Q (.ok (per p) s) := fun _ _ => id rfl
  have hl := hf.2.2
  rw [List.length_append, List.length_singleton] at hl
  have ha : ∀ s (Q : R D → Prop), wE (addD (.tup (fs.map per)) (.tup [per p])) s Q = Q (.ok (.tup ((fs ++ [p]).map per)) s) := fun s Q => by
    rw [wE_addT (by simp; omega), List.map_append]
    rfl
  simp only [frame, pick, fld_seats, fld_people, wE_mkK]
  simp [frame, pick, fld_seats, fld_people, hv, ha, -List.map_append, make_w hf (show 0 < w by omega) hw2, wE_bench]
theorem plus_full (hl : (fs.length : Int) = w) (hw : 1 ≤ w) (hw2 : w ≤ 12) (hd : tyD d = some n) : wD den_Bench_plus [benchD w fs, d] μ Q = Q (.exc ⟨"NoPeople", some ("place", .non)⟩ μ) := by
  refine wD_of (of_wD (P := fun r => r = .exc ⟨"NoPeople", some ("place", .non)⟩ μ) ?_)
  rw [den_Bench_plus, wD_runB, b_Bench_plus]
  have hv := val_k hd
  have ha : ∀ s (Q : R D → Prop), wE (addD (.tup (fs.map per)) (.tup [d])) s Q = Q (.ok (.tup (fs.map per ++ [d])) s) := fun s Q => wE_addT (by simp; omega)
  simp [frame, pick, fld_seats, fld_people, hv _ _, ha, people_x hw hw2 (.inr ⟨fs.map per ++ [d], rfl, by simp; omega⟩)]
theorem ths_app {A B : List D} (h1 : Ths A) (h2 : Ths B) : Ths (A ++ B) := fun x hx => (List.mem_append.mp hx).elim (h1 x) (h2 x)
theorem ths_per (hf : okFolk w fs) : Ths (fs.map per) := fun x hx => by
  obtain ⟨p, hp, rfl⟩ := List.mem_map.mp hx
  refine ⟨⟨⟨_, rfl⟩, fun x e => by cases e⟩, fun es e y hy => ?_⟩
  have e' : es = [.str p.1, .int p.2.1, .int p.2.2] := by cases e; rfl
  subst e'
  have ha := okName_asc (hf.1.2 _ (List.mem_map_of_mem hp))
  rcases List.mem_cons.mp hy with rfl | hy
  · exact ⟨⟨_, rfl⟩, fun x e => by cases e; omega⟩
  rcases List.mem_cons.mp hy with rfl | hy
  · exact ⟨⟨_, rfl⟩, fun x e => by cases e⟩
  rw [List.mem_singleton.mp hy]
  exact ⟨⟨_, rfl⟩, fun x e => by cases e⟩
theorem plus_odd (hf : okFolk w fs) (hl : (fs.length : Int) < w) (hw : 1 ≤ w) (hw2 : w ≤ 12) (hd : Ths [d]) (ho : pB w d = false ∨ nmOf d ∈ fs.map (·.1)) : wD den_Bench_plus [benchD w fs, d] μ Q = Q (.exc ⟨"NoPeople", some ("place", .int fs.length)⟩ μ) := by
  refine wD_of (of_wD (P := fun r => r = .exc ⟨"NoPeople", some ("place", .int fs.length)⟩ μ) ?_)
  rw [den_Bench_plus, wD_runB, b_Bench_plus]
  obtain ⟨⟨⟨n, hn⟩, _⟩, _⟩ := hd d (by simp)
  have hv := val_k hn
  have ha : ∀ s (Q : R D → Prop), wE (addD (.tup (fs.map per)) (.tup [d])) s Q = Q (.ok (.tup (fs.map per ++ [d])) s) := fun s Q => wE_addT (by simp; omega)
  have hF := Fo_at (k := fs.length) (d := d) (B := []) hf (Nat.le_refl _) (by rwa [List.take_of_length_le (Nat.le_refl _)])
  rw [List.take_of_length_le (Nat.le_refl _)] at hF
  simp [frame, pick, fld_seats, fld_people, hv _ _, ha, odd_x hw hw2 (ths_app (ths_per hf) hd) (by simp; omega) hF]
end
end
end K08
end
noncomputable section
namespace K08
open PySem Bx
noncomputable section
section
variable {w : Int} {fs : Folk} {μ : List MO} {Q : RF → Prop} {p : Str × Int × Int}
def numS (i : Int) : Str := Str.ofString (toString i)
theorem num_dec : ∀ n : Fin 13, (TL.tl (numS (n.val : Int))).length ≤ 2 ∧ (TL.tl (numS (n.val : Int))).all (fun c => decide (48 ≤ c) && decide (c ≤ 57)) = true := by decide +kernel
theorem num_tl {i : Int} (h0 : 0 ≤ i) (h1 : i ≤ 12) : (TL.tl (numS i)).length ≤ 2 ∧ ∀ c ∈ TL.tl (numS i), 48 ≤ c ∧ c ≤ 57 := by
  obtain ⟨n, rfl⟩ : ∃ n : Nat, i = n := ⟨i.toNat, by omega⟩
  have h := num_dec ⟨n, by omega⟩
  refine ⟨h.1, fun c hc => ?_⟩
  have := List.all_eq_true.mp h.2 c hc
  simpa using this
theorem blk_tl : TL.tl (Str.ofString " ") = [32] := by decide +kernel
theorem line_tl : TL.tl (Str.ofString "\n") = [10] := by decide +kernel
theorem join_tl (sep : Str) (xs : List Str) : TL.tl (Txt.join sep xs) = TL.joinL (TL.tl sep) (xs.map TL.tl) := by
  rw [TL.join_eq, TL.tl_join]
theorem row_tl : TL.tl (rowS p) = TL.tl p.1 ++ 32 :: (TL.tl (numS p.2.1) ++ 32 :: TL.tl (numS p.2.2)) := by
  have h0 : TL.tl Str.empty = [] := by decide +kernel
  show TL.tl (((((Str.empty ++ p.1) ++ Str.ofString " ") ++ numS p.2.1) ++ Str.ofString " ") ++ numS p.2.2) = _
  simp [TL.tl_append, blk_tl, h0]
theorem row_words : rowS p = Txt.join (Str.ofString " ") [p.1, numS p.2.1, numS p.2.2] := TL.ext_tl (by
  rw [row_tl, join_tl, blk_tl]
  simp [TL.joinL])
theorem head_words : headS w = Txt.join (Str.ofString " ") [Str.ofString "seats", numS w] := TL.ext_tl (by
  rw [join_tl, blk_tl]
  have h1 : TL.tl Str.empty = [] := by decide +kernel
  have h2 : TL.tl (Str.ofString "seats ") = TL.tl (Str.ofString "seats") ++ [32] := by decide +kernel
  show TL.tl ((Str.empty ++ Str.ofString "seats ") ++ numS w) = _
  simp [TL.tl_append, h1, h2, TL.joinL])
theorem joinL_len {s : List Nat} {n : Nat} : ∀ {l : List (List Nat)}, (∀ q ∈ l, q.length ≤ n) → (TL.joinL s l).length ≤ (n + s.length) * l.length
  | [], _ => by simp [TL.joinL]
  | [q], h => by
    have := h q (by simp)
    simp [TL.joinL]
    omega
  | q :: r :: l, h => by
    have ih := joinL_len (s := s) (n := n) (l := r :: l) fun z hz => h z (List.mem_cons_of_mem _ hz)
    have := h q (by simp)
    rw [show TL.joinL s (q :: r :: l) = q ++ (s ++ TL.joinL s (r :: l)) from rfl, List.length_append, List.length_append, List.length_cons, Nat.mul_succ]
    omega
end
end
end K08
end
noncomputable section
namespace K08
open PySem Bx
noncomputable section
theorem join_spl (c : Nat) : ∀ (l acc : List Nat), TL.joinL [c] (TL.spl [c] 0 acc l) = acc ++ l
  | [], acc => by rw [TL.spl_nil]; simp [TL.joinL]
  | x :: r, acc => by
    by_cases h : TL.pre [c] (x :: r) = true
    · rw [TL.spl_hit h]
      have hx : x = c := by
        unfold TL.pre at h
        simpa using h
      have ih := join_spl c r []
      show TL.joinL [c] (acc :: TL.spl [c] 0 [] r) = acc ++ x :: r
      cases e : TL.spl [c] 0 [] r with
      | nil =>
        exfalso
        rw [e] at ih
        cases r with
        | nil => rw [TL.spl_nil] at e; cases e
        | cons y r => simp [TL.joinL] at ih
      | cons a b =>
        rw [e] at ih
        have : TL.joinL [c] (acc :: a :: b) = acc ++ ([c] ++ TL.joinL [c] (a :: b)) := by simp [TL.joinL]
        rw [this, ih, hx]
        simp
    · rw [TL.spl_miss (by simpa using h), join_spl c r (acc ++ [x])]
      simp
theorem spl_ne (c : Nat) : ∀ (l acc : List Nat), TL.spl [c] 0 acc l ≠ []
  | [], acc => by rw [TL.spl_nil]; simp
  | x :: r, acc => by
    by_cases h : TL.pre [c] (x :: r) = true
    · rw [TL.spl_hit h]; simp
    · rw [TL.spl_miss (by simpa using h)]; exact spl_ne c r _
theorem spl_len (c : Nat) : ∀ (l acc : List Nat), ∀ p ∈ TL.spl [c] 0 acc l, p.length ≤ acc.length + l.length
  | [], acc => by rw [TL.spl_nil]; simp
  | x :: r, acc => by
    by_cases h : TL.pre [c] (x :: r) = true
    · rw [TL.spl_hit h]
      intro p hp
      rcases List.mem_cons.mp hp with rfl | hp
      · omega
      · have := spl_len c r [] p hp
        simp at this ⊢
        omega
    · rw [TL.spl_miss (by simpa using h)]
      intro p hp
      have := spl_len c r (acc ++ [x]) p hp
      simp at this ⊢
      omega
theorem spl_cnt (c : Nat) : ∀ (l acc : List Nat), (TL.spl [c] 0 acc l).length ≤ l.length + 1
  | [], acc => by rw [TL.spl_nil]; simp
  | x :: r, acc => by
    by_cases h : TL.pre [c] (x :: r) = true
    · rw [TL.spl_hit h]
      have := spl_cnt c r []
      simp at this ⊢
      omega
    · rw [TL.spl_miss (by simpa using h)]
      have := spl_cnt c r (acc ++ [x])
      simp at this ⊢
      omega
theorem split_tl {x y : Str} {c : Nat} (hy : TL.tl y = [c]) (h : (y.cps.all fun x => decide (x < 256)) = true) : (Txt.split x y).map TL.tl = TL.spl [c] 0 [] (TL.tl x) := by
  have := TL.split_spl x y (by rw [hy]; simp) (TL.kind_ok h)
  rwa [hy] at this
theorem blk_ok : (Str.ofString " ").cps.all (fun x => decide (x < 256)) = true := by decide +kernel
theorem line_ok : (Str.ofString "\n").cps.all (fun x => decide (x < 256)) = true := by decide +kernel
/-- the rows of a text, the words of a row -/
def rows (t : Str) : List Str := Txt.split t (Str.ofString "\n")
def wds (t : Str) : List Str := Txt.split t (Str.ofString " ")
theorem rows_join (t : Str) : Txt.join (Str.ofString "\n") (rows t) = t := TL.ext_tl (by
  rw [join_tl, line_tl, rows, split_tl line_tl line_ok, join_spl]; rfl)
theorem words_join (t : Str) : Txt.join (Str.ofString " ") (wds t) = t := TL.ext_tl (by
  rw [join_tl, blk_tl, wds, split_tl blk_tl blk_ok, join_spl]; rfl)
theorem rows_ne (t : Str) : rows t ≠ [] := fun h => by
  have := split_tl (x := t) line_tl line_ok
  rw [show Txt.split t (Str.ofString "\n") = rows t from rfl, h] at this
  exact spl_ne 10 _ _ this.symm
theorem rows_len {t r : Str} (h : r ∈ rows t) : r.length ≤ t.length := by
  have := spl_len 10 (TL.tl t) [] (TL.tl r) (by rw [← split_tl (x := t) line_tl line_ok]; exact List.mem_map_of_mem h)
  rw [TL.len_tl, TL.len_tl]
  simpa using this
theorem words_len {t r : Str} (h : r ∈ wds t) : r.length ≤ t.length := by
  have := spl_len 32 (TL.tl t) [] (TL.tl r) (by rw [← split_tl (x := t) blk_tl blk_ok]; exact List.mem_map_of_mem h)
  rw [TL.len_tl, TL.len_tl]
  simpa using this
theorem rows_cnt (t : Str) : (rows t).length ≤ t.length + 1 := by
  have := spl_cnt 10 (TL.tl t) []
  rw [← split_tl (x := t) line_tl line_ok, List.length_map, ← TL.len_tl] at this
  exact this
theorem words_cnt (t : Str) : (wds t).length ≤ t.length + 1 := by
  have := spl_cnt 32 (TL.tl t) []
  rw [← split_tl (x := t) blk_tl blk_ok, List.length_map, ← TL.len_tl] at this
  exact this
def canB (l : List Nat) : Bool := (!l.isEmpty) && (l.all fun c => decide (48 ≤ c) && decide (c ≤ 57)) && !(l.head? == some 48 && !(l == [48]))
def figF (x : Str) : Option Int := if canB (TL.tl x) then some ((NumText.digitsVal (TL.tl x) : Nat) : Int) else none
theorem can_iff {l : List Nat} : canB l = true ↔ l ≠ [] ∧ (∀ c ∈ l, 48 ≤ c ∧ c ≤ 57) ∧ ¬ (l.head? = some 48 ∧ l ≠ [48]) := by
  unfold canB
  simp only [Bool.and_eq_true, Bool.not_eq_true', List.all_eq_true, decide_eq_true_eq, and_assoc]
  refine and_congr (by simp) (and_congr Iff.rfl ?_)
  simp
theorem fold_ge (l : List Nat) : ∀ a : Nat, a * 10 ^ l.length ≤ List.foldl (fun acc c => acc * 10 + (c - 48)) a l := by
  induction l with
  | nil => intro a; simp
  | cons c r ih =>
    intro a
    rw [List.foldl_cons]
    refine Nat.le_trans ?_ (ih _)
    rw [List.length_cons, Nat.pow_succ, Nat.add_mul, Nat.mul_comm (10 ^ r.length) 10, ← Nat.mul_assoc]
    omega
theorem fig_num_dec : ∀ n : Fin 13, figF (numS (n.val : Int)) = some (n.val : Int) := by decide +kernel
theorem tl_num1 : ∀ n : Fin 10, TL.tl (numS (n.val : Int)) = [48 + n.val] := by decide +kernel
theorem tl_num2 : ∀ n : Fin 3, TL.tl (numS (10 + (n.val : Int))) = [49, 48 + n.val] := by decide +kernel
theorem fig_num {n : Int} (h0 : 0 ≤ n) (h1 : n ≤ 12) : figF (numS n) = some n := by
  obtain ⟨k, rfl⟩ := Int.eq_ofNat_of_zero_le h0
  exact fig_num_dec ⟨k, by omega⟩
theorem num_fig {x : Str} {n : Int} (h : figF x = some n) (h1 : n ≤ 12) : x = numS n := by
  unfold figF at h
  split at h
  · rename_i hc
    cases h
    obtain ⟨c1, c2, c3⟩ := can_iff.mp hc
    refine TL.ext_tl ?_
    generalize e : TL.tl x = l at *
    match l, c1 with
    | [a], _ =>
      have ha := c2 a (by simp)
      have ev : NumText.digitsVal [a] = a - 48 := by simp [NumText.digitsVal]
      have := tl_num1 ⟨a - 48, by omega⟩
      rw [ev]
      simp only at this
      rw [this]
      congr 1
      omega
    | [a, b], _ =>
      have ha := c2 a (by simp)
      have hb := c2 b (by simp)
      have na : a ≠ 48 := fun z => c3 ⟨by simp [z], by simp⟩
      have ev : NumText.digitsVal [a, b] = (a - 48) * 10 + (b - 48) := by simp [NumText.digitsVal]
      rw [ev] at h1 ⊢
      have a1 : a = 49 := by omega
      subst a1
      have := tl_num2 ⟨b - 48, by omega⟩
      have e2 : (((49 - 48) * 10 + (b - 48) : Nat) : Int) = 10 + ((b - 48 : Nat) : Int) := by omega
      rw [e2]
      simp only at this
      rw [this]
      congr 2
      omega
    | a :: b :: c :: r, _ =>
      exfalso
      have ha := c2 a (by simp)
      have na : a ≠ 48 := fun z => c3 ⟨by simp [z], by simp⟩
      have := fold_ge (b :: c :: r) (a - 48)
      have ev : NumText.digitsVal (a :: b :: c :: r) = List.foldl (fun acc c => acc * 10 + (c - 48)) (a - 48) (b :: c :: r) := by simp [NumText.digitsVal]
      have p : 100 ≤ 10 ^ (b :: c :: r).length := by
        rw [List.length_cons, List.length_cons, Nat.pow_succ, Nat.pow_succ]
        have : 1 ≤ 10 ^ r.length := Nat.one_le_pow _ _ (by decide)
        omega
      have q : 10 ^ (b :: c :: r).length ≤ (a - 48) * 10 ^ (b :: c :: r).length := Nat.le_mul_of_pos_left _ (by omega)
      rw [ev] at h1
      omega
  · cases h
theorem fig_pos {x : Str} {n : Int} (h : figF x = some n) : 0 ≤ n := by
  unfold figF at h
  split at h <;> cases h
  omega
/-- a word is one of the numbers of a span just where it is written so -/
theorem in_nums {x : Str} {lo hi : Int} (h0 : 0 ≤ lo) (h1 : hi ≤ 12) : (∃ n : Int, lo ≤ n ∧ n ≤ hi ∧ x = numS n) ↔ ∃ n, figF x = some n ∧ lo ≤ n ∧ n ≤ hi := by
  constructor
  · rintro ⟨n, a, b, rfl⟩
    exact ⟨n, fig_num (by omega) (by omega), a, b⟩
  · rintro ⟨n, e, a, b⟩
    exact ⟨n, a, b, num_fig e (by omega)⟩
end
end K08
end
noncomputable section
namespace K08
open PySem Bx
noncomputable section
section
variable {w : Int} {fs : Folk} {μ : List MO} {ρ : List Sl} {Q : RF → Prop} {p : Str × Int × Int} {i : Nat} {x : Str} {s : S}
def kX (tbl : List (Str × Bool)) (ms : MS) (Q : RS → Prop) : RS → Prop := fun r => match r with
  | .exc x s1 => match tbl.lookup x.cls with
    | some true => wS ms s1 Q
    | some false => Q (.exc x s1)
    | none => Q .bad
  | r => Q r
theorem wS_stryX {tbl : List (Str × Bool)} {mb ms : MS} {Q : RS → Prop} : wS (stryX tbl mb ms) s Q = wS mb s (kX tbl ms Q) := by
  unfold wS stryX kX
  cases mb s with
  | exc x s1 => cases h : tbl.lookup x.cls with
    | none => simp only [h]
    | some b => cases b <;> simp only [h] <;> rfl
  | _ => rfl
theorem kX_rt {tbl : List (Str × Bool)} {ms : MS} {Q : RS → Prop} {d : D} : kX tbl ms Q (.rt d s) = Q (.rt d s) := id rfl
theorem kX_exc {tbl : List (Str × Bool)} {ms : MS} {Q : RS → Prop} {y : Xc} (h : tbl.lookup y.cls = some true) : kX tbl ms Q (.exc y s) = wS ms s Q := by
  unfold kX
  simp only [h]
def figD (x : Str) : D := match figF x with
  | some n => .int n
  | none => .non
theorem chk_str {x : Str} {Q : R D → Prop} : wE (chk isStrB (.str x)) s Q = Q (.ok (.str x) s) := id rfl
theorem digs_eq : (Str.ofString "0123456789") = T ((List.range 10).map (· + 48)) := by decide +kernel
theorem in_digs {c : Nat} {Q : R D → Prop} : wE (inA false (.str ⟨#[c]⟩) (.str (Str.ofString "0123456789"))) s Q = Q (.ok (.bl (decide (c ∈ (List.range 10).map (· + 48)))) s) := by
  rw [digs_eq]
  exact wE_of rfl
theorem dig_mem {c : Nat} : c ∈ (List.range 10).map (· + 48) ↔ 48 ≤ c ∧ c ≤ 57 := by
  simp only [List.mem_map, List.mem_range]
  constructor
  · rintro ⟨a, h, rfl⟩; omega
  · intro h; exact ⟨c - 48, by omega, by omega⟩
theorem ix_str {c : Nat} {l : List Nat} {Q : R D → Prop} (h : l.length ≤ 1000) : wE (ixD (.str ⟨(c :: l).toArray⟩) (.int 0)) s Q = Q (.ok (.str ⟨#[c]⟩) s) := by
  have hl : (⟨(c :: l).toArray⟩ : Str).length ≤ 100000 := by
    show (c :: l).toArray.size ≤ 100000
    simp
    omega
  refine wE_of ?_
  unfold ixD
  simp [rsl, hl, L2.atI, L2.ixN]
theorem emp_iff {x : Str} : x = Str.ofString "" ↔ TL.tl x = [] := ⟨fun h => by rw [h]; rfl, fun h => TL.ext_tl (by rw [h]; rfl)⟩
theorem neS {u v : Str} {Q : R D → Prop} : wE (neD (.str u) (.str v)) s Q = Q (.ok (.bl (!decide (u = v))) s) := id rfl
theorem int_can {x : Str} (h : canB (TL.tl x) = true) (hl : x.length ≤ 640) {Q : R D → Prop} : wE (intT (.str x)) s Q = Q (.ok (.int (NumText.digitsVal (TL.tl x) : Nat)) s) := by
  obtain ⟨c1, c2, c3⟩ := can_iff.mp h
  have e := PySem.intText_digits (x := x) c2 c1 (by omega)
  refine wE_of ?_
  unfold intT
  simp only [rsl, hl, if_true, e]
theorem fig_any (hl : x.length ≤ 640) : wD den_figured [.str x] μ Q = Q (.ok (figD x) μ) := by
  refine wD_of (of_wD (P := fun r => r = _) ?_)
  rw [den_figured, wD_runB, b_figured]
  have hx : x = ⟨(TL.tl x).toArray⟩ := (TL.mk_tl x).symm
  have hlen : (TL.tl x).length = x.length := (TL.len_tl x).symm
  by_cases c1 : TL.tl x = []
  · have : figD x = .non := by
      unfold figD figF
      rw [c1]
      rfl
    rw [this]
    simp [frame, emp_iff.mpr c1]
  · have c0 : ¬ x = Str.ofString "" := fun z => c1 (emp_iff.mp z)
    simp [frame, c0]
    refine wcompY (fun c => D.str ⟨#[c]⟩) (TL.tl x) (fun c => .bl (decide (c ∈ (List.range 10).map (· + 48)))) (by rfl) (by omega) (fun c hc => by simp [in_digs]) ?_
    have al : ∀ s (Q : R D → Prop), wE (allD (.lst ((TL.tl x).map fun c => D.bl (decide (c ∈ (List.range 10).map (· + 48)))))) s Q = Q (.ok (.bl ((TL.tl x).all fun c => decide (48 ≤ c) && decide (c ≤ 57))) s) := fun s Q => by
      have e : ((TL.tl x).map fun c => D.bl (decide (c ∈ (List.range 10).map (· + 48)))) = (TL.tl x).map fun c => D.bl (decide (48 ≤ c) && decide (c ≤ 57)) := by
        refine List.map_congr_left fun c _ => ?_
        congr 1
        rw [Bool.eq_iff_iff, Bool.and_eq_true, decide_eq_true_eq, decide_eq_true_eq, decide_eq_true_eq]
        exact dig_mem
      rw [e, all_map]
    simp only [wE_margs, kB_ok, wE_bnd, wE_margs0, wE_pur, wE_f1]
    rw [al]
    by_cases c2 : ((TL.tl x).all fun c => decide (48 ≤ c) && decide (c ≤ 57)) = true
    · rw [c2]
      simp
      obtain ⟨a, l, el⟩ : ∃ a l, TL.tl x = a :: l := by
        cases e : TL.tl x with
        | nil => exact absurd e c1
        | cons a l => exact ⟨a, l, rfl⟩
      have hh : ∀ s (Q : R D → Prop), wE (ixD (.str x) (.int 0)) s Q = Q (.ok (.str ⟨#[a]⟩) s) := fun s Q => by
        rw [hx, el]
        exact ix_str (by rw [el] at hlen; simp at hlen; omega)
      have z0 : (Str.ofString "0") = ⟨#[48]⟩ := by decide +kernel
      have ha : (⟨#[a]⟩ = Str.ofString "0") ↔ a = 48 := by
        rw [z0]
        exact ⟨fun z => by injection z with z; injection z with z; simpa using z, fun z => by rw [z]⟩
      by_cases c3 : canB (TL.tl x) = true
      · have nc := (can_iff.mp c3).2.2
        have : figD x = .int (NumText.digitsVal (TL.tl x) : Nat) := by
          unfold figD figF
          rw [if_pos c3]
        rw [this]
        simp [hh, ha]
        by_cases c4 : a = 48
        · have e48 : TL.tl x = [48] := Classical.byContradiction fun z => nc ⟨by rw [el, c4]; rfl, z⟩
          have ex : x = Str.ofString "0" := by rw [hx, e48, z0]
          have nn : ∀ s (Q : R D → Prop), wE (neD (.str x) (.str (Str.ofString "0"))) s Q = Q (.ok (.bl false) s) := fun s Q => by rw [neS, ex]; simp
          rw [if_pos c4]
          simp [nn, int_can c3 hl]
          exact ex
        · rw [if_neg c4]
          simp [int_can c3 hl]
      · have : figD x = .non := by
          unfold figD figF
          rw [if_neg c3]
        rw [this]
        have bad : (TL.tl x).head? = some 48 ∧ TL.tl x ≠ [48] := Classical.byContradiction fun z => c3 (can_iff.mpr ⟨c1, fun c hc => by
          have := List.all_eq_true.mp c2 c hc
          simpa using this, z⟩)
        have h48 : a = 48 := by
          have := bad.1
          rw [el] at this
          simpa using this
        have nx : x ≠ Str.ofString "0" := fun z => bad.2 (by rw [z, z0])
        have nn : ∀ s (Q : R D → Prop), wE (neD (.str x) (.str (Str.ofString "0"))) s Q = Q (.ok (.bl true) s) := fun s Q => by rw [neS]; simp [nx]
        simp [hh, ha]
        rw [if_pos h48]
        exact fun z => absurd z nx
    · rw [Bool.not_eq_true] at c2
      have : figD x = .non := by
        unfold figD figF
        rw [if_neg (fun z => by
          have := (can_iff.mp z).2.1
          have c4 : ((TL.tl x).all fun c => decide (48 ≤ c) && decide (c ≤ 57)) = true := List.all_eq_true.mpr fun c hc => by simpa using this c hc
          rw [c2] at c4
          cases c4)]
      rw [this, c2]
      simp
end
end
end K08
end
noncomputable section
namespace K08
open PySem Bx
noncomputable section
section
variable {w : Int} {fs : Folk} {μ : List MO} {ρ : List Sl} {Q : RF → Prop} {p : Str × Int × Int} {i : Nat} {x : Str} {s : S}
theorem ok_of_nm {x : Str} (h : nmB x = true) : okName x := by
  unfold nmB at h
  rw [Bool.and_eq_true, Bool.and_eq_true, decide_eq_true_eq, decide_eq_true_eq] at h
  refine ⟨x.cps.toList, ?_, h.1.1, h.1.2, fun c hc => ?_⟩
  · obtain ⟨c⟩ := x; rfl
  · have := of_decide_eq_true (List.all_eq_true.mp h.2 c hc)
    exact abc_low c this
def palB (w : Int) (p : Str × Int × Int) : Bool := decide (0 ≤ p.2.1 ∧ p.2.1 ≤ p.2.2 ∧ p.2.2 < w)
theorem ok_plus {l h : Int} (hf : okFolk w fs) (hl : (fs.length : Int) < w) (hx : okName x) (c1 : palB w (x, l, h) = true) (c2 : x ∉ fs.map (·.1)) : okFolk w (fs ++ [(x, l, h)]) := by
  have c := of_decide_eq_true c1
  refine ⟨⟨?_, fun y hy => ?_⟩, fun q hq => ?_, by simp; omega⟩
  · rw [List.map_append, List.nodup_append]
    exact ⟨hf.1.1, by simp, fun y hy z hz => by simp at hz; subst hz; exact fun e => c2 (e ▸ hy)⟩
  · rw [List.map_append] at hy
    rcases List.mem_append.mp hy with hy | hy
    · exact hf.1.2 y hy
    · have e : y = x := by simpa using hy
      subst e; exact hx
  · rcases List.mem_append.mp hq with hq | hq
    · exact hf.2.1 q hq
    · have e : q = (x, l, h) := by simpa using hq
      subst e; exact c
def headF (h : Str) : Option Int := match wds h with
  | [a, x] => if a = Str.ofString "seats" then match figF x with
    | some n => if 1 ≤ n ∧ n ≤ 12 then some n else none
    | none => none else none
  | _ => none
def palF (w : Int) (fs : Folk) (c a b : Str) : Option (Str × Int × Int) := if nmB c = true ∧ c ∉ fs.map (·.1) ∧ (fs.length : Int) < w then match figF a, figF b with
  | some l, some h => if l ≤ h ∧ h < w then some (c, l, h) else none
  | _, _ => none else none
def rowL (w : Int) (fs : Folk) : List Str → Option (Str × Int × Int)
  | [c, a, b] => palF w fs c a b
  | _ => none
def rowF (w : Int) (fs : Folk) (r : Str) : Option (Str × Int × Int) := rowL w fs (wds r)
theorem rowL_ne {l : List Str} (h : l.length ≠ 3) : rowL w fs l = none := by
  unfold rowL
  split
  · exact absurd rfl h
  · rfl
def rowsF (w : Int) : Folk → Nat → List Str → Nat ⊕ Folk
  | fs, _, [] => .inr fs
  | fs, k, r :: rs => match rowF w fs r with
    | none => .inl k
    | some p => rowsF w (fs ++ [p]) (k + 1) rs
theorem rowsF_none {k : Nat} {r : Str} {rs : List Str} (h : rowF w fs r = none) : rowsF w fs k (r :: rs) = .inl k := by
  rw [rowsF, h]
theorem rowsF_some {k : Nat} {r : Str} {rs : List Str} (h : rowF w fs r = some p) : rowsF w fs k (r :: rs) = rowsF w (fs ++ [p]) (k + 1) rs := by
  rw [rowsF, h]
def xT (k : Nat) : Xc := ⟨Str.ofString "NoText", some (Str.ofString "row", .int k)⟩
theorem palF_ok {c a b : Str} (hf : okFolk w fs) (h : palF w fs c a b = some p) : okFolk w (fs ++ [p]) ∧ nmB c = true ∧ c ∉ fs.map (·.1) ∧ (fs.length : Int) < w ∧ ∃ l u, figF a = some l ∧ figF b = some u ∧ 0 ≤ l ∧ l ≤ u ∧ u < w ∧ p = (c, l, u) := by
  unfold palF at h
  split at h
  · rename_i h1
    split at h
    · rename_i l u e1 e2
      split at h
      · rename_i h2
        cases h
        have := fig_pos e1
        exact ⟨ok_plus hf h1.2.2 (ok_of_nm h1.1) (decide_eq_true ⟨this, h2⟩) h1.2.1, h1.1, h1.2.1, h1.2.2, l, u, e1, e2, this, h2.1, h2.2, rfl⟩
      · cases h
    · cases h
  · cases h
theorem spl_any {x y : Str} {Q : R D → Prop} (hy : (y.length == 0) = false) (hl : x.length ≤ 100000) : wE (splD (.str x) (.str y)) s Q = Q (.ok (.lst ((Txt.split x y).map .str)) s) := by
  refine wE_of ?_
  show (if (y.length == 0) = false ∧ x.length ≤ 100000 then R.ok (D.lst ((Txt.split x y).map D.str)) s else R.bad) = _
  rw [if_pos ⟨hy, hl⟩]
theorem wds_w {x : Str} {Q : R D → Prop} (hl : x.length ≤ 1000) : wE (splD (.str x) (.str (Str.ofString " "))) s Q = Q (.ok (.lst ((wds x).map .str)) s) := spl_any (by decide +kernel) (by omega)
theorem rows_w {x : Str} {Q : R D → Prop} (hl : x.length ≤ 1000) : wE (splD (.str x) (.str (Str.ofString "\n"))) s Q = Q (.ok (.lst ((rows x).map .str)) s) := spl_any (by decide +kernel) (by omega)
def tblT : List (Str × Bool) := [("NoSeats", true), ("NoPeople", false), ("NoText", false)]
def tblP : List (Str × Bool) := [("NoSeats", false), ("NoPeople", true), ("NoText", false)]
theorem x0 (a : D) (l : List D) {Q : R D → Prop} : wE (ixD (.lst (a :: l)) (.int 0)) s Q = Q (.ok a s) := by
  rw [ixL (by omega) (by simp)]
  rfl
theorem x1 (a b : D) (l : List D) {Q : R D → Prop} : wE (ixD (.lst (a :: b :: l)) (.int 1)) s Q = Q (.ok b s) := by
  rw [ixL (by omega) (by simp; omega)]
  rfl
theorem figD_val {Q : R D → Prop} : wE (Bx.settle (figD x)) s Q = Q (.ok (figD x) s) := by
  unfold figD
  split <;> exact id rfl
theorem bare_any {h : Str} (hl : h.length ≤ 600) : wD den_bare_bench [.str h] μ Q = match headF h with
    | some w => Q (.ok (benchD w []) μ)
    | none => Q (.exc (xT 0) μ) := by
  have key : wD den_bare_bench [.str h] μ (fun r => r = match headF h with
    | some w => .ok (benchD w []) μ
    | none => .exc (xT 0) μ) := by
    have ww := fun s (Q : R D → Prop) => wds_w (s := s) (Q := Q) (x := h) (by omega)
    have wl : ∀ r ∈ wds h, r.length ≤ 600 := fun r hr => Nat.le_trans (words_len hr) hl
    have wc := words_cnt h
    have vw : ∀ (l : List Str) s (Q : R D → Prop), wE (Bx.settle (.lst (l.map .str))) s Q = Q (.ok (.lst (l.map .str)) s) := fun _ _ _ => id rfl
    have xt : (xT 0) = ⟨Str.ofString "NoText", some (Str.ofString "row", .int 0)⟩ := rfl
    rw [den_bare_bench, wD_runB, b_bare_bench]
    unfold headF
    generalize wds h = l at *
    by_cases c1 : l.length = 2
    · match l, c1 with
      | [a, x], _ =>
        have hx := wl x (by simp)
        by_cases c2 : a = Str.ofString "seats"
        · subst c2
          have hk := fun (mb ms : MS) (s : S) (Q : RS → Prop) => wS_stryX (s := s) (tbl := tblT) (mb := mb) (ms := ms) (Q := Q)
          unfold tblT at hk
          have hexc : ∀ (ms : MS) (s : S) (Q : RS → Prop), kX [("NoSeats", true), ("NoPeople", false), ("NoText", false)] ms Q (.exc ⟨"NoSeats", none⟩ s) = wS ms s Q := fun ms s Q => kX_exc rfl
          simp [frame, pick, wE_mspl, chk_str, ww, x0, x1, hk, fig_any (show x.length ≤ 640 by omega), figD_val]
          cases e : figF x with
          | none =>
            have mk : ∀ (ρ : List Sl) (μ : List MO) (Q : R D → Prop), wE (makeD "Bench" den_Bench_init [.non, .tup []]) ⟨ρ, μ⟩ Q = Q (.exc ⟨"NoSeats", none⟩ ⟨ρ, μ⟩) := fun ρ μ Q => seats_x ⟨⟨_, rfl⟩, fun i e => by cases e⟩ ⟨_, rfl⟩
            simp [figD, e, mk, hexc, xt]
          | some n =>
            by_cases c3 : 1 ≤ n ∧ n ≤ 12
            · have hf0 : okFolk n [] := ⟨⟨List.nodup_nil, fun x hx => (nomatch hx)⟩, fun p hp => (nomatch hp), by simp; omega⟩
              have mk : ∀ (ρ : List Sl) (μ : List MO) (Q : R D → Prop), wE (makeD "Bench" den_Bench_init [.int n, .tup []]) ⟨ρ, μ⟩ Q = Q (.ok (benchD n []) ⟨ρ, μ⟩) := fun ρ μ Q => make_w (fs := []) hf0 (by omega) c3.2
              simp [figD, e, mk, c3.1, c3.2, kX_rt, wE_bench]
            · have mk : ∀ (ρ : List Sl) (μ : List MO) (Q : R D → Prop), wE (makeD "Bench" den_Bench_init [.int n, .tup []]) ⟨ρ, μ⟩ Q = Q (.exc ⟨"NoSeats", none⟩ ⟨ρ, μ⟩) := fun ρ μ Q => seats_x ⟨⟨_, rfl⟩, fun i e => by cases e; omega⟩ ⟨_, rfl⟩
              simp only [if_neg c3]
              simp [figD, e, mk, hexc, xt]
        · simp [frame, pick, wE_mspl, chk_str, ww, x0, x1, c2, xt]
    · have c1' : ¬ (l.length : Int) = 2 := by omega
      rw [show (match l with
        | [a, x] => if a = Str.ofString "seats" then match figF x with
          | some n => if 1 ≤ n ∧ n ≤ 12 then some n else none
          | none => none else none
        | _ => none) = none by
          split
          · exact absurd rfl c1
          · rfl]
      simp [frame, pick, wE_mspl, chk_str, ww, vw, c1', xt]
  rw [wD_of (of_wD (P := fun r => r = _) key)]
  cases headF h <;> rfl
end
end
end K08
end
noncomputable section
namespace K08
open PySem Bx
noncomputable section
section
variable {w : Int} {fs : Folk} {μ : List MO} {ρ : List Sl} {Q : RF → Prop} {p : Str × Int × Int} {i : Nat} {x : Str} {s : S} {c a b : Str}
theorem pB_fig : pB w (.tup [.str c, figD a, figD b]) = true ↔ nmB c = true ∧ ∃ l u, figF a = some l ∧ figF b = some u ∧ l ≤ u ∧ u < w := by
  show (nB (.str c) && (sB w (figD a) && (sB w (figD b) && leB (figD a) (figD b)))) = true ↔ _
  unfold figD
  cases e1 : figF a with
  | none => simp [sB]
  | some l =>
    cases e2 : figF b with
    | none => simp [sB]
    | some u =>
      have := fig_pos e1
      have := fig_pos e2
      simp [sB, leB, nB]
      intro _
      constructor
      · rintro ⟨h1, h2, h3⟩; exact ⟨h3, h2.2⟩
      · rintro ⟨h1, h2⟩; omega
theorem pal_some (h1 : pB w (.tup [.str c, figD a, figD b]) = true) (h2 : c ∉ fs.map (·.1)) (h3 : (fs.length : Int) < w) : ∃ l u, palF w fs c a b = some (c, l, u) ∧ figF a = some l ∧ figF b = some u := by
  obtain ⟨n, l, u, e1, e2, h4, h5⟩ := pB_fig.mp h1
  refine ⟨l, u, ?_, e1, e2⟩
  unfold palF
  rw [if_pos ⟨n, h2, h3⟩, e1, e2]
  simp [h4, h5]
theorem pal_none (h : ¬ (pB w (.tup [.str c, figD a, figD b]) = true ∧ c ∉ fs.map (·.1) ∧ (fs.length : Int) < w)) : palF w fs c a b = none := by
  cases e : palF w fs c a b with
  | none => rfl
  | some p =>
    exfalso
    unfold palF at e
    split at e
    · rename_i h1
      split at e
      · rename_i l u e1 e2
        split at e
        · rename_i h2
          exact h ⟨pB_fig.mpr ⟨h1.1, l, u, e1, e2, h2⟩, h1.2⟩
        · cases e
      · cases e
    · cases e
theorem th_fig : Th (figD x) := by
  unfold figD
  split <;> exact ⟨⟨_, rfl⟩, fun y e => by cases e⟩
theorem th_pal (hc : c.length ≤ 1000) : Ths [.tup [.str c, figD a, figD b]] := fun d hd => by
  rw [List.mem_singleton.mp hd]
  refine ⟨⟨⟨_, rfl⟩, fun y e => by cases e⟩, fun es e y hy => ?_⟩
  cases e
  simp at hy
  rcases hy with rfl | rfl | rfl
  · exact ⟨⟨_, rfl⟩, fun z e => by cases e; exact hc⟩
  · exact th_fig
  · exact th_fig
theorem rcPl {Q : R D → Prop} : wE (recv "Bench" "plus" (benchD w fs)) s Q = Q (.ok (benchD w fs) s) := rcv (by decide) (by decide)
/-- one more, told by three words -/
theorem plus_any (hf : okFolk w fs) (hw : 1 ≤ w) (hw2 : w ≤ 12) (hc : c.length ≤ 1000) : ∃ pl : D, (∀ μ (Q : RF → Prop), wD den_Bench_plus [benchD w fs, .tup [.str c, figD a, figD b]] μ Q = match palF w fs c a b with
    | some p => Q (.ok (benchD w (fs ++ [p])) μ)
    | none => Q (.exc ⟨"NoPeople", some ("place", pl)⟩ μ)) := by
  by_cases h3 : (fs.length : Int) < w
  · by_cases h1 : pB w (.tup [.str c, figD a, figD b]) = true
    · by_cases h2 : c ∈ fs.map (·.1)
      · refine ⟨.int fs.length, fun μ Q => ?_⟩
        rw [pal_none (fun z => z.2.1 h2)]
        exact plus_odd hf h3 hw hw2 (th_pal hc) (.inr h2)
      · obtain ⟨l, u, e, e1, e2⟩ := pal_some h1 h2 h3
        refine ⟨.non, fun μ Q => ?_⟩
        have hg := (palF_ok hf e).1
        rw [e]
        have : D.tup [.str c, figD a, figD b] = per (c, l, u) := by
          unfold figD
          rw [e1, e2]
          rfl
        rw [this]
        exact plus_good hg hw hw2
    · refine ⟨.int fs.length, fun μ Q => ?_⟩
      rw [pal_none (fun z => h1 z.1)]
      exact plus_odd hf h3 hw hw2 (th_pal hc) (.inl (by simpa using h1))
  · refine ⟨.non, fun μ Q => ?_⟩
    rw [pal_none (fun z => h3 z.2.2)]
    exact plus_full (n := "tuple") (by have := hf.2.2; omega) hw hw2 rfl
theorem row_any {r : Str} {n : Nat} (hf : okFolk w fs) (hw : 1 ≤ w) (hw2 : w ≤ 12) (hl : r.length ≤ 600) : wD den_with_row [benchD w fs, .int n, .str r] μ Q = match rowF w fs r with
    | some p => Q (.ok (benchD w (fs ++ [p])) μ)
    | none => Q (.exc (xT n) μ) := by
  have key : wD den_with_row [benchD w fs, .int n, .str r] μ (fun q => q = match rowF w fs r with
    | some p => .ok (benchD w (fs ++ [p])) μ
    | none => .exc (xT n) μ) := by
    have ww := fun s (Q : R D → Prop) => wds_w (s := s) (Q := Q) (x := r) (by omega)
    have wl : ∀ z ∈ wds r, z.length ≤ 600 := fun z hr => Nat.le_trans (words_len hr) hl
    have vw : ∀ (l : List Str) s (Q : R D → Prop), wE (Bx.settle (.lst (l.map .str))) s Q = Q (.ok (.lst (l.map .str)) s) := fun _ _ _ => id rfl
    have xt : xT n = ⟨Str.ofString "NoText", some (Str.ofString "row", .int n)⟩ := rfl
    rw [den_with_row, wD_runB, b_with_row]
    unfold rowF
    generalize wds r = l at *
    by_cases c1 : l.length = 3
    · match l, c1 with
      | [c, a, b], _ =>
        have hc := wl c (by simp)
        have ha := wl a (by simp)
        have hb := wl b (by simp)
        have hk := fun (mb ms : MS) (s : S) (Q : RS → Prop) => wS_stryX (s := s) (tbl := tblP) (mb := mb) (ms := ms) (Q := Q)
        unfold tblP at hk
        have hexc : ∀ (pl : D) (ms : MS) (s : S) (Q : RS → Prop), kX [("NoSeats", false), ("NoPeople", true), ("NoText", false)] ms Q (.exc ⟨"NoPeople", some ("place", pl)⟩ s) = wS ms s Q := fun pl ms s Q => kX_exc rfl
        obtain ⟨pl, hp⟩ := plus_any (c := c) (a := a) (b := b) hf hw hw2 (by omega)
        have vt : ∀ s (Q : R D → Prop), wE (Bx.settle (.tup [.str c, figD a, figD b])) s Q = Q (.ok (.tup [.str c, figD a, figD b]) s) := fun _ _ => id rfl
        show wS _ _ (kF fun q => q = match palF w fs c a b with
          | some p => .ok (benchD w (fs ++ [p])) μ
          | none => .exc (xT n) μ)
        simp [frame, pick, wE_mspl, chk_str, ww, x0, x1, hk, wS_gstar1, fig_any (show a.length ≤ 640 by omega), fig_any (show b.length ≤ 640 by omega), figD_val, wE_bench, rcPl, vt, hp]
        cases e : palF w fs c a b with
        | none => simp [hexc, xt]
        | some p => simp [kX_rt, wE_bench]
    · have c1' : ¬ (l.length : Int) = 3 := by omega
      rw [rowL_ne c1]
      simp [frame, pick, wE_mspl, chk_str, ww, vw, c1', xt]
  rw [wD_of (of_wD (P := fun q => q = _) key)]
  cases rowF w fs r <;> rfl
/-- what a text tells -/
def textF (t : Str) : Nat ⊕ (Int × Folk) := match rows t with
  | [] => .inl 0
  | h :: rs => match headF h with
    | none => .inl 0
    | some w => match rowsF w [] 1 rs with
      | .inl k => .inl k
      | .inr fs => .inr (w, fs)
theorem head_rng {h : Str} (e : headF h = some w) : 1 ≤ w ∧ w ≤ 12 := by
  unfold headF at e
  split at e
  · split at e
    · split at e
      · split at e
        · rename_i h1; cases e; exact h1
        · cases e
      · cases e
    · cases e
  · cases e
theorem read_any {t : Str} (hl : t.length ≤ 600) : wD den_read_bench [.str t] μ Q = match textF t with
    | .inl k => Q (.exc (xT k) μ)
    | .inr (w, fs) => Q (.ok (benchD w fs) μ) := by
  have key : wD den_read_bench [.str t] μ (fun q => q = match textF t with
    | .inl k => .exc (xT k) μ
    | .inr (w, fs) => .ok (benchD w fs) μ) := by
    have ww := fun s (Q : R D → Prop) => rows_w (s := s) (Q := Q) (x := t) (by omega)
    have rl : ∀ z ∈ rows t, z.length ≤ 600 := fun z hr => Nat.le_trans (rows_len hr) hl
    have rc := rows_cnt t
    have rn := rows_ne t
    rw [den_read_bench, wD_runB, b_read_bench]
    unfold textF
    generalize rows t = l at *
    cases l with
    | nil => exact absurd rfl rn
    | cons h rs =>
      have hh := rl h (by simp)
      have hr : ∀ z ∈ rs, z.length ≤ 600 := fun z hz => rl z (List.mem_cons_of_mem _ hz)
      have vrow : ∀ s (Q : R D → Prop), wE (Bx.settle (.lst (rs.map .str))) s Q = Q (.ok (.lst (rs.map .str)) s) := fun s Q => id rfl
      have hlen : (rs.map D.str).length ≤ 10000 := by simp at rc ⊢; omega
      simp [frame, pick, isi_strW, wE_mspl, chk_str, ww, wS_gstar1 hlen, bare_any hh]
      cases e : headF h with
      | none => simp
      | some w =>
        obtain ⟨hw, hw2⟩ := head_rng e
        simp [wE_bench, vrow]
        obtain ⟨I, hI⟩ : ∃ I : Nat → S → Prop, ∀ k s, I k s ↔ ∃ fs a b, okFolk w fs ∧ rowsF w [] 1 rs = rowsF w fs (1 + k) (rs.drop k) ∧ s = ⟨[.val (.str t), .val (.str h), .val (.lst (rs.map .str)), .val (benchD w fs), a, b], μ⟩ := ⟨_, fun _ _ => Iff.rfl⟩
        have hf0 : okFolk w [] := ⟨⟨List.nodup_nil, fun x hx => (nomatch hx)⟩, fun p hp => (nomatch hp), by simp; omega⟩
        refine wforEK 1 D.str rs I ((hI _ _).mpr ⟨[], .no, .no, hf0, rfl, rfl⟩) (fun k hk s h0 => ?_) (fun s h0 => ?_)
        · obtain ⟨fs, a, b, hf, er, rfl⟩ := (hI _ _).mp h0
          rw [List.drop_eq_getElem_cons hk] at er
          simp [pick, wE_bench]
          have := fun (Q : RF → Prop) => row_any (μ := μ) (Q := Q) (n := 1 + k) (r := rs[k]) hf hw hw2 (hr _ (List.getElem_mem hk))
          simp only [Int.natCast_add, Int.natCast_one] at this
          simp only [this]
          cases e2 : rowF w fs rs[k] with
          | none =>
            rw [rowsF_none e2] at er
            simp [er]
          | some p =>
            rw [rowsF_some e2] at er
            have hf2 : okFolk w (fs ++ [p]) := by
              unfold rowF rowL at e2
              split at e2
              · exact (palF_ok hf e2).1
              · cases e2
            simp [wE_bench]
            exact (hI _ _).mpr ⟨_, _, _, hf2, by rw [er]; congr 1, rfl⟩
        · obtain ⟨fs, a, b, hf, er, rfl⟩ := (hI _ _).mp h0
          rw [List.drop_length, rowsF] at er
          simp [wE_bench, er]
  rw [wD_of (of_wD (P := fun q => q = _) key)]
  rcases textF t with k | ⟨w, fs⟩ <;> rfl
end
end
end K08
end
noncomputable section
namespace K08
open PySem Bx
noncomputable section
section
variable {w : Int} {fs : Folk} {μ : List MO} {ρ : List Sl} {Q : RF → Prop} {p : Str × Int × Int} {i : Nat} {x : Str} {s : S} {c a b : Str} {lo hi : Int}
theorem wE_strI {n : Int} (h0 : 0 ≤ n) (h1 : n ≤ 12) {s : S} {Q : R D → Prop} : wE (strD (.int n)) s Q = Q (.ok (.str (numS n)) s) := wE_of (by
  have hz : n.natAbs.log2 < 1920 := log_small (by omega) (by omega)
  simp only [strD, rsl, hz, if_true]
  rfl)
theorem numS_len {n : Int} (h0 : 0 ≤ n) (h1 : n ≤ 12) : (numS n).length ≤ 2 := by rw [TL.len_tl]; exact (num_tl h0 h1).1
def numB (x : Str) (lo hi : Int) : Bool := match figF x with
  | some n => decide (lo ≤ n) && decide (n ≤ hi)
  | none => false
theorem numB_iff : numB x lo hi = true ↔ ∃ n, figF x = some n ∧ lo ≤ n ∧ n ≤ hi := by
  unfold numB
  cases figF x <;> simp
theorem isnum_w (h0 : 0 ≤ lo) (h1 : hi ≤ 12) (h2 : lo ≤ 12) (h3 : -1 ≤ hi) : wD den__law_is_number [.str x, .int lo, .int hi] μ Q = Q (.ok (.bl (numB x lo hi)) μ) := by
  refine wD_of (of_wD (P := fun r => r = _) ?_)
  rw [den__law_is_number, wD_runB, b__law_is_number]
  simp [frame]
  rw [wE_rg2 (by omega) (by omega) (by omega) (by omega)]
  have er : rangeI lo (hi + 1 - lo).toNat = (List.range (hi + 1 - lo).toNat).map fun (k : Nat) => D.int (lo + k) := by
    unfold rangeI
    first | rfl | simp
  rw [er]
  refine wcompY (fun (k : Nat) => D.int (lo + k)) (List.range (hi + 1 - lo).toNat) (fun (k : Nat) => D.str (numS (lo + k))) (by rfl) (by simp; omega) (fun k hk => ?_) ?_
  · rw [List.mem_range] at hk
    simp [wE_strI (show 0 ≤ lo + (k : Int) by omega) (by omega)]
  · have em : (List.range (hi + 1 - lo).toNat).map (fun (k : Nat) => D.str (numS (lo + k))) = ((List.range (hi + 1 - lo).toNat).map fun (k : Nat) => numS (lo + k)).map .str := by rw [List.map_map]; rfl
    rw [em]
    have e : decide (x ∈ (List.range (hi + 1 - lo).toNat).map fun (k : Nat) => numS (lo + k)) = numB x lo hi := by
      rw [Bool.eq_iff_iff, decide_eq_true_eq, numB_iff, ← in_nums h0 h1]
      simp only [List.mem_map, List.mem_range]
      constructor
      · rintro ⟨k, hk, rfl⟩; exact ⟨lo + k, by omega, by omega, rfl⟩
      · rintro ⟨n, a, b, rfl⟩; exact ⟨(n - lo).toNat, by omega, by congr 1; omega⟩
    rw [← e]
    generalize (List.range (hi + 1 - lo).toNat).map (fun (k : Nat) => numS (lo + k)) = L
    simp [in_strs]
theorem isname_w (hl : x.length ≤ 1000) : wD den__law_is_name [.str x] μ Q = Q (.ok (.bl (nmB x)) μ) := by
  refine wD_of (of_wD (P := fun r => r = _) ?_)
  rw [den__law_is_name, wD_runB, b__law_is_name]
  simp [frame, wE_lenS (show x.length ≤ 100000 by omega), nmB]
  by_cases c1 : 0 < x.length
  · by_cases c2 : x.length < 7
    · rw [if_pos (by omega), if_pos (by omega)]
      refine wcompY (fun c => D.str ⟨#[c]⟩) x.cps.toList (fun c => .bl (decide (c ∈ abc))) (by rfl) (by
          have : x.cps.toList.length = x.length := rfl
          omega) (fun c hc => by simp [in_abc]) ?_
      simp [all_map, abB, show 1 ≤ x.length by omega, show x.length ≤ 6 by omega]
    · rw [if_pos (by omega), if_neg (by omega)]
      intro _ z
      omega
  · rw [if_neg (by omega)]
    intro z
    omega
theorem fig_intT {n : Int} (h : figF x = some n) (hl : x.length ≤ 640) {Q : R D → Prop} : wE (intT (.str x)) s Q = Q (.ok (.int n) s) := by
  unfold figF at h
  split at h
  · rename_i hc
    cases h
    exact int_can hc hl
  · cases h
theorem person_w {l : List Str} (hf : okFolk w fs) (hw : 1 ≤ w) (hw2 : w ≤ 12) (hl : ∀ z ∈ l, z.length ≤ 600) : wD den__law_person [.lst (l.map .str), .int w, .lst ((fs.map (·.1)).map .str)] μ Q = Q (.ok (.bl (rowL w fs l).isSome) μ) := by
  have vw : ∀ (l : List Str) s (Q : R D → Prop), wE (Bx.settle (.lst (l.map .str))) s Q = Q (.ok (.lst (l.map .str)) s) := fun _ _ _ => id rfl
  refine wD_of (of_wD (P := fun r => r = _) ?_)
  rw [den__law_person, wD_runB, b__law_person]
  by_cases c1 : l.length = 3
  · match l, c1 with
    | [c, a, b], _ =>
      have hc := hl c (by simp)
      have ha := hl a (by simp)
      have hb := hl b (by simp)
      show wS _ _ (kF fun r => r = .ok (.bl (palF w fs c a b).isSome) μ)
      have in1 : ∀ s (Q : R D → Prop), wE (inA false (.str c) (.lst ((fs.map (·.1)).map .str))) s Q = Q (.ok (.bl (decide (c ∈ fs.map (·.1)))) s) := fun s Q => in_strs
      have ln1 : ∀ s (Q : R D → Prop), wE (lenD (.lst ((fs.map (·.1)).map D.str))) s Q = Q (.ok (.int fs.length) s) := fun s Q => by simp
      have sl : ∀ s (Q : R D → Prop), wE (slD (.lst [.str c, .str a, .str b]) (some 1) none) s Q = Q (.ok (.lst [.str a, .str b]) s) := fun _ _ => id rfl
      have y2 : ∀ s (Q : R D → Prop), wE (ixD (.lst [.str c, .str a, .str b]) (.int 2)) s Q = Q (.ok (.str b) s) := fun _ _ => id rfl
      have vab : ∀ s (Q : R D → Prop), wE (Bx.settle (.lst [.str a, .str b])) s Q = Q (.ok (.lst [.str a, .str b]) s) := fun _ _ => id rfl
      by_cases n1 : nmB c = true
      · by_cases n2 : c ∈ fs.map (·.1)
        · rw [pal_none (fun z => z.2.1 n2)]
          simp [frame, pick, vw, x0, isname_w (show c.length ≤ 1000 by omega), n1, in1, n2, -List.map_map, -List.mem_map]
        · by_cases n3 : (fs.length : Int) < w
          · simp [frame, pick, vw, x0, x1, isname_w (show c.length ≤ 1000 by omega), n1, in1, n2, ln1, n3, show ¬ w ≤ (fs.length : Int) by omega, sl, vab, -List.map_map, -List.mem_map]
            refine wcompY D.str [a, b] (fun z => .bl (numB z 0 (w - 1))) (by rfl) (by simp) (fun z hz => ?_) ?_
            · simp [pick, isnum_w (show (0 : Int) ≤ 0 by omega) (show w - 1 ≤ 12 by omega) (by omega) (by omega)]
            · have al : ∀ s (Q : R D → Prop), wE (allD (.lst [.bl (numB a 0 (w - 1)), .bl (numB b 0 (w - 1))])) s Q = Q (.ok (.bl (numB a 0 (w - 1) && numB b 0 (w - 1))) s) := fun s Q => by
                have := all_map (g := fun z => numB z 0 (w - 1)) (l := [a, b]) (s := s) (Q := Q)
                simpa using this
              simp [al]
              by_cases m1 : numB a 0 (w - 1) = true
              · by_cases m2 : numB b 0 (w - 1) = true
                · obtain ⟨l, e1, l1, l2⟩ := numB_iff.mp m1
                  obtain ⟨u, e2, u1, u2⟩ := numB_iff.mp m2
                  simp [m1, m2, x1, y2, fig_intT e1 (by omega), fig_intT e2 (by omega)]
                  by_cases q : l ≤ u
                  · simp [palF, n1, n2, n3, e1, e2, q, show u < w by omega, -List.mem_map]
                  · simp [palF, n1, n2, n3, e1, e2, q, -List.mem_map]
                · rw [pal_none (fun z => by
                    obtain ⟨_, l, u, e1, e2, z1, z2⟩ := pB_fig.mp z.1
                    exact m2 (numB_iff.mpr ⟨u, e2, fig_pos e2, by omega⟩))]
                  simp [m1, m2]
              · rw [pal_none (fun z => by
                  obtain ⟨_, l, u, e1, e2, z1, z2⟩ := pB_fig.mp z.1
                  exact m1 (numB_iff.mpr ⟨l, e1, fig_pos e1, by omega⟩))]
                simp [m1]
          · rw [pal_none (fun z => n3 z.2.2)]
            simp [frame, pick, vw, x0, isname_w (show c.length ≤ 1000 by omega), n1, in1, n2, ln1, n3, show w ≤ (fs.length : Int) by omega, -List.map_map, -List.mem_map]
      · rw [pal_none (fun z => n1 (pB_fig.mp z.1).1)]
        simp [frame, pick, vw, x0, isname_w (show c.length ≤ 1000 by omega), n1, -List.map_map]
  · have c1' : ¬ (l.length : Int) = 3 := by omega
    rw [rowL_ne c1]
    simp [frame, vw, c1', -List.map_map]
end
end
end K08
end
noncomputable section
namespace K08
open PySem Bx
noncomputable section
section
variable {w : Int} {fs : Folk} {μ : List MO} {ρ : List Sl} {Q : RF → Prop} {p : Str × Int × Int} {i : Nat} {x : Str} {s : S} {c a b : Str} {lo hi : Int}
def dueD : Nat ⊕ (Int × Folk) → D
  | .inl k => .tup [.str (Str.ofString "none"), .int k]
  | .inr (w, fs) => .tup [.str (Str.ofString "read"), .int w, .tup (fs.map per)]
theorem rowS_of {l : List Str} (hw2 : w ≤ 12) (h : rowL w fs l = some p) : ∃ c a b, l = [c, a, b] ∧ palF w fs c a b = some p := by
  unfold rowL at h
  split at h
  · exact ⟨_, _, _, rfl, h⟩
  · cases h
theorem row_line {r : Str} (hf : okFolk w fs) (hw2 : w ≤ 12) (h : rowF w fs r = some p) : rowS p = r ∧ okFolk w (fs ++ [p]) := by
  obtain ⟨c, a, b, e, h2⟩ := rowS_of hw2 h
  obtain ⟨g, n1, n2, n3, l, u, e1, e2, z1, z2, z3, rfl⟩ := palF_ok hf h2
  refine ⟨?_, g⟩
  rw [row_words]
  have j := words_join r
  rw [e, num_fig e1 (by omega), num_fig e2 (by omega)] at j
  exact j
theorem rows_line (hw2 : w ≤ 12) : ∀ {rs : List Str} {fs gs : Folk} {k : Nat}, okFolk w fs → rowsF w fs k rs = .inr gs → okFolk w gs ∧ ∃ hs, gs = fs ++ hs ∧ hs.map rowS = rs
  | [], fs, gs, k, hf, h => by
    rw [rowsF] at h
    cases h
    exact ⟨hf, [], by simp, rfl⟩
  | r :: rs, fs, gs, k, hf, h => by
    cases e : rowF w fs r with
    | none => rw [rowsF_none e] at h; cases h
    | some p =>
      rw [rowsF_some e] at h
      obtain ⟨e1, hf2⟩ := row_line hf hw2 e
      obtain ⟨g, hs, e2, e3⟩ := rows_line hw2 hf2 h
      exact ⟨g, p :: hs, by rw [e2]; simp, by simp [e1, e3]⟩
theorem head_line {h : Str} (e : headF h = some w) : headS w = h := by
  have rng := head_rng e
  unfold headF at e
  split at e
  · rename_i a x ew
    split at e
    · rename_i ha
      split at e
      · rename_i n en
        split at e
        · cases e
          rw [head_words]
          have j := words_join h
          rw [ew, ha, num_fig en rng.2] at j
          exact j
        · cases e
      · cases e
    · cases e
  · cases e
theorem okF0 (hw : 1 ≤ w) : okFolk w [] := ⟨⟨List.nodup_nil, fun x hx => (nomatch hx)⟩, fun p hp => (nomatch hp), by simp; omega⟩
theorem text_line {t : Str} (h : textF t = .inr (w, fs)) : okFolk w fs ∧ 1 ≤ w ∧ w ≤ 12 ∧ lineT w fs = t := by
  unfold textF at h
  split at h
  · cases h
  · rename_i hd rs er
    split at h
    · cases h
    · rename_i w' eh
      split at h
      · cases h
      · rename_i fs' e2
        cases h
        obtain ⟨hw, hw2⟩ := head_rng eh
        obtain ⟨g, hs, e3, e4⟩ := rows_line hw2 (okF0 hw) e2
        refine ⟨g, hw, hw2, ?_⟩
        unfold lineT
        have : fs = hs := by rw [e3]; simp
        rw [this, e4, head_line eh, ← er, rows_join]
theorem rows_lt : ∀ {rs : List Str} {fs : Folk} {k j : Nat}, rowsF w fs k rs = .inl j → j < k + rs.length
  | [], fs, k, j, h => by rw [rowsF] at h; cases h
  | r :: rs, fs, k, j, h => by
    cases e : rowF w fs r with
    | none => rw [rowsF_none e] at h; cases h; simp
    | some p =>
      rw [rowsF_some e] at h
      have := rows_lt h
      simp
      omega
theorem text_lt {t : Str} {k : Nat} (h : textF t = .inl k) : k ≤ t.length + 1 := by
  have rc := rows_cnt t
  unfold textF at h
  split at h
  · cases h; omega
  · rename_i hd rs er
    rw [er] at rc
    split at h
    · cases h; omega
    · split at h
      · rename_i e2
        cases h
        have := rows_lt e2
        simp at rc
        omega
      · cases h
def kM (cl : List Cl) (Q : RS → Prop) : RS → Prop
  | .exc x s1 => Q (goM cl x s1)
  | r => Q r
theorem wS_tryM {cl : List Cl} {mb : MS} {s : S} {Q : RS → Prop} : wS (stryM cl mb) s Q = wS mb s (kM cl Q) := by
  unfold wS stryM kM
  cases mb s <;> rfl
theorem kM_nx {cl : List Cl} {Q : RS → Prop} {s : S} : kM cl Q (.nx s) = Q (.nx s) := id rfl
theorem kM_exc {cl : List Cl} {Q : RS → Prop} {x : Xc} {s : S} : kM cl Q (.exc x s) = Q (goM cl x s) := id rfl
def clT : Cl := .as (Str.ofString "NoText") [(Str.ofString "NoSeats", false), (Str.ofString "NoPeople", false), (Str.ofString "NoText", true)] 2 (fun e => sret (mtup [con (.str (Str.ofString "none")), bnd (var 2) (fldX e [(Str.ofString "NoText", Str.ofString "row")] (Str.ofString "row"))]))
theorem goM_T {k : Nat} (hρ : ρ.length = 3) (hn : ρ[2]? = some .no) : goM [clT] (xT k) ⟨ρ, μ⟩ = .rt (dueD (.inl k)) ⟨ρ, μ⟩ := by
  show hot _ 2 _ _ = _
  refine hot_eq fun e he => ?_
  have hj : (ρ.set 2 (Sl.val (.exv e [(Str.ofString "row", .int k)])))[2]? = some (.val (.exv e [(Str.ofString "row", .int k)])) := by rw [List.getElem?_set_self (by omega)]
  have hv3 : ∀ (Q : R D → Prop), wE (var 2) ⟨ρ.set 2 (Sl.val (.exv e [(Str.ofString "row", .int k)])), μ⟩ Q = Q (.ok (.exv e [(Str.ofString "row", .int k)]) ⟨ρ.set 2 (Sl.val (.exv e [(Str.ofString "row", .int k)])), μ⟩) := fun Q => wE_of (by
    unfold var
    simp only [hj])
  have hv : ∀ s (Q : R D → Prop), wE (Bx.settle (.exv e [(Str.ofString "row", .int k)])) s Q = Q (.ok (.exv e [(Str.ofString "row", .int k)]) s) := fun _ _ => id rfl
  have hc : e.cn = Str.ofString "NoText" := he.1
  have gf : ∀ s (Q : R D → Prop), wE (fldX e [(Str.ofString "NoText", Str.ofString "row")] (Str.ofString "row") (.exv e [(Str.ofString "row", .int k)])) s Q = Q (.ok (.int k) s) := fun s Q => wE_fldX (by rw [hc]; decide) rfl
  have key : wS (sret (mtup [con (.str (Str.ofString "none")), bnd (var 2) (fldX e [(Str.ofString "NoText", Str.ofString "row")] (Str.ofString "row"))])) ⟨ρ.set 2 (Sl.val (.exv e [(Str.ofString "row", .int k)])), μ⟩ (fun q => clr 2 q = .rt (dueD (.inl k)) ⟨ρ, μ⟩) := by
    simp [hv3, hv, gf]
    have hz : (ρ.set 2 (Sl.val (.exv e [(Str.ofString "row", .int k)]))).set 2 .no = ρ := by
      rw [List.set_set]
      obtain ⟨h1, h2⟩ := List.getElem?_eq_some_iff.mp hn
      rw [← h2]
      exact List.set_getElem_self h1
    simp [clr, setNo, hz, dueD]
  exact key
theorem told_w {t : Str} (hl : t.length ≤ 600) : wD den__law_told [.str t] μ Q = Q (.ok (dueD (textF t)) μ) := by
  refine wD_of (of_wD (P := fun r => r = _) ?_)
  have hk := fun (mb : MS) (s : S) (Q : RS → Prop) => wS_tryM (s := s) (cl := [clT]) (mb := mb) (Q := Q)
  have hg : ∀ {k : Nat} (Q : RS → Prop), kM [clT] Q (.exc (xT k) ⟨[.val (.str t), .val .non, .no], μ⟩) = Q (.rt (dueD (.inl k)) ⟨[.val (.str t), .val .non, .no], μ⟩) := fun {k} Q => by rw [kM_exc, goM_T rfl rfl]
  rw [den__law_told, wD_runB, b__law_told]
  unfold clT at hk hg
  have hg2 := fun (cl : List Cl) (Q : RS → Prop) (s : S) => kM_nx (cl := cl) (Q := Q) (s := s)
  cases e : textF t with
  | inl k =>
    have rd : ∀ μ (Q : RF → Prop), wD den_read_bench [.str t] μ Q = Q (.exc (xT k) μ) := fun μ Q => by rw [read_any hl, e]
    simp [frame, pick, hk, rd, hg]
  | inr v =>
    obtain ⟨w, fs⟩ := v
    obtain ⟨hf, hw, hw2, el⟩ := text_line e
    have rd : ∀ μ (Q : RF → Prop), wD den_read_bench [.str t] μ Q = Q (.ok (benchD w fs) μ) := fun μ Q => by rw [read_any hl, e]
    have st := fun s (Q : R D → Prop) => strT_w hf hw hw2 (s := s) (Q := Q)
    have isb : ∀ s (Q : R D → Prop), wE (isiD isC (benchD w fs) (.glo (Str.ofString "Bench"))) s Q = Q (.ok (.bl true) s) := fun _ _ => id rfl
    have vg : ∀ s (Q : R D → Prop), wE (Bx.settle (.glo (Str.ofString "Bench"))) s Q = Q (.ok (.glo (Str.ofString "Bench")) s) := fun _ _ => id rfl
    simp [frame, pick, hk, rd, hg2, wE_bench, isb, vg, st, el, fld_seats, fld_people, dueD]
end
end
end K08
end
noncomputable section
namespace K08
open PySem Bx
noncomputable section
section
variable {w : Int} {fs : Folk} {μ : List MO} {ρ : List Sl} {Q : RF → Prop} {p : Str × Int × Int} {i : Nat} {x : Str} {s : S} {c a b : Str} {lo hi : Int}
def rowD1 (r : Str) : D := .lst ((wds r).map .str)
theorem names_own {u v y z e : Sl} {Q : R D → Prop} (hl : fs.length ≤ 100) : wE (mcompO 2 [5] (Tgt.asg (.name 5)) yes (Bx.bin ixD (var 5) (con (.int 0)))) ⟨[u, v, .own (.lst (fs.map per)), y, z, e], μ⟩ Q = Q (.ok (.lst ((fs.map (·.1)).map .str)) ⟨[u, v, .own (.lst (fs.map per)), y, z, .no], μ⟩) := by
  refine wE_of (Eq.symm (show wE (mcompO 2 [5] (Tgt.asg (.name 5)) yes (Bx.bin ixD (var 5) (con (.int 0)))) ⟨[u, v, .own (.lst (fs.map per)), y, z, e], μ⟩ (fun r => .ok (.lst ((fs.map (·.1)).map .str)) ⟨[u, v, .own (.lst (fs.map per)), y, z, .no], μ⟩ = r) from ?_))
  rw [wE_mcompO (xs := fs.map per) rfl]
  refine wcompO per fs (fun _ => true) (fun p => .str p.1) rfl rfl (by omega) (fun p hp => by simp [ePer0]) ?_
  have ft : fs.filter (fun _ => true) = fs := List.filter_eq_self.mpr fun _ _ => rfl
  rw [ft, List.map_map]
  rfl
theorem ix_row {h : Str} {rs : List Str} {k : Nat} (hk : k < rs.length) {Q : R D → Prop} : wE (ixD (.lst (rowD1 h :: rs.map rowD1)) (.int (1 + (k : Int)))) s Q = Q (.ok (rowD1 rs[k]) s) := by
  rw [ixL (by omega) (by simp; omega)]
  have : (1 + (k : Int)).toNat = k + 1 := by omega
  simp [this]
theorem head_none {h : Str} (e : headF h = none) : (wds h).length ≠ 2 ∨ ∃ a x, wds h = [a, x] ∧ (a ≠ Str.ofString "seats" ∨ numB x 1 12 = false) := by
  by_cases c : (wds h).length = 2
  · right
    unfold headF at e
    match hw : wds h, c with
    | [a, x], _ =>
      refine ⟨a, x, rfl, ?_⟩
      rw [hw] at e
      by_cases ha : a = Str.ofString "seats"
      · right
        simp only [ha, if_true] at e
        unfold numB
        cases ef : figF x with
        | none => rfl
        | some n =>
          rw [ef] at e
          simp only at e
          split at e
          · cases e
          · rename_i z
            rw [Bool.eq_false_iff]
            intro q
            rw [Bool.and_eq_true, decide_eq_true_eq, decide_eq_true_eq] at q
            exact z q
      · exact .inl ha
  · exact .inl c
theorem head_some {h : Str} (e : headF h = some w) : ∃ x, wds h = [Str.ofString "seats", x] ∧ figF x = some w := by
  unfold headF at e
  split at e
  · rename_i a x ew
    split at e
    · rename_i ha
      split at e
      · rename_i n en
        split at e
        · cases e
          exact ⟨x, by rw [ew, ha], en⟩
        · cases e
      · cases e
    · cases e
  · cases e
theorem due_w {t : Str} (hl : t.length ≤ 600) : wD den__law_due [.str t] μ Q = Q (.ok (dueD (textF t)) μ) := by
  refine wD_of (of_wD (P := fun r => r = _) ?_)
  have ww := fun s (Q : R D → Prop) => rows_w (s := s) (Q := Q) (x := t) (by omega)
  have rl : ∀ z ∈ rows t, z.length ≤ 600 := fun z hr => Nat.le_trans (rows_len hr) hl
  have rc := rows_cnt t
  have rn := rows_ne t
  rw [den__law_due, wD_runB, b__law_due]
  unfold textF
  generalize rows t = l at *
  cases l with
  | nil => exact absurd rfl rn
  | cons h rs =>
    have hh := rl h (by simp)
    have hr : ∀ z ∈ rs, z.length ≤ 600 := fun z hz => rl z (List.mem_cons_of_mem _ hz)
    have vS : ∀ (l : List Str) s (Q : R D → Prop), wE (Bx.settle (.lst (l.map .str))) s Q = Q (.ok (.lst (l.map .str)) s) := fun _ _ _ => id rfl
    simp only [List.length_cons] at rc
    obtain ⟨LD, hLD⟩ : ∃ LD : D, LD = .lst (rowD1 h :: rs.map rowD1) := ⟨_, rfl⟩
    have vL : ∀ s (Q : R D → Prop), wE (Bx.settle LD) s Q = Q (.ok LD s) := by rw [hLD]; exact fun _ _ => id rfl
    have i0 : ∀ s (Q : R D → Prop), wE (ixD LD (.int 0)) s Q = Q (.ok (rowD1 h) s) := by rw [hLD]; exact fun _ _ => x0 _ _
    have ik : ∀ {k : Nat} (hk : k < rs.length) s (Q : R D → Prop), wE (ixD LD (.int (1 + (k : Int)))) s Q = Q (.ok (rowD1 rs[k]) s) := by rw [hLD]; exact fun hk _ _ => ix_row (h := h) hk
    have ln : ∀ s (Q : R D → Prop), wE (lenD LD) s Q = Q (.ok (.int (rs.length + 1 : Nat)) s) := by rw [hLD]; exact fun _ _ => by simp
    simp only [wS_sq]
    simp [frame, wE_mspl, chk_str, ww]
    refine wcompY D.str (h :: rs) rowD1 (by rfl) (by simp; omega) (fun r hr' => by
      simp [wE_mspl, chk_str, wds_w (show r.length ≤ 1000 by have := rl r hr'; omega), rowD1]) ?_
    rw [List.map_cons, ← hLD]
    have ln0 : ∀ r s (Q : R D → Prop), wE (lenD (rowD1 r)) s Q = Q (.ok (.int (wds r).length) s) := fun r s Q => by unfold rowD1; simp
    have vR : ∀ r s (Q : R D → Prop), wE (Bx.settle (rowD1 r)) s Q = Q (.ok (rowD1 r) s) := fun _ _ _ => id rfl
    cases he : headF h with
    | none =>
      rcases head_none he with c | ⟨a, x, ew, hx⟩
      · have c' : ¬ ((wds h).length : Int) = 2 := by omega
        simp [vL, i0, ln0, vR, c', dueD]
      · have r0 : rowD1 h = .lst [.str a, .str x] := by unfold rowD1; rw [ew]; rfl
        rcases hx with ha | hx
        · simp [vL, i0, r0, x0, x1, ha, dueD]
        · simp [vL, i0, r0, x0, x1, pick, isnum_w (show (0 : Int) ≤ 1 by omega) (show (12 : Int) ≤ 12 by omega) (by omega) (by omega), hx, dueD]
    | some w =>
      obtain ⟨hw, hw2⟩ := head_rng he
      obtain ⟨x, ew, ex⟩ := head_some he
      have hxl : x.length ≤ 600 := Nat.le_trans (words_len (t := h) (by rw [ew]; simp)) hh
      have r0 : rowD1 h = .lst [.str (Str.ofString "seats"), .str x] := by unfold rowD1; rw [ew]; rfl
      have nx : numB x 1 12 = true := numB_iff.mpr ⟨w, ex, hw, hw2⟩
      have it : ∀ s (Q : R D → Prop), wE (intT (.str x)) s Q = Q (.ok (.int w) s) := fun s Q => fig_intT ex (by omega)
      simp [vL, i0, r0, x0, x1, pick, isnum_w (show (0 : Int) ≤ 1 by omega) (show (12 : Int) ≤ 12 by omega) (by omega) (by omega), nx, ln]
      rw [wE_rg2 (by omega) (by omega) (by omega) (by omega)]
      have en : (((rs.length : Int) + 1) - 1).toNat = rs.length := by omega
      have er : rangeI 1 rs.length = (List.range rs.length).map fun (k : Nat) => D.int (1 + (k : Int)) := by
        unfold rangeI
        first | rfl | simp
      rw [en, er]
      simp only [kS_ok]
      have hfl : ∀ {fs : Folk}, okFolk w fs → fs.length ≤ 12 := fun hf => by have := hf.2.2; omega
      obtain ⟨I, hI⟩ : ∃ I : List Nat → List Nat → S → Prop, ∀ l r s, I l r s ↔ ∃ fs a b c, okFolk w fs ∧ rowsF w [] 1 rs = rowsF w fs (1 + l.length) (rs.drop l.length) ∧ s = ⟨[.val (.str t), .val LD, .own (.lst (fs.map per)), a, b, c], μ⟩ := ⟨_, fun _ _ _ => Iff.rfl⟩
      refine wfor (fun (k : Nat) => D.int (1 + (k : Int))) (List.range rs.length) I ((hI _ _ _).mpr ⟨[], _, _, _, okF0 hw, rfl, rfl⟩) (fun l k r s el h0 => ?_) (fun s h0 => ?_)
      · obtain ⟨fs, a, b, c, hf, e, rfl⟩ := (hI _ _ _).mp h0
        have hkl : k = l.length ∧ l.length < rs.length := by
          have h1 : (l ++ k :: r).length = rs.length := by rw [el, List.length_range]
          have h2 : (l ++ k :: r)[l.length]? = some k := by simp
          rw [el] at h2
          simp at h1
          rw [List.getElem?_range (by omega)] at h2
          cases h2
          exact ⟨rfl, by omega⟩
        obtain ⟨rfl, hk⟩ := hkl
        rw [List.drop_eq_getElem_cons hk] at e
        have hrl := hr _ (List.getElem_mem hk)
        have hpw : ∀ (μ : List MO) (Q : RF → Prop), wD den__law_person [rowD1 rs[l.length], .int w, .lst ((fs.map (·.1)).map .str)] μ Q = Q (.ok (.bl (rowF w fs rs[l.length]).isSome) μ) := fun μ Q => person_w hf hw hw2 fun z hz => Nat.le_trans (words_len hz) hrl
        have no : ∀ (u v y z e : Sl) (Q : R D → Prop), wE (mcompO 2 [5] (gset 5) yes (Bx.bin ixD (var 5) (con (.int 0)))) ⟨[u, v, .own (.lst (fs.map per)), y, z, e], μ⟩ Q = Q (.ok (.lst ((fs.map (·.1)).map .str)) ⟨[u, v, .own (.lst (fs.map per)), y, z, .no], μ⟩) := fun u v y z e Q => names_own (by have := hfl hf; omega)
        simp [vL, ik hk, vR, i0, r0, x1, it, pick, no, vS, hpw, -List.map_map, -wE_mcompO]
        cases e2 : rowF w fs rs[l.length] with
        | none =>
          rw [rowsF_none e2] at e
          simp [e, dueD]
        | some p =>
          rw [rowsF_some e2] at e
          obtain ⟨c', a', b', ew2, ep⟩ := rowS_of hw2 e2
          obtain ⟨g, n1, n2, n3, lo, hi, e3, e4, z1, z2, z3, rfl⟩ := palF_ok hf ep
          have rk : rowD1 rs[l.length] = .lst [.str c', .str a', .str b'] := by unfold rowD1; rw [ew2]; rfl
          have la : a'.length ≤ 600 := Nat.le_trans (words_len (t := rs[l.length]) (by rw [ew2]; simp)) hrl
          have lb : b'.length ≤ 600 := Nat.le_trans (words_len (t := rs[l.length]) (by rw [ew2]; simp)) hrl
          have y2 : ∀ s (Q : R D → Prop), wE (ixD (.lst [.str c', .str a', .str b']) (.int 2)) s Q = Q (.ok (.str b') s) := fun _ _ => id rfl
          have ia : ∀ s (Q : R D → Prop), wE (intT (.str a')) s Q = Q (.ok (.int lo) s) := fun s Q => fig_intT e3 (by omega)
          have ib : ∀ s (Q : R D → Prop), wE (intT (.str b')) s Q = Q (.ok (.int hi) s) := fun s Q => fig_intT e4 (by omega)
          simp [vL, ik hk, rk, x0, x1, y2, ia, ib]
          have em : fs.map per ++ [D.tup [.str c', .int lo, .int hi]] = (fs ++ [(c', lo, hi)]).map per := by rw [List.map_append]; rfl
          have := hfl hf
          rw [wE_app (xs := fs.map per) rfl (by simp; omega)]
          simp
          rw [em]
          exact (hI (l ++ [l.length]) r _).mpr ⟨fs ++ [(c', lo, hi)], _, _, _, g, by rw [e]; simp [Nat.add_assoc], rfl⟩
      · obtain ⟨fs, a, b, c, hf, e, rfl⟩ := (hI _ _ _).mp h0
        rw [List.length_range, List.drop_length, rowsF] at e
        simp [i0, r0, x1, it, vL, e, dueD]
end
end
end K08
end
noncomputable section
namespace K08
open PySem Bx
noncomputable section
section
variable {w : Int} {fs : Folk} {μ : List MO} {ρ : List Sl} {Q : RF → Prop} {p : Str × Int × Int} {i : Nat} {x T : Str} {s : S} {c a b : Str} {lo hi : Int}
theorem cut_len (z : Str) (lo hi : Option Int) : (L2.cutS z lo hi).length ≤ z.length := by
  show ((z.cps.toList.drop _).take _).toArray.size ≤ z.cps.size
  rw [List.size_toArray, List.length_take, List.length_drop]
  have : z.cps.toList.length = z.cps.size := Array.length_toList
  omega
theorem slStr (hl : T.length ≤ 900) {lo hi : Option Int} {s : S} {Q : R D → Prop} : wE (slD (.str T) lo hi) s Q = Q (.ok (.str (L2.cutS T lo hi)) s) := by
  refine wE_of ?_
  show (if T.length ≤ 100000 then R.ok (D.str (L2.cutS T lo hi)) s else R.bad) = _
  rw [if_pos (by omega)]
theorem ixS {L : List Str} {n : Nat} {r : Int} (h0 : 0 ≤ r) (h1 : r < L.length) (hL : ∀ x ∈ L, x.length ≤ n) : ∃ x : Str, x.length ≤ n ∧ ∀ s (Q : R D → Prop), wE (ixD (.lst (L.map .str)) (.int r)) s Q = Q (.ok (.str x) s) := by
  refine ⟨L[r.toNat]'(by omega), hL _ (List.getElem_mem _), fun s Q => ?_⟩
  rw [ixL h0 (by simpa using h1)]
  simp
theorem join_len {sep : Str} {l : List Str} {n : Nat} (h : ∀ q ∈ l, q.length ≤ n) (hs : sep.length ≤ 1) : (Txt.join sep l).length ≤ (n + 1) * l.length := by
  rw [TL.len_tl, join_tl]
  refine Nat.le_trans (joinL_len (n := n) fun q hq => ?_) ?_
  · obtain ⟨z, hz, rfl⟩ := List.mem_map.mp hq
    rw [← TL.len_tl]
    exact h z hz
  · rw [List.length_map]
    refine Nat.mul_le_mul_right _ ?_
    rw [← TL.len_tl]
    omega
theorem join_w {sep : Str} {l : List Str} {n : Nat} (h : ∀ q ∈ l, q.length ≤ n) (hs : sep.length ≤ 1) (hn : n ≤ 1000) (hl : l.length ≤ 1000) {s : S} {Q : R D → Prop} : wE (joinD (.str sep) (.lst (l.map .str))) s Q = Q (.ok (.str (Txt.join sep l)) s) := wE_of (by
  have e : strsD (l.map D.str) = some l := by
    induction l with
    | nil => rfl
    | cons a l ih => simp [strsD, ih (fun q hq => h q (List.mem_cons_of_mem _ hq)) (by simp at hl; omega)]
  have hsum : (l.map (·.length)).sum ≤ n * l.length := by
    clear e hl
    induction l with
    | nil => simp
    | cons a l ih =>
      have := ih fun q hq => h q (List.mem_cons_of_mem _ hq)
      have := h a (by simp)
      simp [Nat.mul_add]
      omega
  have b1 : n * l.length ≤ 1000 * 1000 := Nat.mul_le_mul hn hl
  have b2 : l.length * sep.length ≤ 1000 * 1 := Nat.mul_le_mul hl hs
  unfold joinD
  simp only [rsl, e]
  rw [if_pos (by omega)])
def nmsL : List Str := [Str.ofString "a", Str.ofString "b", Str.ofString "ab", Str.ofString "abc", Str.ofString "seats", Str.ofString "abcdef", Str.ofString "z", Str.ofString "zz", Str.ofString "cc", Str.ofString "d", Str.ofString "abcdefg", Str.ofString "A"]
def endL (w : Int) : List Str := [Str.ofString "", Str.ofString "00", Str.ofString "01", Str.ofString "-1", Str.ofString "12", Str.ofString "x", Str.ofString "13", numS w]
def oddL : List Str := [Str.ofString "", Str.ofString " ", Str.ofString "0", Str.ofString "1", Str.ofString "a", Str.ofString "A", Str.ofString "-", Str.ofString "\n", Str.ofString "seats", Str.ofString "  ", Str.ofString "2", Str.ofString ".", Str.ofString " 1", Str.ofString "b 0 0", Str.ofString "+", Str.ofString "s"]
theorem nms_len : ∀ x ∈ nmsL, x.length ≤ 7 := by decide +kernel
theorem odd_len : ∀ x ∈ oddL, x.length ≤ 7 := by decide +kernel
theorem end_len (hw : 0 ≤ w) (hw2 : w ≤ 12) : ∀ x ∈ endL w, x.length ≤ 7 := by
  have h : ∀ x ∈ [Str.ofString "", Str.ofString "00", Str.ofString "01", Str.ofString "-1", Str.ofString "12", Str.ofString "x", Str.ofString "13"], x.length ≤ 7 := by decide +kernel
  intro x hx
  rw [show endL w = [Str.ofString "", Str.ofString "00", Str.ofString "01", Str.ofString "-1", Str.ofString "12", Str.ofString "x", Str.ofString "13"] ++ [numS w] from rfl] at hx
  rcases List.mem_append.mp hx with hx | hx
  · exact h x hx
  · rw [List.mem_singleton.mp hx]
    have := numS_len hw hw2
    omega
theorem blank_len : (Str.ofString " ").length = 1 := by decide +kernel
theorem line_len1 : (Str.ofString "\n").length = 1 := by decide +kernel
theorem rowd_w (h : Hand μ i) (hw : 1 ≤ w) (hw2 : w ≤ 12) (q : ∀ r μ', r.length ≤ 24 → Hand μ' i → Q (.ok (.str r) μ')) : wD den__law_row [.ref i, .int w] μ Q := by
  have fN : D.lst [.str (Str.ofString "a"), .str (Str.ofString "b"), .str (Str.ofString "ab"), .str (Str.ofString "abc"), .str (Str.ofString "seats"), .str (Str.ofString "abcdef"), .str (Str.ofString "z"), .str (Str.ofString "zz"), .str (Str.ofString "cc"), .str (Str.ofString "d"), .str (Str.ofString "abcdefg"), .str (Str.ofString "A")] = .lst (nmsL.map .str) := rfl
  have fE : D.lst [.str (Str.ofString ""), .str (Str.ofString "00"), .str (Str.ofString "01"), .str (Str.ofString "-1"), .str (Str.ofString "12"), .str (Str.ofString "x"), .str (Str.ofString "13"), .str (numS w)] = .lst ((endL w).map .str) := rfl
  have vN : ∀ (l : List Str) s (Q : R D → Prop), wE (Bx.settle (.lst (l.map .str))) s Q = Q (.ok (.lst (l.map .str)) s) := fun _ _ _ => id rfl
  rw [den__law_row, wD_runB, b__law_row]
  simp [frame, pick, fN, vN]
  generalize hK : kC _ _ = Q'
  refine draw_w (Q := Q') (t := 12) h (by omega) (by omega) fun r μ1 r0 r1 h1 => ?_
  subst hK
  obtain ⟨c, hc, ic⟩ := ixS (L := nmsL) r0 r1 nms_len
  simp [ic, pick]
  generalize hK : kC _ _ = Q'
  refine draw_w (Q := Q') (t := w) h1 (by omega) (by omega) fun r2 μ2 a0 a1 h2 => ?_
  subst hK
  simp [wE_strI a0 (by omega : r2 ≤ 12), pick]
  generalize hK : kC _ _ = Q'
  refine draw_w (Q := Q') (t := w - r2) h2 (by omega) (by omega) fun r3 μ3 b0 b1 h3 => ?_
  subst hK
  simp [wE_strI (show 0 ≤ r2 + r3 by omega) (by omega), pick]
  have fin : ∀ (y1 y2 : Str) (g : Sl) (μ : List MO) (Q : RS → Prop), y1.length ≤ 7 → y2.length ≤ 7 → (∀ r ρ, r.length ≤ 24 → Q (.rt (.str r) ⟨ρ, μ⟩)) → wS (sret (mjoin (con (.str (Str.ofString " "))) (Bx.bin addD (mlst [var 3]) (var 5)))) ⟨[.val (.ref i), .val (.int w), .val (.lst (nmsL.map .str)), .val (.str c), .val (.int r2), .own (.lst [.str y1, .str y2]), g], μ⟩ Q := fun y1 y2 g μ Q h1 h2 hq => by
    have ad : ∀ (Q : R D → Prop), wE (addD (.lst [.str c]) (.loc 5)) ⟨[.val (.ref i), .val (.int w), .val (.lst (nmsL.map .str)), .val (.str c), .val (.int r2), .own (.lst [.str y1, .str y2]), g], μ⟩ Q = Q (.ok (.lst ([c, y1, y2].map .str)) ⟨[.val (.ref i), .val (.int w), .val (.lst (nmsL.map .str)), .val (.str c), .val (.int r2), .own (.lst [.str y1, .str y2]), g], μ⟩) := fun Q => wE_of (by simp [addD, rsl, S.mo])
    have hm : ∀ q ∈ [c, y1, y2], q.length ≤ 7 := by
      intro q hq'
      simp at hq'
      rcases hq' with rfl | rfl | rfl <;> assumption
    simp [wE_mjoin, wE_isStr, ad]
    have jw := fun s (Q : R D → Prop) => join_w (s := s) (Q := Q) (sep := Str.ofString " ") (l := [c, y1, y2]) hm (by rw [blank_len]; omega) (by omega) (by simp)
    simp only [List.map_cons, List.map_nil] at jw
    rw [jw]
    simp
    exact hq _ _ (by have := join_len (sep := Str.ofString " ") hm (by rw [blank_len]; omega); simpa using this)
  generalize hK : kC _ _ = Q'
  refine draw_w (Q := Q') (t := 24) h3 (by omega) (by omega) fun r4 μ4 c0 c1 h4 => ?_
  subst hK
  have l2 := numS_len (n := r2) a0 (by omega)
  have l3 := numS_len (n := r2 + r3) (by omega) (by omega)
  simp
  by_cases c2 : r4 < 2
  · rw [if_pos c2]
    simp [wE_strI (show 0 ≤ w by omega) hw2, fE, pick]
    generalize hK : kC _ _ = Q'
    refine draw_w (Q := Q') (t := 8) h4 (by omega) (by omega) fun r5 μ5 d0 d1 h5 => ?_
    subst hK
    obtain ⟨e, he, ie⟩ := ixS (L := endL w) d0 d1 (end_len (by omega) hw2)
    simp [ie, pick]
    rw [wS_setD (xs := [.str (numS r2), .str (numS (r2 + r3))]) rfl c0 (by simpa using c2)]
    have : r4 = 0 ∨ r4 = 1 := by omega
    rcases this with z | z
    · subst z
      simp
      refine fin e (numS (r2 + r3)) _ μ5 _ (by omega) (by omega) fun r ρ hr => ?_
      simp
      exact q r μ5 hr h5
    · subst z
      simp
      refine fin (numS r2) e _ μ5 _ (by omega) (by omega) fun r ρ hr => ?_
      simp
      exact q r μ5 hr h5
  · rw [if_neg c2]
    refine fin (numS r2) (numS (r2 + r3)) _ μ4 _ (by omega) (by omega) fun r ρ hr => ?_
    simp
    exact q r μ4 hr h4
theorem bentT_w (h : Hand μ i) (hl : T.length ≤ 260) (q : ∀ r μ', r.length ≤ 600 → Hand μ' i → Q (.ok (.str r) μ')) : wD den__law_bent [.ref i, .str T] μ Q := by
  have fO : D.lst [.str (Str.ofString ""), .str (Str.ofString " "), .str (Str.ofString "0"), .str (Str.ofString "1"), .str (Str.ofString "a"), .str (Str.ofString "A"), .str (Str.ofString "-"), .str (Str.ofString "\n"), .str (Str.ofString "seats"), .str (Str.ofString "  "), .str (Str.ofString "2"), .str (Str.ofString "."), .str (Str.ofString " 1"), .str (Str.ofString "b 0 0"), .str (Str.ofString "+"), .str (Str.ofString "s")] = .lst (oddL.map .str) := rfl
  have vN : ∀ (l : List Str) s (Q : R D → Prop), wE (Bx.settle (.lst (l.map .str))) s Q = Q (.ok (.lst (l.map .str)) s) := fun _ _ _ => id rfl
  rw [den__law_bent, wD_runB, b__law_bent]
  simp [frame, pick, fO, vN]
  rw [wE_lenS (by omega)]
  simp
  generalize hK : kC _ _ = Q'
  refine draw_w (Q := Q') (t := T.length + 1) h (by omega) (by omega) fun r μ1 r0 r1 h1 => ?_
  subst hK
  simp [pick]
  generalize hK : kC _ _ = Q'
  refine draw_w (Q := Q') (t := 16) h1 (by omega) (by omega) fun r2 μ2 a0 a1 h2 => ?_
  subst hK
  obtain ⟨e, he, ie⟩ := ixS (L := oddL) a0 a1 odd_len
  have k1 := cut_len T none (some r)
  simp [ie, slStr (show T.length ≤ 900 by omega)]
  rw [wE_addS (by omega)]
  simp [pick]
  generalize hK : kC _ _ = Q'
  refine draw_w (Q := Q') (t := 3) h2 (by omega) (by omega) fun r3 μ3 b0 b1 h3 => ?_
  subst hK
  have k2 := cut_len T (some (r + r3)) none
  have k3 : (L2.cutS T none (some r) ++ e).length = (L2.cutS T none (some r)).length + e.length := by rw [TL.len_tl, TL.tl_append, List.length_append, ← TL.len_tl, ← TL.len_tl]
  simp [slStr (show T.length ≤ 900 by omega)]
  rw [wE_addS (by omega)]
  simp
  refine q _ μ3 ?_ h3
  rw [TL.len_tl, TL.tl_append, List.length_append, ← TL.len_tl, ← TL.len_tl]
  omega
end
end
end K08
end
noncomputable section
namespace K08
open PySem Bx
noncomputable section
section
variable {w : Int} {fs : Folk} {μ : List MO} {ρ : List Sl} {Q : RF → Prop} {p : Str × Int × Int} {i : Nat} {x T : Str} {s : S} {c a b : Str} {lo hi : Int}
def widL : List Int := [1, 2, 3, 4, 6, 6, 9, 12, 12]
def hdL (w : Int) : List Str := [numS w, numS w, Str.ofString "0", Str.ofString "13"]
theorem wid_rng : ∀ x ∈ widL, 1 ≤ x ∧ x ≤ 12 := by decide
theorem hd_len (hw : 0 ≤ w) (hw2 : w ≤ 12) : ∀ x ∈ hdL w, x.length ≤ 7 := by
  have h : ∀ x ∈ [Str.ofString "0", Str.ofString "13"], x.length ≤ 7 := by decide +kernel
  have l := numS_len hw hw2
  intro x hx
  simp only [hdL, List.mem_cons, List.not_mem_nil, or_false] at hx
  rcases hx with rfl | rfl | rfl | rfl
  · omega
  · omega
  · exact h _ (by simp)
  · exact h _ (by simp)
theorem seats_len : (Str.ofString "seats ").length = 6 := by decide +kernel
theorem cat_len (x y : Str) : (x ++ y).length = x.length + y.length := by rw [TL.len_tl, TL.tl_append, List.length_append, ← TL.len_tl, ← TL.len_tl]
theorem lines_w (h : Hand μ i) (q : ∀ r μ', r.length ≤ 600 → Hand μ' i → Q (.ok (.str r) μ')) : wD den__law_lines [.ref i] μ Q := by
  have fW : D.lst [.int 1, .int 2, .int 3, .int 4, .int 6, .int 6, .int 9, .int 12, .int 12] = .lst (widL.map .int) := rfl
  rw [den__law_lines, wD_runB, b__law_lines]
  simp [frame, pick, fW]
  generalize hK : kC _ _ = Q'
  refine draw_w (Q := Q') (t := 9) h (by omega) (by omega) fun r μ1 r0 r1 h1 => ?_
  subst hK
  have hwl : r.toNat < widL.length := by simp [widL]; omega
  obtain ⟨w, ew⟩ : ∃ w, w = widL[r.toNat] := ⟨_, rfl⟩
  obtain ⟨hw, hw2⟩ : 1 ≤ w ∧ w ≤ 12 := by rw [ew]; exact wid_rng _ (List.getElem_mem _)
  have iw : ∀ s (Q : R D → Prop), wE (ixD (.lst (widL.map .int)) (.int r)) s Q = Q (.ok (.int w) s) := fun s Q => by
    rw [ixL r0 (by simp [widL]; omega), ew]
    simp
  have fH : D.lst [.str (numS w), .str (numS w), .str (Str.ofString "0"), .str (Str.ofString "13")] = .lst ((hdL w).map .str) := rfl
  simp [iw, wE_strI (show 0 ≤ w by omega) hw2, fH, pick]
  generalize hK : kC _ _ = Q'
  refine draw_w (Q := Q') (t := 13) h1 (by omega) (by omega) fun r2 μ2 a0 a1 h2 => ?_
  subst hK
  have fd : ∀ s (Q : R D → Prop), wE (fdivD (.int r2) (.int 4)) s Q = Q (.ok (.int (r2 / 4)) s) := fun s Q => wE_fdiv (by decide) (by decide)
  obtain ⟨hd, hhd, ih⟩ := ixS (L := hdL w) (r := r2 / 4) (by omega) (by simp [hdL]; omega) (hd_len (by omega) hw2)
  simp [fd, ih]
  rw [wE_addS (by rw [seats_len]; omega)]
  simp [pick]
  generalize hK : kC _ _ = Q'
  refine draw_w (Q := Q') (t := 9) h2 (by omega) (by omega) fun r3 μ3 b0 b1 h3 => ?_
  subst hK
  simp
  rw [wE_rg1 (by omega) (by omega)]
  simp
  obtain ⟨I, hI⟩ : ∃ I : Nat → S → Prop, ∀ k s, I k s ↔ ∃ (l : List Str), ∃ μ a b, (∀ q ∈ l, q.length ≤ 24) ∧ l.length = k + 1 ∧ Hand μ i ∧ s = ⟨[.val (.ref i), .val (.int w), .own (.lst (l.map .str)), a, b], μ⟩ := ⟨_, fun _ _ => Iff.rfl⟩
  have h0 : ∀ q ∈ [Str.ofString "seats " ++ hd], q.length ≤ 24 := fun q hq => by
    rw [List.mem_singleton.mp hq, cat_len, seats_len]
    omega
  refine wforR I ((hI _ _).mpr ⟨[Str.ofString "seats " ++ hd], μ3, _, _, h0, rfl, h3, rfl⟩) (fun k s hk h0 => ?_) fun s h0 => ?_
  · obtain ⟨l, μ4, a, b, hl, ll, h4, rfl⟩ := (hI _ _).mp h0
    simp [pick]
    refine rowd_w h4 hw hw2 fun r μ5 hr h5 => ?_
    have ap : ∀ (g : Sl) (Q : R D → Prop), wE (appD (.loc 2) (.str r)) ⟨[.val (.ref i), .val (.int w), .own (.lst (l.map .str)), g, b], μ5⟩ Q = Q (.ok .non ⟨[.val (.ref i), .val (.int w), .own (.lst ((l ++ [r]).map .str)), g, b], μ5⟩) := fun g Q => by
      rw [wE_app (xs := l.map .str) rfl (by simp; omega)]
      simp
    simp [ap, -List.map_append]
    exact (hI (k + 1) _).mpr ⟨l ++ [r], μ5, _, _, fun q hq => (List.mem_append.mp hq).elim (hl q) fun hq => (by rw [List.mem_singleton.mp hq]; exact hr), (by simp; omega), h5, rfl⟩
  · obtain ⟨l, μ4, a, b, hl, ll, h4, rfl⟩ := (hI _ _).mp h0
    have jl := join_len (sep := Str.ofString "\n") hl (by rw [line_len1]; omega)
    have hll : l.length ≤ 9 := by omega
    have jb : (Txt.join (Str.ofString "\n") l).length ≤ 225 := Nat.le_trans jl (by omega)
    have jw : ∀ (Q : R D → Prop), wE (joinD (.str (Str.ofString "\n")) (.loc 2)) ⟨[.val (.ref i), .val (.int w), .own (.lst (l.map .str)), a, b], μ4⟩ Q = Q (.ok (.str (Txt.join (Str.ofString "\n") l)) ⟨[.val (.ref i), .val (.int w), .own (.lst (l.map .str)), a, b], μ4⟩) := fun Q => by
      rw [← join_w (s := ⟨[.val (.ref i), .val (.int w), .own (.lst (l.map .str)), a, b], μ4⟩) (Q := Q) (sep := Str.ofString "\n") hl (by rw [line_len1]; omega) (by omega) (by omega)]
      have e : joinD (.str (Str.ofString "\n")) (.loc 2) ⟨[.val (.ref i), .val (.int w), .own (.lst (l.map .str)), a, b], μ4⟩ = joinD (.str (Str.ofString "\n")) (.lst (l.map .str)) ⟨[.val (.ref i), .val (.int w), .own (.lst (l.map .str)), a, b], μ4⟩ := by simp [joinD, rsl, S.mo]
      unfold wE
      rw [e]
    generalize Txt.join (Str.ofString "\n") l = T at *
    simp [wE_mjoin, wE_isStr, jw, pick]
    generalize hK : kC _ _ = Q'
    refine draw_w (Q := Q') (t := 2) h4 (by omega) (by omega) fun r5 μ5 d0 d1 h5 => ?_
    subst hK
    simp
    by_cases c : r5 = 1
    · rw [if_pos c]
      simp [pick]
      refine bentT_w h5 (by omega) fun r μ6 hr h6 => ?_
      simp
      exact q r μ6 hr h6
    · rw [if_neg c]
      exact q T μ5 (by omega) h5
theorem due_repr {t : Str} (hl : t.length ≤ 600) : ∃ z : Str, ∀ s (Q : R D → Prop), wE (reprB (dueD (textF t))) s Q = Q (.ok (.str z) s) := by
  cases e : textF t with
  | inl k =>
    have := text_lt e
    refine repr_some (ds := [.str (Str.ofString "none"), .int k]) ?_ ?_ ?_
    · have h1 : asc (Str.ofString "none") = true := by decide
      have h2 : okS (.int (k : Int)) = true := by simp [okS]; omega
      simp only [okS, okSL, h1, h2, Bool.and_self, Bool.true_and, Bool.and_true]
      simpa [okS] using h2
    · have : (Str.ofString "none").length = 4 := rfl
      simp only [wt, wtL, this]
      omega
    · exact Nat.le_of_ble_eq_true rfl
  | inr v =>
    obtain ⟨w, fs⟩ := v
    obtain ⟨hf, hw, hw2, _⟩ := text_line e
    obtain ⟨f1, f2, f3⟩ := folk_data hf hw2
    refine repr_some (ds := [.str (Str.ofString "read"), .int w, .tup (fs.map per)]) ?_ ?_ ?_
    · have h1 : okS (.str (Str.ofString "read")) = true := by decide
      have h2 : okS (.int w) = true := by simp [okS]; omega
      show okSL [.str (Str.ofString "read"), .int w, .tup (fs.map per)] = true
      simp only [okSL, h1, h2, f1, Bool.and_self]
    · have : (Str.ofString "read").length = 4 := rfl
      have e1 : wt (.str (Str.ofString "read")) ≤ 1000 := by decide
      have e2 : wt (.int w) = 45 := rfl
      show wtL [.str (Str.ofString "read"), .int w, .tup (fs.map per)] + 3 ≤ 16000000
      simp only [wtL, e2]
      omega
    · have e1 : dpt (.str (Str.ofString "read")) = 0 := rfl
      have e2 : dpt (.int w) = 0 := rfl
      show dptL [.str (Str.ofString "read"), .int w, .tup (fs.map per)] + 1 ≤ 50
      simp only [dptL, e1, e2]
      omega
theorem due_val {v : Nat ⊕ (Int × Folk)} {Q : R D → Prop} : wE (Bx.settle (dueD v)) s Q = Q (.ok (dueD v) s) := by
  rcases v with k | ⟨w, fs⟩ <;> exact id rfl
theorem law_true (ns : List Int) (hns : ns.length ≤ 63) : ∃ μ, den_law [.scr ns] [] = .ok (.bl true) μ := by
  refine of_wD (P := fun r => ∃ μ, r = .ok (.bl true) μ) ?_
  rw [den_law, wD_runB, b_law]
  simp [frame]
  rw [wE_rg1 (by omega) (by omega)]
  simp
  obtain ⟨I, hI⟩ : ∃ I : Nat → S → Prop, ∀ k s, I k s ↔ ∃ μ a b, s = ⟨[.val (.scr ns), a, b], μ⟩ := ⟨_, fun _ _ => Iff.rfl⟩
  refine wforR I ((hI _ _).mpr ⟨_, _, _, rfl⟩) (fun k s hk h0 => ?_) fun s h0 => ?_
  · obtain ⟨μ, a, b, rfl⟩ := (hI _ _).mp h0
    have hk2 : (k : Int) < 1000 := by omega
    simp [pick]
    refine cell_w (by omega) hk2 fun ce => ?_
    simp [pick]
    refine hand_w fun μ1 h1 => ?_
    simp [pick]
    refine lines_w h1 fun t μ2 ht h2 => ?_
    obtain ⟨z, hz⟩ := due_repr ht
    simp [pick, told_w ht, due_w ht, due_val, hz]
    exact (hI (k + 1) _).mpr ⟨_, _, _, rfl⟩
  · obtain ⟨μ, a, b, rfl⟩ := (hI _ _).mp h0
    simp
end
end
end K08
end
namespace K08
open PySem PySem.Spec PyProof.Rows L2 Bx
theorem ok__law_draw {P : Program} {w : World} {K : PySem.W.Frag} {mg : Str → Option Value} (h : Hyp K mg) : ∃ fd, FunD K "_law_draw" "_law_draw" (defArgs s__law_draw) (defBody s__law_draw) (defScope s__law_draw) (d__law_draw.dvs K) (d__law_draw.kws K) (He.ga K "_law_draw") fd ∧ ∀ base : Heap, FnG P w K mg base 1 (He.ga K "_law_draw") fd ["_law_hand_here", "_law_top"] (spD ⟨K, P, w⟩ 2 den__law_draw) := by
  obtain ⟨fd, F⟩ := h.says.def_ 0 (d := d__law_draw) rfl
  have scN := sc__law_draw.nd
  have G := fun base : Heap => (fnG_body (P := P) (w := w) (mg := mg) (base := base) (N := ["_law_hand_here", "_law_top", "_law_digit", "_law_state"]) (ps := ["_law_hand_here", "_law_top"]) (k := 0) (b := b__law_draw) F sc__law_draw fun cdv A outer s H E hr hgd tk => by
    have hu := hr.units
    exact (sb_cons (ss_sub (se_bin op_addD (se_ix ix_D (se_var (j := 0) rfl (.inl (by kernel_rfl))) se_int (fun _ _ => rfl)) se_int) (se_var (j := 0) rfl (.inl (by kernel_rfl))) se_int)
      (sb_cons (ss_if (st_cmp op_gtD (se_ix ix_D (se_var (j := 0) rfl (.inl (by kernel_rfl))) se_int (fun _ _ => rfl)) se_int (nomark _)) (sb_cons (ss_asg plain_gtupG (se_callB cr_divmod (gl_of (by kernel_rfl)) (h.free 4 (x := "divmod") rfl) (by decide +kernel) (sa_cons (se_ix ix_D (se_var (j := 0) rfl (.inl (by kernel_rfl))) se_int (fun _ _ => rfl)) (sa_cons (se_var (j := 1) rfl (.inl (by kernel_rfl))) sa_nil))) (sg_tupG rfl (sgs_cons (sg_sub (se_var (j := 0) rfl (.inl (by kernel_rfl))) se_int) (sgs_cons (sg_name (j := 2) scN rfl (.inl (by kernel_rfl)) (hf := .inl rfl)) sgs_nil))))
      (sb_one (ss_ret (se_var (j := 2) rfl (.inl (by kernel_rfl)))))) sb_nil)
      (sb_cons (ss_set (j := 3) scN rfl (.inl (by kernel_rfl)) (hf := .inl rfl) (se_bin op_modD (se_ix ix_D (se_var (j := 0) rfl (.inl (by kernel_rfl))) se_int (fun _ _ => rfl)) se_int))
      (sb_cons (ss_sub (se_bin op_addD (se_bin op_mulD (se_var (j := 3) rfl (.inl (by kernel_rfl))) (se_bin op_addD (se_bin op_modD (se_var (j := 3) rfl (.inl (by kernel_rfl))) se_int) se_int)) (se_bin op_mulD se_int (se_ix ix_D (se_var (j := 0) rfl (.inl (by kernel_rfl))) se_int (fun _ _ => rfl)))) (se_var (j := 0) rfl (.inl (by kernel_rfl))) se_int)
      (sb_one (ss_ret (se_bin op_modD (se_bin op_fdivD (se_bin op_modD (se_ix ix_D (se_var (j := 0) rfl (.inl (by kernel_rfl))) se_int (fun _ _ => rfl)) se_int) se_int) (se_var (j := 1) rfl (.inl (by kernel_rfl)))))))))))
  exact ⟨fd, F, G⟩
theorem ok__law_row {P : Program} {w : World} {K : PySem.W.Frag} {mg : Str → Option Value} (h : Hyp K mg) : ∃ fd, FunD K "_law_row" "_law_row" (defArgs s__law_row) (defBody s__law_row) (defScope s__law_row) (d__law_row.dvs K) (d__law_row.kws K) (He.ga K "_law_row") fd ∧ ∀ base : Heap, FnG P w K mg base 2 (He.ga K "_law_row") fd ["_law_hand_here", "_law_wide"] (spD ⟨K, P, w⟩ 2 den__law_row) := by
  obtain ⟨fd__law_draw, F__law_draw, G__law_draw⟩ := ok__law_draw (P := P) (w := w) h
  have cb0 : CallB ⟨K, P, w⟩ fd__law_draw ["_law_hand_here", "_law_top"] 2 [] [0, 1] [] := callB_no (K := ⟨K, P, w⟩) F__law_draw 2 [] [0, 1] fun _ _ _ _ _ _ us ws h1 h2 => match us, h1, ws, h2 with | [_, _], _, [], _ => rfl
  obtain ⟨fd, F⟩ := h.says.def_ 1 (d := d__law_row) rfl
  have scN := sc__law_row.nd
  have G := fun base : Heap => (fnG_body (P := P) (w := w) (mg := mg) (base := base) (N := ["_law_hand_here", "_law_wide", "_law_names", "_law_call", "_law_low", "_law_ends", "_law_at"]) (ps := ["_law_hand_here", "_law_wide"]) (k := 1) (b := b__law_row) F sc__law_row fun cdv A outer s H E hr hgd tk => by
    have hu := hr.units
    exact (sb_cons (ss_set (j := 2) scN rfl (.inl (by kernel_rfl)) (hf := .inl rfl) (se_lst (sal_cons se_str (sal_cons se_str (sal_cons se_str (sal_cons se_str (sal_cons se_str (sal_cons se_str (sal_cons se_str (sal_cons se_str (sal_cons se_str (sal_cons se_str (sal_cons se_str (sal_cons se_str sal_nil))))))))))))))
      (sb_cons (ss_par2 (i := 3) (j := 4) rfl scN rfl rfl (by decide) (by kernel_rfl) (by kernel_rfl) (sx_v (se_ix ix_D (se_var (j := 2) rfl (.inl (by kernel_rfl))) (se_call (G__law_draw _) (hr.mono (by decide)) hgd (gl_of (by kernel_rfl)) (h.glo 5 (x := "_law_draw") rfl) F__law_draw.kp cb0 rfl tk (sal_cons (se_var (j := 0) rfl (.inl (by kernel_rfl))) (sal_cons se_int sal_nil))) (fun _ _ => rfl)) (sx_v (se_call (G__law_draw _) (hr.mono (by decide)) hgd (gl_of (by kernel_rfl)) (h.glo 5 (x := "_law_draw") rfl) F__law_draw.kp cb0 rfl tk (sal_cons (se_var (j := 0) rfl (.inl (by kernel_rfl))) (sal_cons (se_var (j := 1) rfl (.inl (by kernel_rfl))) sal_nil))) sx_nil)) (by kernel_rfl))
      (sb_cons (ss_setO (j := 5) scN rfl (.inl (by kernel_rfl)) (hf := .inl rfl) (sf_lst (sal_cons (se_callTy cr_str (gl_of (by kernel_rfl)) (h.free 6 (x := "str") rfl) (by decide +kernel) (sa_cons (se_var (j := 4) rfl (.inl (by kernel_rfl))) sa_nil)) (sal_cons (se_callTy cr_str (gl_of (by kernel_rfl)) (h.free 6 (x := "str") rfl) (by decide +kernel) (sa_cons (se_bin op_addD (se_var (j := 4) rfl (.inl (by kernel_rfl))) (se_call (G__law_draw _) (hr.mono (by decide)) hgd (gl_of (by kernel_rfl)) (h.glo 5 (x := "_law_draw") rfl) F__law_draw.kp cb0 rfl tk (sal_cons (se_var (j := 0) rfl (.inl (by kernel_rfl))) (sal_cons (se_bin op_subD (se_var (j := 1) rfl (.inl (by kernel_rfl))) (se_var (j := 4) rfl (.inl (by kernel_rfl)))) sal_nil)))) sa_nil)) sal_nil))))
      (sb_cons (ss_set (j := 6) scN rfl (.inl (by kernel_rfl)) (hf := .inl rfl) (se_call (G__law_draw _) (hr.mono (by decide)) hgd (gl_of (by kernel_rfl)) (h.glo 5 (x := "_law_draw") rfl) F__law_draw.kp cb0 rfl tk (sal_cons (se_var (j := 0) rfl (.inl (by kernel_rfl))) (sal_cons se_int sal_nil))))
      (sb_cons (ss_if (st_cmp op_ltD (se_var (j := 6) rfl (.inl (by kernel_rfl))) se_int (nomark _)) (sb_one (ss_sub (se_ix ix_D (se_lst (sal_cons se_str (sal_cons se_str (sal_cons se_str (sal_cons se_str (sal_cons se_str (sal_cons se_str (sal_cons se_str (sal_cons (se_callTy cr_str (gl_of (by kernel_rfl)) (h.free 6 (x := "str") rfl) (by decide +kernel) (sa_cons (se_var (j := 1) rfl (.inl (by kernel_rfl))) sa_nil)) sal_nil))))))))) (se_call (G__law_draw _) (hr.mono (by decide)) hgd (gl_of (by kernel_rfl)) (h.glo 5 (x := "_law_draw") rfl) F__law_draw.kp cb0 rfl tk (sal_cons (se_var (j := 0) rfl (.inl (by kernel_rfl))) (sal_cons se_int sal_nil))) (fun _ _ => rfl)) (se_var (j := 5) rfl (.inl (by kernel_rfl))) (se_var (j := 6) rfl (.inl (by kernel_rfl))))) sb_nil)
      (sb_one (ss_ret (se_join se_str (se_bin op_addD (se_lst (sal_cons (se_var (j := 3) rfl (.inl (by kernel_rfl))) sal_nil)) (se_var (j := 5) rfl (.inl (by kernel_rfl)))))))))))))
  exact ⟨fd, F, G⟩
theorem ok__law_bent {P : Program} {w : World} {K : PySem.W.Frag} {mg : Str → Option Value} (h : Hyp K mg) : ∃ fd, FunD K "_law_bent" "_law_bent" (defArgs s__law_bent) (defBody s__law_bent) (defScope s__law_bent) (d__law_bent.dvs K) (d__law_bent.kws K) (He.ga K "_law_bent") fd ∧ ∀ base : Heap, FnG P w K mg base 2 (He.ga K "_law_bent") fd ["_law_hand_here", "_law_lines_here"] (spD ⟨K, P, w⟩ 2 den__law_bent) := by
  obtain ⟨fd__law_draw, F__law_draw, G__law_draw⟩ := ok__law_draw (P := P) (w := w) h
  have cb0 : CallB ⟨K, P, w⟩ fd__law_draw ["_law_hand_here", "_law_top"] 2 [] [0, 1] [] := callB_no (K := ⟨K, P, w⟩) F__law_draw 2 [] [0, 1] fun _ _ _ _ _ _ us ws h1 h2 => match us, h1, ws, h2 with | [_, _], _, [], _ => rfl
  obtain ⟨fd, F⟩ := h.says.def_ 2 (d := d__law_bent) rfl
  have scN := sc__law_bent.nd
  have G := fun base : Heap => (fnG_body (P := P) (w := w) (mg := mg) (base := base) (N := ["_law_hand_here", "_law_lines_here", "_law_odd", "_law_at", "_law_sign"]) (ps := ["_law_hand_here", "_law_lines_here"]) (k := 1) (b := b__law_bent) F sc__law_bent fun cdv A outer s H E hr hgd tk => by
    have hu := hr.units
    exact (sb_cons (ss_set (j := 2) scN rfl (.inl (by kernel_rfl)) (hf := .inl rfl) (se_lst (sal_cons se_str (sal_cons se_str (sal_cons se_str (sal_cons se_str (sal_cons se_str (sal_cons se_str (sal_cons se_str (sal_cons se_str (sal_cons se_str (sal_cons se_str (sal_cons se_str (sal_cons se_str (sal_cons se_str (sal_cons se_str (sal_cons se_str (sal_cons se_str sal_nil))))))))))))))))))
      (sb_cons (ss_par2 (i := 3) (j := 4) rfl scN rfl rfl (by decide) (by kernel_rfl) (by kernel_rfl) (sx_v (se_call (G__law_draw _) (hr.mono (by decide)) hgd (gl_of (by kernel_rfl)) (h.glo 5 (x := "_law_draw") rfl) F__law_draw.kp cb0 rfl tk (sal_cons (se_var (j := 0) rfl (.inl (by kernel_rfl))) (sal_cons (se_bin op_addD (se_callB cr_len (gl_of (by kernel_rfl)) (h.free 0 (x := "len") rfl) (by decide +kernel) (sa_cons (se_var (j := 1) rfl (.inl (by kernel_rfl))) sa_nil)) se_int) sal_nil))) (sx_v (se_ix ix_D (se_var (j := 2) rfl (.inl (by kernel_rfl))) (se_call (G__law_draw _) (hr.mono (by decide)) hgd (gl_of (by kernel_rfl)) (h.glo 5 (x := "_law_draw") rfl) F__law_draw.kp cb0 rfl tk (sal_cons (se_var (j := 0) rfl (.inl (by kernel_rfl))) (sal_cons se_int sal_nil))) (fun _ _ => rfl)) sx_nil)) (by kernel_rfl))
      (sb_one (ss_ret (se_bin op_addD (se_bin op_addD (se_slc (se_var (j := 1) rfl (.inl (by kernel_rfl))) so_no (so_yes (se_var (j := 3) rfl (.inl (by kernel_rfl))))) (se_var (j := 4) rfl (.inl (by kernel_rfl)))) (se_slc (se_var (j := 1) rfl (.inl (by kernel_rfl))) (so_yes (se_bin op_addD (se_var (j := 3) rfl (.inl (by kernel_rfl))) (se_call (G__law_draw _) (hr.mono (by decide)) hgd (gl_of (by kernel_rfl)) (h.glo 5 (x := "_law_draw") rfl) F__law_draw.kp cb0 rfl tk (sal_cons (se_var (j := 0) rfl (.inl (by kernel_rfl))) (sal_cons se_int sal_nil))))) so_no)))))))
  exact ⟨fd, F, G⟩
theorem ok__law_lines {P : Program} {w : World} {K : PySem.W.Frag} {mg : Str → Option Value} (h : Hyp K mg) : ∃ fd, FunD K "_law_lines" "_law_lines" (defArgs s__law_lines) (defBody s__law_lines) (defScope s__law_lines) (d__law_lines.dvs K) (d__law_lines.kws K) (He.ga K "_law_lines") fd ∧ ∀ base : Heap, FnG P w K mg base 3 (He.ga K "_law_lines") fd ["_law_hand_here"] (spD ⟨K, P, w⟩ 1 den__law_lines) := by
  obtain ⟨fd__law_draw, F__law_draw, G__law_draw⟩ := ok__law_draw (P := P) (w := w) h
  obtain ⟨fd__law_row, F__law_row, G__law_row⟩ := ok__law_row (P := P) (w := w) h
  obtain ⟨fd__law_bent, F__law_bent, G__law_bent⟩ := ok__law_bent (P := P) (w := w) h
  have cb0 : CallB ⟨K, P, w⟩ fd__law_draw ["_law_hand_here", "_law_top"] 2 [] [0, 1] [] := callB_no (K := ⟨K, P, w⟩) F__law_draw 2 [] [0, 1] fun _ _ _ _ _ _ us ws h1 h2 => match us, h1, ws, h2 with | [_, _], _, [], _ => rfl
  have cb1 : CallB ⟨K, P, w⟩ fd__law_row ["_law_hand_here", "_law_wide"] 2 [] [0, 1] [] := callB_no (K := ⟨K, P, w⟩) F__law_row 2 [] [0, 1] fun _ _ _ _ _ _ us ws h1 h2 => match us, h1, ws, h2 with | [_, _], _, [], _ => rfl
  have cb2 : CallB ⟨K, P, w⟩ fd__law_bent ["_law_hand_here", "_law_lines_here"] 2 [] [0, 1] [] := callB_no (K := ⟨K, P, w⟩) F__law_bent 2 [] [0, 1] fun _ _ _ _ _ _ us ws h1 h2 => match us, h1, ws, h2 with | [_, _], _, [], _ => rfl
  obtain ⟨fd, F⟩ := h.says.def_ 3 (d := d__law_lines) rfl
  have scN := sc__law_lines.nd
  have G := fun base : Heap => (fnG_body (P := P) (w := w) (mg := mg) (base := base) (N := ["_law_hand_here", "_law_wide", "_law_rows", "_law_turn", "_law_lines_here"]) (ps := ["_law_hand_here"]) (k := 2) (b := b__law_lines) F sc__law_lines fun cdv A outer s H E hr hgd tk => by
    have hu := hr.units
    exact (sb_cons (ss_set (j := 1) scN rfl (.inl (by kernel_rfl)) (hf := .inl rfl) (se_ix ix_D (se_lst (sal_cons se_int (sal_cons se_int (sal_cons se_int (sal_cons se_int (sal_cons se_int (sal_cons se_int (sal_cons se_int (sal_cons se_int (sal_cons se_int sal_nil)))))))))) (se_call (G__law_draw _) (hr.mono (by decide)) hgd (gl_of (by kernel_rfl)) (h.glo 5 (x := "_law_draw") rfl) F__law_draw.kp cb0 rfl tk (sal_cons (se_var (j := 0) rfl (.inl (by kernel_rfl))) (sal_cons se_int sal_nil))) (fun _ _ => rfl)))
      (sb_cons (ss_setO (j := 2) scN rfl (.inl (by kernel_rfl)) (hf := .inl rfl) (sf_lst (sal_cons (se_bin op_addD se_str (se_ix ix_D (se_lst (sal_cons (se_callTy cr_str (gl_of (by kernel_rfl)) (h.free 6 (x := "str") rfl) (by decide +kernel) (sa_cons (se_var (j := 1) rfl (.inl (by kernel_rfl))) sa_nil)) (sal_cons (se_callTy cr_str (gl_of (by kernel_rfl)) (h.free 6 (x := "str") rfl) (by decide +kernel) (sa_cons (se_var (j := 1) rfl (.inl (by kernel_rfl))) sa_nil)) (sal_cons se_str (sal_cons se_str sal_nil))))) (se_bin op_fdivD (se_call (G__law_draw _) (hr.mono (by decide)) hgd (gl_of (by kernel_rfl)) (h.glo 5 (x := "_law_draw") rfl) F__law_draw.kp cb0 rfl tk (sal_cons (se_var (j := 0) rfl (.inl (by kernel_rfl))) (sal_cons se_int sal_nil))) se_int) (fun _ _ => rfl))) sal_nil)))
      (sb_cons (ss_for (passes_of rfl) rfl (si_range1 (gl_of (by kernel_rfl)) (h.free 3 (x := "range") rfl) (sa_cons (se_call (G__law_draw _) (hr.mono (by decide)) hgd (gl_of (by kernel_rfl)) (h.glo 5 (x := "_law_draw") rfl) F__law_draw.kp cb0 rfl tk (sal_cons (se_var (j := 0) rfl (.inl (by kernel_rfl))) (sal_cons se_int sal_nil))) sa_nil)) (sg_name (j := 3) scN rfl (.inl (by kernel_rfl)) (hf := .inl rfl)) (sb_one (ss_expr (se_append (se_var (j := 2) rfl (.inl (by kernel_rfl))) (sal_cons (se_call (G__law_row _) (hr.mono (by decide)) hgd (gl_of (by kernel_rfl)) (h.glo 7 (x := "_law_row") rfl) F__law_row.kp cb1 rfl tk (sal_cons (se_var (j := 0) rfl (.inl (by kernel_rfl))) (sal_cons (se_var (j := 1) rfl (.inl (by kernel_rfl))) sal_nil))) sal_nil)))))
      (sb_cons (ss_set (j := 4) scN rfl (.inl (by kernel_rfl)) (hf := .inl rfl) (se_join se_str (se_var (j := 2) rfl (.inl (by kernel_rfl)))))
      (sb_one (ss_ret (se_if (st_cmp (op_eqD' hu) (se_call (G__law_draw _) (hr.mono (by decide)) hgd (gl_of (by kernel_rfl)) (h.glo 5 (x := "_law_draw") rfl) F__law_draw.kp cb0 rfl tk (sal_cons (se_var (j := 0) rfl (.inl (by kernel_rfl))) (sal_cons se_int sal_nil))) se_int (nomark _)) (se_call (G__law_bent _) (hr.mono (by decide)) hgd (gl_of (by kernel_rfl)) (h.glo 8 (x := "_law_bent") rfl) F__law_bent.kp cb2 rfl tk (sal_cons (se_var (j := 0) rfl (.inl (by kernel_rfl))) (sal_cons (se_var (j := 4) rfl (.inl (by kernel_rfl))) sal_nil))) (se_var (j := 4) rfl (.inl (by kernel_rfl)))))))))))
  exact ⟨fd, F, G⟩
theorem ok__law_hand {P : Program} {w : World} {K : PySem.W.Frag} {mg : Str → Option Value} (h : Hyp K mg) : ∃ fd, FunD K "_law_hand" "_law_hand" (defArgs s__law_hand) (defBody s__law_hand) (defScope s__law_hand) (d__law_hand.dvs K) (d__law_hand.kws K) (He.ga K "_law_hand") fd ∧ ∀ base : Heap, FnG P w K mg base 1 (He.ga K "_law_hand") fd ["_law_cell_here"] (spD ⟨K, P, w⟩ 1 den__law_hand) := by
  obtain ⟨fd, F⟩ := h.says.def_ 4 (d := d__law_hand) rfl
  have scN := sc__law_hand.nd
  have G := fun base : Heap => (fnG_body (P := P) (w := w) (mg := mg) (base := base) (N := ["_law_cell_here", "_law_digits"]) (ps := ["_law_cell_here"]) (k := 0) (b := b__law_hand) F sc__law_hand fun cdv A outer s H E hr hgd tk => by
    have hu := hr.units
    exact (sb_cons (ss_set (j := 1) scN rfl (.inl (by kernel_rfl)) (hf := .inl rfl) (se_if (st_w (sw_or (st_cmp op_ltD (se_var (j := 0) rfl (.inl (by kernel_rfl))) se_int (nomark _)) (sw_or1 (st_cmp op_geD (se_var (j := 0) rfl (.inl (by kernel_rfl))) (se_bin op_powD se_int se_int) (nomark _))))) (se_callB cr_abs (gl_of (by kernel_rfl)) (h.free 9 (x := "abs") rfl) (by decide +kernel) (sa_cons (se_var (j := 0) rfl (.inl (by kernel_rfl))) sa_nil)) se_int))
      (sb_one (ss_retS (sf_lst (sal_cons (se_var (j := 1) rfl (.inl (by kernel_rfl))) (sal_cons (se_bin op_addD (se_bin op_mulD (se_bin op_modD (se_var (j := 0) rfl (.inl (by kernel_rfl))) se_int) se_int) se_int) (sal_cons se_int sal_nil))))))))
  exact ⟨fd, F, G⟩
theorem ok__law_cell {P : Program} {w : World} {K : PySem.W.Frag} {mg : Str → Option Value} (h : Hyp K mg) : ∃ fd, FunD K "_law_cell" "_law_cell" (defArgs s__law_cell) (defBody s__law_cell) (defScope s__law_cell) (d__law_cell.dvs K) (d__law_cell.kws K) (He.ga K "_law_cell") fd ∧ ∀ base : Heap, FnG P w K mg base 1 (He.ga K "_law_cell") fd ["_law_script", "_law_k"] (spD ⟨K, P, w⟩ 2 den__law_cell) := by
  obtain ⟨fd, F⟩ := h.says.def_ 5 (d := d__law_cell) rfl
  have scN := sc__law_cell.nd
  have G := fun base : Heap => (fnG_body (P := P) (w := w) (mg := mg) (base := base) (N := ["_law_script", "_law_k", "_law_state", "_law_cell_here"]) (ps := ["_law_script", "_law_k"]) (k := 0) (b := b__law_cell) F sc__law_cell fun cdv A outer s H E hr hgd tk => by
    have hu := hr.units
    exact (sb_cons (ss_if (st_cmp op_ltD (se_var (j := 1) rfl (.inl (by kernel_rfl))) (se_callB cr_len (gl_of (by kernel_rfl)) (h.free 0 (x := "len") rfl) (by decide +kernel) (sa_cons (se_var (j := 0) rfl (.inl (by kernel_rfl))) sa_nil)) (nomark _)) (sb_one (ss_ret (se_ix ix_D (se_var (j := 0) rfl (.inl (by kernel_rfl))) (se_var (j := 1) rfl (.inl (by kernel_rfl))) (fun _ _ => rfl)))) sb_nil)
      (sb_cons (ss_set (j := 2) scN rfl (.inl (by kernel_rfl)) (hf := .inl rfl) (se_bin op_modD (se_bin op_mulD se_int (se_bin op_addD (se_bin op_addD (se_bin op_mulD (se_var (j := 1) rfl (.inl (by kernel_rfl))) (se_var (j := 1) rfl (.inl (by kernel_rfl)))) (se_bin op_mulD se_int (se_var (j := 1) rfl (.inl (by kernel_rfl))))) se_int)) se_int))
      (sb_cons (ss_for (passes_of rfl) rfl (si_any (se_slc (se_var (j := 0) rfl (.inl (by kernel_rfl))) so_no (so_yes se_int))) (sg_name (j := 3) scN rfl (.inl (by kernel_rfl)) (hf := .inl rfl)) (sb_one (ss_set (j := 2) scN rfl (.inl (by kernel_rfl)) (hf := .inl rfl) (se_bin op_modD (se_bin op_addD (se_bin op_mulD (se_var (j := 2) rfl (.inl (by kernel_rfl))) se_int) (se_var (j := 3) rfl (.inl (by kernel_rfl)))) se_int))))
      (sb_one (ss_ret (se_var (j := 2) rfl (.inl (by kernel_rfl)))))))))
  exact ⟨fd, F, G⟩
theorem ok_NoText_init {P : Program} {w : World} {K : PySem.W.Frag} {mg : Str → Option Value} (h : Hyp K mg) : ∃ fd, FunD K "__init__" "NoText.__init__" (defArgs s_NoText_init) (defBody s_NoText_init) (defScope s_NoText_init) (d_NoText_init.dvs K) (d_NoText_init.kws K) (He.ma K (He.ga K "NoText") "__init__") fd ∧ ∀ base : Heap, FnG P w K mg base 2 (He.ma K (He.ga K "NoText") "__init__") fd ["self", "row"] (spX (He.ga K "NoText") "row") := by
  obtain ⟨fd, F⟩ := h.says.def_ 6 (d := d_NoText_init) rfl
  exact ⟨fd, F, fun base => fnG_exc (f := "row") (bn := "BenchError") F sc_NoText_init rfl xbVE (oxB_ok (h.chk 0 (f := fun K => oxB K "NoText" "row" veT "ValueError.__new__") rfl)).ox (oxB_ok (h.chk 0 (f := fun K => oxB K "NoText" "row" veT "ValueError.__new__") rfl)).noF (h.glo 14 (x := "BenchError") rfl) (obB_ok (h.chk 1 (f := fun K => obB K "BenchError" "ValueError.__init__") rfl)).rd (obB_ok (h.chk 1 (f := fun K => obB K "BenchError" "ValueError.__init__") rfl)).at_ (by kernel_rfl) (by kernel_rfl) (by kernel_rfl) (by decide +kernel) (by decide +kernel) (by decide +kernel) (by decide +kernel) (by decide +kernel) (fun env => ⟨_, rfl⟩)⟩
theorem ok_NoPeople_init {P : Program} {w : World} {K : PySem.W.Frag} {mg : Str → Option Value} (h : Hyp K mg) : ∃ fd, FunD K "__init__" "NoPeople.__init__" (defArgs s_NoPeople_init) (defBody s_NoPeople_init) (defScope s_NoPeople_init) (d_NoPeople_init.dvs K) (d_NoPeople_init.kws K) (He.ma K (He.ga K "NoPeople") "__init__") fd ∧ ∀ base : Heap, FnG P w K mg base 2 (He.ma K (He.ga K "NoPeople") "__init__") fd ["self", "place"] (spX (He.ga K "NoPeople") "place") := by
  obtain ⟨fd, F⟩ := h.says.def_ 8 (d := d_NoPeople_init) rfl
  exact ⟨fd, F, fun base => fnG_exc (f := "place") (bn := "BenchError") F sc_NoPeople_init rfl xbVE (oxB_ok (h.chk 3 (f := fun K => oxB K "NoPeople" "place" veT "ValueError.__new__") rfl)).ox (oxB_ok (h.chk 3 (f := fun K => oxB K "NoPeople" "place" veT "ValueError.__new__") rfl)).noF (h.glo 14 (x := "BenchError") rfl) (obB_ok (h.chk 1 (f := fun K => obB K "BenchError" "ValueError.__init__") rfl)).rd (obB_ok (h.chk 1 (f := fun K => obB K "BenchError" "ValueError.__init__") rfl)).at_ (by kernel_rfl) (by kernel_rfl) (by kernel_rfl) (by decide +kernel) (by decide +kernel) (by decide +kernel) (by decide +kernel) (by decide +kernel) (fun env => ⟨_, rfl⟩)⟩
theorem okH_NoText_init {P : Program} {w : World} {K : PySem.W.Frag} {mg : Str → Option Value} (h : Hyp K mg) : ∃ fd, FunD K "__init__" "NoText.__init__" (defArgs s_NoText_init) (defBody s_NoText_init) (defScope s_NoText_init) (d_NoText_init.dvs K) (d_NoText_init.kws K) (He.ma K (He.ga K "NoText") "__init__") fd ∧ ∀ base : Heap, L2H.FnH P w K mg base (L2.CX P w) 2 (He.ma K (He.ga K "NoText") "__init__") fd ["self", "row"] (spX (He.ga K "NoText") "row") := by
  obtain ⟨fd, F⟩ := h.says.def_ 6 (d := d_NoText_init) rfl
  exact ⟨fd, F, fun base => fnH_exc (f := "row") (bn := "BenchError") F sc_NoText_init rfl xbVE (oxB_ok (h.chk 0 (f := fun K => oxB K "NoText" "row" veT "ValueError.__new__") rfl)).ox (oxB_ok (h.chk 0 (f := fun K => oxB K "NoText" "row" veT "ValueError.__new__") rfl)).noF (h.glo 14 (x := "BenchError") rfl) (obB_ok (h.chk 1 (f := fun K => obB K "BenchError" "ValueError.__init__") rfl)).rd (obB_ok (h.chk 1 (f := fun K => obB K "BenchError" "ValueError.__init__") rfl)).at_ (by kernel_rfl) (by kernel_rfl) (by kernel_rfl) (by decide +kernel) (by decide +kernel) (by decide +kernel) (by decide +kernel) (by decide +kernel) (fun env => ⟨_, rfl⟩)⟩
theorem okN_is_whole {P : Program} {w : World} {K : PySem.W.Frag} {mg : Str → Option Value} (h : Hyp K mg) : ∃ fd, FunD K "is_whole" "is_whole" (defArgs s_is_whole) (defBody s_is_whole) (defScope s_is_whole) (d_is_whole.dvs K) (d_is_whole.kws K) (He.ga K "is_whole") fd ∧ ∀ base : Heap, FnGN P w K mg base 1 (He.ga K "is_whole") fd ["thing"] (spD ⟨K, P, w⟩ 1 den_is_whole) := by
  obtain ⟨fd, F⟩ := h.says.def_ 7 (d := d_is_whole) rfl
  have scN := sc_is_whole.nd
  have G := fun base : Heap => (fnGN_body (P := P) (w := w) (mg := mg) (base := base) (N := ["thing"]) (ps := ["thing"]) (k := 0) (b := b_is_whole) F sc_is_whole fun cdv A outer s H E hr hgd tk => by
    have hu := hr.units
    exact (sb_one (ss_ret (se_and (se_callB (cr_isi h.isc) (gl_of (by kernel_rfl)) (h.free 13 (x := "isinstance") rfl) (by decide +kernel) (sa_cons (se_var (j := 0) rfl (.inl (by kernel_rfl))) (sa_cons (se_ty (gl_of (by kernel_rfl)) (h.free 16 (x := "int") rfl) (by decide +kernel)) sa_nil))) (se_one (se_not (se_callB (cr_isi h.isc) (gl_of (by kernel_rfl)) (h.free 13 (x := "isinstance") rfl) (by decide +kernel) (sa_cons (se_var (j := 0) rfl (.inl (by kernel_rfl))) (sa_cons (se_ty (gl_of (by kernel_rfl)) (h.free 17 (x := "bool") rfl) (by decide +kernel)) sa_nil)))))))))
  exact ⟨fd, F, G⟩
theorem okN_is_name {P : Program} {w : World} {K : PySem.W.Frag} {mg : Str → Option Value} (h : Hyp K mg) : ∃ fd, FunD K "is_name" "is_name" (defArgs s_is_name) (defBody s_is_name) (defScope s_is_name) (d_is_name.dvs K) (d_is_name.kws K) (He.ga K "is_name") fd ∧ ∀ base : Heap, FnGN P w K mg base 1 (He.ga K "is_name") fd ["thing"] (spD ⟨K, P, w⟩ 1 den_is_name) := by
  obtain ⟨fd, F⟩ := h.says.def_ 9 (d := d_is_name) rfl
  have scN := sc_is_name.nd
  have G := fun base : Heap => (fnGN_body (P := P) (w := w) (mg := mg) (base := base) (N := ["thing", "sign"]) (ps := ["thing"]) (k := 0) (b := b_is_name) F sc_is_name fun cdv A outer s H E hr hgd tk => by
    have hu := hr.units
    exact (sb_cons (ss_if (st_w (sw_or (st_not (st_truth (se_callB (cr_isi h.isc) (gl_of (by kernel_rfl)) (h.free 13 (x := "isinstance") rfl) (by decide +kernel) (sa_cons (se_var (j := 0) rfl (.inl (by kernel_rfl))) (sa_cons (se_ty (gl_of (by kernel_rfl)) (h.free 6 (x := "str") rfl) (by decide +kernel)) sa_nil))))) (sw_or1 (st_not (st_chain op_leD op_leD se_int (se_callB cr_len (gl_of (by kernel_rfl)) (h.free 0 (x := "len") rfl) (by decide +kernel) (sa_cons (se_var (j := 0) rfl (.inl (by kernel_rfl))) sa_nil)) se_int))))) (sb_one (ss_ret se_bl)) sb_nil)
      (sb_one (ss_ret (se_callB (cr_allD rfl) (gl_of (by kernel_rfl)) (h.free 25 (x := "all") rfl) (by decide +kernel) (sa_cons (se_comp (own := [("sign", 1)]) (g := (.name 1)) rfl scN (si_any (se_var (j := 0) rfl (.inl (by kernel_rfl)))) (blkOk_of (by kernel_rfl)) (fun _ _ _ _ _ => (sgc_name (j := 1) scN rfl (.inl (by kernel_rfl)) (hf := .inr (by kernel_rfl)))) (fun _ _ _ _ _ => sts_nil) (fun _ _ _ _ _ => (se_cmp op_inA (se_var (j := 1) rfl (.inl (by kernel_rfl))) se_str rfl))) sa_nil))))))
  exact ⟨fd, F, G⟩
theorem okN_is_seat {P : Program} {w : World} {K : PySem.W.Frag} {mg : Str → Option Value} (h : Hyp K mg) : ∃ fd, FunD K "is_seat" "is_seat" (defArgs s_is_seat) (defBody s_is_seat) (defScope s_is_seat) (d_is_seat.dvs K) (d_is_seat.kws K) (He.ga K "is_seat") fd ∧ ∀ base : Heap, FnGN P w K mg base 2 (He.ga K "is_seat") fd ["thing", "seats"] (spD ⟨K, P, w⟩ 2 den_is_seat) := by
  obtain ⟨fd_is_whole, F_is_whole, G_is_whole⟩ := okN_is_whole (P := P) (w := w) h
  have cb0 : CallB ⟨K, P, w⟩ fd_is_whole ["thing"] 1 [] [0] [] := callB_no (K := ⟨K, P, w⟩) F_is_whole 1 [] [0] fun _ _ _ _ _ _ us ws h1 h2 => match us, h1, ws, h2 with | [_], _, [], _ => rfl
  obtain ⟨fd, F⟩ := h.says.def_ 10 (d := d_is_seat) rfl
  have scN := sc_is_seat.nd
  have G := fun base : Heap => (fnGN_body (P := P) (w := w) (mg := mg) (base := base) (N := ["thing", "seats"]) (ps := ["thing", "seats"]) (k := 1) (b := b_is_seat) F sc_is_seat fun cdv A outer s H E hr hgd tk => by
    have hu := hr.units
    exact (sb_one (ss_ret (se_and (se_callN (G_is_whole _) (hr.mono (by decide)) hgd (gl_of (by kernel_rfl)) (h.glo 18 (x := "is_whole") rfl) F_is_whole.kp cb0 rfl tk (sal_cons (se_var (j := 0) rfl (.inl (by kernel_rfl))) sal_nil)) (se_one (se_chain op_leD op_ltD se_int (se_var (j := 0) rfl (.inl (by kernel_rfl))) (se_var (j := 1) rfl (.inl (by kernel_rfl)))))))))
  exact ⟨fd, F, G⟩
theorem okN_is_stretch {P : Program} {w : World} {K : PySem.W.Frag} {mg : Str → Option Value} (h : Hyp K mg) : ∃ fd, FunD K "is_stretch" "is_stretch" (defArgs s_is_stretch) (defBody s_is_stretch) (defScope s_is_stretch) (d_is_stretch.dvs K) (d_is_stretch.kws K) (He.ga K "is_stretch") fd ∧ ∀ base : Heap, FnGN P w K mg base 3 (He.ga K "is_stretch") fd ["thing", "seats"] (spD ⟨K, P, w⟩ 2 den_is_stretch) := by
  obtain ⟨fd_is_seat, F_is_seat, G_is_seat⟩ := okN_is_seat (P := P) (w := w) h
  have cb0 : CallB ⟨K, P, w⟩ fd_is_seat ["thing", "seats"] 2 [] [0, 1] [] := callB_no (K := ⟨K, P, w⟩) F_is_seat 2 [] [0, 1] fun _ _ _ _ _ _ us ws h1 h2 => match us, h1, ws, h2 with | [_, _], _, [], _ => rfl
  obtain ⟨fd, F⟩ := h.says.def_ 11 (d := d_is_stretch) rfl
  have scN := sc_is_stretch.nd
  have G := fun base : Heap => (fnGN_body (P := P) (w := w) (mg := mg) (base := base) (N := ["thing", "seats", "low", "high"]) (ps := ["thing", "seats"]) (k := 2) (b := b_is_stretch) F sc_is_stretch fun cdv A outer s H E hr hgd tk => by
    have hu := hr.units
    exact (sb_cons (ss_if (st_w (sw_or (st_not (st_truth (se_callB (cr_isi h.isc) (gl_of (by kernel_rfl)) (h.free 13 (x := "isinstance") rfl) (by decide +kernel) (sa_cons (se_var (j := 0) rfl (.inl (by kernel_rfl))) (sa_cons (se_ty (gl_of (by kernel_rfl)) (h.free 21 (x := "tuple") rfl) (by decide +kernel)) sa_nil))))) (sw_or1 (st_cmp (op_neD' hu) (se_callB cr_len (gl_of (by kernel_rfl)) (h.free 0 (x := "len") rfl) (by decide +kernel) (sa_cons (se_var (j := 0) rfl (.inl (by kernel_rfl))) sa_nil)) se_int (nomark _))))) (sb_one (ss_ret se_bl)) sb_nil)
      (sb_cons (ss_asg plain_gtup (se_var (j := 0) rfl (.inl (by kernel_rfl))) (sg_tup rfl (sgn_cons (j := 2) scN rfl (.inl (by kernel_rfl)) (hf := .inl rfl) (sgn_cons (j := 3) scN rfl (.inl (by kernel_rfl)) (hf := .inl rfl) sgn_nil))))
      (sb_one (ss_ret (se_and (se_callN (G_is_seat _) (hr.mono (by decide)) hgd (gl_of (by kernel_rfl)) (h.glo 27 (x := "is_seat") rfl) F_is_seat.kp cb0 rfl tk (sal_cons (se_var (j := 2) rfl (.inl (by kernel_rfl))) (sal_cons (se_var (j := 1) rfl (.inl (by kernel_rfl))) sal_nil))) (se_and (se_callN (G_is_seat _) (hr.mono (by decide)) hgd (gl_of (by kernel_rfl)) (h.glo 27 (x := "is_seat") rfl) F_is_seat.kp cb0 rfl tk (sal_cons (se_var (j := 3) rfl (.inl (by kernel_rfl))) (sal_cons (se_var (j := 1) rfl (.inl (by kernel_rfl))) sal_nil))) (se_one (se_cmp op_leD (se_var (j := 2) rfl (.inl (by kernel_rfl))) (se_var (j := 3) rfl (.inl (by kernel_rfl))) (nomark _))))))))))
  exact ⟨fd, F, G⟩
theorem okN_is_person {P : Program} {w : World} {K : PySem.W.Frag} {mg : Str → Option Value} (h : Hyp K mg) : ∃ fd, FunD K "is_person" "is_person" (defArgs s_is_person) (defBody s_is_person) (defScope s_is_person) (d_is_person.dvs K) (d_is_person.kws K) (He.ga K "is_person") fd ∧ ∀ base : Heap, FnGN P w K mg base 4 (He.ga K "is_person") fd ["thing", "seats"] (spD ⟨K, P, w⟩ 2 den_is_person) := by
  obtain ⟨fd_is_name, F_is_name, G_is_name⟩ := okN_is_name (P := P) (w := w) h
  obtain ⟨fd_is_stretch, F_is_stretch, G_is_stretch⟩ := okN_is_stretch (P := P) (w := w) h
  have cb0 : CallB ⟨K, P, w⟩ fd_is_name ["thing"] 1 [] [0] [] := callB_no (K := ⟨K, P, w⟩) F_is_name 1 [] [0] fun _ _ _ _ _ _ us ws h1 h2 => match us, h1, ws, h2 with | [_], _, [], _ => rfl
  have cb1 : CallB ⟨K, P, w⟩ fd_is_stretch ["thing", "seats"] 2 [] [0, 1] [] := callB_no (K := ⟨K, P, w⟩) F_is_stretch 2 [] [0, 1] fun _ _ _ _ _ _ us ws h1 h2 => match us, h1, ws, h2 with | [_, _], _, [], _ => rfl
  obtain ⟨fd, F⟩ := h.says.def_ 12 (d := d_is_person) rfl
  have scN := sc_is_person.nd
  have G := fun base : Heap => (fnGN_body (P := P) (w := w) (mg := mg) (base := base) (N := ["thing", "seats", "name", "ends"]) (ps := ["thing", "seats"]) (k := 3) (b := b_is_person) F sc_is_person fun cdv A outer s H E hr hgd tk => by
    have hu := hr.units
    exact (sb_cons (ss_if (st_w (sw_or (st_not (st_truth (se_callB (cr_isi h.isc) (gl_of (by kernel_rfl)) (h.free 13 (x := "isinstance") rfl) (by decide +kernel) (sa_cons (se_var (j := 0) rfl (.inl (by kernel_rfl))) (sa_cons (se_ty (gl_of (by kernel_rfl)) (h.free 21 (x := "tuple") rfl) (by decide +kernel)) sa_nil))))) (sw_or1 (st_cmp (op_neD' hu) (se_callB cr_len (gl_of (by kernel_rfl)) (h.free 0 (x := "len") rfl) (by decide +kernel) (sa_cons (se_var (j := 0) rfl (.inl (by kernel_rfl))) sa_nil)) se_int (nomark _))))) (sb_one (ss_ret se_bl)) sb_nil)
      (sb_cons (ss_asg plain_gstar (se_var (j := 0) rfl (.inl (by kernel_rfl))) (sg_star (es' := [.Name "name" ⟨42, 4, 42, 8⟩, .Name "ends" ⟨42, 11, 42, 15⟩]) rfl (sgn_cons (j := 2) scN rfl (.inl (by kernel_rfl)) (hf := .inl rfl) (sgn_cons (j := 3) scN rfl (.inl (by kernel_rfl)) (hf := .inl rfl) sgn_nil))))
      (sb_one (ss_ret (se_and (se_callN (G_is_name _) (hr.mono (by decide)) hgd (gl_of (by kernel_rfl)) (h.glo 26 (x := "is_name") rfl) F_is_name.kp cb0 rfl tk (sal_cons (se_var (j := 2) rfl (.inl (by kernel_rfl))) sal_nil)) (se_one (se_callN (G_is_stretch _) (hr.mono (by decide)) hgd (gl_of (by kernel_rfl)) (h.glo 28 (x := "is_stretch") rfl) F_is_stretch.kp cb1 rfl tk (sal_cons (se_callTy cr_tuple (gl_of (by kernel_rfl)) (h.free 21 (x := "tuple") rfl) (by decide +kernel) (sa_cons (se_var (j := 3) rfl (.inl (by kernel_rfl))) sa_nil)) (sal_cons (se_var (j := 1) rfl (.inl (by kernel_rfl))) sal_nil))))))))))
  exact ⟨fd, F, G⟩
theorem okN_first_odd {P : Program} {w : World} {K : PySem.W.Frag} {mg : Str → Option Value} (h : Hyp K mg) : ∃ fd, FunD K "first_odd" "first_odd" (defArgs s_first_odd) (defBody s_first_odd) (defScope s_first_odd) (d_first_odd.dvs K) (d_first_odd.kws K) (He.ga K "first_odd") fd ∧ ∀ base : Heap, FnGN P w K mg base 5 (He.ga K "first_odd") fd ["people", "seats"] (spD ⟨K, P, w⟩ 2 den_first_odd) := by
  obtain ⟨fd_is_person, F_is_person, G_is_person⟩ := okN_is_person (P := P) (w := w) h
  have cb0 : CallB ⟨K, P, w⟩ fd_is_person ["thing", "seats"] 2 [] [0, 1] [] := callB_no (K := ⟨K, P, w⟩) F_is_person 2 [] [0, 1] fun _ _ _ _ _ _ us ws h1 h2 => match us, h1, ws, h2 with | [_, _], _, [], _ => rfl
  obtain ⟨fd, F⟩ := h.says.def_ 13 (d := d_first_odd) rfl
  have scN := sc_first_odd.nd
  have G := fun base : Heap => (fnGN_body (P := P) (w := w) (mg := mg) (base := base) (N := ["people", "seats", "known", "number", "thing"]) (ps := ["people", "seats"]) (k := 4) (b := b_first_odd) F sc_first_odd fun cdv A outer s H E hr hgd tk => by
    have hu := hr.units
    exact (sb_cons (ss_setO (j := 2) scN rfl (.inl (by kernel_rfl)) (hf := .inl rfl) (sf_set (gl_of (by kernel_rfl)) (h.free 23 (x := "set") rfl)))
      (sb_cons (ss_for (passes_of rfl) rfl (si_enum (gl_of (by kernel_rfl)) (h.free 24 (x := "enumerate") rfl) (sal_cons (se_var (j := 0) rfl (.inl (by kernel_rfl))) sal_nil)) (sg_tup rfl (sgn_cons (j := 3) scN rfl (.inl (by kernel_rfl)) (hf := .inl rfl) (sgn_cons (j := 4) scN rfl (.inl (by kernel_rfl)) (hf := .inl rfl) sgn_nil))) (sb_cons (ss_if (st_w (sw_or (st_not (st_truth (se_callN (G_is_person _) (hr.mono (by decide)) hgd (gl_of (by kernel_rfl)) (h.glo 29 (x := "is_person") rfl) F_is_person.kp cb0 rfl tk (sal_cons (se_var (j := 4) rfl (.inl (by kernel_rfl))) (sal_cons (se_var (j := 1) rfl (.inl (by kernel_rfl))) sal_nil))))) (sw_or1 (st_cmp op_inA (se_ix ix_D (se_var (j := 4) rfl (.inl (by kernel_rfl))) se_int (fun _ _ => rfl)) (se_var (j := 2) rfl (.inl (by kernel_rfl))) rfl)))) (sb_one (ss_ret (se_var (j := 3) rfl (.inl (by kernel_rfl))))) sb_nil)
      (sb_one (ss_expr (se_sadd (se_var (j := 2) rfl (.inl (by kernel_rfl))) (sal_cons (se_ix ix_D (se_var (j := 4) rfl (.inl (by kernel_rfl))) se_int (fun _ _ => rfl)) sal_nil))))))
      (sb_one (ss_ret se_non)))))
  exact ⟨fd, F, G⟩
theorem okN_Bench_init {P : Program} {w : World} {K : PySem.W.Frag} {mg : Str → Option Value} (h : Hyp K mg) : ∃ fd, FunD K "__init__" "Bench.__init__" (defArgs s_Bench_init) (defBody s_Bench_init) (defScope s_Bench_init) (d_Bench_init.dvs K) (d_Bench_init.kws K) (He.ma K (He.ga K "Bench") "__init__") fd ∧ ∀ base : Heap, FnGN P w K mg base 6 (He.ma K (He.ga K "Bench") "__init__") fd ["self", "seats", "people"] (spI ⟨K, P, w⟩ "Bench" 3 den_Bench_init) := by
  obtain ⟨fd_is_whole, F_is_whole, G_is_whole⟩ := okN_is_whole (P := P) (w := w) h
  obtain ⟨fd_NoPeople_init, F_NoPeople_init, G_NoPeople_init⟩ := ok_NoPeople_init (P := P) (w := w) h
  obtain ⟨fd_first_odd, F_first_odd, G_first_odd⟩ := okN_first_odd (P := P) (w := w) h
  have cb0 : CallB ⟨K, P, w⟩ fd_is_whole ["thing"] 1 [] [0] [] := callB_no (K := ⟨K, P, w⟩) F_is_whole 1 [] [0] fun _ _ _ _ _ _ us ws h1 h2 => match us, h1, ws, h2 with | [_], _, [], _ => rfl
  have cb1 : CallB ⟨K, P, w⟩ fd_first_odd ["people", "seats"] 2 [] [0, 1] [] := callB_no (K := ⟨K, P, w⟩) F_first_odd 2 [] [0, 1] fun _ _ _ _ _ _ us ws h1 h2 => match us, h1, ws, h2 with | [_, _], _, [], _ => rfl
  obtain ⟨fd, F⟩ := h.says.def_ 14 (d := d_Bench_init) rfl
  have scN := sc_Bench_init.nd
  have G := fun base : Heap => (fnGN_init (P := P) (w := w) (mg := mg) (base := base) (N := ["self", "seats", "people", "place"]) (ps := ["self", "seats", "people"]) (k := 5) (b := b_Bench_init) (cn := "Bench") F sc_Bench_init (fun z => nomatch z) fun cdv A outer s H E hr hgd tk => by
    have hu := hr.units
    exact (sb_cons (ss_if (st_w (sw_or (st_not (st_truth (se_callN (G_is_whole _) (hr.mono (by decide)) hgd (gl_of (by kernel_rfl)) (h.glo 18 (x := "is_whole") rfl) F_is_whole.kp cb0 rfl tk (sal_cons (se_var (j := 1) rfl (.inl (by kernel_rfl))) sal_nil)))) (sw_or1 (st_not (st_chain op_leD op_leD se_int (se_var (j := 1) rfl (.inl (by kernel_rfl))) (se_gint (gl_of (by kernel_rfl)) (h.int 19 (x := "MOST_SEATS") (i := 12) rfl))))))) (sb_one (ss_raise0N rfl tk xbVE (o0B_ok (h.chk 2 (f := fun K => o0B K "NoSeats" veT "ValueError.__new__") rfl)).ex (o0B_ok (h.chk 2 (f := fun K => o0B K "NoSeats" veT "ValueError.__new__") rfl)).kp (o0B_ok (h.chk 2 (f := fun K => o0B K "NoSeats" veT "ValueError.__new__") rfl)).sub (o0B_ok (h.chk 2 (f := fun K => o0B K "NoSeats" veT "ValueError.__new__") rfl)).ty (gl_of (by kernel_rfl)) (h.glo 20 (x := "NoSeats") rfl))) sb_nil)
      (sb_cons (ss_if (st_w (sw_or (st_not (st_truth (se_callB (cr_isi h.isc) (gl_of (by kernel_rfl)) (h.free 13 (x := "isinstance") rfl) (by decide +kernel) (sa_cons (se_var (j := 2) rfl (.inl (by kernel_rfl))) (sa_cons (se_ty (gl_of (by kernel_rfl)) (h.free 21 (x := "tuple") rfl) (by decide +kernel)) sa_nil))))) (sw_or1 (st_cmp op_gtD (se_callB cr_len (gl_of (by kernel_rfl)) (h.free 0 (x := "len") rfl) (by decide +kernel) (sa_cons (se_var (j := 2) rfl (.inl (by kernel_rfl))) sa_nil)) (se_var (j := 1) rfl (.inl (by kernel_rfl))) (nomark _))))) (sb_one (ss_raise1N rfl tk xbVE (oxB_ok (h.chk 3 (f := fun K => oxB K "NoPeople" "place" veT "ValueError.__new__") rfl)).ox (oxB_ok (h.chk 3 (f := fun K => oxB K "NoPeople" "place" veT "ValueError.__new__") rfl)).ini (oxB_ok (h.chk 3 (f := fun K => oxB K "NoPeople" "place" veT "ValueError.__new__") rfl)).fn (G_NoPeople_init _) (hr.mono (by decide)) hgd (FunD.bindsN (ps := ["self", "place"]) F_NoPeople_init (fun _ _ _ _ _ _ us hl => match us, hl with | [_, _], _ => rfl)) (gl_of (by kernel_rfl)) (h.glo 22 (x := "NoPeople") rfl) se_non)) sb_nil)
      (sb_cons (ss_set (j := 3) scN rfl (.inl (by kernel_rfl)) (hf := .inl rfl) (se_callN (G_first_odd _) (hr.mono (by decide)) hgd (gl_of (by kernel_rfl)) (h.glo 30 (x := "first_odd") rfl) F_first_odd.kp cb1 rfl tk (sal_cons (se_var (j := 2) rfl (.inl (by kernel_rfl))) (sal_cons (se_var (j := 1) rfl (.inl (by kernel_rfl))) sal_nil))))
      (sb_cons (ss_if (st_cmp op_notND (se_var (j := 3) rfl (.inl (by kernel_rfl))) se_non (nomark _)) (sb_one (ss_raise1N rfl tk xbVE (oxB_ok (h.chk 3 (f := fun K => oxB K "NoPeople" "place" veT "ValueError.__new__") rfl)).ox (oxB_ok (h.chk 3 (f := fun K => oxB K "NoPeople" "place" veT "ValueError.__new__") rfl)).ini (oxB_ok (h.chk 3 (f := fun K => oxB K "NoPeople" "place" veT "ValueError.__new__") rfl)).fn (G_NoPeople_init _) (hr.mono (by decide)) hgd (FunD.bindsN (ps := ["self", "place"]) F_NoPeople_init (fun _ _ _ _ _ _ us hl => match us, hl with | [_, _], _ => rfl)) (gl_of (by kernel_rfl)) (h.glo 22 (x := "NoPeople") rfl) (se_var (j := 3) rfl (.inl (by kernel_rfl))))) sb_nil)
      (sb_cons (ss_fld (h.cls 31 (x := "Bench") rfl) (h.noat 32 (x := "Bench") (f := "seats") rfl) (se_var (j := 0) rfl (.inl (by kernel_rfl))) (se_var (j := 1) rfl (.inl (by kernel_rfl))))
      (sb_one (ss_fld (h.cls 31 (x := "Bench") rfl) (h.noat 33 (x := "Bench") (f := "people") rfl) (se_var (j := 0) rfl (.inl (by kernel_rfl))) (se_var (j := 2) rfl (.inl (by kernel_rfl))))))))))).blind
  exact ⟨fd, F, G⟩
theorem okN_figured {P : Program} {w : World} {K : PySem.W.Frag} {mg : Str → Option Value} (h : Hyp K mg) : ∃ fd, FunD K "figured" "figured" (defArgs s_figured) (defBody s_figured) (defScope s_figured) (d_figured.dvs K) (d_figured.kws K) (He.ga K "figured") fd ∧ ∀ base : Heap, FnGN P w K mg base 1 (He.ga K "figured") fd ["word"] (spD ⟨K, P, w⟩ 1 den_figured) := by
  obtain ⟨fd, F⟩ := h.says.def_ 15 (d := d_figured) rfl
  have scN := sc_figured.nd
  have G := fun base : Heap => (fnGN_body (P := P) (w := w) (mg := mg) (base := base) (N := ["word", "sign"]) (ps := ["word"]) (k := 0) (b := b_figured) F sc_figured fun cdv A outer s H E hr hgd tk => by
    have hu := hr.units
    exact (sb_cons (ss_if (st_w (sw_or (st_cmp (op_eqD' hu) (se_var (j := 0) rfl (.inl (by kernel_rfl))) se_str (nomark _)) (sw_or1 (st_not (st_truth (se_callB (cr_allD rfl) (gl_of (by kernel_rfl)) (h.free 25 (x := "all") rfl) (by decide +kernel) (sa_cons (se_comp (own := [("sign", 1)]) (g := (.name 1)) rfl scN (si_any (se_var (j := 0) rfl (.inl (by kernel_rfl)))) (blkOk_of (by kernel_rfl)) (fun _ _ _ _ _ => (sgc_name (j := 1) scN rfl (.inl (by kernel_rfl)) (hf := .inr (by kernel_rfl)))) (fun _ _ _ _ _ => sts_nil) (fun _ _ _ _ _ => (se_cmp op_inA (se_var (j := 1) rfl (.inl (by kernel_rfl))) (se_gstr (gl_of (by kernel_rfl)) (h.gstr 34 (x := "FIGURES") (z := "0123456789") rfl)) rfl))) sa_nil))))))) (sb_one (ss_ret se_non)) sb_nil)
      (sb_cons (ss_if (st_w (sw_and (st_cmp (op_eqD' hu) (se_ix ix_D (se_var (j := 0) rfl (.inl (by kernel_rfl))) se_int (fun _ _ => rfl)) se_str (nomark _)) (sw_and1 (st_cmp (op_neD' hu) (se_var (j := 0) rfl (.inl (by kernel_rfl))) se_str (nomark _))))) (sb_one (ss_ret se_non)) sb_nil)
      (sb_one (ss_ret (se_callTy cr_intT (gl_of (by kernel_rfl)) (h.free 16 (x := "int") rfl) (by decide +kernel) (sa_cons (se_var (j := 0) rfl (.inl (by kernel_rfl))) sa_nil)))))))
  exact ⟨fd, F, G⟩
theorem ok_bare_bench {P : Program} {w : World} {K : PySem.W.Frag} {mg : Str → Option Value} (h : Hyp K mg) : ∃ fd, FunD K "bare_bench" "bare_bench" (defArgs s_bare_bench) (defBody s_bare_bench) (defScope s_bare_bench) (d_bare_bench.dvs K) (d_bare_bench.kws K) (He.ga K "bare_bench") fd ∧ ∀ base : Heap, FnG P w K mg base 8 (He.ga K "bare_bench") fd ["row"] (spD ⟨K, P, w⟩ 1 den_bare_bench) := by
  obtain ⟨fd_NoText_init, F_NoText_init, G_NoText_init⟩ := ok_NoText_init (P := P) (w := w) h
  obtain ⟨fd_Bench_init, F_Bench_init, G_Bench_init⟩ := okN_Bench_init (P := P) (w := w) h
  obtain ⟨fd_figured, F_figured, G_figured⟩ := okN_figured (P := P) (w := w) h
  obtain ⟨fdH_NoText_init, FH_NoText_init, GH_NoText_init⟩ := okH_NoText_init (P := P) (w := w) h
  have cb0 : CallI ⟨K, P, w⟩ fd_Bench_init ["self", "seats", "people"] 1 [] [0, 1] [.tup []] := callI_df (K := ⟨K, P, w⟩) F_Bench_init (by simp [He.DefD.dvs, d_Bench_init]) 1 [] [0, 1] (fun _ _ => (.cons ⟨_, [], rfl, (etB_ok (h.tup 0 rfl)) _, rfl⟩ .nil)) fun _ _ _ _ _ _ _ _ us ws its h1 h2 h3 => match us, h1, ws, h2, its, (show its.length = 1 from h3) with | [_], _, [], _, [_], _ => ⟨_, rfl, rfl⟩
  have cb1 : CallB ⟨K, P, w⟩ fd_figured ["word"] 1 [] [0] [] := callB_no (K := ⟨K, P, w⟩) F_figured 1 [] [0] fun _ _ _ _ _ _ us ws h1 h2 => match us, h1, ws, h2 with | [_], _, [], _ => rfl
  obtain ⟨fd, F⟩ := h.says.def_ 16 (d := d_bare_bench) rfl
  have scN := sc_bare_bench.nd
  have G := fun base : Heap => (fnG_body (P := P) (w := w) (mg := mg) (base := base) (N := ["row", "words"]) (ps := ["row"]) (k := 7) (b := b_bare_bench) F sc_bare_bench fun cdv A outer s H E hr hgd tk => by
    have hu := hr.units
    exact (sb_cons (ss_set (j := 1) scN rfl (.inl (by kernel_rfl)) (hf := .inl rfl) (se_split (se_var (j := 0) rfl (.inl (by kernel_rfl))) (sal_cons se_str sal_nil)))
      (sb_cons (ss_if (st_w (sw_or (st_cmp (op_neD' hu) (se_callB cr_len (gl_of (by kernel_rfl)) (h.free 0 (x := "len") rfl) (by decide +kernel) (sa_cons (se_var (j := 1) rfl (.inl (by kernel_rfl))) sa_nil)) se_int (nomark _)) (sw_or1 (st_cmp (op_neD' hu) (se_ix ix_D (se_var (j := 1) rfl (.inl (by kernel_rfl))) se_int (fun _ _ => rfl)) se_str (nomark _))))) (sb_one (ss_raise1 rfl tk xbVE (oxB_ok (h.chk 0 (f := fun K => oxB K "NoText" "row" veT "ValueError.__new__") rfl)).ox (oxB_ok (h.chk 0 (f := fun K => oxB K "NoText" "row" veT "ValueError.__new__") rfl)).ini (oxB_ok (h.chk 0 (f := fun K => oxB K "NoText" "row" veT "ValueError.__new__") rfl)).fn (G_NoText_init _) (hr.mono (by decide)) hgd (FunD.bindsN (ps := ["self", "row"]) F_NoText_init (fun _ _ _ _ _ _ us hl => match us, hl with | [_, _], _ => rfl)) (gl_of (by kernel_rfl)) (h.glo 15 (x := "NoText") rfl) se_int)) sb_nil)
      (sb_one (ss_tryX (tbl := [("NoSeats", true), ("NoPeople", false), ("NoText", false)]) rfl rfl ⟨gl_of (by kernel_rfl), by decide, .inl (h.glo 20 (x := "NoSeats") rfl)⟩ (fun hd => L2H.passesAt_of rfl hd) tk (fun W pn xe tk => (sb_one (ss_ret (se_makeN blind_Bench_init (h.mkr 36 (x := "Bench") rfl) (G_Bench_init _) (hr.mono (by decide)) hgd (gl_of (by kernel_rfl)) (h.glo 37 (x := "Bench") rfl) cb0 rfl tk (sal_cons (se_callN (G_figured _) (hr.mono (by decide)) hgd (gl_of (by kernel_rfl)) (h.glo 35 (x := "figured") rfl) F_figured.kp cb1 rfl tk (sal_cons (se_ix ix_D (se_var (j := 1) rfl (.inl (by kernel_rfl))) se_int (fun _ _ => rfl)) sal_nil)) sal_nil))))) (fun a oe pn tk hot => (sb_one (ss_raise1H hot tk xbVE (oxB_ok (h.chk 0 (f := fun K => oxB K "NoText" "row" veT "ValueError.__new__") rfl)).ox (oxB_ok (h.chk 0 (f := fun K => oxB K "NoText" "row" veT "ValueError.__new__") rfl)).ini (oxB_ok (h.chk 0 (f := fun K => oxB K "NoText" "row" veT "ValueError.__new__") rfl)).fn (GH_NoText_init _) (L2H.roomH_mark (hr.mono (by decide)) _) (FunD.bindsN (ps := ["self", "row"]) FH_NoText_init (fun _ _ _ _ _ _ us hl => match us, hl with | [_, _], _ => rfl)) (gl_of (by kernel_rfl)) (h.glo 15 (x := "NoText") rfl) se_int))) (h.chk 4 (f := fun K => tmB K "NoSeats" [("NoSeats", true), ("NoPeople", false), ("NoText", false)]) rfl))))))
  exact ⟨fd, F, G⟩
theorem okN_Bench_plus {P : Program} {w : World} {K : PySem.W.Frag} {mg : Str → Option Value} (h : Hyp K mg) : ∃ fd, FunD K "plus" "Bench.plus" (defArgs s_Bench_plus) (defBody s_Bench_plus) (defScope s_Bench_plus) (d_Bench_plus.dvs K) (d_Bench_plus.kws K) (He.ma K (He.ga K "Bench") "plus") fd ∧ ∀ base : Heap, FnGN P w K mg base 8 (He.ma K (He.ga K "Bench") "plus") fd ["self", "person"] (spD ⟨K, P, w⟩ 2 den_Bench_plus) := by
  obtain ⟨fd_Bench_init, F_Bench_init, G_Bench_init⟩ := okN_Bench_init (P := P) (w := w) h
  have cb0 : CallI ⟨K, P, w⟩ fd_Bench_init ["self", "seats", "people"] 2 [] [0, 1] [] := callI_all (K := ⟨K, P, w⟩) F_Bench_init (by simp [He.DefD.dvs, d_Bench_init]) 2 [] [0, 1] fun _ _ _ _ _ _ _ _ us ws its h1 h2 h3 => match us, h1, ws, h2, its, (show its.length = 1 from h3) with | [_, _], _, [], _, [_], _ => ⟨_, rfl, rfl⟩
  obtain ⟨fd, F⟩ := h.says.def_ 17 (d := d_Bench_plus) rfl
  have scN := sc_Bench_plus.nd
  have G := fun base : Heap => (fnGN_body (P := P) (w := w) (mg := mg) (base := base) (N := ["self", "person"]) (ps := ["self", "person"]) (k := 7) (b := b_Bench_plus) F sc_Bench_plus fun cdv A outer s H E hr hgd tk => by
    have hu := hr.units
    exact (sb_one (ss_ret (se_makeN blind_Bench_init (h.mkr 36 (x := "Bench") rfl) (G_Bench_init _) (hr.mono (by decide)) hgd (gl_of (by kernel_rfl)) (h.glo 37 (x := "Bench") rfl) cb0 rfl tk (sal_cons (se_fld (se_var (j := 0) rfl (.inl (by kernel_rfl))) (h.cls 31 (x := "Bench") rfl) (h.noat 32 (x := "Bench") (f := "seats") rfl)) (sal_cons (se_bin op_addD (se_fld (se_var (j := 0) rfl (.inl (by kernel_rfl))) (h.cls 31 (x := "Bench") rfl) (h.noat 33 (x := "Bench") (f := "people") rfl)) (se_tup (sal_cons (se_var (j := 1) rfl (.inl (by kernel_rfl))) sal_nil))) sal_nil))))))
  exact ⟨fd, F, G⟩
theorem ok_with_row {P : Program} {w : World} {K : PySem.W.Frag} {mg : Str → Option Value} (h : Hyp K mg) : ∃ fd, FunD K "with_row" "with_row" (defArgs s_with_row) (defBody s_with_row) (defScope s_with_row) (d_with_row.dvs K) (d_with_row.kws K) (He.ga K "with_row") fd ∧ ∀ base : Heap, FnG P w K mg base 9 (He.ga K "with_row") fd ["bench", "number", "row"] (spD ⟨K, P, w⟩ 3 den_with_row) := by
  obtain ⟨fd_NoText_init, F_NoText_init, G_NoText_init⟩ := ok_NoText_init (P := P) (w := w) h
  obtain ⟨fd_Bench_plus, F_Bench_plus, G_Bench_plus⟩ := okN_Bench_plus (P := P) (w := w) h
  obtain ⟨fd_figured, F_figured, G_figured⟩ := okN_figured (P := P) (w := w) h
  obtain ⟨fdH_NoText_init, FH_NoText_init, GH_NoText_init⟩ := okH_NoText_init (P := P) (w := w) h
  have cb0 : CallI ⟨K, P, w⟩ fd_Bench_plus ["self", "person"] 1 [] [0] [] := callI_no (K := ⟨K, P, w⟩) F_Bench_plus 1 [] [0] fun _ _ _ _ _ _ _ us ws h1 h2 => match us, h1, ws, h2 with | [_], _, [], _ => rfl
  have cb1 : CallB ⟨K, P, w⟩ fd_figured ["word"] 1 [] [0] [] := callB_no (K := ⟨K, P, w⟩) F_figured 1 [] [0] fun _ _ _ _ _ _ us ws h1 h2 => match us, h1, ws, h2 with | [_], _, [], _ => rfl
  obtain ⟨fd, F⟩ := h.says.def_ 18 (d := d_with_row) rfl
  have scN := sc_with_row.nd
  have G := fun base : Heap => (fnG_body (P := P) (w := w) (mg := mg) (base := base) (N := ["bench", "number", "row", "words", "call", "ends"]) (ps := ["bench", "number", "row"]) (k := 8) (b := b_with_row) F sc_with_row fun cdv A outer s H E hr hgd tk => by
    have hu := hr.units
    exact (sb_cons (ss_set (j := 3) scN rfl (.inl (by kernel_rfl)) (hf := .inl rfl) (se_split (se_var (j := 2) rfl (.inl (by kernel_rfl))) (sal_cons se_str sal_nil)))
      (sb_cons (ss_if (st_cmp (op_neD' hu) (se_callB cr_len (gl_of (by kernel_rfl)) (h.free 0 (x := "len") rfl) (by decide +kernel) (sa_cons (se_var (j := 3) rfl (.inl (by kernel_rfl))) sa_nil)) se_int (nomark _)) (sb_one (ss_raise1 rfl tk xbVE (oxB_ok (h.chk 0 (f := fun K => oxB K "NoText" "row" veT "ValueError.__new__") rfl)).ox (oxB_ok (h.chk 0 (f := fun K => oxB K "NoText" "row" veT "ValueError.__new__") rfl)).ini (oxB_ok (h.chk 0 (f := fun K => oxB K "NoText" "row" veT "ValueError.__new__") rfl)).fn (G_NoText_init _) (hr.mono (by decide)) hgd (FunD.bindsN (ps := ["self", "row"]) F_NoText_init (fun _ _ _ _ _ _ us hl => match us, hl with | [_, _], _ => rfl)) (gl_of (by kernel_rfl)) (h.glo 15 (x := "NoText") rfl) (se_var (j := 1) rfl (.inl (by kernel_rfl))))) sb_nil)
      (sb_cons (ss_asg plain_gstar (se_var (j := 3) rfl (.inl (by kernel_rfl))) (sg_star (es' := [.Name "call" ⟨125, 4, 125, 8⟩, .Name "ends" ⟨125, 11, 125, 15⟩]) rfl (sgn_cons (j := 4) scN rfl (.inl (by kernel_rfl)) (hf := .inl rfl) (sgn_cons (j := 5) scN rfl (.inl (by kernel_rfl)) (hf := .inl rfl) sgn_nil))))
      (sb_one (ss_tryX (tbl := [("NoSeats", false), ("NoPeople", true), ("NoText", false)]) rfl rfl ⟨gl_of (by kernel_rfl), by decide, .inl (h.glo 22 (x := "NoPeople") rfl)⟩ (fun hd => L2H.passesAt_of rfl hd) tk (fun W pn xe tk => (sb_one (ss_ret (se_methN (se_var (j := 0) rfl (.inl (by kernel_rfl))) (h.cls 31 (x := "Bench") rfl) (h.meth 39 (x := "Bench") (m := "plus") rfl) (G_Bench_plus _) (hr.mono (by decide)) hgd cb0 rfl tk (sal_cons (se_tup (sal_cons (se_var (j := 4) rfl (.inl (by kernel_rfl))) (sal_cons (se_callN (G_figured _) (hr.mono (by decide)) hgd (gl_of (by kernel_rfl)) (h.glo 35 (x := "figured") rfl) F_figured.kp cb1 rfl tk (sal_cons (se_ix ix_D (se_var (j := 5) rfl (.inl (by kernel_rfl))) se_int (fun _ _ => rfl)) sal_nil)) (sal_cons (se_callN (G_figured _) (hr.mono (by decide)) hgd (gl_of (by kernel_rfl)) (h.glo 35 (x := "figured") rfl) F_figured.kp cb1 rfl tk (sal_cons (se_ix ix_D (se_var (j := 5) rfl (.inl (by kernel_rfl))) se_int (fun _ _ => rfl)) sal_nil)) sal_nil)))) sal_nil))))) (fun a oe pn tk hot => (sb_one (ss_raise1H hot tk xbVE (oxB_ok (h.chk 0 (f := fun K => oxB K "NoText" "row" veT "ValueError.__new__") rfl)).ox (oxB_ok (h.chk 0 (f := fun K => oxB K "NoText" "row" veT "ValueError.__new__") rfl)).ini (oxB_ok (h.chk 0 (f := fun K => oxB K "NoText" "row" veT "ValueError.__new__") rfl)).fn (GH_NoText_init _) (L2H.roomH_mark (hr.mono (by decide)) _) (FunD.bindsN (ps := ["self", "row"]) FH_NoText_init (fun _ _ _ _ _ _ us hl => match us, hl with | [_, _], _ => rfl)) (gl_of (by kernel_rfl)) (h.glo 15 (x := "NoText") rfl) (se_var (j := 1) rfl (.inl (by kernel_rfl)))))) (h.chk 5 (f := fun K => tmB K "NoPeople" [("NoSeats", false), ("NoPeople", true), ("NoText", false)]) rfl)))))))
  exact ⟨fd, F, G⟩
theorem ok_read_bench {P : Program} {w : World} {K : PySem.W.Frag} {mg : Str → Option Value} (h : Hyp K mg) : ∃ fd, FunD K "read_bench" "read_bench" (defArgs s_read_bench) (defBody s_read_bench) (defScope s_read_bench) (d_read_bench.dvs K) (d_read_bench.kws K) (He.ga K "read_bench") fd ∧ ∀ base : Heap, FnG P w K mg base 10 (He.ga K "read_bench") fd ["text"] (spD ⟨K, P, w⟩ 1 den_read_bench) := by
  obtain ⟨fd_NoText_init, F_NoText_init, G_NoText_init⟩ := ok_NoText_init (P := P) (w := w) h
  obtain ⟨fd_bare_bench, F_bare_bench, G_bare_bench⟩ := ok_bare_bench (P := P) (w := w) h
  obtain ⟨fd_with_row, F_with_row, G_with_row⟩ := ok_with_row (P := P) (w := w) h
  have cb0 : CallB ⟨K, P, w⟩ fd_bare_bench ["row"] 1 [] [0] [] := callB_no (K := ⟨K, P, w⟩) F_bare_bench 1 [] [0] fun _ _ _ _ _ _ us ws h1 h2 => match us, h1, ws, h2 with | [_], _, [], _ => rfl
  have cb1 : CallB ⟨K, P, w⟩ fd_with_row ["bench", "number", "row"] 3 [] [0, 1, 2] [] := callB_no (K := ⟨K, P, w⟩) F_with_row 3 [] [0, 1, 2] fun _ _ _ _ _ _ us ws h1 h2 => match us, h1, ws, h2 with | [_, _, _], _, [], _ => rfl
  obtain ⟨fd, F⟩ := h.says.def_ 19 (d := d_read_bench) rfl
  have scN := sc_read_bench.nd
  have G := fun base : Heap => (fnG_body (P := P) (w := w) (mg := mg) (base := base) (N := ["text", "head", "rows", "told", "number", "row"]) (ps := ["text"]) (k := 9) (b := b_read_bench) F sc_read_bench fun cdv A outer s H E hr hgd tk => by
    have hu := hr.units
    exact (sb_cons (ss_if (st_not (st_truth (se_callB (cr_isi h.isc) (gl_of (by kernel_rfl)) (h.free 13 (x := "isinstance") rfl) (by decide +kernel) (sa_cons (se_var (j := 0) rfl (.inl (by kernel_rfl))) (sa_cons (se_ty (gl_of (by kernel_rfl)) (h.free 6 (x := "str") rfl) (by decide +kernel)) sa_nil))))) (sb_one (ss_raise1 rfl tk xbVE (oxB_ok (h.chk 0 (f := fun K => oxB K "NoText" "row" veT "ValueError.__new__") rfl)).ox (oxB_ok (h.chk 0 (f := fun K => oxB K "NoText" "row" veT "ValueError.__new__") rfl)).ini (oxB_ok (h.chk 0 (f := fun K => oxB K "NoText" "row" veT "ValueError.__new__") rfl)).fn (G_NoText_init _) (hr.mono (by decide)) hgd (FunD.bindsN (ps := ["self", "row"]) F_NoText_init (fun _ _ _ _ _ _ us hl => match us, hl with | [_, _], _ => rfl)) (gl_of (by kernel_rfl)) (h.glo 15 (x := "NoText") rfl) se_int)) sb_nil)
      (sb_cons (ss_asg plain_gstar (se_split (se_var (j := 0) rfl (.inl (by kernel_rfl))) (sal_cons se_str sal_nil)) (sg_star (es' := [.Name "head" ⟨133, 4, 133, 8⟩, .Name "rows" ⟨133, 11, 133, 15⟩]) rfl (sgn_cons (j := 1) scN rfl (.inl (by kernel_rfl)) (hf := .inl rfl) (sgn_cons (j := 2) scN rfl (.inl (by kernel_rfl)) (hf := .inl rfl) sgn_nil))))
      (sb_cons (ss_set (j := 3) scN rfl (.inl (by kernel_rfl)) (hf := .inl rfl) (se_call (G_bare_bench _) (hr.mono (by decide)) hgd (gl_of (by kernel_rfl)) (h.glo 38 (x := "bare_bench") rfl) F_bare_bench.kp cb0 rfl tk (sal_cons (se_var (j := 1) rfl (.inl (by kernel_rfl))) sal_nil)))
      (sb_cons (ss_for (passes_of rfl) rfl (si_enumK (k0 := 1) (by decide) (gl_of (by kernel_rfl)) (h.free 24 (x := "enumerate") rfl) (sal_cons (se_var (j := 2) rfl (.inl (by kernel_rfl))) sal_nil)) (sg_tup rfl (sgn_cons (j := 4) scN rfl (.inl (by kernel_rfl)) (hf := .inl rfl) (sgn_cons (j := 5) scN rfl (.inl (by kernel_rfl)) (hf := .inl rfl) sgn_nil))) (sb_one (ss_set (j := 3) scN rfl (.inl (by kernel_rfl)) (hf := .inl rfl) (se_call (G_with_row _) (hr.mono (by decide)) hgd (gl_of (by kernel_rfl)) (h.glo 40 (x := "with_row") rfl) F_with_row.kp cb1 rfl tk (sal_cons (se_var (j := 3) rfl (.inl (by kernel_rfl))) (sal_cons (se_var (j := 4) rfl (.inl (by kernel_rfl))) (sal_cons (se_var (j := 5) rfl (.inl (by kernel_rfl))) sal_nil)))))))
      (sb_one (ss_ret (se_var (j := 3) rfl (.inl (by kernel_rfl))))))))))
  exact ⟨fd, F, G⟩
theorem ok_Bench_str {P : Program} {w : World} {K : PySem.W.Frag} {mg : Str → Option Value} (h : Hyp K mg) : ∃ fd, FunD K "__str__" "Bench.__str__" (defArgs s_Bench_str) (defBody s_Bench_str) (defScope s_Bench_str) (d_Bench_str.dvs K) (d_Bench_str.kws K) (He.ma K (He.ga K "Bench") "__str__") fd ∧ ∀ base : Heap, FnG P w K mg base 1 (He.ma K (He.ga K "Bench") "__str__") fd ["self"] (spD ⟨K, P, w⟩ 1 den_Bench_str) := by
  obtain ⟨fd, F⟩ := h.says.def_ 20 (d := d_Bench_str) rfl
  have scN := sc_Bench_str.nd
  have G := fun base : Heap => (fnG_body (P := P) (w := w) (mg := mg) (base := base) (N := ["self", "name", "low", "high"]) (ps := ["self"]) (k := 0) (b := b_Bench_str) F sc_Bench_str fun cdv A outer s H E hr hgd tk => by
    have hu := hr.units
    exact (sb_one (ss_ret (se_join se_str (se_bin op_addD (se_lst (sal_cons (se_fstr (.cons se_str (.cons (se_fmt (se_fld (se_var (j := 0) rfl (.inl (by kernel_rfl))) (h.cls 31 (x := "Bench") rfl) (h.noat 32 (x := "Bench") (f := "seats") rfl))) .nil))) sal_nil)) (se_comp (own := [("name", 1), ("low", 2), ("high", 3)]) (g := (.tup [1, 2, 3])) rfl scN (si_any (se_fld (se_var (j := 0) rfl (.inl (by kernel_rfl))) (h.cls 31 (x := "Bench") rfl) (h.noat 33 (x := "Bench") (f := "people") rfl))) (blkOk_of (by kernel_rfl)) (fun _ _ _ _ _ => (sgc_tup rfl (sgn_cons (j := 1) scN rfl (.inl (by kernel_rfl)) (hf := .inr (by kernel_rfl)) (sgn_cons (j := 2) scN rfl (.inl (by kernel_rfl)) (hf := .inr (by kernel_rfl)) (sgn_cons (j := 3) scN rfl (.inl (by kernel_rfl)) (hf := .inr (by kernel_rfl)) sgn_nil))))) (fun _ _ _ _ _ => sts_nil) (fun _ _ _ _ _ => (se_fstr (.cons (se_fmt (se_var (j := 1) rfl (.inl (by kernel_rfl)))) (.cons se_str (.cons (se_fmt (se_var (j := 2) rfl (.inl (by kernel_rfl)))) (.cons se_str (.cons (se_fmt (se_var (j := 3) rfl (.inl (by kernel_rfl)))) .nil)))))))))))))
  exact ⟨fd, F, G⟩
theorem ok__law_told {P : Program} {w : World} {K : PySem.W.Frag} {mg : Str → Option Value} (h : Hyp K mg) : ∃ fd, FunD K "_law_told" "_law_told" (defArgs s__law_told) (defBody s__law_told) (defScope s__law_told) (d__law_told.dvs K) (d__law_told.kws K) (He.ga K "_law_told") fd ∧ ∀ base : Heap, FnG P w K mg base 11 (He.ga K "_law_told") fd ["_law_lines_here"] (spD ⟨K, P, w⟩ 1 den__law_told) := by
  obtain ⟨fd_read_bench, F_read_bench, G_read_bench⟩ := ok_read_bench (P := P) (w := w) h
  obtain ⟨fd_Bench_str, F_Bench_str, G_Bench_str⟩ := ok_Bench_str (P := P) (w := w) h
  have cb0 : CallB ⟨K, P, w⟩ fd_read_bench ["text"] 1 [] [0] [] := callB_no (K := ⟨K, P, w⟩) F_read_bench 1 [] [0] fun _ _ _ _ _ _ us ws h1 h2 => match us, h1, ws, h2 with | [_], _, [], _ => rfl
  obtain ⟨fd, F⟩ := h.says.def_ 21 (d := d__law_told) rfl
  have scN := sc__law_told.nd
  have G := fun base : Heap => (fnG_body (P := P) (w := w) (mg := mg) (base := base) (N := ["_law_lines_here", "_law_found", "e"]) (ps := ["_law_lines_here"]) (k := 10) (b := b__law_told) F sc__law_told fun cdv A outer s H E hr hgd tk => by
    have hu := hr.units
    exact (sb_cons (ss_set (j := 1) scN rfl (.inl (by kernel_rfl)) (hf := .inl rfl) se_non)
      (sb_cons (ss_tryM rfl rfl tk (fun W pn xe tk => (sb_one (ss_set (j := 1) scN rfl (.inl (by kernel_rfl)) (hf := .inl rfl) (se_call (G_read_bench _) (hr.mono (by decide)) hgd (gl_of (by kernel_rfl)) (h.glo 41 (x := "read_bench") rfl) F_read_bench.kp cb0 rfl tk (sal_cons (se_var (j := 0) rfl (.inl (by kernel_rfl))) sal_nil))))) (.as (gl_of (by kernel_rfl)) (h.glo 15 (x := "NoText") rfl) (h.chk 6 (f := fun K => tmB K "NoText" [("NoSeats", false), ("NoPeople", false), ("NoText", true)]) rfl) (by decide +kernel) scN rfl (by kernel_rfl) (fun e oe pn ev => (sb_one (ss_ret (se_tup (sal_cons se_str (sal_cons (se_fldX ev (h.chk 7 (f := fun K => fldB K [("NoText", "row")]) rfl) (se_var (j := 2) rfl (.inl (by kernel_rfl)))) sal_nil)) (hl := Nat.le_of_ble_eq_true rfl))))) .nil))
      (sb_cons (ss_if (st_w (sw_or (st_not (st_truth (se_callB (cr_isi h.isc) (gl_of (by kernel_rfl)) (h.free 13 (x := "isinstance") rfl) (by decide +kernel) (sa_cons (se_var (j := 1) rfl (.inl (by kernel_rfl))) (sa_cons (se_glo (gl_of (by kernel_rfl)) (h.glo 37 (x := "Bench") rfl)) sa_nil))))) (sw_or1 (st_cmp (op_neD' hu) (se_callTy (cr_strO (G_Bench_str _) (h.meth 42 (x := "Bench") (m := "__str__") rfl).at_ (h.meth 42 (x := "Bench") (m := "__str__") rfl).fn (FunD.bindsN (ps := ["self"]) F_Bench_str (fun _ _ _ _ _ _ us hl => match us, hl with | [_], _ => rfl)) rfl (hr.mono (by decide)) hgd) (gl_of (by kernel_rfl)) (h.free 6 (x := "str") rfl) (by decide +kernel) (sa_cons (se_var (j := 1) rfl (.inl (by kernel_rfl))) sa_nil)) (se_var (j := 0) rfl (.inl (by kernel_rfl))) (nomark _))))) (sb_one (ss_ret (se_tup (sal_cons se_str (sal_cons (se_var (j := 0) rfl (.inl (by kernel_rfl))) sal_nil))))) sb_nil)
      (sb_one (ss_ret (se_tup (sal_cons se_str (sal_cons (se_fld (se_var (j := 1) rfl (.inl (by kernel_rfl))) (h.cls 31 (x := "Bench") rfl) (h.noat 32 (x := "Bench") (f := "seats") rfl)) (sal_cons (se_fld (se_var (j := 1) rfl (.inl (by kernel_rfl))) (h.cls 31 (x := "Bench") rfl) (h.noat 33 (x := "Bench") (f := "people") rfl)) sal_nil))))))))))
  exact ⟨fd, F, G⟩
theorem ok__law_is_number {P : Program} {w : World} {K : PySem.W.Frag} {mg : Str → Option Value} (h : Hyp K mg) : ∃ fd, FunD K "_law_is_number" "_law_is_number" (defArgs s__law_is_number) (defBody s__law_is_number) (defScope s__law_is_number) (d__law_is_number.dvs K) (d__law_is_number.kws K) (He.ga K "_law_is_number") fd ∧ ∀ base : Heap, FnG P w K mg base 1 (He.ga K "_law_is_number") fd ["_law_word", "_law_low", "_law_high"] (spD ⟨K, P, w⟩ 3 den__law_is_number) := by
  obtain ⟨fd, F⟩ := h.says.def_ 22 (d := d__law_is_number) rfl
  have scN := sc__law_is_number.nd
  have G := fun base : Heap => (fnG_body (P := P) (w := w) (mg := mg) (base := base) (N := ["_law_word", "_law_low", "_law_high", "_law_figure"]) (ps := ["_law_word", "_law_low", "_law_high"]) (k := 0) (b := b__law_is_number) F sc__law_is_number fun cdv A outer s H E hr hgd tk => by
    have hu := hr.units
    exact (sb_one (ss_ret (se_cmp op_inA (se_var (j := 0) rfl (.inl (by kernel_rfl))) (se_comp (own := [("_law_figure", 3)]) (g := (.name 3)) rfl scN (si_range2 (gl_of (by kernel_rfl)) (h.free 3 (x := "range") rfl) (sa_cons (se_var (j := 1) rfl (.inl (by kernel_rfl))) (sa_cons (se_bin op_addD (se_var (j := 2) rfl (.inl (by kernel_rfl))) se_int) sa_nil))) (blkOk_of (by kernel_rfl)) (fun _ _ _ _ _ => (sgc_name (j := 3) scN rfl (.inl (by kernel_rfl)) (hf := .inr (by kernel_rfl)))) (fun _ _ _ _ _ => sts_nil) (fun _ _ _ _ _ => (se_callTy cr_str (gl_of (by kernel_rfl)) (h.free 6 (x := "str") rfl) (by decide +kernel) (sa_cons (se_var (j := 3) rfl (.inl (by kernel_rfl))) sa_nil)))) rfl))))
  exact ⟨fd, F, G⟩
theorem ok__law_is_name {P : Program} {w : World} {K : PySem.W.Frag} {mg : Str → Option Value} (h : Hyp K mg) : ∃ fd, FunD K "_law_is_name" "_law_is_name" (defArgs s__law_is_name) (defBody s__law_is_name) (defScope s__law_is_name) (d__law_is_name.dvs K) (d__law_is_name.kws K) (He.ga K "_law_is_name") fd ∧ ∀ base : Heap, FnG P w K mg base 1 (He.ga K "_law_is_name") fd ["_law_word"] (spD ⟨K, P, w⟩ 1 den__law_is_name) := by
  obtain ⟨fd, F⟩ := h.says.def_ 23 (d := d__law_is_name) rfl
  have scN := sc__law_is_name.nd
  have G := fun base : Heap => (fnG_body (P := P) (w := w) (mg := mg) (base := base) (N := ["_law_word", "_law_sign"]) (ps := ["_law_word"]) (k := 0) (b := b__law_is_name) F sc__law_is_name fun cdv A outer s H E hr hgd tk => by
    have hu := hr.units
    exact (sb_one (ss_ret (se_and (se_chain op_ltD op_ltD se_int (se_callB cr_len (gl_of (by kernel_rfl)) (h.free 0 (x := "len") rfl) (by decide +kernel) (sa_cons (se_var (j := 0) rfl (.inl (by kernel_rfl))) sa_nil)) se_int) (se_one (se_callB (cr_allD rfl) (gl_of (by kernel_rfl)) (h.free 25 (x := "all") rfl) (by decide +kernel) (sa_cons (se_comp (own := [("_law_sign", 1)]) (g := (.name 1)) rfl scN (si_any (se_var (j := 0) rfl (.inl (by kernel_rfl)))) (blkOk_of (by kernel_rfl)) (fun _ _ _ _ _ => (sgc_name (j := 1) scN rfl (.inl (by kernel_rfl)) (hf := .inr (by kernel_rfl)))) (fun _ _ _ _ _ => sts_nil) (fun _ _ _ _ _ => (se_cmp op_inA (se_var (j := 1) rfl (.inl (by kernel_rfl))) se_str rfl))) sa_nil)))))))
  exact ⟨fd, F, G⟩
theorem ok__law_person {P : Program} {w : World} {K : PySem.W.Frag} {mg : Str → Option Value} (h : Hyp K mg) : ∃ fd, FunD K "_law_person" "_law_person" (defArgs s__law_person) (defBody s__law_person) (defScope s__law_person) (d__law_person.dvs K) (d__law_person.kws K) (He.ga K "_law_person") fd ∧ ∀ base : Heap, FnG P w K mg base 2 (He.ga K "_law_person") fd ["_law_words", "_law_wide", "_law_known"] (spD ⟨K, P, w⟩ 3 den__law_person) := by
  obtain ⟨fd__law_is_name, F__law_is_name, G__law_is_name⟩ := ok__law_is_name (P := P) (w := w) h
  obtain ⟨fd__law_is_number, F__law_is_number, G__law_is_number⟩ := ok__law_is_number (P := P) (w := w) h
  have cb0 : CallB ⟨K, P, w⟩ fd__law_is_name ["_law_word"] 1 [] [0] [] := callB_no (K := ⟨K, P, w⟩) F__law_is_name 1 [] [0] fun _ _ _ _ _ _ us ws h1 h2 => match us, h1, ws, h2 with | [_], _, [], _ => rfl
  have cb1 : CallB ⟨K, P, w⟩ fd__law_is_number ["_law_word", "_law_low", "_law_high"] 3 [] [0, 1, 2] [] := callB_no (K := ⟨K, P, w⟩) F__law_is_number 3 [] [0, 1, 2] fun _ _ _ _ _ _ us ws h1 h2 => match us, h1, ws, h2 with | [_, _, _], _, [], _ => rfl
  obtain ⟨fd, F⟩ := h.says.def_ 24 (d := d__law_person) rfl
  have scN := sc__law_person.nd
  have G := fun base : Heap => (fnG_body (P := P) (w := w) (mg := mg) (base := base) (N := ["_law_words", "_law_wide", "_law_known", "_law_word"]) (ps := ["_law_words", "_law_wide", "_law_known"]) (k := 1) (b := b__law_person) F sc__law_person fun cdv A outer s H E hr hgd tk => by
    have hu := hr.units
    exact (sb_cons (ss_if (st_w (sw_or (st_cmp (op_neD' hu) (se_callB cr_len (gl_of (by kernel_rfl)) (h.free 0 (x := "len") rfl) (by decide +kernel) (sa_cons (se_var (j := 0) rfl (.inl (by kernel_rfl))) sa_nil)) se_int (nomark _)) (sw_or (st_not (st_truth (se_call (G__law_is_name _) (hr.mono (by decide)) hgd (gl_of (by kernel_rfl)) (h.glo 46 (x := "_law_is_name") rfl) F__law_is_name.kp cb0 rfl tk (sal_cons (se_ix ix_D (se_var (j := 0) rfl (.inl (by kernel_rfl))) se_int (fun _ _ => rfl)) sal_nil)))) (sw_or (st_cmp op_inA (se_ix ix_D (se_var (j := 0) rfl (.inl (by kernel_rfl))) se_int (fun _ _ => rfl)) (se_var (j := 2) rfl (.inl (by kernel_rfl))) rfl) (sw_or1 (st_cmp op_geD (se_callB cr_len (gl_of (by kernel_rfl)) (h.free 0 (x := "len") rfl) (by decide +kernel) (sa_cons (se_var (j := 2) rfl (.inl (by kernel_rfl))) sa_nil)) (se_var (j := 1) rfl (.inr (.inl (by kernel_rfl)))) (nomark _))))))) (sb_one (ss_ret se_bl)) sb_nil)
      (sb_cons (ss_if (st_not (st_truth (se_callB (cr_allD rfl) (gl_of (by kernel_rfl)) (h.free 25 (x := "all") rfl) (by decide +kernel) (sa_cons (se_comp (own := [("_law_word", 3)]) (g := (.name 3)) rfl scN (si_any (se_slc (se_var (j := 0) rfl (.inl (by kernel_rfl))) (so_yes se_int) so_no)) (blkOk_of (by kernel_rfl)) (fun _ _ _ _ _ => (sgc_name (j := 3) scN rfl (.inl (by kernel_rfl)) (hf := .inr (by kernel_rfl)))) (fun _ _ _ _ _ => sts_nil) (fun _ _ _ _ _ => (se_call (G__law_is_number _) (hr.mono (by decide)) hgd (gl_of (by kernel_rfl)) (h.glo 45 (x := "_law_is_number") rfl) F__law_is_number.kp cb1 rfl takes0 (sal_cons (se_var (j := 3) rfl (.inl (by kernel_rfl))) (sal_cons se_int (sal_cons (se_bin op_subD (se_var (j := 1) rfl (.inr (.inl (by kernel_rfl)))) se_int) sal_nil)))))) sa_nil)))) (sb_one (ss_ret se_bl)) sb_nil)
      (sb_one (ss_ret (se_cmp op_leD (se_callTy cr_intT (gl_of (by kernel_rfl)) (h.free 16 (x := "int") rfl) (by decide +kernel) (sa_cons (se_ix ix_D (se_var (j := 0) rfl (.inl (by kernel_rfl))) se_int (fun _ _ => rfl)) sa_nil)) (se_callTy cr_intT (gl_of (by kernel_rfl)) (h.free 16 (x := "int") rfl) (by decide +kernel) (sa_cons (se_ix ix_D (se_var (j := 0) rfl (.inl (by kernel_rfl))) se_int (fun _ _ => rfl)) sa_nil)) (nomark _)))))))
  exact ⟨fd, F, G⟩
theorem ok__law_due {P : Program} {w : World} {K : PySem.W.Frag} {mg : Str → Option Value} (h : Hyp K mg) : ∃ fd, FunD K "_law_due" "_law_due" (defArgs s__law_due) (defBody s__law_due) (defScope s__law_due) (d__law_due.dvs K) (d__law_due.kws K) (He.ga K "_law_due") fd ∧ ∀ base : Heap, FnG P w K mg base 3 (He.ga K "_law_due") fd ["_law_lines_here"] (spD ⟨K, P, w⟩ 1 den__law_due) := by
  obtain ⟨fd__law_is_number, F__law_is_number, G__law_is_number⟩ := ok__law_is_number (P := P) (w := w) h
  obtain ⟨fd__law_person, F__law_person, G__law_person⟩ := ok__law_person (P := P) (w := w) h
  have cb0 : CallB ⟨K, P, w⟩ fd__law_is_number ["_law_word", "_law_low", "_law_high"] 3 [] [0, 1, 2] [] := callB_no (K := ⟨K, P, w⟩) F__law_is_number 3 [] [0, 1, 2] fun _ _ _ _ _ _ us ws h1 h2 => match us, h1, ws, h2 with | [_, _, _], _, [], _ => rfl
  have cb1 : CallB ⟨K, P, w⟩ fd__law_person ["_law_words", "_law_wide", "_law_known"] 3 [] [0, 1, 2] [] := callB_no (K := ⟨K, P, w⟩) F__law_person 3 [] [0, 1, 2] fun _ _ _ _ _ _ us ws h1 h2 => match us, h1, ws, h2 with | [_, _, _], _, [], _ => rfl
  obtain ⟨fd, F⟩ := h.says.def_ 25 (d := d__law_due) rfl
  have scN := sc__law_due.nd
  have G := fun base : Heap => (fnG_body (P := P) (w := w) (mg := mg) (base := base) (N := ["_law_lines_here", "_law_rows", "_law_folk", "_law_at", "_law_line", "_law_pal"]) (ps := ["_law_lines_here"]) (k := 2) (b := b__law_due) F sc__law_due fun cdv A outer s H E hr hgd tk => by
    have hu := hr.units
    exact (sb_cons (ss_comp (own := [("_law_line", 4)]) (g := (.name 4)) (j := 1) rfl scN rfl (by kernel_rfl) (by kernel_rfl) (si_any (se_split (se_var (j := 0) rfl (.inl (by kernel_rfl))) (sal_cons se_str sal_nil))) (blkOk_of (by kernel_rfl)) (fun _ _ _ _ _ => (sgc_name (j := 4) scN rfl (.inl (by kernel_rfl)) (hf := .inr (by kernel_rfl)))) (fun _ _ _ _ _ => sts_nil) (fun _ _ _ _ _ => (se_split (se_var (j := 4) rfl (.inl (by kernel_rfl))) (sal_cons se_str sal_nil))))
      (sb_cons (ss_if (st_w (sw_or (st_cmp (op_neD' hu) (se_callB cr_len (gl_of (by kernel_rfl)) (h.free 0 (x := "len") rfl) (by decide +kernel) (sa_cons (se_ix ix_D (se_var (j := 1) rfl (.inl (by kernel_rfl))) se_int (fun _ _ => rfl)) sa_nil)) se_int (nomark _)) (sw_or (st_cmp (op_neD' hu) (se_ix ix_D (se_ix ix_D (se_var (j := 1) rfl (.inl (by kernel_rfl))) se_int (fun _ _ => rfl)) se_int (fun _ _ => rfl)) se_str (nomark _)) (sw_or1 (st_not (st_truth (se_call (G__law_is_number _) (hr.mono (by decide)) hgd (gl_of (by kernel_rfl)) (h.glo 45 (x := "_law_is_number") rfl) F__law_is_number.kp cb0 rfl tk (sal_cons (se_ix ix_D (se_ix ix_D (se_var (j := 1) rfl (.inl (by kernel_rfl))) se_int (fun _ _ => rfl)) se_int (fun _ _ => rfl)) (sal_cons se_int (sal_cons se_int sal_nil)))))))))) (sb_one (ss_ret (se_tup (sal_cons se_str (sal_cons se_int sal_nil))))) sb_nil)
      (sb_cons (ss_setO (j := 2) scN rfl (.inl (by kernel_rfl)) (hf := .inl rfl) (sf_lst sal_nil))
      (sb_cons (ss_for (passes_of rfl) rfl (si_range2 (gl_of (by kernel_rfl)) (h.free 3 (x := "range") rfl) (sa_cons se_int (sa_cons (se_callB cr_len (gl_of (by kernel_rfl)) (h.free 0 (x := "len") rfl) (by decide +kernel) (sa_cons (se_var (j := 1) rfl (.inl (by kernel_rfl))) sa_nil)) sa_nil))) (sg_name (j := 3) scN rfl (.inl (by kernel_rfl)) (hf := .inl rfl)) (sb_cons (ss_if (st_not (st_truth (se_call (G__law_person _) (hr.mono (by decide)) hgd (gl_of (by kernel_rfl)) (h.glo 47 (x := "_law_person") rfl) F__law_person.kp cb1 rfl tk (sal_cons (se_ix ix_D (se_var (j := 1) rfl (.inl (by kernel_rfl))) (se_var (j := 3) rfl (.inl (by kernel_rfl))) (fun _ _ => rfl)) (sal_cons (se_callTy cr_intT (gl_of (by kernel_rfl)) (h.free 16 (x := "int") rfl) (by decide +kernel) (sa_cons (se_ix ix_D (se_ix ix_D (se_var (j := 1) rfl (.inl (by kernel_rfl))) se_int (fun _ _ => rfl)) se_int (fun _ _ => rfl)) sa_nil)) (sal_cons (se_compW (own := [("_law_pal", 5)]) (g := (.name 5)) rfl scN (id (se_var (j := 2) rfl (.inl (by kernel_rfl)))) (blkOk_of (by kernel_rfl)) (fun _ _ _ _ _ => (sgc_name (j := 5) scN rfl (.inl (by kernel_rfl)) (hf := .inr (by kernel_rfl)))) (fun _ _ _ _ _ => sts_nil) (fun _ _ _ _ _ => (se_ix ix_D (se_var (j := 5) rfl (.inl (by kernel_rfl))) se_int (fun _ _ => rfl)))) sal_nil)))))) (sb_one (ss_ret (se_tup (sal_cons se_str (sal_cons (se_var (j := 3) rfl (.inl (by kernel_rfl))) sal_nil))))) sb_nil)
      (sb_one (ss_expr (se_append (se_var (j := 2) rfl (.inl (by kernel_rfl))) (sal_cons (se_tup (sal_cons (se_ix ix_D (se_ix ix_D (se_var (j := 1) rfl (.inl (by kernel_rfl))) (se_var (j := 3) rfl (.inl (by kernel_rfl))) (fun _ _ => rfl)) se_int (fun _ _ => rfl)) (sal_cons (se_callTy cr_intT (gl_of (by kernel_rfl)) (h.free 16 (x := "int") rfl) (by decide +kernel) (sa_cons (se_ix ix_D (se_ix ix_D (se_var (j := 1) rfl (.inl (by kernel_rfl))) (se_var (j := 3) rfl (.inl (by kernel_rfl))) (fun _ _ => rfl)) se_int (fun _ _ => rfl)) sa_nil)) (sal_cons (se_callTy cr_intT (gl_of (by kernel_rfl)) (h.free 16 (x := "int") rfl) (by decide +kernel) (sa_cons (se_ix ix_D (se_ix ix_D (se_var (j := 1) rfl (.inl (by kernel_rfl))) (se_var (j := 3) rfl (.inl (by kernel_rfl))) (fun _ _ => rfl)) se_int (fun _ _ => rfl)) sa_nil)) sal_nil)))) sal_nil))))))
      (sb_one (ss_ret (se_tup (sal_cons se_str (sal_cons (se_callTy cr_intT (gl_of (by kernel_rfl)) (h.free 16 (x := "int") rfl) (by decide +kernel) (sa_cons (se_ix ix_D (se_ix ix_D (se_var (j := 1) rfl (.inl (by kernel_rfl))) se_int (fun _ _ => rfl)) se_int (fun _ _ => rfl)) sa_nil)) (sal_cons (se_callTy cr_tuple (gl_of (by kernel_rfl)) (h.free 21 (x := "tuple") rfl) (by decide +kernel) (sa_cons (se_var (j := 2) rfl (.inl (by kernel_rfl))) sa_nil)) sal_nil)))))))))))
  exact ⟨fd, F, G⟩
theorem ok_law {P : Program} {w : World} {K : PySem.W.Frag} {mg : Str → Option Value} (h : Hyp K mg) : ∃ fd, FunD K "law" "law" (defArgs s_law) (defBody s_law) (defScope s_law) (d_law.dvs K) (d_law.kws K) (He.ga K "law") fd ∧ ∀ base : Heap, FnG P w K mg base 12 (He.ga K "law") fd ["_law_script"] (spD ⟨K, P, w⟩ 1 den_law) := by
  obtain ⟨fd__law_lines, F__law_lines, G__law_lines⟩ := ok__law_lines (P := P) (w := w) h
  obtain ⟨fd__law_hand, F__law_hand, G__law_hand⟩ := ok__law_hand (P := P) (w := w) h
  obtain ⟨fd__law_cell, F__law_cell, G__law_cell⟩ := ok__law_cell (P := P) (w := w) h
  obtain ⟨fd__law_told, F__law_told, G__law_told⟩ := ok__law_told (P := P) (w := w) h
  obtain ⟨fd__law_due, F__law_due, G__law_due⟩ := ok__law_due (P := P) (w := w) h
  have cb0 : CallB ⟨K, P, w⟩ fd__law_lines ["_law_hand_here"] 1 [] [0] [] := callB_no (K := ⟨K, P, w⟩) F__law_lines 1 [] [0] fun _ _ _ _ _ _ us ws h1 h2 => match us, h1, ws, h2 with | [_], _, [], _ => rfl
  have cb1 : CallB ⟨K, P, w⟩ fd__law_hand ["_law_cell_here"] 1 [] [0] [] := callB_no (K := ⟨K, P, w⟩) F__law_hand 1 [] [0] fun _ _ _ _ _ _ us ws h1 h2 => match us, h1, ws, h2 with | [_], _, [], _ => rfl
  have cb2 : CallB ⟨K, P, w⟩ fd__law_cell ["_law_script", "_law_k"] 2 [] [0, 1] [] := callB_no (K := ⟨K, P, w⟩) F__law_cell 2 [] [0, 1] fun _ _ _ _ _ _ us ws h1 h2 => match us, h1, ws, h2 with | [_, _], _, [], _ => rfl
  have cb3 : CallB ⟨K, P, w⟩ fd__law_told ["_law_lines_here"] 1 [] [0] [] := callB_no (K := ⟨K, P, w⟩) F__law_told 1 [] [0] fun _ _ _ _ _ _ us ws h1 h2 => match us, h1, ws, h2 with | [_], _, [], _ => rfl
  have cb4 : CallB ⟨K, P, w⟩ fd__law_due ["_law_lines_here"] 1 [] [0] [] := callB_no (K := ⟨K, P, w⟩) F__law_due 1 [] [0] fun _ _ _ _ _ _ us ws h1 h2 => match us, h1, ws, h2 with | [_], _, [], _ => rfl
  obtain ⟨fd, F⟩ := h.says.def_ 26 (d := d_law) rfl
  have scN := sc_law.nd
  have G := fun base : Heap => (fnG_body (P := P) (w := w) (mg := mg) (base := base) (N := ["_law_script", "_law_k", "_law_lines_here"]) (ps := ["_law_script"]) (k := 11) (b := b_law) F sc_law fun cdv A outer s H E hr hgd tk => by
    have hu := hr.units
    exact (sb_cons (ss_for (passes_of rfl) rfl (si_range1 (gl_of (by kernel_rfl)) (h.free 3 (x := "range") rfl) (sa_cons (se_callB (cr_max2 rfl) (gl_of (by kernel_rfl)) (h.free 2 (x := "max") rfl) (by decide +kernel) (sa_cons se_int (sa_cons (se_callB (cr_min2 rfl) (gl_of (by kernel_rfl)) (h.free 1 (x := "min") rfl) (by decide +kernel) (sa_cons (se_callB cr_len (gl_of (by kernel_rfl)) (h.free 0 (x := "len") rfl) (by decide +kernel) (sa_cons (se_var (j := 0) rfl (.inl (by kernel_rfl))) sa_nil)) (sa_cons se_int sa_nil))) sa_nil))) sa_nil)) (sg_name (j := 1) scN rfl (.inl (by kernel_rfl)) (hf := .inl rfl)) (sb_cons (ss_set (j := 2) scN rfl (.inl (by kernel_rfl)) (hf := .inl rfl) (se_call (G__law_lines _) (hr.mono (by decide)) hgd (gl_of (by kernel_rfl)) (h.glo 12 (x := "_law_lines") rfl) F__law_lines.kp cb0 rfl tk (sal_cons (se_call (G__law_hand _) (hr.mono (by decide)) hgd (gl_of (by kernel_rfl)) (h.glo 11 (x := "_law_hand") rfl) F__law_hand.kp cb1 rfl tk (sal_cons (se_call (G__law_cell _) (hr.mono (by decide)) hgd (gl_of (by kernel_rfl)) (h.glo 10 (x := "_law_cell") rfl) F__law_cell.kp cb2 rfl tk (sal_cons (se_var (j := 0) rfl (.inl (by kernel_rfl))) (sal_cons (se_var (j := 1) rfl (.inl (by kernel_rfl))) sal_nil))) sal_nil)) sal_nil)))
      (sb_one (ss_if (st_cmp (op_neD' hu) (se_callB (cr_reprB hu hgd) (gl_of (by kernel_rfl)) (h.free 44 (x := "repr") rfl) (by decide +kernel) (sa_cons (se_call (G__law_told _) (hr.mono (by decide)) hgd (gl_of (by kernel_rfl)) (h.glo 43 (x := "_law_told") rfl) F__law_told.kp cb3 rfl tk (sal_cons (se_var (j := 2) rfl (.inl (by kernel_rfl))) sal_nil)) sa_nil)) (se_callB (cr_reprB hu hgd) (gl_of (by kernel_rfl)) (h.free 44 (x := "repr") rfl) (by decide +kernel) (sa_cons (se_call (G__law_due _) (hr.mono (by decide)) hgd (gl_of (by kernel_rfl)) (h.glo 48 (x := "_law_due") rfl) F__law_due.kp cb4 rfl tk (sal_cons (se_var (j := 2) rfl (.inl (by kernel_rfl))) sal_nil)) sa_nil)) (nomark _)) (sb_one (ss_ret se_bl)) sb_nil))))
      (sb_one (ss_ret se_bl))))
  exact ⟨fd, F, G⟩
end K08
open PySem PySem.W PySem.Calls PyProof.Rows L2 Bx in
theorem PySem.Challenge.cw_benchstretch_k08_whole_any_text_of_a_ben_holds : PySem.Challenge.rw_benchstretch_k08_whole_any_text_of_a_ben.Holds := by
  w_on; o_law
  refine HandSHeadRun.head_any (r := OpenLaw.row PySem.Challenge.rw_benchstretch_k08_whole_any_text_of_a_ben) (q := view (OpenLaw.row PySem.Challenge.rw_benchstretch_k08_whole_any_text_of_a_ben).prog [34]) (H := K08.hk) (ob := K08.ob) (M := 8000) (loose := K08.names) (d := HandSHeadRun.topDef (OpenLaw.row PySem.Challenge.rw_benchstretch_k08_whole_any_text_of_a_ben).prog 34) (kwd := []) K08.ob_eq
    (by kernel_rfl) (fun s => by kernel_rfl) K08.run (by kernel_rfl) (by kernel_rfl) (by kernel_rfl) (by rfl) (by first | assumption | decide +kernel) (by decide +kernel) ⟨rfl, rfl, rfl, rfl, rfl, by decide +kernel⟩ ?hw ?hc
  case hw => w_witness2
  case hc =>
    refine Bx.walk_end (l := PySem.Challenge.rw_benchstretch_k08_whole_any_text_of_a_ben) (n := 63) (k := 12) (x := "_law_script") rfl (by decide) (by kernel_rfl) ⟨rfl, by decide, by decide⟩ ?F
    intro w mg fa h Y G hmg0
    obtain ⟨K, KX, c⟩ := Y
    have hy : K08.Hyp K mg := ⟨⟨h, KX, G⟩, c.1, c.2⟩
    have e1 : (HandSHeadRun.topDef (OpenLaw.row PySem.Challenge.rw_benchstretch_k08_whole_any_text_of_a_ben).prog 34).name = ("law" : PySem.Str) := by kernel_rfl
    rw [e1] at hmg0
    have e2 := hmg0.symm.trans (hy.glo 49 (x := "law") rfl)
    cases e2
    obtain ⟨fd, F, GG⟩ := K08.ok_law (P := (PySem.Challenge.rw_benchstretch_k08_whole_any_text_of_a_ben).prog) (w := w) hy
    exact ⟨K, fd, K08.den_law, KX, fun s v => FunD.bindsA (ps := ["_law_script"]) F (fun _ _ _ _ _ _ us hl => match us, hl with | [_], _ => rfl) s [v] rfl, K08.law_true, fun base _ _ => GG base⟩
