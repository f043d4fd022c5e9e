import PyProof.Rows.All
import Wide.All
import OpenK.AllK
import Wide.FinOn
import HandS.ForMost
import HandS.Wide
import HandS.Defaults
import HandS.Ends
import HandS.Zip
import HandS.Walk
import HandS.IsInst
import HandS.TupAny
import HandS.TupMul
import HandS.Conv
import HandS.HeadHook1
import HandS.Exc
import KE.KExcIs
import KE.KDictKeyed
import KE.KDictDisplayH
import KE.KeyNested
import KE.GoesEnum
import HandS.HeadEnd
import HandS.EndBits
import HandS.Head0
import HandS.Head1
import HandS.Head2
import HandS.HeadHook2
import Lean
import KE.KTupSum
import HandS.Style
import KE.GoesEnumKw
import HandS.SortInts
import HandS.SetFor
import HandS.Strs
import HandS.WideBits
import HandS.RevRange
import HandS.Deep
import HandS.NoneIn
import HandS.TupSets
import HandS.RaiseMore
import HandS.FStrTup
import PyProof.ReprText
import PyProof.ReprRoads
import PyProof.FitsInt
import PyProof.StrLawsRepr
import HandS.Dict
import HandS.SetKeys
import HandS.DictTup
import KE.KDictCopyH
import KE.KDictSum
import HandS.More
import HandS.Set
import HandS.Text
import KE.DataFind
import HandS.SortRule
import HandS.SetBool
import HandS.SetTxt0
import HandS.DictComp
import HandS.MakeKwOnly
import KE.SortCalls
import KE.KSortTupAny
import HandS.Comp
import PyProof.DictUpdate
import KE.BitLaws
import PyProof.MaxThree
import HandS.Iter
import PyProof.StrLawsIn
import HandS.ExcInit
import HandS.ExcField
import HandS.ExcValue
import HandS.Finally
import KE.KExcInit
import HandS.TryMany
import KE.KStateDown
import PySem.Challenge.RW_panfalls_k60_needless_ones_taken_out
set_option Elab.async false
set_option linter.all false
set_option maxRecDepth 100000
set_option maxHeartbeats 4000000
/-! Promises of defs where no repr is under way. -/
namespace DL
open PySem PySem.Spec PyProof.Rows L2

/-- room, and nothing is being shown -/
structure RoomG (k : Nat) (A : Around) : Prop extends Room k A where
  gd : A.guards = some []
theorem RoomG.mono {j k : Nat} {A : Around} (r : RoomG k A) (le : j ≤ k) : RoomG j A := ⟨r.toRoom.mono le, r.gd⟩
theorem RoomG.deeper {k : Nat} {A : Around} (r : RoomG (k + 1) A) (ev : PySem.Env) : RoomG k (A.deeper ev) := ⟨r.toRoom.deeper ev, r.gd⟩

/-- a def's promise, given only where nothing is being shown -/
structure FnG (pr : Program) (wo : World) (fr : PySem.W.Frag) (mg : Str → Option Value) (ba : Heap) (cx : CXT) (k : Nat) (f : Addr) (fd : FuncData) (ps : List Str) (sp : Sp) : Prop where
  len : ∀ xs H q x, sp xs H q x → xs.length = ps.length
  run : ∀ (A : Around) (ou : List PySem.Env) (s : Shared) (H : Hp) (ar : Args) (us : List Value) (xs : List V) (q : VK) (x : XK), RoomG k A →
    Env0 pr wo fr mg ba A ou s H → BindsTo s fd ar (ps.zip us) → Vals xs us → sp xs H q x → codeAny (model pr wo) A (.call (.ref f) ar) (CR cx ou pr wo H s q x) s
section
variable {pr : Program} {wo : World} {fr : PySem.W.Frag} {mg : Str → Option Value} {ba : Heap} {cx : CXT} {j k : Nat} {f : Addr} {fd : FuncData} {ps : List Str} {sp : Sp}
theorem FnG.mono (g : FnG pr wo fr mg ba cx j f fd ps sp) (le : j ≤ k) : FnG pr wo fr mg ba cx k f fd ps sp :=
  ⟨g.len, fun A ou s H ar us xs q x r => g.run A ou s H ar us xs q x (r.mono le)⟩

/-- a call of such a def -/
theorem run_fnG {X : Cx} {pins : List (Addr × Obj)} {σ : L2.St} {H : Hp} {s : Shared} {q : VK} {x : XK} {us ws : List Value} {kw : List (Str × Value)} {xs : List V} (g : FnG X.prog X.w X.K X.mg X.base cx k f fd ps sp) (r : RoomG k X.A)
    (pa : Passes cx X x) (I : Inv X pins σ H s) (bi : BindsTo s fd ⟨us, kw⟩ (ps.zip ws)) (rv : Vals xs ws) (h : sp xs H q x) : wpAny (model X.prog X.w) X.A (call (.ref f) us kw) (EP X pins σ q) X.xe s := by
  refine wpAny_call (codeAny_mono (g.run X.A X.stack s H ⟨us, kw⟩ ws xs q x r I.env0 bi rv h) fun out s2 z => ?_)
  match out, z with
  | .error e, z => exact pa pins σ H s e s2 I z
  | .ok (.ret u), z => exact I.after z
  | .ok .next, z => exact z.elim
  | .ok .brk, z => exact z.elim
  | .ok .cont, z => exact z.elim

/-- a def by its body -/
theorem fnG_body {N : List Str} {x qual : Str} {params : Arguments} {body : List Stmt} {scope : Scope} {kws : List (Str × V)} (F : FunD fr x qual params body scope [] kws f fd) (sc : FnScope N ps scope) (ln : ∀ xs H q y, sp xs H q y → xs.length = ps.length)
    (hb : ∀ (cd : Value) (A : Around) (ou : List PySem.Env) (s : Shared) (H : Hp) (xs : List V) (q : VK) (y : XK), RoomG k (A.deeper (envOfC qual scope s.heap.objs.size f cd)) → sp xs H q y →
      ∃ t, PSs (cxOf cx pr wo fr mg ba N qual scope f cd A ou s H y) body t ∧ t { nx := fun _ H2 => q .non H2, rt := q } (start N xs) H) : FnG pr wo fr mg ba cx (k + 1) f fd ps sp := by
  obtain ⟨oc, od, dV, kV, doc, pm, an, cd, ct, osl, rfl, lk, hcd, _, _⟩ := F.ex
  refine ⟨ln, fun A ou s H ar us xs q y hr e0 bi rv hsp => ?_⟩
  have hl := ln _ _ _ _ hsp
  have inK : fr.In s.heap := e0.mod.kin.keeps fun b o z => (e0.bs b o z).1
  have nl : s.heap.NoLimit := e0.mod.nolimit.keeps fun b o z => (e0.bs b o z).1
  have kinds : ∀ z ∈ ps.zip us, scope.names.lookup z.1 = some .local ∨ (scope.names.lookup z.1 = some .cell ∧ ((cellsFrom (s.heap.objs.size + 1) scope.names []).lookup z.1).isSome = true) := by
    rintro ⟨nm, v⟩ hz
    rcases sc.par nm (List.of_mem_zip hz).1 with a | a
    · exact .inl a
    · exact .inr ⟨a, PySem.W.cellsFrom_some _ _ _ (.inl a)⟩
  refine codeAny_call_function hr.toRoom.depth (inK _ _ lk) rfl sc.co sc.gen rfl (PySem.W.codeRec_of inK hcd) (bi _ _ _ _ ?_)
  refine wpAny_newFunctionEnv_cells sc.kind kinds fun ev hev s1 xx => ?_
  subst hev
  refine ⟨nl.keeps xx.toInCall.keep, codeAny_func ?_⟩
  obtain ⟨t, ht, hq⟩ := hb cd A ou s H xs q y (hr.deeper _) hsp
  have J : Inv (cxOf cx pr wo fr mg ba N qual scope f cd A ou s H y) [] (start N xs) H s1 := inv_start sc hr.hd e0 hl rv xx
  refine wpAny_mono (ht.run [] s1 (start N xs) H _ J hq) (fun fl s2 hs => ?_) fun e s2 hs => hs
  match fl, hs with
  | .ret u, ⟨v, σ2, H2, J2, r2, q2⟩ => exact ⟨v, H2, J2.os, J2.bare, J2.base, J2.hok, r2, q2⟩
  | .next, ⟨σ2, H2, J2, q2⟩ => exact ⟨V.non, H2, J2.os, J2.bare, J2.base, J2.hok, (rfl : Value.none = Value.none), q2⟩
  | .brk, ⟨_, _, _, z⟩ => exact z.elim
  | .cont, ⟨_, _, _, z⟩ => exact z.elim

/-- the law at the heap behind the top -/
theorem law_callG {fa a : Addr} {x : Str} {s₁ : Shared} {vs : List Value} {ns : List Int} {mb : Str → Option Value}
    (inK : fr.In s₁.heap) (nsg : s₁.heap.Ns mainGlobals mg) (nsb : s₁.heap.Ns builtinsNs mb) (boot : ∀ z : Str, z ≠ "__name__" → mb z = bootBuiltins z) (nolim : s₁.heap.NoLimit) (gens : s₁.gens = #[])
    (scr : s₁.heap.get? a = some { cls := .type "list", data := .seq vs.toArray }) (are : IntsAre vs ns) (few : ns.length ≤ sizeLine) (hr : RoomG k callerA)
    (F : ∀ base : Heap, fr.In base → base.Ns mainGlobals mg → FnG pr wo fr mg base cx k fa fd [x] sp) (bnd : ∀ (s : Shared) (u : Value), BindsTo s fd ⟨[u], []⟩ [(x, u)])
    (hsp : ∀ H : Hp, Only H → SqL fr H a (ns.map V.int) → sp [.ref a] H (fun v _ => v = .bl true) fun _ _ _ => False)
    (hcx : ∀ H e s2, cx [] H s₁ (fun _ _ _ => False) e s2 → False) :
    codeAny (model pr wo) callerA (.call (.ref fa) ⟨[.ref a], []⟩) (fun r s2 => r = .ok (.ret (.bool true)) ∧ OldK s₁.heap s2.heap ∧ s2.os = s₁.os ∧ AllBare s2.gens) s₁ := by
  have same := vals_ints are
  have many := are.length
  have go : ∀ G : Hp, Only G → SqL fr G a (ns.map V.int) → HOk pr wo G s₁.heap → (∀ b, G b ≠ none → b = a) → (G a ≠ none → fr.lookup a = none) →
      codeAny (model pr wo) callerA (.call (.ref fa) ⟨[.ref a], []⟩) (fun r s2 => r = .ok (.ret (.bool true)) ∧ OldK s₁.heap s2.heap ∧ s2.os = s₁.os ∧ AllBare s2.gens) s₁ := by
    intro G only sq hok mine notK
    have seen : ∀ {b : Addr} {o : Obj}, s₁.heap.get? b = some o → G b = none → (hidT s₁.heap G).get? b = some o := fun z n => hidT_get z n
    have noDict : ∀ {b : Addr} {o : Obj} {es : Array DictEntry} {n : Nat}, s₁.heap.get? b = some o → o.data = .dict es n → G b = none := by
      intro b o es n z dz
      by_cases c : G b = none
      · exact c
      · rw [mine b c, scr] at z
        cases z
        cases (show Data.seq vs.toArray _ = Data.dict es n from dz)
    have ns2 : ∀ {b : Addr} {m : Str → Option Value}, s₁.heap.Ns b m → (hidT s₁.heap G).Ns b m := fun ⟨o, es, n, z, dz, rest⟩ => ⟨o, es, n, seen z (noDict z dz), dz, rest⟩
    have inB : fr.In (hidT s₁.heap G) := by
      intro b o z
      refine seen (inK b o z) ?_
      by_cases c : G b = none
      · exact c
      · have hba := mine b c
        subst hba
        rw [notK c] at z
        cases z
    obtain ⟨ml, l1, l2⟩ := nolim
    have md : Mod fr mg (hidT s₁.heap G) := ⟨inB, ns2 nsg, ⟨mb, ns2 nsb, boot⟩, ⟨ml, ns2 l1, l2⟩⟩
    have e0 : Env0 pr wo fr mg (hidT s₁.heap G) callerA [] s₁ G := ⟨rfl, md, fun b o z => of_hidT z, Nat.le_of_eq (hidT_size _ _), trivial, fun b hb => (nomatch (show b ∈ ([] : List Addr) from hb)), hok, .of_eq gens⟩
    refine codeAny_mono ((F _ inB (ns2 nsg)).run callerA [] s₁ G ⟨[.ref a], []⟩ [.ref a] [.ref a] _ _ hr e0 (bnd s₁ (.ref a)) (.cons rfl .nil) (hsp G only sq)) fun out s2 z => ?_
    match out, z with
    | .error e, z => exact (hcx G e s2 z).elim
    | .ok .next, z => exact z.elim
    | .ok .brk, z => exact z.elim
    | .ok .cont, z => exact z.elim
    | .ok (.ret u), ⟨v, G2, os, bare, un, hok2, rv, qv⟩ =>
      have qv2 : v = .bl true := qv
      subst qv2
      cases (show u = Value.bool true from rv)
      refine ⟨rfl, OldK.of_keep fun b o z => ?_, os, bare⟩
      cases c : G b with
      | none => exact un.keep b o z c (fun y => nomatch (show b ∈ ([] : List Addr) from y)) (by simp)
      | some t =>
        rcases only b with y | ⟨ob, ys, y⟩
        · rw [c] at y
          cases y
        · obtain ⟨y1, _⟩ := hok b _ y
          obtain ⟨y2, _⟩ := hok2 b _ (un.frzs b ob _ y)
          rw [z] at y1
          cases y1
          exact y2
  cases held : fr.lookup a with
  | some o =>
    have z := inK a o held
    rw [scr] at z
    cases z
    exact go (fun _ => none) (fun _ => .inl rfl) (.inr ⟨_, vs.toArray, _, held, rfl, rfl, rfl, by rw [List.size_toArray, many]; exact few, by simpa using same⟩) (fun b u y => nomatch (show (none : Option HO) = some u from y)) (fun b y => absurd rfl y) fun y => absurd rfl y
  | none =>
    refine go (fun b => if b = a then some (.frz { cls := .type "list", data := .seq vs.toArray } (.lst (ns.map V.int))) else none) (fun b => ?_) (.inl (.inr ⟨{ cls := .type "list", data := .seq vs.toArray }, if_pos rfl⟩)) (fun b u y => ?_) (fun b y => ?_) fun _ => held
    · by_cases c : b = a
      · exact .inr ⟨_, _, if_pos c⟩
      · exact .inl (if_neg c)
    · by_cases c : b = a
      · cases (if_pos c).symm.trans y
        subst c
        exact ⟨scr, by rw [List.length_map]; exact few, vs, _, same, scr⟩
      · cases (if_neg c).symm.trans y
    · by_cases c : b = a
      · exact c
      · exact absurd (if_neg c) y
end
end DL

/-! The data layer: Python values as trees of data, mutable lists in a small store; readings without a heap. -/
namespace DL
open PySem PySem.Spec PyProof.Rows L2

/-- what an object of the store is, beside a list: a dict (its keys tuples or not), an instance of a class -/
inductive Kd where
  | b (t : Bool) | ins (c : Str)
  /-- a dict whose keys are tuples of numbers, truths, tuples; its entry: key, value, key, value .. -/
  | n
  /-- an exception that was caught -/
  | x (c : Str)
instance : Coe Bool Kd := ⟨.b⟩
inductive D where
  | non | bl (b : Bool) | int (i : Int) | str (x : Str) | lst (xs : List D) | klst (xs : List D) | tup (xs : List D) | obj (i : Nat)
  /-- a dict of the store, a frozen one; t: its keys are tuples. Its rows: .tup [key, value] -/
  | dic (t : Kd) (i : Nat) | fdic (t : Kd) (rows : List D)
  /-- a tuple of the module's head -/
  | gtup (xs : List D)

/-- a state of the frozen part and of the addresses of the store's lists -/
structure Wd where
  G : Hp
  as : List Addr
  /-- lists that are being made: nobody else sees them -/
  hid : List (Addr × List V) := []
  /-- which of the store's objects are dicts (keys tuples or not) -/
  dk : Addr → Option Kd := fun _ => none
  /-- dicts that are being walked: as they stand -/
  lk : Addr → Option (Obj × HO) := fun _ => none
abbrev Sto := List (List D)
abbrev Env := List (Option D)

/-- a key of a dict -/
def keyD : D → Option Key
  | .int i => some (.inl i)
  | .str x => some (.inr x)
  | _ => none
def keysD : List D → Option (List Key)
  | [] => some []
  | d :: r => match keyD d, keysD r with
    | some k, some ks => some (k :: ks)
    | _, _ => none
def tkeyD : D → Option (List Key)
  | .tup xs => keysD xs
  | _ => none
/-! keys that are tuples within tuples -/
mutual
def nkD : D → Option PySem.NestedKey
  | .non => some .none
  | .bl b => some (.num (if b = true then 1 else 0))
  | .int i => some (.num i)
  | .tup xs => match nkDs xs with
    | some ks => some (.tup ks)
    | none => none
  | .str _ | .lst _ | .klst _ | .obj _ | .dic _ _ | .fdic _ _ | .gtup _ => none
def nkDs : List D → Option (List PySem.NestedKey)
  | [] => some []
  | x :: r => match nkD x, nkDs r with
    | some k, some ks => some (k :: ks)
    | _, _ => none
end
/-- such a key -/
def nkT (d : D) : Option PySem.NestedKey := match d with
  | .tup _ => match nkD d with
    | some y => if y.depth ≤ 8 then some y else none
    | none => none
  | _ => none
/-- the keys of key, value, key, value .. -/
def nks : List D → Option (List PySem.NestedKey)
  | [] => some []
  | [_] => none
  | k :: _ :: r => match nkT k, nks r with
    | some y, some ys => some (y :: ys)
    | _, _ => none
mutual
def hN : PySem.NestedKey → Int
  | .none => reduceHash 0xFCA86420
  | .num i => hashInt i
  | .text _ => 0
  | .tup ks => reduceHash (Builtin.Tuple.tupleHashOf (hNs ks))
def hNs : List PySem.NestedKey → List Int
  | [] => []
  | k :: ks => hN k :: hNs ks
end
def entN : List PySem.NestedKey → List Value → List DictEntry
  | y :: ys, k :: u :: us => ⟨hN y, k, u⟩ :: entN ys us
  | _, _ => []
def NdRaw (h : Heap) (a : Addr) (ys : List PySem.NestedKey) (us : List Value) : Prop :=
  ∃ o es ep, h.get? a = some o ∧ o.ExactDict ∧ o.data = .dict es ep ∧ es.toList = entN ys us
/-- such a dict at a -/
def ndO (a : Addr) (ys : List PySem.NestedKey) (vs : List V) : HO := .ext fun h => ∃ us, Vals vs us ∧ NdRaw h a ys us ∧ (a == sysModules) = false ∧ ys.Nodup ∧ vs.length ≤ 2 * sizeLine
def okTy : List String := ["int", "bool", "str", "list", "tuple"]
/-- what of the text a class must have whose instances are handed about -/
structure ClsT (K : PySem.W.Frag) (c : Str) : Prop where
  cls : Cls K (He.ga K c)
  ha : PySem.W.findIn K (.ref (He.ga K c)) "__class__" = some (some (.builtin "object.__class__"))
  hn : PySem.W.specialIn K (.builtin "object.__class__") "__get__" = some (some (.builtin "getset_descriptor.__get__"))
  htk : PySem.W.takesIn K (.builtin "object.__class__") = some true
  hm : PySem.W.mroIn K (He.ga K c) (.type "object") = some true
  no : ∀ b ∈ okTy, PySem.W.kitOne K (.ref (He.ga K c)) (.type b) = some false
/-- what of the text an exception class must have whose instances are caught -/
structure ExcN (K : PySem.W.Frag) (c : Str) : Prop where
  cl : (PySem.W.clsIn K (He.ga K c)).isSome = true
  hg : PySem.W.findIn K (.ref (He.ga K c)) "__getattribute__" = some (some (.builtin "BaseException.__getattribute__"))
  hk : PySem.W.findIn K (.ref (He.ga K c)) "__getattr__" = some none
  hs : PySem.W.subIn K (.ref (He.ga K c)) (.type "BaseException") = some true
  ha : PySem.W.findIn K (.ref (He.ga K c)) "__class__" = some (some (.builtin "object.__class__"))
  hn : PySem.W.specialIn K (.builtin "object.__class__") "__get__" = some (some (.builtin "getset_descriptor.__get__"))
  htk : PySem.W.takesIn K (.builtin "object.__class__") = some true
  hm : PySem.W.mroIn K (He.ga K c) (.type "object") = some true
  no : ∀ b ∈ okTy, PySem.W.kitOne K (.ref (He.ga K c)) (.type b) = some false
  hd : PySem.W.hasDictIn K (He.ga K c) = true
  wn : PySem.W.findIn K (.ref (He.ga K c)) "what" = some none
def KdT (K : PySem.W.Frag) : Kd → Prop
  | .b _ => True
  | .ins c => ClsT K c
  | .n => True
  | .x _ => True
/-- a caught exception: its class, its dict -/
def exh (a C d : Addr) : HO := .ext fun h => ∃ o vs, h.get? a = some o ∧ Zc (.ref C) (some d) o ∧ o.data = .fields vs
/-- rows as an instance's fields -/
def fsOf : List (Key × V) → List (Str × V)
  | [] => []
  | (.inr s, v) :: r => (s, v) :: fsOf r
  | (.inl _, _) :: r => fsOf r
mutual
def Rep (K : PySem.W.Frag) (w : Wd) : D → V → Prop
  | .non, v => v = .non
  | .bl b, v => v = .bl b
  | .int i, v => v = .int i
  | .str x, v => v = .str x
  | .lst xs, v => ∃ a vs, v = .ref a ∧ w.G a = some (.lst vs) ∧ Reps K w xs vs
  | .klst xs, v => ∃ a vs, v = .ref a ∧ SqL K w.G a vs ∧ Reps K w xs vs
  | .tup xs, v => ∃ a vs, v = .ref a ∧ w.G a = some (.tup vs) ∧ Reps K w xs vs
  | .gtup xs, v => ∃ a vs, v = .ref a ∧ SqT K w.G a vs ∧ Reps K w xs vs
  | .obj i, v => ∃ a, v = .ref a ∧ w.as[i]? = some a ∧ w.dk a = none
  | .dic t i, v => ∃ a, v = .ref a ∧ w.as[i]? = some a ∧ w.dk a = some t ∧ KdT K t
  | .fdic (.b false) rows, v => ∃ a kvs, v = .ref a ∧ w.G a = some (.dK kvs) ∧ kvs.length ≤ sizeLine ∧ RowsK K w rows kvs
  | .fdic (.b true) rows, v => ∃ a kvs, v = .ref a ∧ w.G a = some (.dT kvs) ∧ kvs.length ≤ sizeLine ∧ RowsT K w rows kvs
  | .fdic (.ins c) rows, v => ∃ a dx kvs, v = .ref a ∧ w.G a = some (.ins (He.ga K c) dx (fsOf kvs)) ∧ ClsT K c ∧ RowsK K w rows kvs
  | .fdic (.x c) rows, v => ∃ a dx kvs, v = .ref a ∧ w.G a = some (exh a (He.ga K c) dx) ∧ w.G dx = some (.xd (fsOf kvs)) ∧ ExcN K c ∧ RowsK K w rows kvs
  | .fdic .n rows, v => ∃ a b ys vs, v = .ref a ∧ w.G a = some (ndO b ys vs) ∧ nks rows = some ys ∧ Reps K w rows vs
def RowsK (K : PySem.W.Frag) (w : Wd) : List D → List (Key × V) → Prop
  | [], kvs => kvs = []
  | .tup [k, d] :: ds, kvs => ∃ y v r, kvs = (y, v) :: r ∧ keyD k = some y ∧ Rep K w d v ∧ RowsK K w ds r
  | _ :: _, _ => False
def RowsT (K : PySem.W.Frag) (w : Wd) : List D → List (List Key × V) → Prop
  | [], kvs => kvs = []
  | .tup [k, d] :: ds, kvs => ∃ y v r, kvs = (y, v) :: r ∧ tkeyD k = some y ∧ Rep K w d v ∧ RowsT K w ds r
  | _ :: _, _ => False
def Reps (K : PySem.W.Frag) (w : Wd) : List D → List V → Prop
  | [], vs => vs = []
  | d :: ds, vs => ∃ v r, vs = v :: r ∧ Rep K w d v ∧ Reps K w ds r
end

structure Pre (w w' : Wd) : Prop where
  as : ∃ m, w'.as = w.as ++ m
  dk : ∀ a ∈ w.as, w'.dk a = w.dk a
theorem Pre.eq {w w' : Wd} (h : w'.as = w.as) (k : w'.dk = w.dk) : Pre w w' := ⟨⟨[], by rw [h]; simp⟩, fun _ _ => by rw [k]⟩
structure Le0 (w w' : Wd) : Prop where
  same : Same w.G w'.G
  pre : Pre w w'
  lk : ∀ a ∈ w.as, w'.lk a = w.lk a
structure Le (w w' : Wd) : Prop extends Le0 w w' where
  hid : w'.hid = w.hid
theorem Le0.refl (w : Wd) : Le0 w w := ⟨Same.refl _, .eq rfl rfl, fun _ _ => rfl⟩
theorem Le0.trans {w1 w2 w3 : Wd} (a : Le0 w1 w2) (b : Le0 w2 w3) : Le0 w1 w3 := by
  obtain ⟨⟨m, e⟩, p⟩ := a.pre
  obtain ⟨⟨n, f⟩, q⟩ := b.pre
  exact ⟨a.same.trans b.same, ⟨⟨m ++ n, by rw [f, e, List.append_assoc]⟩, fun x hx => (q x (by rw [e]; exact List.mem_append_left _ hx)).trans (p x hx)⟩, fun x hx => (b.lk x (by rw [e]; exact List.mem_append_left _ hx)).trans (a.lk x hx)⟩
theorem Le.refl (w : Wd) : Le w w := ⟨.refl w, rfl⟩
theorem Le.trans {w1 w2 w3 : Wd} (a : Le w1 w2) (b : Le w2 w3) : Le w1 w3 := ⟨a.toLe0.trans b.toLe0, b.hid.trans a.hid⟩
theorem as_get {w w' : Wd} (l : Pre w w') {i : Nat} {a : Addr} (h : w.as[i]? = some a) : w'.as[i]? = some a := by
  obtain ⟨⟨m, e⟩, _⟩ := l
  rw [e, List.getElem?_append_left (List.getElem?_eq_some_iff.mp h).1]
  exact h
theorem seqT_mono {K : PySem.W.Frag} {H H' : Hp} {a : Addr} {xs : List V} (e : Same H H') (h : SqT K H a xs) : SqT K H' a xs := by
  rcases h with (h | ⟨o, h⟩) | h
  · exact .inl (.inl (e _ _ h))
  · exact .inl (.inr ⟨o, e _ _ h⟩)
  · exact .inr h

section
variable {K : PySem.W.Frag} {w w' : Wd}
mutual
theorem Rep.mono' (s : Same w.G w'.G) (l : Pre w w') : ∀ (d : D) (v : V), Rep K w d v → Rep K w' d v
  | .non, _, h => by simpa only [Rep] using h
  | .bl _, _, h => by simpa only [Rep] using h
  | .int _, _, h => by simpa only [Rep] using h
  | .str _, _, h => by simpa only [Rep] using h
  | .lst xs, v, h => by
    simp only [Rep] at h ⊢
    obtain ⟨a, vs, e, q, r⟩ := h
    exact ⟨a, vs, e, s _ _ q, Reps.mono' s l xs vs r⟩
  | .klst xs, v, h => by
    simp only [Rep] at h ⊢
    obtain ⟨a, vs, e, q, r⟩ := h
    exact ⟨a, vs, e, s.seq q, Reps.mono' s l xs vs r⟩
  | .tup xs, v, h => by
    simp only [Rep] at h ⊢
    obtain ⟨a, vs, e, q, r⟩ := h
    exact ⟨a, vs, e, s _ _ q, Reps.mono' s l xs vs r⟩
  | .gtup xs, v, h => by
    simp only [Rep] at h ⊢
    obtain ⟨a, vs, e, q, r⟩ := h
    exact ⟨a, vs, e, seqT_mono s q, Reps.mono' s l xs vs r⟩
  | .obj i, v, h => by
    simp only [Rep] at h ⊢
    obtain ⟨a, e, q, q2⟩ := h
    exact ⟨a, e, as_get l q, (l.dk a (List.mem_of_getElem? q)).trans q2⟩
  | .dic t i, v, h => by
    simp only [Rep] at h ⊢
    obtain ⟨a, e, q, q2, q3⟩ := h
    exact ⟨a, e, as_get l q, (l.dk a (List.mem_of_getElem? q)).trans q2, q3⟩
  | .fdic (.ins c) rows, v, h => by
    simp only [Rep] at h ⊢
    obtain ⟨a, dx, kvs, e, q, n, r⟩ := h
    exact ⟨a, dx, kvs, e, s _ _ q, n, RowsK.mono' s l rows kvs r⟩
  | .fdic (.x c) rows, v, h => by
    simp only [Rep] at h ⊢
    obtain ⟨a, dx, kvs, e, q, q2, n, r⟩ := h
    exact ⟨a, dx, kvs, e, s _ _ q, s _ _ q2, n, RowsK.mono' s l rows kvs r⟩
  | .fdic .n rows, v, h => by
    simp only [Rep] at h ⊢
    obtain ⟨a, b, ys, vs, e, q, n, r⟩ := h
    exact ⟨a, b, ys, vs, e, s _ _ q, n, Reps.mono' s l rows vs r⟩
  | .fdic (.b false) rows, v, h => by
    simp only [Rep] at h ⊢
    obtain ⟨a, kvs, e, q, n, r⟩ := h
    exact ⟨a, kvs, e, s _ _ q, n, RowsK.mono' s l rows kvs r⟩
  | .fdic (.b true) rows, v, h => by
    simp only [Rep] at h ⊢
    obtain ⟨a, kvs, e, q, n, r⟩ := h
    exact ⟨a, kvs, e, s _ _ q, n, RowsT.mono' s l rows kvs r⟩
theorem RowsK.mono' (s : Same w.G w'.G) (l : Pre w w') : ∀ (ds : List D) (kvs : List (Key × V)), RowsK K w ds kvs → RowsK K w' ds kvs
  | [], _, h => by simpa only [RowsK] using h
  | .tup [k, d] :: ds, kvs, h => by
    simp only [RowsK] at h ⊢
    obtain ⟨y, v, r, e, h1, h2, h3⟩ := h
    exact ⟨y, v, r, e, h1, Rep.mono' s l d v h2, RowsK.mono' s l ds r h3⟩
  | .tup [] :: _, _, h => by simp only [RowsK] at h
  | .tup [_] :: _, _, h => by simp only [RowsK] at h
  | .tup (_ :: _ :: _ :: _) :: _, _, h => by simp only [RowsK] at h
  | .non :: _, _, h => by simp only [RowsK] at h
  | .bl _ :: _, _, h => by simp only [RowsK] at h
  | .int _ :: _, _, h => by simp only [RowsK] at h
  | .str _ :: _, _, h => by simp only [RowsK] at h
  | .lst _ :: _, _, h => by simp only [RowsK] at h
  | .klst _ :: _, _, h => by simp only [RowsK] at h
  | .obj _ :: _, _, h => by simp only [RowsK] at h
  | .dic _ _ :: _, _, h => by simp only [RowsK] at h
  | .fdic _ _ :: _, _, h => by simp only [RowsK] at h
  | .gtup _ :: _, _, h => by simp only [RowsK] at h
theorem RowsT.mono' (s : Same w.G w'.G) (l : Pre w w') : ∀ (ds : List D) (kvs : List (List Key × V)), RowsT K w ds kvs → RowsT K w' ds kvs
  | [], _, h => by simpa only [RowsT] using h
  | .tup [k, d] :: ds, kvs, h => by
    simp only [RowsT] at h ⊢
    obtain ⟨y, v, r, e, h1, h2, h3⟩ := h
    exact ⟨y, v, r, e, h1, Rep.mono' s l d v h2, RowsT.mono' s l ds r h3⟩
  | .tup [] :: _, _, h => by simp only [RowsT] at h
  | .tup [_] :: _, _, h => by simp only [RowsT] at h
  | .tup (_ :: _ :: _ :: _) :: _, _, h => by simp only [RowsT] at h
  | .non :: _, _, h => by simp only [RowsT] at h
  | .bl _ :: _, _, h => by simp only [RowsT] at h
  | .int _ :: _, _, h => by simp only [RowsT] at h
  | .str _ :: _, _, h => by simp only [RowsT] at h
  | .lst _ :: _, _, h => by simp only [RowsT] at h
  | .klst _ :: _, _, h => by simp only [RowsT] at h
  | .obj _ :: _, _, h => by simp only [RowsT] at h
  | .dic _ _ :: _, _, h => by simp only [RowsT] at h
  | .fdic _ _ :: _, _, h => by simp only [RowsT] at h
  | .gtup _ :: _, _, h => by simp only [RowsT] at h
theorem Reps.mono' (s : Same w.G w'.G) (l : Pre w w') : ∀ (ds : List D) (vs : List V), Reps K w ds vs → Reps K w' ds vs
  | [], _, h => by simpa only [Reps] using h
  | d :: ds, vs, h => by
    simp only [Reps] at h ⊢
    obtain ⟨v, r, e, h1, h2⟩ := h
    exact ⟨v, r, e, Rep.mono' s l d v h1, Reps.mono' s l ds r h2⟩
end
theorem Rep.mono (l : Le w w') (d : D) (v : V) (h : Rep K w d v) : Rep K w' d v := Rep.mono' l.same l.pre d v h
theorem Reps.mono (l : Le w w') (ds : List D) (vs : List V) (h : Reps K w ds vs) : Reps K w' ds vs := Reps.mono' l.same l.pre ds vs h
theorem Reps.nil : Reps K w [] [] := by simp only [Reps]
theorem Reps.cons {d : D} {ds : List D} {v : V} {vs : List V} (h : Rep K w d v) (r : Reps K w ds vs) : Reps K w (d :: ds) (v :: vs) := by
  simp only [Reps]
  exact ⟨v, vs, rfl, h, r⟩
theorem Reps.inv {d : D} {ds : List D} {vs : List V} (h : Reps K w (d :: ds) vs) : ∃ v r, vs = v :: r ∧ Rep K w d v ∧ Reps K w ds r := by
  simpa only [Reps] using h
theorem Reps.inv0 {vs : List V} (h : Reps K w [] vs) : vs = [] := by simpa only [Reps] using h
theorem Reps.length : ∀ {ds : List D} {vs : List V}, Reps K w ds vs → vs.length = ds.length
  | [], vs, h => by rw [h.inv0]; rfl
  | d :: ds, vs, h => by
    obtain ⟨v, r, rfl, _, h2⟩ := h.inv
    simp [h2.length]
theorem Reps.get : ∀ {ds : List D} {vs : List V} {i : Nat} {d : D}, Reps K w ds vs → ds[i]? = some d → ∃ v, vs[i]? = some v ∧ Rep K w d v
  | [], _, _, _, _, e => by simp at e
  | d :: ds, vs, 0, _, h, e => by
    obtain ⟨v, r, rfl, h1, _⟩ := h.inv
    simp at e
    subst e
    exact ⟨v, rfl, h1⟩
  | d :: ds, vs, i + 1, x, h, e => by
    obtain ⟨v, r, rfl, _, h2⟩ := h.inv
    obtain ⟨u, e1, e2⟩ := h2.get (i := i) (d := x) (by simpa using e)
    exact ⟨u, by simpa using e1, e2⟩
theorem Reps.getv : ∀ {ds : List D} {vs : List V} {i : Nat} {v : V}, Reps K w ds vs → vs[i]? = some v → ∃ d, ds[i]? = some d ∧ Rep K w d v
  | [], _, _, _, h, e => by rw [h.inv0] at e; simp at e
  | d :: ds, vs, 0, _, h, e => by
    obtain ⟨v, r, rfl, h1, _⟩ := h.inv
    simp at e
    subst e
    exact ⟨d, rfl, h1⟩
  | d :: ds, vs, i + 1, x, h, e => by
    obtain ⟨v, r, rfl, _, h2⟩ := h.inv
    obtain ⟨u, e1, e2⟩ := h2.getv (i := i) (v := x) (by simpa using e)
    exact ⟨u, by simpa using e1, e2⟩
theorem Reps.append : ∀ {ds es : List D} {vs us : List V}, Reps K w ds vs → Reps K w es us → Reps K w (ds ++ es) (vs ++ us)
  | [], _, _, _, h, g => by rw [h.inv0]; exact g
  | d :: ds, es, vs, us, h, g => by
    obtain ⟨v, r, rfl, h1, h2⟩ := h.inv
    exact .cons h1 (h2.append g)
theorem Reps.set : ∀ {ds : List D} {vs : List V} (i : Nat) {d : D} {v : V}, Reps K w ds vs → Rep K w d v → Reps K w (ds.set i d) (vs.set i v)
  | [], _, _, _, _, h, _ => by rw [h.inv0]; exact .nil
  | _ :: _, vs, 0, _, _, h, g => by
    obtain ⟨v, r, rfl, h1, h2⟩ := h.inv
    exact .cons g h2
  | _ :: _, vs, i + 1, _, _, h, g => by
    obtain ⟨v, r, rfl, h1, h2⟩ := h.inv
    exact .cons h1 (h2.set i g)
theorem Reps.take : ∀ {ds : List D} {vs : List V} (n : Nat), Reps K w ds vs → Reps K w (ds.take n) (vs.take n)
  | [], _, n, h => by rw [h.inv0]; simp; exact .nil
  | _ :: _, vs, 0, h => by simp; exact .nil
  | _ :: _, vs, n + 1, h => by
    obtain ⟨v, r, rfl, h1, h2⟩ := h.inv
    exact .cons h1 (h2.take n)
theorem Reps.drop : ∀ {ds : List D} {vs : List V} (n : Nat), Reps K w ds vs → Reps K w (ds.drop n) (vs.drop n)
  | [], _, n, h => by rw [h.inv0]; simp; exact .nil
  | _ :: _, vs, 0, h => h
  | _ :: _, vs, n + 1, h => by
    obtain ⟨v, r, rfl, h1, h2⟩ := h.inv
    exact h2.drop n
theorem Reps.rep {ds : List D} {vs : List V} (h : Reps K w ds vs) : ∀ k : Nat, Reps K w (List.replicate k ds).flatten (List.replicate k vs).flatten
  | 0 => .nil
  | k + 1 => by
    rw [List.replicate_succ, List.replicate_succ, List.flatten_cons, List.flatten_cons]
    exact h.append (h.rep k)
theorem Reps.of_ints : ∀ (ns : List Int), Reps K w (ns.map D.int) (ns.map V.int)
  | [] => .nil
  | n :: ns => .cons (by simp only [Rep]) (Reps.of_ints ns)
theorem Reps.bls : ∀ {ns : List Bool} {vs : List V}, Reps K w (ns.map D.bl) vs → vs = ns.map V.bl
  | [], _, h => h.inv0
  | n :: ns, vs, h => by
    obtain ⟨v, r, rfl, h1, h2⟩ := Reps.inv h
    simp only [Rep] at h1
    rw [h1, h2.bls]
    rfl
theorem Reps.strs : ∀ {ns : List Str} {vs : List V}, Reps K w (ns.map D.str) vs → vs = ns.map V.str
  | [], _, h => h.inv0
  | n :: ns, vs, h => by
    obtain ⟨v, r, rfl, h1, h2⟩ := Reps.inv h
    simp only [Rep] at h1
    rw [h1, h2.strs]
    rfl
end

/-! ### the state -/
def SizeOk : HO → Prop
  | .lst xs => xs.length ≤ sizeLine
  | .tup xs => xs.length ≤ sizeLine
  | .frz _ (.lst xs) => xs.length ≤ sizeLine
  | .frz _ (.tup xs) => xs.length ≤ sizeLine
  | _ => True
/-- what an object of the store holds -/
def EntP (K : PySem.W.Frag) (w : Wd) : Option Kd → List D → HO → Prop
  | none, xs, o => ∃ vs, o = .lst vs ∧ vs.length ≤ sizeLine ∧ Reps K w xs vs
  | some (.b false), xs, o => ∃ kvs, o = .dK kvs ∧ kvs.length ≤ sizeLine ∧ RowsK K w xs kvs
  | some (.b true), xs, o => ∃ kvs, o = .dT kvs ∧ kvs.length ≤ sizeLine ∧ RowsT K w xs kvs
  | some (.ins c), xs, o => ∃ dx kvs, o = .ins (He.ga K c) dx (fsOf kvs) ∧ RowsK K w xs kvs
  | some (.x _), _, _ => False
  | some .n, xs, o => ∃ b ys vs, o = ndO b ys vs ∧ nks xs = some ys ∧ Reps K w xs vs
/-- what stands behind the rows of a dict that is being walked -/
def lockD : D := .fdic (.b false) [.non]
/-- each row is a pair -/
def okRows : List D → Bool
  | [] => true
  | .tup [_, _] :: r => okRows r
  | _ => false
theorem okRows_app : ∀ {a b : List D}, okRows (a ++ b) = (okRows a && okRows b)
  | [], b => by simp [okRows]
  | .tup [_, _] :: r, b => by simp only [List.cons_append, okRows, okRows_app (a := r)]
  | .tup [] :: _, _ => by simp [okRows]
  | .tup [_] :: _, _ => by simp [okRows]
  | .tup (_ :: _ :: _ :: _) :: _, _ => by simp [okRows]
  | .non :: _, _ => by simp [okRows]
  | .bl _ :: _, _ => by simp [okRows]
  | .int _ :: _, _ => by simp [okRows]
  | .str _ :: _, _ => by simp [okRows]
  | .lst _ :: _, _ => by simp [okRows]
  | .klst _ :: _, _ => by simp [okRows]
  | .obj _ :: _, _ => by simp [okRows]
  | .dic _ _ :: _, _ => by simp [okRows]
  | .fdic _ _ :: _, _ => by simp [okRows]
  | .gtup _ :: _, _ => by simp [okRows]
theorem okRows_map {α : Type} (f g : α → D) : ∀ xs : List α, okRows (xs.map fun x => .tup [f x, g x]) = true
  | [] => rfl
  | x :: r => by simp only [List.map_cons, okRows, okRows_map f g r]
abbrev Lk := Option (Obj × HO)
def EntL (K : PySem.W.Frag) (w : Wd) (k : Option Kd) (L : Lk) (xs : List D) (o : HO) : Prop := k = some (.b false) ∧ ∃ rows ob kvs, L = some (ob, .dK kvs) ∧ xs = rows ++ [lockD] ∧ o = .frz ob (.dK kvs) ∧ kvs.length ≤ sizeLine ∧ RowsK K w rows kvs
/-- .. where it is a dict with keys of tuples -/
def EntM (K : PySem.W.Frag) (w : Wd) (k : Option Kd) (L : Lk) (xs : List D) (o : HO) : Prop := k = some .n ∧ ∃ rows ob b ys vs, L = some (ob, ndO b ys vs) ∧ xs = rows ++ [lockD] ∧ o = .frz ob (ndO b ys vs) ∧ nks rows = some ys ∧ Reps K w rows vs
def EntR (K : PySem.W.Frag) (w : Wd) (k : Option Kd) (L : Lk) (xs : List D) (o : HO) : Prop := (L = none ∧ EntP K w k xs o) ∨ EntL K w k L xs o ∨ EntM K w k L xs o
theorem EntR.lst {K : PySem.W.Frag} {w : Wd} {L : Lk} {xs : List D} {o : HO} (h : EntR K w none L xs o) : ∃ vs, o = .lst vs ∧ vs.length ≤ sizeLine ∧ Reps K w xs vs := h.elim And.right fun z => z.elim (fun z => nomatch z.1) fun z => nomatch z.1
theorem EntR.dT {K : PySem.W.Frag} {w : Wd} {L : Lk} {xs : List D} {o : HO} (h : EntR K w (some (.b true)) L xs o) : ∃ kvs, o = .dT kvs ∧ kvs.length ≤ sizeLine ∧ RowsT K w xs kvs := h.elim And.right fun z => z.elim (fun z => nomatch z.1) fun z => nomatch z.1
theorem lock_no {rows : List D} (ok : okRows (rows ++ [lockD]) = true) : False := by
  rw [okRows_app] at ok
  simp [okRows, lockD] at ok
theorem EntR.dK {K : PySem.W.Frag} {w : Wd} {L : Lk} {xs : List D} {o : HO} (h : EntR K w (some (.b false)) L xs o) (ok : okRows xs = true) : ∃ kvs, o = .dK kvs ∧ kvs.length ≤ sizeLine ∧ RowsK K w xs kvs := h.elim And.right fun z => z.elim (fun ⟨_, rows, ob, kvs, _, e, _⟩ => (lock_no (e ▸ ok)).elim) fun z => nomatch z.1
theorem EntR.ins {K : PySem.W.Frag} {w : Wd} {c : Str} {L : Lk} {xs : List D} {o : HO} (h : EntR K w (some (.ins c)) L xs o) : ∃ dx kvs, o = .ins (He.ga K c) dx (fsOf kvs) ∧ RowsK K w xs kvs := h.elim And.right fun z => z.elim (fun z => nomatch z.1) fun z => nomatch z.1
theorem EntM.odd {K : PySem.W.Frag} {w : Wd} {k : Option Kd} {L : Lk} {xs : List D} {o : HO} (h : EntM K w k L xs o) (ok : xs.length % 2 = 0) : False := by
  obtain ⟨_, rows, _, _, ys, _, _, e, _, n, _⟩ := h
  have ev : ∀ (n : Nat) {rows : List D} {ys : List PySem.NestedKey}, rows.length = n → nks rows = some ys → rows.length % 2 = 0 := by
    intro n
    induction n using Nat.strongRecOn with
    | ind n ih =>
      intro rows ys e h
      match rows, e, h with
      | [], _, _ => rfl
      | [_], _, h => cases h
      | a :: b :: r, e, h =>
        simp only [nks] at h
        cases z : nks r with
        | none => rw [z] at h; cases y : nkT a <;> rw [y] at h <;> cases h
        | some q =>
          have := ih r.length (by simp only [List.length_cons] at e; omega) rfl z
          simp only [List.length_cons]
          omega
  have := ev _ rfl n
  rw [e, List.length_append, List.length_singleton] at ok
  omega
theorem EntR.nd {K : PySem.W.Frag} {w : Wd} {L : Lk} {xs : List D} {o : HO} (h : EntR K w (some .n) L xs o) (ok : xs.length % 2 = 0) : L = none ∧ ∃ b ys vs, o = ndO b ys vs ∧ nks xs = some ys ∧ Reps K w xs vs := h.elim id fun z => z.elim (fun z => nomatch z.1) fun z => (z.odd ok).elim
theorem EntR.un {K : PySem.W.Frag} {w : Wd} {k : Option Kd} {L : Lk} {xs : List D} {o : HO} (h : EntR K w k L xs o) (ok : k ≠ some (.b false) ∨ okRows xs = true) (hn : k ≠ some .n := by first | nofun | simp) : L = none := by
  rcases h with h | ⟨hk, rows, ob, kvs, _, e, _⟩ | h
  · exact h.1
  · rcases ok with z | z
    · exact absurd hk z
    · exact (lock_no (e ▸ z)).elim
  · exact absurd h.1 hn
theorem EntR.mono' {K : PySem.W.Frag} {w w' : Wd} (s : Same w.G w'.G) (l : Pre w w') {k : Option Kd} {L : Lk} {xs : List D} {o : HO} (h : EntR K w k L xs o) : EntR K w' k L xs o := by
  rcases h with ⟨hL, h⟩ | ⟨hk, rows, ob, kvs, e0, e1, e2, n, r⟩ | ⟨hk, rows, ob, b, ys, vs, e0, e1, e2, n, r⟩
  · refine .inl ⟨hL, ?_⟩
    match k, h with
    | none, ⟨vs, e, n, r⟩ => exact ⟨vs, e, n, Reps.mono' s l _ _ r⟩
    | some (.b false), ⟨vs, e, n, r⟩ => exact ⟨vs, e, n, RowsK.mono' s l _ _ r⟩
    | some (.b true), ⟨vs, e, n, r⟩ => exact ⟨vs, e, n, RowsT.mono' s l _ _ r⟩
    | some (.ins c), ⟨dx, vs, e, r⟩ => exact ⟨dx, vs, e, RowsK.mono' s l _ _ r⟩
    | some (.x _), h => exact h.elim
    | some .n, ⟨b, ys, vs, e, n, r⟩ => exact ⟨b, ys, vs, e, n, Reps.mono' s l _ _ r⟩
  · exact .inr (.inl ⟨hk, rows, ob, kvs, e0, e1, e2, n, RowsK.mono' s l _ _ r⟩)
  · exact .inr (.inr ⟨hk, rows, ob, b, ys, vs, e0, e1, e2, n, Reps.mono' s l _ _ r⟩)
theorem EntR.mono {K : PySem.W.Frag} {w w' : Wd} (l : Le w w') {k : Option Kd} {L : Lk} {xs : List D} {o : HO} (h : EntR K w k L xs o) : EntR K w' k L xs o := h.mono' l.same l.pre
structure Wld (K : PySem.W.Frag) (w : Wd) (st : Sto) (H : Hp) : Prop where
  same : Same w.G H
  len : w.as.length = st.length
  nd : w.as.Nodup
  at_ : ∀ (i : Nat) (a : Addr), w.as[i]? = some a → w.G a = none ∧ ∃ (xs : List D) (o : HO), st[i]? = some xs ∧ H a = some o ∧ EntR K w (w.dk a) (w.lk a) xs o
  small : ∀ a u, w.G a = some u → SizeOk u
  hidd : ∀ (a : Addr) (vs : List V), (a, vs) ∈ w.hid → w.G a = none ∧ a ∉ w.as ∧ H a = some (.lst vs)
  hnd : (w.hid.map (·.1)).Nodup

section
variable {K : PySem.W.Frag} {w w' : Wd} {st : Sto} {H : Hp}
theorem sq_small {G : Hp} {a : Addr} {vs : List V} (sm : ∀ a u, G a = some u → SizeOk u) (h : SqL K G a vs) : vs.length ≤ sizeLine := by
  rcases h with (h | ⟨o, h⟩) | ⟨o, its, n, _, _, _, _, hz, r⟩
  · exact sm _ _ h
  · exact sm _ _ h
  · have := r.length
    simp only [Array.length_toList] at this
    omega
theorem sqt_small {G : Hp} {a : Addr} {vs : List V} (sm : ∀ a u, G a = some u → SizeOk u) (h : SqT K G a vs) : vs.length ≤ sizeLine := by
  rcases h with (h | ⟨o, h⟩) | ⟨o, its, n, _, _, _, hz, r⟩
  · exact sm _ _ h
  · exact sm _ _ h
  · have := r.length
    simp only [Array.length_toList] at this
    omega
/-- the lists of the store read through -/
def deref (st : Sto) : D → D
  | .obj i => match st[i]? with
    | some xs => .lst xs
    | none => .obj i
  | .klst xs => .lst xs
  | .gtup xs => .tup xs
  | d => d
theorem deref_self {st : Sto} {d e : D} (h : deref st d = e) (n1 : ∀ xs, e ≠ .lst xs) (n2 : ∀ i, e ≠ .obj i) (n3 : ∀ xs, e ≠ .tup xs := by intro _ z; cases z) : d = e := by
  cases d with
  | gtup ys => exact (n3 _ h.symm).elim
  | klst ys => exact (n1 _ h.symm).elim
  | obj i =>
    have h' : (match st[i]? with | some xs => D.lst xs | none => D.obj i) = e := h
    split at h'
    · exact (n1 _ h'.symm).elim
    · exact (n2 _ h'.symm).elim
  | _ => exact h
/-- not for tuples of the module's head -/
def noG (d : D) (p : Prop) : Prop := match d with
  | .gtup _ => False
  | _ => p
theorem noG_of {d : D} {p : Prop} (h : noG d p) : (∀ ys, d ≠ .gtup ys) ∧ p := by
  cases d with
  | gtup _ => exact h.elim
  | _ => exact ⟨fun _ z => by (cases z), h⟩
theorem deref_tup {st : Sto} {d : D} {xs : List D} (h : deref st d = .tup xs) (n : ∀ ys, d ≠ .gtup ys) : d = .tup xs := by
  cases d with
  | gtup ys => exact (n _ rfl).elim
  | obj i =>
    have h' : (match st[i]? with | some xs => D.lst xs | none => D.obj i) = .tup xs := h
    split at h' <;> cases h'
  | klst ys => cases h
  | _ => exact h
theorem deref_tups {st : Sto} {d : D} {xs : List D} (h : deref st d = .tup xs) (st' : Sto) : deref st' d = .tup xs := by
  cases d with
  | gtup ys => exact h
  | obj i =>
    have h' : (match st[i]? with | some xs => D.lst xs | none => D.obj i) = .tup xs := h
    split at h' <;> cases h'
  | klst ys => cases h
  | _ => exact h
theorem rep_lst {d : D} {v : V} {xs : List D} (W : Wld K w st H) (R : Rep K w d v) (e : deref st d = .lst xs) :
    ∃ a vs, v = .ref a ∧ SqL K H a vs ∧ Reps K w xs vs ∧ vs.length ≤ sizeLine := by
  cases d with
  | lst ys =>
    cases e
    simp only [Rep] at R
    obtain ⟨a, vs, e1, q, r⟩ := R
    exact ⟨a, vs, e1, .of (W.same _ _ q), r, W.small _ _ q⟩
  | klst ys =>
    cases e
    simp only [Rep] at R
    obtain ⟨a, vs, e1, q, r⟩ := R
    exact ⟨a, vs, e1, W.same.seq q, r, sq_small W.small q⟩
  | obj i =>
    simp only [Rep] at R
    obtain ⟨a, e1, q, q2⟩ := R
    obtain ⟨g, ys, o, h1, h2, h3⟩ := W.at_ i a q
    rw [q2] at h3
    obtain ⟨vs, rfl, n3, h4⟩ := h3.lst
    have e2 : (match st[i]? with | some xs => D.lst xs | none => D.obj i) = .lst xs := e
    rw [h1] at e2
    cases e2
    exact ⟨a, vs, e1, .of h2, h4, n3⟩
  | _ => cases e
/-- lists that may be put together with others -/
def derefM (st : Sto) : D → Option (List D)
  | .obj i => st[i]?
  | .lst xs => some xs
  | _ => none
theorem rep_lstM {d : D} {v : V} {xs : List D} (W : Wld K w st H) (R : Rep K w d v) (e : derefM st d = some xs) :
    ∃ a vs, v = .ref a ∧ H a = some (.lst vs) ∧ Reps K w xs vs ∧ vs.length ≤ sizeLine := by
  cases d with
  | lst ys =>
    cases e
    simp only [Rep] at R
    obtain ⟨a, vs, e1, q, r⟩ := R
    exact ⟨a, vs, e1, W.same _ _ q, r, W.small _ _ q⟩
  | obj i =>
    simp only [Rep] at R
    obtain ⟨a, e1, q, q2⟩ := R
    obtain ⟨g, ys, o, h1, h2, h3⟩ := W.at_ i a q
    rw [q2] at h3
    obtain ⟨vs, rfl, n3, h4⟩ := h3.lst
    have e2 : st[i]? = some xs := e
    rw [h1] at e2
    cases e2
    exact ⟨a, vs, e1, h2, h4, n3⟩
  | _ => cases e
theorem rep_tup {d : D} {v : V} {xs : List D} (W : Wld K w st H) (R : Rep K w d v) (e : deref st d = .tup xs) :
    ∃ a vs, v = .ref a ∧ SqT K H a vs ∧ Reps K w xs vs ∧ vs.length ≤ sizeLine := by
  cases d with
  | tup ys =>
    cases e
    simp only [Rep] at R
    obtain ⟨a, vs, e1, q, r⟩ := R
    exact ⟨a, vs, e1, .of (W.same _ _ q), r, W.small _ _ q⟩
  | gtup ys =>
    cases e
    simp only [Rep] at R
    obtain ⟨a, vs, e1, q, r⟩ := R
    exact ⟨a, vs, e1, seqT_mono W.same q, r, sqt_small W.small q⟩
  | obj i =>
    have e2 : (match st[i]? with | some xs => D.lst xs | none => D.obj i) = .tup xs := e
    cases h : st[i]? with
    | none => rw [h] at e2; cases e2
    | some _ => rw [h] at e2; cases e2
  | _ => cases e
theorem Wld.free (W : Wld K w st H) {p : Addr} (h : H p = none) : w.G p = none := W.same.free h
theorem Wld.nas (W : Wld K w st H) {p : Addr} (h : H p = none) : p ∉ w.as := fun m => by
  obtain ⟨i, hi⟩ := List.getElem?_of_mem m
  obtain ⟨_, xs, o, _, e, _⟩ := W.at_ i p hi
  rw [h] at e
  cases e
/-- a new frozen object -/
def Wd.put (w : Wd) (p : Addr) (o : HO) : Wd := ⟨upd w.G p o, w.as, w.hid, w.dk, w.lk⟩
theorem Le.put {p : Addr} {o : HO} (h : w.G p = none) : Le w (w.put p o) := ⟨⟨fun b u e => by
  show upd w.G p o b = some u
  rw [upd_ne (ne_of_none e h)]
  exact e, .eq rfl rfl, fun _ _ => rfl⟩, rfl⟩
theorem Wld.put (W : Wld K w st H) {p : Addr} {o : HO} (h : H p = none) (s : SizeOk o) : Wld K (w.put p o) st (upd H p o) := by
  have hg := W.free h
  have l := Le.put (w := w) (o := o) hg
  refine ⟨fun b u e => ?_, W.len, W.nd, fun i a e => ?_, fun a u e => ?_, fun a vs e => ?_, W.hnd⟩
  · by_cases hb : b = p
    · subst hb
      have e' : upd w.G b o b = some u := e
      rw [upd_same] at e' ⊢
      exact e'
    · have e' : upd w.G p o b = some u := e
      rw [upd_ne hb] at e' ⊢
      exact W.same b u e'
  · obtain ⟨g, xs, u, h1, h2, h3⟩ := W.at_ i a e
    have ne : a ≠ p := fun z => by rw [z, h] at h2; cases h2
    refine ⟨?_, xs, u, h1, by rw [upd_ne ne]; exact h2, h3.mono l⟩
    show upd w.G p o a = none
    rw [upd_ne ne]
    exact g
  · have e' : upd w.G p o a = some u := e
    by_cases ha : a = p
    · subst ha
      rw [upd_same] at e'
      cases e'
      exact s
    · rw [upd_ne ha] at e'
      exact W.small a u e'
  · obtain ⟨g, n, h1⟩ := W.hidd a vs e
    have ne : a ≠ p := fun z => by rw [z, h] at h1; cases h1
    refine ⟨?_, n, by rw [upd_ne ne]; exact h1⟩
    show upd w.G p o a = none
    rw [upd_ne ne]
    exact g
/-- a new object of the store -/
def Wd.addK (w : Wd) (p : Addr) (k : Option Kd) : Wd := ⟨w.G, w.as ++ [p], w.hid, fun b => if b = p then k else w.dk b, fun b => if b = p then none else w.lk b⟩
theorem Pre.addK {p : Addr} {k : Option Kd} (h : p ∉ w.as) : Pre w (w.addK p k) := ⟨⟨[p], rfl⟩, fun a ha => if_neg fun (z : a = p) => h (z ▸ ha)⟩
theorem Le.addK {p : Addr} {k : Option Kd} (h : p ∉ w.as) : Le w (w.addK p k) := ⟨⟨Same.refl _, .addK h, fun a ha => if_neg fun (z : a = p) => h (z ▸ ha)⟩, rfl⟩
theorem Wld.addK (W : Wld K w st H) {p : Addr} {k : Option Kd} {xs : List D} {o : HO} (h : H p = none) (r : EntP K w k xs o) : Wld K (w.addK p k) (st ++ [xs]) (upd H p o) := by
  have hg := W.free h
  have hn := W.nas h
  refine ⟨fun b u e => ?_, ?_, ?_, fun i a e => ?_, W.small, fun a vs e => ?_, W.hnd⟩
  · have ne : b ≠ p := fun z => by
      have e' : w.G b = some u := e
      rw [z, hg] at e'
      cases e'
    rw [upd_ne ne]
    exact W.same b u e
  · show (w.as ++ [p]).length = (st ++ [xs]).length
    rw [List.length_append, List.length_append, W.len]
    rfl
  · show (w.as ++ [p]).Nodup
    refine List.nodup_append.mpr ⟨W.nd, by simp, fun a ha b hb z => ?_⟩
    have : b = p := by simpa using hb
    subst this
    rw [z] at ha
    exact hn ha
  · have e' : (w.as ++ [p])[i]? = some a := e
    by_cases hi : i < w.as.length
    · rw [List.getElem?_append_left hi] at e'
      obtain ⟨g, ys, u, h1, h2, h3⟩ := W.at_ i a e'
      have ne : a ≠ p := fun z => by rw [z, h] at h2; cases h2
      have ek : (w.addK p k).dk a = w.dk a := if_neg ne
      have el : (w.addK p k).lk a = w.lk a := if_neg ne
      exact ⟨g, ys, u, by rw [List.getElem?_append_left (by rw [← W.len]; exact hi)]; exact h1, by rw [upd_ne ne]; exact h2, by rw [ek, el]; exact h3.mono (.addK hn)⟩
    · have hi2 : i = w.as.length := by
        have := (List.getElem?_eq_some_iff.mp e').1
        simp at this
        omega
      subst hi2
      rw [List.getElem?_concat_length] at e'
      cases e'
      have ek : (w.addK p k).dk p = k := if_pos rfl
      have el : (w.addK p k).lk p = none := if_pos rfl
      exact ⟨hg, xs, o, by rw [W.len, List.getElem?_concat_length], upd_same, by rw [ek, el]; exact EntR.mono (.addK hn) (.inl ⟨rfl, r⟩)⟩
  · obtain ⟨g, n, h1⟩ := W.hidd a vs e
    have ne : a ≠ p := fun z => by rw [z, h] at h1; cases h1
    refine ⟨g, fun m => ?_, by rw [upd_ne ne]; exact h1⟩
    have m' : a ∈ w.as ++ [p] := m
    rcases List.mem_append.mp m' with z | z
    · exact n z
    · exact ne (by simpa using z)
/-- a new list of the store -/
def Wd.add (w : Wd) (p : Addr) : Wd := w.addK p none
theorem Wld.add (W : Wld K w st H) {p : Addr} {xs : List D} {vs : List V} (h : H p = none) (r : Reps K w xs vs) (s : vs.length ≤ sizeLine) : Wld K (w.add p) (st ++ [xs]) (upd H p (.lst vs)) := W.addK h ⟨vs, rfl, s, r⟩
/-- an object of the store written -/
theorem Wld.wrK (W : Wld K w st H) {i : Nat} {a : Addr} {xs : List D} {o : HO} (ha : w.as[i]? = some a) (r : EntR K w (w.dk a) (w.lk a) xs o) : Wld K w (st.set i xs) (upd H a o) := by
  obtain ⟨g, ys, us, h1, h2, h3⟩ := W.at_ i a ha
  refine ⟨fun b u e => ?_, by rw [List.length_set]; exact W.len, W.nd, fun j b e => ?_, W.small, fun b vs e => ?_, W.hnd⟩
  · have ne : b ≠ a := fun z => by rw [z, g] at e; cases e
    rw [upd_ne ne]
    exact W.same b u e
  · by_cases hj : j = i
    · subst hj
      rw [ha] at e
      cases e
      exact ⟨g, xs, o, List.getElem?_set_self (List.getElem?_eq_some_iff.mp h1).1, upd_same, r⟩
    · obtain ⟨g', zs, ws, k1, k2, k3⟩ := W.at_ j b e
      have ne : b ≠ a := fun z => by
        subst z
        exact hj (nd_ix W.nd e ha)
      exact ⟨g', zs, ws, by rw [List.getElem?_set_ne (Ne.symm hj)]; exact k1, by rw [upd_ne ne]; exact k2, k3⟩
  · obtain ⟨g', n, h'⟩ := W.hidd b vs e
    have ne : b ≠ a := fun z => n (by rw [z]; exact List.mem_of_getElem? ha)
    exact ⟨g', n, by rw [upd_ne ne]; exact h'⟩
/-- a list of the store written -/
theorem Wld.wr (W : Wld K w st H) {i : Nat} {a : Addr} {xs : List D} {vs : List V} (ha : w.as[i]? = some a) (hk : w.dk a = none) (r : Reps K w xs vs) (s : vs.length ≤ sizeLine) : Wld K w (st.set i xs) (upd H a (.lst vs)) :=
  W.wrK ha (by
    obtain ⟨_, ys, o, _, _, h3⟩ := W.at_ i a ha
    have hl := h3.un (.inl (by rw [hk]; exact nofun)) (by rw [hk]; exact nofun)
    rw [hk]
    exact .inl ⟨hl, vs, rfl, s, r⟩)
end

/-! ### readings over data -/
abbrev DK := D → Sto → Prop
abbrev DE := Env → Sto → DK → Prop
abbrev DT := Env → Sto → (Bool → Sto → Prop) → Prop
abbrev DA := Env → Sto → (List D → Sto → Prop) → Prop
structure DEnds where
  nx : Env → Sto → Prop
  rt : DK
abbrev DS := DEnds → Env → Sto → Prop

def EnvR (K : PySem.W.Frag) (w : Wd) (env : Env) (σ : L2.St) : Prop :=
  env.length = σ.length ∧ ∀ (i : Nat) (d : D), env[i]? = some (some d) → ∃ v, σ[i]? = some (some v) ∧ Rep K w d v
theorem EnvR.mono {K : PySem.W.Frag} {w w' : Wd} {env : Env} {σ : L2.St} (h : EnvR K w env σ) (l : Le w w') : EnvR K w' env σ :=
  ⟨h.1, fun i d e => let ⟨v, e1, r⟩ := h.2 i d e; ⟨v, e1, Rep.mono l _ _ r⟩⟩
theorem EnvR.mono0 {K : PySem.W.Frag} {w w' : Wd} {env : Env} {σ : L2.St} (h : EnvR K w env σ) (l : Le0 w w') : EnvR K w' env σ :=
  ⟨h.1, fun i d e => let ⟨v, e1, r⟩ := h.2 i d e; ⟨v, e1, Rep.mono' l.same l.pre _ _ r⟩⟩
theorem EnvR.set {K : PySem.W.Frag} {w : Wd} {env : Env} {σ : L2.St} (h : EnvR K w env σ) {d : D} {v : V} (i : Nat) (r : Rep K w d v) : EnvR K w (env.set i (some d)) (σ.set i (some v)) := by
  refine ⟨by simp [h.1], fun j x e => ?_⟩
  by_cases hj : j = i
  · subst hj
    have hlt : j < env.length := by
      have := (List.getElem?_eq_some_iff.mp e).1
      simpa using this
    rw [List.getElem?_set_self hlt] at e
    cases e
    exact ⟨v, List.getElem?_set_self (by rw [← h.1]; exact hlt), r⟩
  · rw [List.getElem?_set_ne (Ne.symm hj)] at e
    obtain ⟨u, e1, r1⟩ := h.2 j x e
    exact ⟨u, by rw [List.getElem?_set_ne (Ne.symm hj)]; exact e1, r1⟩
theorem EnvR.unset {K : PySem.W.Frag} {w : Wd} {env : Env} {σ : L2.St} (h : EnvR K w env σ) (i : Nat) : EnvR K w (env.set i none) (σ.set i none) := by
  refine ⟨by simp [h.1], fun j x e => ?_⟩
  by_cases hj : j = i
  · subst hj
    have hlt : j < env.length := by
      have := (List.getElem?_eq_some_iff.mp e).1
      simpa using this
    rw [List.getElem?_set_self hlt] at e
    cases e
  · rw [List.getElem?_set_ne (Ne.symm hj)] at e
    obtain ⟨u, e1, r1⟩ := h.2 j x e
    exact ⟨u, by rw [List.getElem?_set_ne (Ne.symm hj)]; exact e1, r1⟩

/-- what must follow a value that comes -/
def Fol (K : PySem.W.Frag) (w : Wd) (kk : DK) (Q : VK) : Prop := ∀ d st' v w' H', kk d st' → Le w w' → Wld K w' st' H' → Rep K w' d v → Q v H'
def tD (K : PySem.W.Frag) (t : DE) : TE := fun σ H Q => ∃ w env st kk, Wld K w st H ∧ EnvR K w env σ ∧ t env st kk ∧ Fol K w kk Q
def FolT (K : PySem.W.Frag) (w : Wd) (kk : Bool → Sto → Prop) (Q : Bool → Hp → Prop) : Prop := ∀ b st' w' H', kk b st' → Le w w' → Wld K w' st' H' → Q b H'
def tDT (K : PySem.W.Frag) (t : DT) : TT := fun σ H Q => ∃ w env st kk, Wld K w st H ∧ EnvR K w env σ ∧ t env st kk ∧ FolT K w kk Q
def FolA (K : PySem.W.Frag) (w : Wd) (kk : List D → Sto → Prop) (Q : List V → Hp → Prop) : Prop := ∀ ds st' vs w' H', kk ds st' → Le w w' → Wld K w' st' H' → Reps K w' ds vs → Q vs H'
def tDA (K : PySem.W.Frag) (t : DA) : TA := fun σ H Q => ∃ w env st kk, Wld K w st H ∧ EnvR K w env σ ∧ t env st kk ∧ FolA K w kk Q
def FolN (K : PySem.W.Frag) (w : Wd) (nx : Env → Sto → Prop) (Q : L2.St → Hp → Prop) : Prop := ∀ env' st' σ' w' H', nx env' st' → Le w w' → Wld K w' st' H' → EnvR K w' env' σ' → Q σ' H'
def tDS (K : PySem.W.Frag) (t : DS) : TS := fun E σ H => ∃ w env st, ∃ (D : DEnds), Wld K w st H ∧ EnvR K w env σ ∧ t D env st ∧ FolN K w D.nx E.nx ∧ Fol K w D.rt E.rt
abbrev PD (X : Cx) (e : Expr) (t : DE) : Prop := PE X e (tD X.K t)
abbrev PDT (X : Cx) (e : Expr) (t : DT) : Prop := PT X e (tDT X.K t)
abbrev PDA (X : Cx) (es : List Expr) (t : DA) : Prop := PA X es (tDA X.K t)
abbrev PDS (X : Cx) (st : Stmt) (t : DS) : Prop := PS X st (tDS X.K t)
abbrev PDSs (X : Cx) (st : List Stmt) (t : DS) : Prop := PSs X st (tDS X.K t)

section
variable {K : PySem.W.Frag} {w w' : Wd} {kk : DK} {Q : VK}
theorem Fol.le (h : Fol K w kk Q) (l : Le w w') : Fol K w' kk Q := fun d st' v w2 H' k l2 => h d st' v w2 H' k (l.trans l2)
theorem FolT.le {kk : Bool → Sto → Prop} {Q : Bool → Hp → Prop} (h : FolT K w kk Q) (l : Le w w') : FolT K w' kk Q := fun d st' w2 H' k l2 => h d st' w2 H' k (l.trans l2)
theorem FolA.le {kk : List D → Sto → Prop} {Q : List V → Hp → Prop} (h : FolA K w kk Q) (l : Le w w') : FolA K w' kk Q := fun d st' v w2 H' k l2 => h d st' v w2 H' k (l.trans l2)
theorem FolN.le {nx : Env → Sto → Prop} {Q : L2.St → Hp → Prop} (h : FolN K w nx Q) (l : Le w w') : FolN K w' nx Q := fun d st' v w2 H' k l2 => h d st' v w2 H' k (l.trans l2)
theorem Fol.id {st : Sto} {H : Hp} {d : D} {v : V} (h : Fol K w kk Q) (k : kk d st) (W : Wld K w st H) (R : Rep K w d v) : Q v H := h d st v w H k (.refl w) W R
end
theorem _root_.L2.PE.wk {X : Cx} {e : Expr} {t t' : TE} (h : PE X e t) (i : ∀ σ H Q, t' σ H Q → t σ H Q) : PE X e t' := ⟨fun pins s σ H Q I q => h.run pins s σ H Q I (i σ H Q q)⟩
theorem _root_.L2.PT.wk {X : Cx} {e : Expr} {t t' : TT} (h : PT X e t) (i : ∀ σ H Q, t' σ H Q → t σ H Q) : PT X e t' := ⟨fun pins s σ H Q I q => h.run pins s σ H Q I (i σ H Q q)⟩
theorem _root_.L2.PA.wk {X : Cx} {e : List Expr} {t t' : TA} (h : PA X e t) (i : ∀ σ H Q, t' σ H Q → t σ H Q) : PA X e t' := ⟨fun ps pins s σ H Q I q => h.run ps pins s σ H Q I (i σ H Q q)⟩
theorem _root_.L2.PS.wk {X : Cx} {e : Stmt} {t t' : TS} (h : PS X e t) (i : ∀ D σ H, t' D σ H → t D σ H) : PS X e t' := ⟨fun pins s σ H D I q => h.run pins s σ H D I (i D σ H q)⟩
theorem _root_.L2.PSs.wk {X : Cx} {e : List Stmt} {t t' : TS} (h : PSs X e t) (i : ∀ D σ H, t' D σ H → t D σ H) : PSs X e t' := ⟨fun pins s σ H D I q => h.run pins s σ H D I (i D σ H q)⟩

/-! ### names, constants -/
section
variable {X : Cx} {e a b : Expr} {es : List Expr} {pos : Pos} {ta tb : DE}
def dVar (i : Nat) : DE := fun env st k => match env[i]? with
  | some (some d) => k d st
  | _ => False
theorem pd_var (i : Nat) {x : Str} (hN : X.N[i]? = some x := by rfl) (hv : Vis X.env.scope x := by first | exact Or.inl rfl | exact Or.inr (Or.inl rfl) | exact Or.inr (Or.inr rfl)) (hd : (x == ("__debug__" : Str)) = false := by decide)
    (hcd : (x == ("__classdict__" : Str)) = false := by decide) : PD X (.Name x pos) (dVar i) := by
  refine (pe_var hN hv hd hcd).wk fun σ H Q ⟨w, env, st, kk, W, E, h, f⟩ => ?_
  unfold dVar at h
  split at h
  · rename_i d e
    obtain ⟨v, e1, r⟩ := E.2 i d e
    exact ⟨v, e1, f.id h W r⟩
  · exact h.elim
def dC (d : D) : DE := fun _ st k => k d st
theorem pd_of {v : V} {d : D} (h : PE X e (tC v)) (r : ∀ w, Rep X.K w d v) : PD X e (dC d) :=
  h.wk fun σ H Q ⟨w, env, st, kk, W, E, h, f⟩ => f.id h W (r w)
theorem pd_int {i j} : PD X (.Constant (.int i) j pos) (dC (.int i)) := pd_of pe_int fun w => by simp only [Rep]
theorem pd_bl {i j} : PD X (.Constant (.bool i) j pos) (dC (.bl i)) := pd_of pe_bl fun w => by simp only [Rep]
theorem pd_non {j} : PD X (.Constant .none j pos) (dC .non) := pd_of pe_non fun w => by simp only [Rep]
theorem pd_str {i j} : PD X (.Constant (.str i) j pos) (dC (.str i)) := pd_of pe_str fun w => by simp only [Rep]
theorem pd_gstr {x z : Str} (hm : ∃ t, X.mg x = some (.str z t)) (hg : Gl X x := by rfl) (hd : (x == ("__debug__" : Str)) = false := by decide) : PD X (.Name x pos) (dC (.str z)) := by
  obtain ⟨t, hm⟩ := hm
  exact pd_of (pe_glob (v := .str z) hg hm ⟨t, rfl⟩ hd) fun w => by simp only [Rep]
/-! ### two values, an operator -/
abbrev F2 := D → D → Sto → DK → Prop
def dOp (f : F2) (ta tb : DE) : DE := fun env st k => ta env st fun x s1 => tb env s1 fun y s2 => f x y s2 k
def rD (K : PySem.W.Frag) (f : F2) : R2 := fun x y H Q => ∃ w st d e kk, Wld K w st H ∧ Rep K w d x ∧ Rep K w e y ∧ f d e st kk ∧ Fol K w kk Q
theorem d2_in {K : PySem.W.Frag} {f : F2} {σ : L2.St} {H : Hp} {Q : VK} (h : tD K (dOp f ta tb) σ H Q) : tOp (rD K f) (tD K ta) (tD K tb) σ H Q := by
  obtain ⟨w, env, st, kk, W, E, h, fo⟩ := h
  exact ⟨w, env, st, _, W, E, h, fun d st1 v w1 H1 h1 l1 W1 R1 => ⟨w1, env, st1, _, W1, E.mono l1, h1, fun e st2 u w2 H2 h2 l2 W2 R2 =>
    ⟨w2, st2, d, e, kk, W2, Rep.mono l2 _ _ R1, R2, h2, fo.le (l1.trans l2)⟩⟩⟩
theorem pd_op {op : Operator} {f : F2} (ho : OpR X (binaryOp op) (rD X.K f)) (ha : PD X a ta) (hb : PD X b tb) : PD X (.BinOp a op b pos) (dOp f ta tb) :=
  (pe_op ho ha hb).wk fun _ _ _ h => d2_in h
theorem pd_cmp {op : CmpOp} {f : F2} (ho : OpR X (compareOp op) (rD X.K f)) (ha : PD X a ta) (hb : PD X b tb) (hm : behindInMarks op b = false) : PD X (.Compare a [op] [b] pos) (dOp f ta tb) :=
  (pe_cmpR ho ha hb hm).wk fun _ _ _ h => d2_in h
/-- a value that is True or False, as a test -/
def dTest (t : DE) : DT := fun env st k => t env st fun d s1 => match d with
  | .bl b => k b s1
  | _ => False
theorem pd_tcmp {op : CmpOp} {f : F2} (ho : OpR X (compareOp op) (rD X.K f)) (ha : PD X a ta) (hb : PD X b tb) (hm : behindInMarks op b = false) : PDT X (.Compare a [op] [b] pos) (dTest (dOp f ta tb)) := by
  refine (pt_cmpR ho ha hb hm).wk fun σ H Q ⟨w, env, st, kk, W, E, h, fo⟩ => ?_
  refine d2_in (Q := fun x H' => ∃ k, x = .bl k ∧ Q k H') ⟨w, env, st, _, W, E, h, fun d st1 v w1 H1 h1 l1 W1 R1 => ?_⟩
  cases d with
  | bl b =>
    simp only [Rep] at R1
    exact ⟨b, R1, fo b st1 w1 H1 h1 l1 W1⟩
  | _ => exact h1.elim
/-- a one-place operation -/
abbrev F1 := D → Sto → DK → Prop
def dUn (f : F1) (ta : DE) : DE := fun env st k => ta env st fun x s1 => f x s1 k
def rD1 (K : PySem.W.Frag) (f : F1) : V → Hp → VK → Prop := fun x H Q => ∃ w st d kk, Wld K w st H ∧ Rep K w d x ∧ f d st kk ∧ Fol K w kk Q
theorem d1_in {K : PySem.W.Frag} {f : F1} {σ : L2.St} {H : Hp} {Q : VK} (h : tD K (dUn f ta) σ H Q) : tUn (rD1 K f) (tD K ta) σ H Q := by
  obtain ⟨w, env, st, kk, W, E, h, fo⟩ := h
  exact ⟨w, env, st, _, W, E, h, fun d st1 v w1 H1 h1 l1 W1 R1 => ⟨w1, st1, d, kk, W1, R1, h1, fo.le l1⟩⟩
theorem pd_un {op : UnaryOp} {f : F1} (ho : UnR X (unaryOp op) (rD1 X.K f)) (ha : PD X a ta) : PD X (.UnaryOp op a pos) (dUn f ta) :=
  (pe_un ho ha).wk fun _ _ _ h => d1_in h

/-! ### tests -/
def truD (st : Sto) (d : D) : Bool := match deref st d with
  | .non => false
  | .bl b => b
  | .int i => i != 0
  | .str x => (x.length : Int) != 0
  | .lst xs => !xs.isEmpty
  | .tup xs => !xs.isEmpty
  | .klst _ => false
  | .obj _ => false
  | .dic _ _ => false
  | .fdic _ _ => false
  | .gtup _ => false
def OkTru (st : Sto) (d : D) : Prop := match deref st d with
  | .str x => x.length ≤ sizeLine
  | .klst _ => False
  | .obj _ => False
  | .dic _ _ => False
  | .fdic _ _ => False
  | .gtup _ => False
  | _ => True
def dTru (t : DE) : DT := fun env st k => t env st fun d s1 => OkTru s1 d ∧ k (truD s1 d) s1
theorem tru_rep {K : PySem.W.Frag} {w : Wd} {st : Sto} {H : Hp} {d : D} {v : V} (W : Wld K w st H) (R : Rep K w d v) (ok : OkTru st d) : TruV K v H (truD st d) := by
  unfold OkTru at ok
  unfold truD
  have nl : ∀ {xs : List D} {vs : List V}, Reps K w xs vs → (!xs.isEmpty) = !vs.isEmpty := fun {xs vs} r => by
    cases xs with
    | nil => rw [r.inv0]; rfl
    | cons d ds => obtain ⟨v, r', rfl, _, _⟩ := r.inv; rfl
  cases e : deref st d with
  | obj i => rw [e] at ok; exact ok.elim
  | klst i => rw [e] at ok; exact ok.elim
  | dic _ _ => rw [e] at ok; exact ok.elim
  | fdic _ _ => rw [e] at ok; exact ok.elim
  | gtup _ => rw [e] at ok; exact ok.elim
  | lst xs =>
    obtain ⟨a, vs, rfl, q, r, _⟩ := rep_lst W R e
    exact .inl ⟨vs, q, nl r⟩
  | tup xs =>
    obtain ⟨a, vs, rfl, q, r, _⟩ := rep_tup W R e
    exact .inr (.inl ⟨vs, q, nl r⟩)
  | non =>
    have : d = .non := deref_self e (fun _ z => by cases z) (fun _ z => by cases z)
    subst this
    simp only [Rep] at R
    subst R
    rfl
  | bl b =>
    have : d = .bl b := deref_self e (fun _ z => by cases z) (fun _ z => by cases z)
    subst this
    simp only [Rep] at R
    subst R
    rfl
  | int b =>
    have : d = .int b := deref_self e (fun _ z => by cases z) (fun _ z => by cases z)
    subst this
    simp only [Rep] at R
    subst R
    rfl
  | str b =>
    have : d = .str b := deref_self e (fun _ z => by cases z) (fun _ z => by cases z)
    subst this
    simp only [Rep] at R
    subst R
    rw [e] at ok
    exact ⟨ok, rfl⟩
theorem pd_tru (ha : PD X a ta) (he : ∀ whole, isTrue a X.env whole = (do let v ← whole; standAt a.pos; holding [v] (truthy v)) := by intro _; rfl) : PDT X a (dTru ta) := by
  refine (pt_truth ha he).wk fun σ H Q ⟨w, env, st, kk, W, E, h, fo⟩ => ?_
  exact ⟨w, env, st, _, W, E, h, fun d st1 v w1 H1 h1 l1 W1 R1 => ⟨_, tru_rep W1 R1 h1.1, fo _ st1 w1 H1 h1.2 l1 W1⟩⟩
def dNot (t : DT) : DT := fun env st k => t env st fun b s1 => k (!b) s1
theorem pd_tnot {t : DT} (ha : PDT X a t) : PDT X (.UnaryOp .Not a pos) (dNot t) := by
  refine (pt_not ha).wk fun σ H Q ⟨w, env, st, kk, W, E, h, fo⟩ => ?_
  exact ⟨w, env, st, _, W, E, h, fun b st1 w1 H1 h1 l1 W1 => fo _ st1 w1 H1 h1 l1 W1⟩
def dAnd (t u : DT) : DT := fun env st k => t env st fun b s1 => if b = true then u env s1 k else k false s1
def dOr (t u : DT) : DT := fun env st k => t env st fun b s1 => if b = true then k true s1 else u env s1 k
abbrev PDW (X : Cx) (e : Expr) (t : DT) : Prop := PW X e (tDT X.K t)
theorem _root_.L2.PW.wk {X : Cx} {e : Expr} {t t' : TT} (h : PW X e t) (i : ∀ σ H Q, t' σ H Q → t σ H Q) : PW X e t' := ⟨fun wh pins s σ H Q I q => h.run wh pins s σ H Q I (i σ H Q q)⟩
theorem pw_dand {rest : List Expr} {t u : DT} (ha : PDT X a t) (hb : PDW X (.BoolOp .And (b :: rest) pos) u) : PDW X (.BoolOp .And (a :: b :: rest) pos) (dAnd t u) := by
  refine L2.PW.wk (pw_and ha hb) fun σ H Q ⟨w, env, st, kk, W, E, h, fo⟩ => ?_
  refine ⟨w, env, st, _, W, E, h, fun c st1 w1 H1 h1 l1 W1 => ?_⟩
  cases c with
  | true =>
    rw [if_pos rfl] at h1 ⊢
    exact ⟨w1, env, st1, _, W1, E.mono l1, h1, fo.le l1⟩
  | false =>
    rw [if_neg Bool.false_ne_true] at h1 ⊢
    exact fo _ _ _ _ h1 l1 W1
theorem pw_dor {rest : List Expr} {t u : DT} (ha : PDT X a t) (hb : PDW X (.BoolOp .Or (b :: rest) pos) u) : PDW X (.BoolOp .Or (a :: b :: rest) pos) (dOr t u) := by
  refine L2.PW.wk (pw_or ha hb) fun σ H Q ⟨w, env, st, kk, W, E, h, fo⟩ => ?_
  refine ⟨w, env, st, _, W, E, h, fun c st1 w1 H1 h1 l1 W1 => ?_⟩
  cases c with
  | false =>
    rw [if_neg Bool.false_ne_true] at h1 ⊢
    exact ⟨w1, env, st1, _, W1, E.mono l1, h1, fo.le l1⟩
  | true =>
    rw [if_pos rfl] at h1 ⊢
    exact fo _ _ _ _ h1 l1 W1
/-- as values: all but the last True or False -/
def dAndV (t u : DE) : DE := fun env st k => t env st fun d s1 => match d with
  | .bl b => if b = true then u env s1 k else k (.bl false) s1
  | _ => False
def dNotV (t : DE) : DE := fun env st k => t env st fun d s1 => match d with
  | .bl b => k (.bl (!b)) s1
  | _ => False
theorem pd_andv {rest : List Expr} {t u : DE} (ha : PD X a t) (hb : PD X (.BoolOp .And (b :: rest) pos) u) : PD X (.BoolOp .And (a :: b :: rest) pos) (dAndV t u) := by
  refine (pe_and ha hb).wk fun σ H Q ⟨w, env, st, kk, W, E, h, fo⟩ => ?_
  refine ⟨w, env, st, _, W, E, h, fun d st1 v w1 H1 h1 l1 W1 R1 => ?_⟩
  cases d with
  | bl c =>
    simp only [Rep] at R1
    refine ⟨c, R1, ?_⟩
    cases c with
    | true =>
      simp only [↓reduceIte] at h1 ⊢
      exact ⟨w1, env, st1, _, W1, E.mono l1, h1, fo.le l1⟩
    | false =>
      simp only [Bool.false_eq_true, ↓reduceIte] at h1 ⊢
      exact fo _ _ _ _ _ h1 l1 W1 (by simp only [Rep])
  | _ => exact h1.elim
theorem pd_notv {t : DE} (ha : PD X a t) : PD X (.UnaryOp .Not a pos) (dNotV t) := by
  refine (pe_not ha).wk fun σ H Q ⟨w, env, st, kk, W, E, h, fo⟩ => ?_
  refine ⟨w, env, st, _, W, E, h, fun d st1 v w1 H1 h1 l1 W1 R1 => ?_⟩
  cases d with
  | bl c =>
    simp only [Rep] at R1
    exact ⟨c, R1, fo _ _ _ _ _ h1 l1 W1 (by simp only [Rep])⟩
  | _ => exact h1.elim
def dIf (c : DT) (t u : DE) : DE := fun env st k => c env st fun b s1 => if b = true then t env s1 k else u env s1 k
theorem pd_ife {c : Expr} {tc : DT} {t u : DE} (hc : PDT X c tc) (ha : PD X a t) (hb : PD X b u) : PD X (.IfExp c a b pos) (dIf tc t u) := by
  refine (pe_ifExp hc ha hb).wk fun σ H Q ⟨w, env, st, kk, W, E, h, fo⟩ => ?_
  refine ⟨w, env, st, _, W, E, h, fun c st1 w1 H1 h1 l1 W1 => ?_⟩
  cases c with
  | true =>
    rw [if_pos rfl] at h1 ⊢
    exact ⟨w1, env, st1, _, W1, E.mono l1, h1, fo.le l1⟩
  | false =>
    rw [if_neg Bool.false_ne_true] at h1 ⊢
    exact ⟨w1, env, st1, _, W1, E.mono l1, h1, fo.le l1⟩

/-! ### argument lists, displays -/
def dNil : DA := fun _ st k => k [] st
def dCons (t : DE) (u : DA) : DA := fun env st k => t env st fun d s1 => u env s1 fun ds s2 => k (d :: ds) s2
theorem pda_nil : PDA X [] dNil := pa_nil.wk fun σ H Q ⟨w, env, st, kk, W, E, h, fo⟩ => fo _ _ _ _ _ h (.refl _) W .nil
theorem pda_cons {t : DE} {u : DA} (ha : PD X e t) (hr : PDA X es u) (hs : starEach (e :: es) X.env = (false, eval e X.env) :: starEach es X.env := by rfl) : PDA X (e :: es) (dCons t u) := by
  refine (pa_cons ha hr hs).wk fun σ H Q ⟨w, env, st, kk, W, E, h, fo⟩ => ?_
  exact ⟨w, env, st, _, W, E, h, fun d st1 v w1 H1 h1 l1 W1 R1 => ⟨w1, env, st1, _, W1, E.mono l1, h1, fun ds st2 vs w2 H2 h2 l2 W2 R2 =>
    fo _ _ _ _ _ h2 (l1.trans l2) W2 (.cons (Rep.mono l2 _ _ R1) R2)⟩⟩
def dTup (t : DA) : DE := fun env st k => t env st fun ds s1 => ds.length ≤ 16777216 ∧ k (.tup ds) s1
/-- a list display that nobody changes -/
def dLst (t : DA) : DE := fun env st k => t env st fun ds s1 => ds.length ≤ 16777216 ∧ k (.lst ds) s1
/-- a list display of the store -/
def dNew (t : DA) : DE := fun env st k => t env st fun ds s1 => ds.length ≤ 16777216 ∧ k (.obj s1.length) (s1 ++ [ds])
theorem line16 {n : Nat} (h : n ≤ 16777216) : n ≤ sizeLine := by rw [sizeLine_eq]; exact h
theorem fol_tup {K : PySem.W.Frag} {w : Wd} {st : Sto} {H : Hp} {kk : DK} {Q : VK} {ds : List D} {vs : List V} (W : Wld K w st H) (R : Reps K w ds vs) (n : vs.length ≤ sizeLine) (k : kk (.tup ds) st) (fo : Fol K w kk Q) :
    ∀ p, H p = none → Q (.ref p) (upd H p (.tup vs)) := fun p hp => by
  have l := Le.put (w := w) (o := .tup vs) (W.free hp)
  refine fo _ _ _ _ _ k l (W.put hp n) ?_
  simp only [Rep]
  exact ⟨p, vs, rfl, upd_same, Reps.mono l _ _ R⟩
theorem fol_lst {K : PySem.W.Frag} {w : Wd} {st : Sto} {H : Hp} {kk : DK} {Q : VK} {ds : List D} {vs : List V} (W : Wld K w st H) (R : Reps K w ds vs) (n : vs.length ≤ sizeLine) (k : kk (.lst ds) st) (fo : Fol K w kk Q) :
    ∀ p, H p = none → Q (.ref p) (upd H p (.lst vs)) := fun p hp => by
  have l := Le.put (w := w) (o := .lst vs) (W.free hp)
  refine fo _ _ _ _ _ k l (W.put hp n) ?_
  simp only [Rep]
  exact ⟨p, vs, rfl, upd_same, Reps.mono l _ _ R⟩
theorem fol_new {K : PySem.W.Frag} {w : Wd} {st : Sto} {H : Hp} {kk : DK} {Q : VK} {ds : List D} {vs : List V} (W : Wld K w st H) (R : Reps K w ds vs) (n : vs.length ≤ sizeLine) (k : kk (.obj st.length) (st ++ [ds])) (fo : Fol K w kk Q) :
    ∀ p, H p = none → Q (.ref p) (upd H p (.lst vs)) := fun p hp => by
  refine fo _ _ _ _ _ k (Le.addK (W.nas hp)) (W.add hp R n) ?_
  simp only [Rep]
  refine ⟨p, rfl, ?_, if_pos rfl⟩
  show (w.as ++ [p])[st.length]? = some p
  rw [← W.len, List.getElem?_concat_length]
theorem pd_tup {x1} {t : DA} (h : PDA X es t) : PD X (.Tuple es x1 pos) (dTup t) := by
  refine (pe_tup h).wk fun σ H Q ⟨w, env, st, kk, W, E, h, fo⟩ => ?_
  refine ⟨w, env, st, _, W, E, h, fun ds st1 vs w1 H1 h1 l1 W1 R1 => ?_⟩
  have n : vs.length ≤ sizeLine := by rw [R1.length]; exact line16 h1.1
  exact ⟨n, fol_tup W1 R1 n h1.2 (fo.le l1)⟩
theorem pd_lst {t : DA} (h : PDA X es t) : PD X (.List es pos) (dLst t) := by
  refine (pe_lst h).wk fun σ H Q ⟨w, env, st, kk, W, E, h, fo⟩ => ?_
  refine ⟨w, env, st, _, W, E, h, fun ds st1 vs w1 H1 h1 l1 W1 R1 => ?_⟩
  have n : vs.length ≤ sizeLine := by rw [R1.length]; exact line16 h1.1
  exact ⟨n, fol_lst W1 R1 n h1.2 (fo.le l1)⟩
theorem pd_new {t : DA} (h : PDA X es t) : PD X (.List es pos) (dNew t) := by
  refine (pe_lst h).wk fun σ H Q ⟨w, env, st, kk, W, E, h, fo⟩ => ?_
  refine ⟨w, env, st, _, W, E, h, fun ds st1 vs w1 H1 h1 l1 W1 R1 => ?_⟩
  have n : vs.length ≤ sizeLine := by rw [R1.length]; exact line16 h1.1
  exact ⟨n, fol_new W1 R1 n h1.2 (fo.le l1)⟩

/-! ### calls of defs -/
abbrev SpD := List D → Sto → DK → Prop
/-- a def's promise over data -/
def spD (K : PySem.W.Frag) (sp : SpD) : Sp := fun vs H Q _ => ∃ w st ds kk, Wld K w st H ∧ Reps K w ds vs ∧ sp ds st kk ∧ Fol K w kk Q
def dCall (sp : SpD) (t : DA) : DE := fun env st k => t env st fun ds s1 => sp ds s1 k
variable {k : Nat} {f : Addr} {fd : FuncData} {ps : List Str} {sp : SpD} {x : Str} {p : Pos}
theorem pd_call {t : DA} (F : FnG X.prog X.w X.K X.mg X.base CX0 k f fd ps (spD X.K sp)) (hr : RoomG k X.A) (hm : X.mg x = some (.ref f)) (hk : PySem.W.keepIn X.K (.ref f) = true) (hb : Binds X.K fd ps [])
    (ha : PDA X (e :: es) t) (hg : Gl X x := by rfl) (hdb : (x == ("__debug__" : Str)) = false := by decide) (he : starEach (e :: es) X.env = (false, eval e X.env) :: starEach es X.env := by rfl) (hpl : (backTo pos (starEach es X.env)).any (·.1) = false := by rfl) :
    PD X (.Call (.Name x p) (e :: es) [] pos) (dCall sp t) := by
  refine ⟨fun pins s σ H Q I ⟨w, env, st, kk, W, E, h, fo⟩ => ?_⟩
  refine wpAny_Call_Name_kw (ld_glob I hg hm ?_ hdb)
  refine PySem.W.callWith_K (h₀ := X.base) I.ok.mod.kin hk (thn (ha.run pos pins s σ H (fun vs H1 => spD X.K sp vs H1 Q E0) I ⟨w, env, st, _, W, E, h, fun ds st1 vs w1 H1 h1 l1 W1 R1 => ⟨w1, st1, ds, kk, W1, R1, h1, fo.le l1⟩⟩) fun us s1 ⟨vs, H1, I1, r, q⟩ => ⟨I1.kIn, ?_⟩) he hpl
  have hl : us.length = ps.length := r.length.symm.trans (F.len _ _ _ _ q)
  have z := hb s1 us I1.kIn (by rw [List.append_nil]; exact hl)
  rw [List.append_nil] at z
  exact run_fnG F hr pass0 I1 z r q
/-! ### statements -/
def dDrop (t : DE) : DS := fun D env st => t env st fun _ s1 => D.nx env s1
def dRet (t : DE) : DS := fun D env st => t env st D.rt
def dSeq (t u : DS) : DS := fun D env st => t { D with nx := u D } env st
def dPass : DS := fun D env st => D.nx env st
def dIfS (c : DT) (t u : DS) : DS := fun D env st => c env st fun b s1 => if b = true then t D env s1 else u D env s1
theorem pds_expr {t : DE} (he : PD X e t) (hs : swapsWith e none pos.line X.env = pure false := by rfl) : PDS X (.Expr e pos) (dDrop t) := by
  refine (ps_expr he hs).wk fun Ed σ H ⟨w, env, st, D, W, E, h, fn, fr⟩ => ?_
  exact ⟨w, env, st, _, W, E, h, fun d st1 v w1 H1 h1 l1 W1 R1 => fn _ _ _ _ _ h1 l1 W1 (E.mono l1)⟩
theorem pds_ret {t : DE} (he : PD X e t) : PDS X (.Return (some e) pos) (dRet t) := by
  refine (ps_ret he).wk fun Ed σ H ⟨w, env, st, D, W, E, h, fn, fr⟩ => ?_
  exact ⟨w, env, st, _, W, E, h, fr⟩
theorem pdss_nil : PDSs X [] dPass := by
  refine pss_nil.wk fun Ed σ H ⟨w, env, st, D, W, E, h, fn, fr⟩ => ?_
  exact fn _ _ _ _ _ h (.refl _) W E
theorem pdss_one {s : Stmt} {t : DS} (h : PDS X s t) : PDSs X [s] t := pss_one h
theorem pdss_cons {s : Stmt} {rest : List Stmt} {t u : DS} (h1 : PDS X s t) (h2 : PDSs X rest u) : PDSs X (s :: rest) (dSeq t u) := by
  refine (pss_cons h1 h2).wk fun Ed σ H ⟨w, env, st, D, W, E, h, fn, fr⟩ => ?_
  exact ⟨w, env, st, _, W, E, h, fun env1 st1 σ1 w1 H1 h1 l1 W1 E1 => ⟨w1, env1, st1, D, W1, E1, h1, fn.le l1, fr.le l1⟩, fr⟩
theorem pds_if {c : Expr} {xs ys : List Stmt} {tc : DT} {t u : DS} (hc : PDT X c tc) (ha : PDSs X xs t) (hb : PDSs X ys u) : PDS X (.If c xs ys pos) (dIfS tc t u) := by
  refine (ps_if hc ha hb).wk fun Ed σ H ⟨w, env, st, D, W, E, h, fn, fr⟩ => ?_
  refine ⟨w, env, st, _, W, E, h, fun c st1 w1 H1 h1 l1 W1 => ?_⟩
  cases c with
  | true =>
    rw [if_pos rfl] at h1 ⊢
    exact ⟨w1, env, st1, D, W1, E.mono l1, h1, fn.le l1, fr.le l1⟩
  | false =>
    rw [if_neg Bool.false_ne_true] at h1 ⊢
    exact ⟨w1, env, st1, D, W1, E.mono l1, h1, fn.le l1, fr.le l1⟩

/-! ### targets -/
abbrev DG := D → Env → Sto → (Env → Sto → Prop) → Prop
abbrev DGs := List D → Env → Sto → (Env → Sto → Prop) → Prop
def tDG (K : PySem.W.Frag) (g : DG) : TG := fun v σ H Q => ∃ w env st d nx, Wld K w st H ∧ EnvR K w env σ ∧ Rep K w d v ∧ g d env st nx ∧ FolN K w nx Q
def tDGs (K : PySem.W.Frag) (g : DGs) : TGs := fun vs σ H Q => ∃ w env st ds nx, Wld K w st H ∧ EnvR K w env σ ∧ Reps K w ds vs ∧ g ds env st nx ∧ FolN K w nx Q
abbrev PDG (X : Cx) (e : Expr) (g : DG) : Prop := PG X e (tDG X.K g)
abbrev PDGs (X : Cx) (e : List Expr) (g : DGs) : Prop := PGs X e (tDGs X.K g)
theorem _root_.L2.PG.wk {X : Cx} {e : Expr} {t t' : TG} (h : PG X e t) (i : ∀ v σ H Q, t' v σ H Q → t v σ H Q) : PG X e t' := ⟨fun pins s σ H v u Q I r q => h.run pins s σ H v u Q I r (i v σ H Q q)⟩
theorem _root_.L2.PGs.wk {X : Cx} {e : List Expr} {t t' : TGs} (h : PGs X e t) (i : ∀ v σ H Q, t' v σ H Q → t v σ H Q) : PGs X e t' := ⟨fun pins s σ H v u Q I r q => h.run pins s σ H v u Q I r (i v σ H Q q)⟩
def dgName (i : Nat) : DG := fun d env st k => k (env.set i (some d)) st
theorem pdg_name (i : Nat) {x : Str} (hN : X.N.Nodup) (hi : X.N[i]? = some x := by rfl) (hx : Loc X.env.scope x := by first | exact Or.inl rfl | exact Or.inr rfl) (hf : X.fn x = true ∨ X.env.scope.names.lookup x = some .local := by first | exact .inl rfl | exact .inr rfl | assumption) : PDG X (.Name x pos) (dgName i) := by
  refine L2.PG.wk (pg_name hN hi hx hf) fun v σ H Q ⟨w, env, st, d, nx, W, E, R, h, fn⟩ => ?_
  exact fn _ _ _ _ _ h (.refl _) W (E.set i R)
def dgNil : DGs := fun ds env st k => match ds with
  | [] => k env st
  | _ => False
def dgCons (g : DG) (h : DGs) : DGs := fun ds env st k => match ds with
  | d :: r => g d env st fun env' st' => h r env' st' k
  | [] => False
theorem pdgs_nil : PDGs X [] dgNil := by
  refine L2.PGs.wk pgs_nil fun v σ H Q ⟨w, env, st, ds, nx, W, E, R, h, fn⟩ => ?_
  cases ds with
  | nil => exact ⟨R.inv0, fn _ _ _ _ _ h (.refl _) W E⟩
  | cons _ _ => exact h.elim
theorem pdgs_cons {t : DG} {u : DGs} (h1 : PDG X e t) (h2 : PDGs X es u)
    (hs : (assignEach (e :: es) X.env).map (·.2) = assign e X.env :: (assignEach es X.env).map (·.2) := by rfl) : PDGs X (e :: es) (dgCons t u) := by
  refine L2.PGs.wk (pgs_cons h1 h2 hs) fun v σ H Q ⟨w, env, st, ds, nx, W, E, R, h, fn⟩ => ?_
  cases ds with
  | nil => exact h.elim
  | cons d r =>
    obtain ⟨v, vr, rfl, R1, R2⟩ := R.inv
    exact ⟨v, vr, rfl, w, env, st, d, _, W, E, R1, h, fun env1 st1 σ1 w1 H1 h1 l1 W1 E1 => ⟨w1, env1, st1, r, nx, W1, E1, Reps.mono l1 _ _ R2, h1, fn.le l1⟩⟩
def dgTup (n : Nat) (g : DGs) : DG := fun d env st k => match deref st d with
  | .tup xs => xs.length = n ∧ g xs env st k
  | _ => False
theorem pdg_tup {kk : Nat} {t : DGs} {n : Nat} (hc : X.calm = true) (h : PDGs X es t)
    (hn : (assignEach es X.env).length = n := by rfl) (hst : (assignEach es X.env).findIdx? (·.1) = none := by rfl) : PDG X (.Tuple es kk pos) (dgTup n t) := by
  refine L2.PG.wk (pg_tup hc h hn hst) fun v σ H Q ⟨w, env, st, d, nx, W, E, R, h, fn⟩ => ?_
  unfold dgTup at h
  split at h
  · rename_i xs e
    obtain ⟨a, vs, rfl, q, r, _⟩ := rep_tup W R e
    exact ⟨a, vs, rfl, q, by rw [r.length]; exact h.1, w, env, st, xs, nx, W, E, r, h.2, fn⟩
  · exact h.elim
def dAsg (t : DE) (g : DG) : DS := fun D env st => t env st fun d s1 => g d env s1 D.nx
theorem asg_in {K : PySem.W.Frag} {t : DE} {g : DG} {Ed : Ends} {σ : L2.St} {H : Hp} (h : tDS K (dAsg t g) Ed σ H) : tAsg (tD K t) (tDG K g) Ed σ H := by
  obtain ⟨w, env, st, D, W, E, h, fn, fr⟩ := h
  exact ⟨w, env, st, _, W, E, h, fun d st1 v w1 H1 h1 l1 W1 R1 => ⟨w1, env, st1, d, _, W1, E.mono l1, R1, h1, fn.le l1⟩⟩
theorem pds_asg {tg : Expr} {t : DE} {g : DG} (he : PD X e t) (hg : PDG X tg g) (hs : swapsWithSole [tg] e pos.line X.env = pure false := by rfl) (hw : swappedStores [tg] e X.env = pure none := by rfl)
    (h1 : (assignEach [tg] X.env).map (·.2) = [assign tg X.env] := by rfl) : PDS X (.Assign [tg] e pos) (dAsg t g) :=
  (ps_asg he hg hs hw h1).wk fun _ _ _ h => asg_in h
theorem pds_set (i : Nat) {x : Str} {t : DE} {pos' : Pos} (hN : X.N.Nodup) (he : PD X e t) (hi : X.N[i]? = some x := by rfl) (hx : Loc X.env.scope x := by first | exact Or.inl rfl | exact Or.inr rfl) (hs : swapsWith e (some (.Name x pos')) pos.line X.env = pure false := by rfl) (hf : X.fn x = true ∨ X.env.scope.names.lookup x = some .local := by first | exact .inl rfl | exact .inr rfl | assumption) :
    PDS X (.Assign [.Name x pos'] e pos) (dAsg t (dgName i)) := by
  refine (ps_set hN hi hx he hs hf).wk fun Ed σ H ⟨w, env, st, D, W, E, h, fn, fr⟩ => ?_
  exact ⟨w, env, st, _, W, E, h, fun d st1 v w1 H1 h1 l1 W1 R1 => fn _ _ _ _ _ h1 l1 W1 ((E.mono l1).set i R1)⟩
/-- a, b = x, y with plain local names: stored from the right -/
def dPar (i j : Nat) (t : DA) : DS := fun D env st => t env st fun ds s1 => match ds with
  | [d, e] => D.nx ((env.set i (some d)).set j (some e)) s1
  | _ => False
theorem pds_par (i j : Nat) {x y : Str} {t : DA} {px py pt : Pos} {kt k2 pt2} (hc : X.calm = true) (hN : X.N.Nodup) (ha : PDA X [a, b] t) (hi : X.N[i]? = some x := by rfl) (hj : X.N[j]? = some y := by rfl) (hij : i ≠ j := by decide)
    (hx : X.env.scope.names.lookup x = some .local := by rfl) (hy : X.env.scope.names.lookup y = some .local := by rfl)
    (hw : swappedStores [.Tuple [.Name x px, .Name y py] kt pt] (.Tuple [a, b] k2 pt2) X.env = pure (some [x, y]) := by rfl)
    (hs : swapsWithSole [.Tuple [.Name x px, .Name y py] kt pt] (.Tuple [a, b] k2 pt2) pos.line X.env = pure false := by rfl) :
    PDS X (.Assign [.Tuple [.Name x px, .Name y py] kt pt] (.Tuple [a, b] k2 pt2) pos) (dPar i j t) := by
  refine (ps_par hc hN hi hj hij hx hy ha hw hs).wk fun Ed σ H ⟨w, env, st, D, W, E, h, fn, fr⟩ => ?_
  refine ⟨w, env, st, _, W, E, h, fun ds st1 vs w1 H1 h1 l1 W1 R1 => ?_⟩
  match ds, h1, R1 with
  | [d, e], h1, R1 =>
    obtain ⟨v, r, rfl, Rv, R2⟩ := R1.inv
    obtain ⟨u, r', rfl, Ru, R3⟩ := R2.inv
    rw [R3.inv0]
    exact ⟨v, u, rfl, fn _ _ _ _ _ h1 l1 W1 (((E.mono l1).set i Rv).set j Ru)⟩
  | [], h1, _ => exact h1.elim
  | [_], h1, _ => exact h1.elim
  | _ :: _ :: _ :: _, h1, _ => exact h1.elim
end
end DL

/-! a tuple taken once -/
namespace DL
open PySem PySem.Spec PyProof.Rows L2
theorem tupOnce (a : Addr) (vs : Array Value) (n : Nat) (dd : Option Addr) (sl : Array (Option Value)) (u : Tok) :
    Meets (Builtin.«tuple.__mul__» ⟨[.ref a, .int 1 u], []⟩) (fun _ R z => z.heap.get? a = some { cls := .type "tuple", dict := dd, data := .seq vs n, slots := sl } ∧ R (.ok (.ret (Value.ref a))) z) :=
  .of_wp fun pr w A R z hh => by
    obtain ⟨hp, gs, dr, tk, os⟩ := z
    obtain ⟨hl, hh⟩ := hh
    have f1 := AutoSeq1.idx_int
    have c1 : (vs.isEmpty || (1 : Int) == 1) = true := by simp
    wp_walk using wpAny_loadPart' hl
    exact ⟨_, rfl, hh⟩
def rOnceT (K : PySem.W.Frag) : R2 := fun x y H Q => ∃ l xs, x = .ref l ∧ y = .int 1 ∧ SqT K H l xs ∧ Q (.ref l) H
theorem op_onceT {X : Cx} : OpR X (binaryOp .Mult) (rOnceT X.K) := by
  intro pins s σ H x y v u Q I rx ry h
  obtain ⟨l, xs, rfl, rfl, hT, q⟩ := h
  cases rx
  obtain ⟨t, rfl⟩ := ry
  obtain ⟨its, r, ⟨⟨cls, dd, data, sl⟩, ho, hc, n, hd⟩, hs⟩ := I.tuple hT
  simp only at hc hd
  subst hc hd
  refine wpAny_binaryOp_repeat_ref (T := "tuple") (U := "int") (by decide) ⟨_, ho, rfl⟩ (fun s' => typeIs_int s' 1 t) noFill_tuple_mul F.fills_int_mul F.slot_int_rmul repeat_tuple F.slot_int_index.lookup
    (call_meets F.slot_int_rmul (typeIs_int s 1 t) F.entry_int_rmul (F.args_int_rmul_2 _ _) (int_rmul_tuple 1 t l its.toArray n dd sl)
      ⟨ho, rfl, ⟨_, ho, rfl⟩, call_meets F.slot_tuple_mul ⟨_, ho, rfl⟩ F.entry_tuple_mul (F.args_tuple_mul_2 _ _) (tupOnce l its.toArray n dd sl t) ⟨ho, ?_⟩⟩)
  exact ⟨.ref l, H, I, rfl, q⟩
end DL

namespace DL
open PySem PySem.Spec PyProof.Rows L2
/-! ### operators by data -/
def MulOk (a b : Int) : Prop := (-(2 ^ 64) < a ∧ a < 2 ^ 64) ∨ (-(2 ^ 64) < b ∧ b < 2 ^ 64) ∨ a.natAbs.log2 + b.natAbs.log2 < 1000000
def DivOk (b : Int) : Prop := 0 < b ∧ b.natAbs.log2 < 9000
def PowOk (a b : Int) : Prop := 0 ≤ b ∧ b ≤ 1000000 ∧ a.natAbs < 2 ^ 64
def addD : F2 := fun d e st k => match d, e with
  | .int a, .int b => k (.int (a + b)) st
  | .int a, .bl b => k (.int (a + b2i b)) st
  | .bl a, .int b => k (.int (b2i a + b)) st
  | .str a, .str b => a.length + b.length ≤ 16777216 ∧ k (.str (a ++ b)) st
  | .tup a, .tup b => a.length + b.length ≤ 16777216 ∧ k (.tup (a ++ b)) st
  | d, e => match derefM st d, derefM st e with
    | some a, some b => a.length + b.length ≤ 16777216 ∧ k (.lst (a ++ b)) st
    | _, _ => False
def subD : F2 := fun d e st k => match d, e with
  | .int a, .int b => k (.int (a - b)) st
  | .int a, .bl b => k (.int (a - b2i b)) st
  | .bl a, .int b => k (.int (b2i a - b)) st
  | _, _ => False
def mulD : F2 := fun d e st k => match d, e with
  | .int a, .int b => MulOk a b ∧ k (.int (a * b)) st
  | .tup a, .int b => a ≠ [] ∧ 1 ≤ b ∧ b ≤ 1000 ∧ a.length ≤ 1000 ∧ k (.tup (List.replicate b.toNat a).flatten) st
  | .str z, .int b => 0 ≤ b ∧ b ≤ 1 ∧ k (.str (if b < 1 then Str.empty else z)) st
  | d, .int b => match derefM st d with
    | some a => -(2 ^ 63) ≤ b ∧ b < 2 ^ 63 ∧ a.length * b.toNat ≤ 16777216 ∧ k (.lst (List.replicate b.toNat a).flatten) st
    | none => False
  | _, _ => False
def divD : F2 := fun d e st k => match d, e with
  | .int a, .int b => DivOk b ∧ k (.int (a / b)) st
  | _, _ => False
def modD : F2 := fun d e st k => match d, e with
  | .int a, .int b => 0 < b ∧ k (.int (a % b)) st
  | _, _ => False
def powD : F2 := fun d e st k => match d, e with
  | .int a, .int b => PowOk a b ∧ k (.int (a ^ b.toNat)) st
  | _, _ => False
def negD : F1 := fun d st k => match d with
  | .int a => k (.int (-a)) st
  | _ => False

section
variable {X : Cx}
theorem rep_int {K : PySem.W.Frag} {w : Wd} {a : Int} : Rep K w (.int a) (.int a) := by simp only [Rep]
theorem rep_bl {K : PySem.W.Frag} {w : Wd} {a : Bool} : Rep K w (.bl a) (.bl a) := by simp only [Rep]
theorem rep_str {K : PySem.W.Frag} {w : Wd} {a : Str} : Rep K w (.str a) (.str a) := by simp only [Rep]
theorem rep_non {K : PySem.W.Frag} {w : Wd} : Rep K w .non .non := by simp only [Rep]
theorem OpR.wk {f : Value → Value → Sem Value} {r r' : R2} (h : OpR X f r) (i : ∀ x y H Q, r' x y H Q → r x y H Q) : OpR X f r' := fun pins s σ H x y v u Q I rx ry q => h pins s σ H x y v u Q I rx ry (i x y H Q q)
/-- a rule by cases of the data -/
theorem OpR.by_ {f : Value → Value → Sem Value} {g : F2}
    (h : ∀ (x y : V) (H : Hp) (Q : VK) (w : Wd) (st : Sto) (d e : D) (kk : DK), Wld X.K w st H → Rep X.K w d x → Rep X.K w e y → g d e st kk → Fol X.K w kk Q → ∃ r : R2, OpR X f r ∧ r x y H Q) : OpR X f (rD X.K g) :=
  fun pins s σ H x y v u Q I rx ry ⟨w, st, d, e, kk, W, R1, R2, q, fo⟩ => by
    obtain ⟨r, hr, q⟩ := h x y H Q w st d e kk W R1 R2 q fo
    exact hr pins s σ H x y v u Q I rx ry q
theorem cat_lists {w : Wd} {st : Sto} {H : Hp} {d e : D} {x y : V} {kk : DK} {Q : VK} {a b : List D} (W : Wld X.K w st H) (R1 : Rep X.K w d x) (R2 : Rep X.K w e y) (h1 : derefM st d = some a) (h2 : derefM st e = some b)
    (n : a.length + b.length ≤ 16777216) (k : kk (.lst (a ++ b)) st) (fo : Fol X.K w kk Q) : ∃ r : L2.R2, OpR X (binaryOp .Add) r ∧ r x y H Q := by
  obtain ⟨p, vs, rfl, q1, r1, _⟩ := rep_lstM W R1 h1
  obtain ⟨p2, us, rfl, q2, r2, _⟩ := rep_lstM W R2 h2
  have n' : vs.length + us.length ≤ sizeLine := by rw [r1.length, r2.length]; exact line16 n
  exact ⟨rCat, op_cat, p, p2, vs, us, rfl, rfl, q1, q2, n', fol_lst W (r1.append r2) (by rw [List.length_append]; exact n') k fo⟩
theorem op_add_bi : OpR X (binaryOp .Add) (fun x y H Q => ∃ k i, x = .bl k ∧ y = .int i ∧ Q (.int (b2i k + i)) H) := by
  rintro pins s σ H x y v u Q I rx ry ⟨k, i, rfl, rfl, q⟩
  obtain ⟨t, rfl⟩ := ry
  cases rx
  exact PySem.IntBool.add_bool_int ⟨.int (b2i k + i), H, I.tok _, ⟨_, rfl⟩, q⟩
theorem op_sub_bi : OpR X (binaryOp .Sub) (fun x y H Q => ∃ k i, x = .bl k ∧ y = .int i ∧ Q (.int (b2i k - i)) H) := by
  rintro pins s σ H x y v u Q I rx ry ⟨k, i, rfl, rfl, q⟩
  obtain ⟨t, rfl⟩ := ry
  cases rx
  exact PySem.IntBool.sub_bool_int ⟨.int (b2i k - i), H, I.tok _, ⟨_, rfl⟩, q⟩
theorem op_sub_ib : OpR X (binaryOp .Sub) (fun x y H Q => ∃ i k, x = .int i ∧ y = .bl k ∧ Q (.int (i - b2i k)) H) := by
  rintro pins s σ H x y v u Q I rx ry ⟨i, k, rfl, rfl, q⟩
  obtain ⟨t, rfl⟩ := rx
  cases ry
  exact PySem.IntBool.sub_int_bool ⟨.int (i - b2i k), H, I.tok _, ⟨_, rfl⟩, q⟩
theorem dop_add : OpR X (binaryOp .Add) (rD X.K addD) := by
  refine OpR.by_ fun x y H Q w st d e kk W R1 R2 q fo => ?_
  unfold addD at q
  split at q
  · rename_i a b
    simp only [Rep] at R1 R2
    exact ⟨_, op_add, a, b, R1, R2, fo.id q W rep_int⟩
  · rename_i a b
    simp only [Rep] at R1 R2
    exact ⟨_, op_add_ib, a, b, R1, R2, fo.id q W rep_int⟩
  · rename_i a b
    simp only [Rep] at R1 R2
    exact ⟨_, op_add_bi, a, b, R1, R2, fo.id q W rep_int⟩
  · rename_i a b
    simp only [Rep] at R1 R2
    exact ⟨_, op_add_str, a, b, R1, R2, line16 q.1, fo.id q.2 W rep_str⟩
  · rename_i a b
    obtain ⟨p, vs, rfl, q1, r1, _⟩ := rep_tup W R1 rfl
    obtain ⟨p2, us, rfl, q2, r2, _⟩ := rep_tup W R2 rfl
    have n' : vs.length + us.length ≤ sizeLine := by rw [r1.length, r2.length]; exact line16 q.1
    refine ⟨rCatA X.K, op_catA, p, p2, vs, us, rfl, rfl, q1, q2, n', fun e => ?_, fun _ e => ?_, fun _ _ => fol_tup W (r1.append r2) (by rw [List.length_append]; exact n') q.2 fo⟩
    · have ea : a = [] := by
        have := r1.length
        rw [e] at this
        exact List.eq_nil_of_length_eq_zero this.symm
      subst ea
      exact fo.id q.2 W R2
    · have eb : b = [] := by
        have := r2.length
        rw [e] at this
        exact List.eq_nil_of_length_eq_zero this.symm
      subst eb
      refine fo.id q.2 W ?_
      rw [List.append_nil]
      exact R1
  · split at q
    · rename_i a b h1 h2
      exact cat_lists W R1 R2 h1 h2 q.1 q.2 fo
    · exact q.elim
theorem MulOk.ok {a b : Int} (h : MulOk a b) : IntMulOk a b := by
  rcases h with h | h | h
  · exact CMul.ok (.inl h)
  · exact CMul.ok (.inr h)
  · exact CMulW.ok h
theorem op_mulD : OpR X (binaryOp .Mult) (rI MulOk fun i j => .int (i * j)) := opI fun _ _ _ _ _ _ _ hc q => mul_int q hc.ok
theorem op_mul_str : OpR X (binaryOp .Mult) (fun x y H Q => ∃ (z : Str) (i : Int), x = .str z ∧ y = .int i ∧ 0 ≤ i ∧ i ≤ 1 ∧ Q (.str (if i < 1 then Str.empty else z)) H) := by
  rintro pins s σ H x y v u Q I rx ry ⟨z, i, rfl, rfl, h0, h1, q⟩
  obtain ⟨t, rfl⟩ := rx
  obtain ⟨t', rfl⟩ := ry
  rcases (show i = 0 ∨ i = 1 by omega) with rfl | rfl
  · exact P.mul_str_none (by decide) (by decide) ⟨.str Str.empty, H, I.tok _, ⟨_, rfl⟩, q⟩
  · exact P.mul_str (by decide) (fun _ h => by simp at h) (fun _ h => by simp at h) (by
      rw [if_neg (by decide), if_pos (by simp)]
      exact ⟨.str z, H, I, ⟨_, rfl⟩, q⟩)
theorem dop_mul : OpR X (binaryOp .Mult) (rD X.K mulD) := by
  refine OpR.by_ fun x y H Q w st d e kk W R1 R2 q fo => ?_
  unfold mulD at q
  split at q
  · simp only [Rep] at R1 R2
    exact ⟨_, op_mulD, _, _, R1, R2, q.1, fo.id q.2 W rep_int⟩
  · rename_i a b
    obtain ⟨p, vs, rfl, q1, r1, _⟩ := rep_tup W R1 rfl
    simp only [Rep] at R2
    obtain ⟨ne, h1, h2, h3, q⟩ := q
    have nv : vs ≠ [] := fun z => ne (by
      have := r1.length
      rw [z] at this
      exact List.eq_nil_of_length_eq_zero this.symm)
    by_cases hb : b = 1
    · subst hb
      refine ⟨_, op_onceT, p, vs, rfl, R2, q1, fo.id q W ?_⟩
      have e : (List.replicate (1 : Int).toNat a).flatten = a := by
        show (List.replicate 1 a).flatten = a
        simp
      rw [e]
      exact R1
    have h1 : 2 ≤ b := by omega
    refine ⟨rRepT X.K, op_repT, p, b, vs, rfl, R2, q1, nv, h1, h2, by rw [r1.length]; exact h3, ?_⟩
    refine fol_tup W (r1.rep b.toNat) ?_ q fo
    rw [PyProof.Rows.lm_len_rep_flat, sizeLine_eq, r1.length]
    have a1 : b.toNat * a.length ≤ 1000 * 1000 := Nat.mul_le_mul (by omega) h3
    omega
  · rename_i z b
    simp only [Rep] at R1 R2
    obtain ⟨h0, h1, q⟩ := q
    exact ⟨_, op_mul_str, z, b, R1, R2, h0, h1, fo.id q W rep_str⟩
  · split at q
    · rename_i a ha
      simp only [Rep] at R2
      obtain ⟨p, vs, rfl, q1, r1, _⟩ := rep_lstM W R1 ha
      obtain ⟨h1, h2, h3, q⟩ := q
      have n' := line16 h3
      rw [← r1.length] at n'
      refine ⟨rRep, op_rep, p, _, vs, rfl, R2, q1, h1, h2, n', fol_lst W (r1.rep _) ?_ q fo⟩
      rw [PyProof.Rows.lm_len_rep_flat, Nat.mul_comm]
      exact n'
    · exact q.elim
  · exact q.elim
theorem dop_sub : OpR X (binaryOp .Sub) (rD X.K subD) := by
  refine OpR.by_ fun x y H Q w st d e kk W R1 R2 q fo => ?_
  unfold subD at q
  split at q
  · simp only [Rep] at R1 R2
    exact ⟨_, op_sub, _, _, R1, R2, fo.id q W rep_int⟩
  · simp only [Rep] at R1 R2
    exact ⟨_, op_sub_ib, _, _, R1, R2, fo.id q W rep_int⟩
  · simp only [Rep] at R1 R2
    exact ⟨_, op_sub_bi, _, _, R1, R2, fo.id q W rep_int⟩
  · exact q.elim
theorem dop_div : OpR X (binaryOp .FloorDiv) (rD X.K divD) := by
  refine OpR.by_ fun x y H Q w st d e kk W R1 R2 q fo => ?_
  unfold divD at q
  split at q
  · simp only [Rep] at R1 R2
    exact ⟨_, op_fdivW, _, _, R1, R2, q.1, fo.id q.2 W rep_int⟩
  · exact q.elim
theorem dop_mod : OpR X (binaryOp .Mod) (rD X.K modD) := by
  refine OpR.by_ fun x y H Q w st d e kk W R1 R2 q fo => ?_
  unfold modD at q
  split at q
  · simp only [Rep] at R1 R2
    exact ⟨_, op_mod, _, _, R1, R2, q.1, fo.id q.2 W rep_int⟩
  · exact q.elim
theorem dop_pow : OpR X (binaryOp .Pow) (rD X.K powD) := by
  refine OpR.by_ fun x y H Q w st d e kk W R1 R2 q fo => ?_
  unfold powD at q
  split at q
  · simp only [Rep] at R1 R2
    exact ⟨_, op_pow, _, _, R1, R2, q.1, fo.id q.2 W rep_int⟩
  · exact q.elim
theorem dun_neg : UnR X (unaryOp .USub) (rD1 X.K negD) := by
  rintro pins s σ H x v Q I rx ⟨w, st, d, kk, W, R1, q, fo⟩
  unfold negD at q
  split at q
  · simp only [Rep] at R1
    exact un_neg pins s σ H x v Q I rx ⟨_, R1, fo.id q W rep_int⟩
  · exact q.elim

/-! ### comparisons -/
mutual
def eqD : D → D → Bool
  | .non, .non => true
  | .bl a, .bl b => a == b
  | .bl a, .int j => (if a then 1 else 0) == j
  | .int i, .bl b => i == (if b then 1 else 0)
  | .int i, .int j => i == j
  | .str x, .str y => x == y
  | .lst xs, .lst ys => eqDs xs ys
  | .tup xs, .tup ys => eqDs xs ys
  | _, _ => false
def eqDs : List D → List D → Bool
  | [], [] => true
  | x :: xs, y :: ys => eqD x y && eqDs xs ys
  | _, _ => false
end
mutual
/-- data that == goes through: no list of the store within, so deep at most -/
def okD : Nat → D → Bool
  | _, .non => true
  | _, .bl _ => true
  | _, .int _ => true
  | _, .str x => PyData.strOk x
  | 0, .lst _ => false
  | n + 1, .lst xs => okDs n xs
  | 0, .tup _ => false
  | n + 1, .tup xs => okDs n xs
  | _, .klst _ => false
  | _, .obj _ => false
  | _, .dic _ _ => false
  | _, .fdic _ _ => false
  | _, .gtup _ => false
def okDs : Nat → List D → Bool
  | _, [] => true
  | n, x :: xs => okD n x && okDs n xs
end
mutual
def toP : D → PyData
  | .non => .none
  | .bl b => .bool b
  | .int i => .int i
  | .str x => .str x
  | .lst xs => .list (toPs xs)
  | .tup xs => .tuple (toPs xs)
  | .klst _ => .none
  | .obj _ => .none
  | .dic _ _ => .none
  | .fdic _ _ => .none
  | .gtup _ => .none
def toPs : List D → List PyData
  | [] => []
  | x :: xs => toP x :: toPs xs
end
mutual
theorem eqv_toP : ∀ (n m : Nat) (a b : D), okD n a = true → okD m b = true → PyData.eqv (toP a) (toP b) = eqD a b
  | n, m, .lst xs, .lst ys, h, g => by
    cases n with
    | zero => simp [okD] at h
    | succ n =>
      cases m with
      | zero => simp [okD] at g
      | succ m =>
        simp only [okD] at h g
        simp only [toP, PyData.eqv, eqD]
        exact eqv_toPs n m xs ys h g
  | n, m, .tup xs, .tup ys, h, g => by
    cases n with
    | zero => simp [okD] at h
    | succ n =>
      cases m with
      | zero => simp [okD] at g
      | succ m =>
        simp only [okD] at h g
        simp only [toP, PyData.eqv, eqD]
        exact eqv_toPs n m xs ys h g
  | n, m, .klst xs, _, h, g => by cases n <;> simp [okD] at h
  | n, m, .obj xs, _, h, g => by cases n <;> simp [okD] at h
  | n, m, .dic _ _, _, h, g => by cases n <;> simp [okD] at h
  | n, m, .fdic _ _, _, h, g => by cases n <;> simp [okD] at h
  | n, m, .gtup _, _, h, g => by cases n <;> simp [okD] at h
  | n, m, _, .klst xs, h, g => by cases m <;> simp [okD] at g
  | n, m, _, .obj xs, h, g => by cases m <;> simp [okD] at g
  | n, m, _, .dic _ _, h, g => by cases m <;> simp [okD] at g
  | n, m, _, .fdic _ _, h, g => by cases m <;> simp [okD] at g
  | n, m, _, .gtup _, h, g => by cases m <;> simp [okD] at g
  | n, m, .non, b, h, g => by cases b <;> (first | (simp [toP, PyData.eqv, eqD]; done) | (cases m <;> simp [okD] at g))
  | n, m, .bl _, b, h, g => by cases b <;> (first | (simp [toP, PyData.eqv, eqD]; done) | (cases m <;> simp [okD] at g))
  | n, m, .int _, b, h, g => by cases b <;> (first | (simp [toP, PyData.eqv, eqD]; done) | (cases m <;> simp [okD] at g))
  | n, m, .str _, b, h, g => by cases b <;> (first | (simp [toP, PyData.eqv, eqD]; done) | (cases m <;> simp [okD] at g))
  | n, m, .lst _, .non, h, g => by simp [toP, PyData.eqv, eqD]
  | n, m, .lst _, .bl _, h, g => by simp [toP, PyData.eqv, eqD]
  | n, m, .lst _, .int _, h, g => by simp [toP, PyData.eqv, eqD]
  | n, m, .lst _, .str _, h, g => by simp [toP, PyData.eqv, eqD]
  | n, m, .lst _, .tup _, h, g => by simp [toP, PyData.eqv, eqD]
  | n, m, .tup _, .non, h, g => by simp [toP, PyData.eqv, eqD]
  | n, m, .tup _, .bl _, h, g => by simp [toP, PyData.eqv, eqD]
  | n, m, .tup _, .int _, h, g => by simp [toP, PyData.eqv, eqD]
  | n, m, .tup _, .str _, h, g => by simp [toP, PyData.eqv, eqD]
  | n, m, .tup _, .lst _, h, g => by simp [toP, PyData.eqv, eqD]
theorem eqv_toPs : ∀ (n m : Nat) (a b : List D), okDs n a = true → okDs m b = true → PyData.eqvAll (toPs a) (toPs b) = eqDs a b
  | n, m, [], [], _, _ => by simp [toPs, PyData.eqvAll, eqDs]
  | n, m, [], _ :: _, _, _ => by simp [toPs, PyData.eqvAll, eqDs]
  | n, m, _ :: _, [], _, _ => by simp [toPs, PyData.eqvAll, eqDs]
  | n, m, x :: xs, y :: ys, h, g => by
    simp only [okDs, Bool.and_eq_true] at h g
    simp only [toPs, PyData.eqvAll, eqDs]
    rw [eqv_toP n m x y h.1 g.1, eqv_toPs n m xs ys h.2 g.2]
end
mutual
theorem shape_toP : ∀ (n : Nat) (a : D), okD n a = true → (toP a).canLay0 = true ∧ (toP a).depth ≤ n
  | n, .non, _ => by simp [toP, PyData.canLay0, PyData.depth]
  | n, .bl _, _ => by simp [toP, PyData.canLay0, PyData.depth]
  | n, .int _, _ => by simp [toP, PyData.canLay0, PyData.depth]
  | n, .str x, h => by
    have h' : PyData.strOk x = true := by cases n <;> simpa only [okD] using h
    simp [toP, PyData.canLay0, PyData.depth, h']
  | n, .klst xs, h => by cases n <;> simp [okD] at h
  | n, .obj xs, h => by cases n <;> simp [okD] at h
  | n, .dic _ _, h => by cases n <;> simp [okD] at h
  | n, .fdic _ _, h => by cases n <;> simp [okD] at h
  | n, .gtup _, h => by cases n <;> simp [okD] at h
  | 0, .lst xs, h => by simp [okD] at h
  | n + 1, .lst xs, h => by
    simp only [okD] at h
    obtain ⟨h1, h2⟩ := shape_toPs n xs h
    simp only [toP, PyData.canLay0, PyData.depth]
    exact ⟨h1, by omega⟩
  | 0, .tup xs, h => by simp [okD] at h
  | n + 1, .tup xs, h => by
    simp only [okD] at h
    obtain ⟨h1, h2⟩ := shape_toPs n xs h
    simp only [toP, PyData.canLay0, PyData.depth]
    exact ⟨h1, by omega⟩
theorem shape_toPs : ∀ (n : Nat) (a : List D), okDs n a = true → PyData.canLayAll0 (toPs a) = true ∧ PyData.depthAll (toPs a) ≤ n
  | n, [], _ => by simp [toPs, PyData.canLayAll0, PyData.depthAll]
  | n, x :: xs, h => by
    simp only [okDs, Bool.and_eq_true] at h
    obtain ⟨h1, h2⟩ := shape_toP n x h.1
    obtain ⟨h3, h4⟩ := shape_toPs n xs h.2
    simp only [toPs, PyData.canLayAll0, PyData.depthAll, Bool.and_eq_true]
    exact ⟨⟨h1, h3⟩, Nat.max_le.mpr ⟨h2, h4⟩⟩
end
mutual
theorem dp_of {K : PySem.W.Frag} {w : Wd} {H : Hp} (s : Same w.G H) : ∀ (n : Nat) (a : D) (v : V), okD n a = true → Rep K w a v → Dp K H v (toP a)
  | n, .non, v, _, R => by
    simp only [Rep] at R
    subst R
    simp only [toP]
    exact .non
  | n, .bl _, v, _, R => by
    simp only [Rep] at R
    subst R
    simp only [toP]
    exact .bl _
  | n, .int _, v, _, R => by
    simp only [Rep] at R
    subst R
    simp only [toP]
    exact .int _
  | n, .str _, v, _, R => by
    simp only [Rep] at R
    subst R
    simp only [toP]
    exact .str _
  | n, .klst xs, _, h, _ => by cases n <;> simp [okD] at h
  | n, .obj xs, _, h, _ => by cases n <;> simp [okD] at h
  | n, .dic _ _, _, h, _ => by cases n <;> simp [okD] at h
  | n, .fdic _ _, _, h, _ => by cases n <;> simp [okD] at h
  | n, .gtup _, _, h, _ => by cases n <;> simp [okD] at h
  | 0, .lst xs, _, h, _ => by simp [okD] at h
  | n + 1, .lst xs, v, h, R => by
    simp only [okD] at h
    simp only [Rep] at R
    obtain ⟨a, vs, rfl, q, r⟩ := R
    simp only [toP]
    exact .lst (.of (s _ _ q)) (dps_of s n xs vs h r)
  | 0, .tup xs, _, h, _ => by simp [okD] at h
  | n + 1, .tup xs, v, h, R => by
    simp only [okD] at h
    simp only [Rep] at R
    obtain ⟨a, vs, rfl, q, r⟩ := R
    simp only [toP]
    exact .tup (.of (s _ _ q)) (dps_of s n xs vs h r)
theorem dps_of {K : PySem.W.Frag} {w : Wd} {H : Hp} (s : Same w.G H) : ∀ (n : Nat) (a : List D) (vs : List V), okDs n a = true → Reps K w a vs → DpAll K H vs (toPs a)
  | n, [], vs, _, R => by
    rw [R.inv0]
    simp only [toPs]
    exact .nil
  | n, x :: xs, vs, h, R => by
    simp only [okDs, Bool.and_eq_true] at h
    obtain ⟨v, r, rfl, R1, R2⟩ := R.inv
    simp only [toPs]
    exact .cons (dp_of s n x v h.1 R1) (dps_of s n xs r h.2 R2)
end
theorem dp_deref {K : PySem.W.Frag} {w : Wd} {st : Sto} {H : Hp} {d : D} {v : V} (W : Wld K w st H) (R : Rep K w d v) (ok : okD 60 (deref st d) = true) : Dp K H v (toP (deref st d)) := by
  cases e : deref st d with
  | lst xs =>
    obtain ⟨a, vs, rfl, q, r, _⟩ := rep_lst W R e
    rw [e] at ok
    simp only [okD] at ok
    simp only [toP]
    exact .lst q (dps_of W.same 59 xs vs ok r)
  | obj i =>
    rw [e] at ok
    simp [okD] at ok
  | tup xs =>
    obtain ⟨a, vs, rfl, q, r, _⟩ := rep_tup W R e
    rw [e] at ok
    simp only [okD] at ok
    simp only [toP]
    exact .tup q (dps_of W.same 59 xs vs ok r)
  | _ =>
    rw [e] at ok
    have z := deref_self e (fun _ z => by cases z) (fun _ z => by cases z)
    first
      | (rw [z] at R; exact dp_of W.same 60 _ v ok R)
      | (simp [okD] at ok)
def eqOp (neg : Bool) : F2 := fun d e st k => okD 60 (deref st d) = true ∧ okD 60 (deref st e) = true ∧ k (.bl (if neg then !eqD (deref st d) (deref st e) else eqD (deref st d) (deref st e))) st
theorem shaped_of {a : D} (h : okD 60 a = true) : SeqAt.shaped (toP a) = true := by
  obtain ⟨h1, h2⟩ := shape_toP 60 a h
  unfold SeqAt.shaped
  rw [h1, decide_eq_true (by omega)]
  rfl
theorem dop_eq (hu : X.A.units + 64 < cLine) : OpR X (compareOp .Eq) (rD X.K (eqOp false)) := by
  refine OpR.by_ fun x y H Q w st d e kk W R1 R2 q fo => ?_
  obtain ⟨h1, h2, q⟩ := q
  refine ⟨rEqD X.K, op_eqD hu, _, _, dp_deref W R1 h1, dp_deref W R2 h2, shaped_of h1, shaped_of h2, ?_⟩
  rw [eqv_toP 60 60 _ _ h1 h2]
  exact fo.id q W rep_bl
theorem dop_ne (hu : X.A.units + 64 < cLine) : OpR X (compareOp .NotEq) (rD X.K (eqOp true)) := by
  refine OpR.by_ fun x y H Q w st d e kk W R1 R2 q fo => ?_
  obtain ⟨h1, h2, q⟩ := q
  refine ⟨rNeD X.K, op_neD hu, _, _, dp_deref W R1 h1, dp_deref W R2 h2, shaped_of h1, shaped_of h2, ?_⟩
  rw [eqv_toP 60 60 _ _ h1 h2]
  exact fo.id q W rep_bl
def cmpI (p : Int → Int → Bool) : F2 := fun d e st k => match d, e with
  | .int a, .int b => k (.bl (p a b)) st
  | _, _ => False
theorem dop_cmpI {op : CmpOp} {p : Int → Int → Bool} (h : OpR X (compareOp op) (rI0 fun i j => .bl (p i j))) : OpR X (compareOp op) (rD X.K (cmpI p)) := by
  refine OpR.by_ fun x y H Q w st d e kk W R1 R2 q fo => ?_
  unfold cmpI at q
  split at q
  · simp only [Rep] at R1 R2
    exact ⟨_, h, _, _, R1, R2, fo.id q W rep_bl⟩
  · exact q.elim
theorem dop_lt : OpR X (compareOp .Lt) (rD X.K (cmpI fun i j => decide (i < j))) := dop_cmpI op_lt
theorem dop_gt : OpR X (compareOp .Gt) (rD X.K (cmpI fun i j => decide (j < i))) := dop_cmpI op_gt
theorem dop_ge : OpR X (compareOp .GtE) (rD X.K (cmpI fun i j => decide (j ≤ i))) := dop_cmpI op_ge
def isNon : D → Bool
  | .non => true
  | _ => false
def isOp (neg : Bool) : F2 := fun d e st k => match e with
  | .non => k (.bl (if neg then !isNon d else isNon d)) st
  | .bl b => match d with
    | .bl a => k (.bl (if neg then !(a == b) else a == b)) st
    | _ => False
  | _ => False
theorem op_isB {X : Cx} : OpR X (compareOp .Is) (fun x y H Q => ∃ a b, x = .bl a ∧ y = .bl b ∧ Q (.bl (a == b)) H) := by
  rintro pins s σ H x y v u Q I rx ry ⟨a, b, rfl, rfl, q⟩
  cases (show v = Value.bool a from rx)
  cases (show u = Value.bool b from ry)
  exact wpAny_is_plain (by cases a <;> cases b <;> rfl) (fin_bl I q (by cases a <;> cases b <;> rfl))
theorem isNon_rep {K : PySem.W.Frag} {w : Wd} {d : D} {v : V} (R : Rep K w d v) : decide (v = .non) = isNon d := by
  cases d with
  | non => simp only [Rep] at R; subst R; rfl
  | bl _ => simp only [Rep] at R; subst R; rfl
  | int _ => simp only [Rep] at R; subst R; rfl
  | str _ => simp only [Rep] at R; subst R; rfl
  | lst _ => simp only [Rep] at R; obtain ⟨_, _, rfl, _⟩ := R; rfl
  | klst _ => simp only [Rep] at R; obtain ⟨_, _, rfl, _⟩ := R; rfl
  | tup _ => simp only [Rep] at R; obtain ⟨_, _, rfl, _⟩ := R; rfl
  | obj _ => simp only [Rep] at R; obtain ⟨_, rfl, _⟩ := R; rfl
  | dic _ _ => simp only [Rep] at R; obtain ⟨_, rfl, _⟩ := R; rfl
  | fdic t _ => rcases t with (_ | _) | _ | _ | _ <;> (simp only [Rep] at R; first | (obtain ⟨_, _, rfl, _⟩ := R; rfl) | (obtain ⟨_, _, _, rfl, _⟩ := R; rfl) | (obtain ⟨_, _, _, _, rfl, _⟩ := R; rfl))
  | gtup _ => simp only [Rep] at R; obtain ⟨_, _, rfl, _⟩ := R; rfl
theorem dop_is : OpR X (compareOp .Is) (rD X.K (isOp false)) := by
  refine OpR.by_ fun x y H Q w st d e kk W R1 R2 q fo => ?_
  unfold isOp at q
  split at q
  · simp only [Rep] at R2
    refine ⟨_, op_isN, R2, ?_⟩
    rw [isNon_rep R1]
    exact fo.id q W rep_bl
  · split at q
    · simp only [Rep] at R1 R2
      exact ⟨_, op_isB, ⟨_, _, R1, R2, fo.id q W rep_bl⟩⟩
    · exact q.elim
  · exact q.elim
/-! ### chained comparisons -/
variable {a b c : Expr} {pos : Pos} {ta tb tc : DE}
/-! ### subscripts, slices -/
def ixD : F2 := fun d e st k => match e with
  | .int i => match deref st d with
    | .lst xs => ∃ x, atI xs i = some x ∧ k x st
    | .tup xs => ∃ x, atI xs i = some x ∧ k x st
    | .str z => z.length ≤ 16777216 ∧ ∃ c, atI z.cps.toList i = some c ∧ k (.str ⟨#[c]⟩) st
    | _ => False
  | _ => False
theorem atI_rep {K : PySem.W.Frag} {w : Wd} {xs : List D} {vs : List V} {i : Int} {x : D} (r : Reps K w xs vs) (h : atI xs i = some x) : ∃ v, atI vs i = some v ∧ Rep K w x v := by
  unfold atI at h ⊢
  rw [← r.length] at h
  cases e : ixN vs.length i with
  | none => rw [e] at h; cases h
  | some j =>
    rw [e] at h
    obtain ⟨v, e1, e2⟩ := r.get (i := j) (d := x) h
    exact ⟨v, e1, e2⟩
theorem dix : IxR X (rD X.K ixD) := by
  rintro value slice pins s σ H x y v u Q I rx ry ⟨w, st, d, e, kk, W, R1, R2, q, fo⟩ hs
  unfold ixD at q
  split at q
  · rename_i i
    simp only [Rep] at R2
    split at q
    · rename_i xs hd
      obtain ⟨z, hz, q⟩ := q
      obtain ⟨p, vs, e1, q1, r1, _⟩ := rep_lst W R1 hd
      obtain ⟨zv, hv, rz⟩ := atI_rep r1 hz
      exact ix_list value slice pins s σ H x y v u Q I rx ry ⟨p, vs, i, zv, e1, R2, q1, hv, fo.id q W rz⟩ hs
    · rename_i xs hd
      obtain ⟨z, hz, q⟩ := q
      obtain ⟨p, vs, e1, q1, r1, _⟩ := rep_tup W R1 hd
      obtain ⟨zv, hv, rz⟩ := atI_rep r1 hz
      exact ix_tup value slice pins s σ H x y v u Q I rx ry ⟨p, vs, i, zv, e1, R2, q1, hv, fo.id q W rz⟩ hs
    · rename_i z hd
      obtain ⟨hz, c, hc, q⟩ := q
      have e0 := deref_self hd (fun _ z => by cases z) (fun _ z => by cases z)
      subst e0
      simp only [Rep] at R1
      exact ix_str value slice pins s σ H x y v u Q I rx ry ⟨z, i, c, R1, R2, line16 hz, hc, fo.id q W rep_str⟩ hs
    · exact q.elim
  · exact q.elim
theorem pd_ix (ha : PD X a ta) (hb : PD X b tb) (hs : PlainIx b := by exact fun _ _ => rfl) : PD X (.Subscript a b pos) (dOp ixD ta tb) :=
  (pe_ix dix ha hb hs).wk fun _ _ _ h => d2_in h
/-- the items of xs[lo:hi] -/
def cutD {α : Type} (xs : List α) (lo hi : Option Int) : List α := (xs.drop (HT.sIx xs.length 0 lo)).take (HT.sIx xs.length xs.length hi - HT.sIx xs.length 0 lo)
abbrev DO := Env → Sto → (Option Int → Sto → Prop) → Prop
def tDO (K : PySem.W.Frag) (t : DO) : TO := fun σ H Q => ∃ w env st kk, Wld K w st H ∧ EnvR K w env σ ∧ t env st kk ∧ ∀ o st' w' H', kk o st' → Le w w' → Wld K w' st' H' → Q o H'
abbrev PDO (X : Cx) (e : Option Expr) (t : DO) : Prop := PO X e (tDO X.K t)
theorem _root_.L2.PO.wk {X : Cx} {e : Option Expr} {t t' : TO} (h : PO X e t) (i : ∀ σ H Q, t' σ H Q → t σ H Q) : PO X e t' := ⟨fun pins s σ H Q I q => h.run pins s σ H Q I (i σ H Q q)⟩
def dNo : DO := fun _ st k => k none st
def dSome (t : DE) : DO := fun env st k => t env st fun d s1 => match d with
  | .int i => k (some i) s1
  | _ => False
theorem pdo_none : PDO X none dNo := po_none.wk fun σ H Q ⟨w, env, st, kk, W, E, h, fo⟩ => fo _ _ _ _ h (.refl _) W
theorem pdo_some {e : Expr} (h : PD X e ta) : PDO X (some e) (dSome ta) := by
  refine (po_some h).wk fun σ H Q ⟨w, env, st, kk, W, E, h, fo⟩ => ?_
  refine ⟨w, env, st, _, W, E, h, fun d st1 v w1 H1 h1 l1 W1 R1 => ?_⟩
  cases d with
  | int i =>
    simp only [Rep] at R1
    exact ⟨i, R1, fo _ _ _ _ h1 l1 W1⟩
  | _ => exact h1.elim
def cutOp (d : D) (lo hi : Option Int) (st : Sto) (k : DK) : Prop := match deref st d with
  | .lst xs => k (.lst (cutD xs lo hi)) st
  | .tup xs => noG d (k (.tup (cutD xs lo hi)) st)
  | .str z => z.length ≤ 16777216 ∧ k (.str (L2.cutS z lo hi)) st
  | _ => False
theorem cut_reps {K : PySem.W.Frag} {w : Wd} {xs : List D} {vs : List V} (r : Reps K w xs vs) (lo hi : Option Int) : Reps K w (cutD xs lo hi) (cutV vs lo hi) := by
  unfold cutD cutV
  rw [← r.length]
  exact (r.drop _).take _
def rCut (K : PySem.W.Frag) (f : D → Option Int → Option Int → Sto → DK → Prop) : V → Option Int → Option Int → Hp → VK → Prop := fun x lo hi H Q => ∃ w st d kk, Wld K w st H ∧ Rep K w d x ∧ f d lo hi st kk ∧ Fol K w kk Q
theorem cutV_le (vs : List V) (lo hi : Option Int) (h : vs.length ≤ sizeLine) : (cutV vs lo hi).length ≤ sizeLine := Nat.le_trans (cutV_length vs lo hi) h
theorem sl_cut : SlR X (rCut X.K cutOp) := by
  rintro pins s σ H x v vl vu lo hi sl Q I rx hs pl pu ⟨w, st, d, kk, W, R1, q, fo⟩
  unfold cutOp at q
  split at q
  · rename_i xs hd
    obtain ⟨p, vs, e1, q1, r1, n⟩ := rep_lst W R1 hd
    exact sl_list pins s σ H x v vl vu lo hi sl Q I rx hs pl pu ⟨p, vs, e1, q1, fol_lst W (cut_reps r1 lo hi) (cutV_le vs lo hi n) q fo⟩
  · rename_i xs hd
    obtain ⟨p, vs, e1, q1, r1, n⟩ := rep_tup W R1 hd
    obtain ⟨ng, q⟩ := noG_of q
    refine sl_tupA pins s σ H x v vl vu lo hi sl Q I rx hs pl pu ⟨p, vs, e1, q1, fun hw => ?_, fun _ => fol_tup W (cut_reps r1 lo hi) (cutV_le vs lo hi n) q fo⟩
    have ec : cutD xs lo hi = xs := by
      unfold cutD
      rw [← r1.length, hw.1, hw.2, List.drop_zero, r1.length, Nat.sub_zero, List.take_length]
    refine fo.id q W ?_
    rw [ec]
    have e0 := deref_tup hd ng
    rw [← e0, ← e1]
    exact R1
  · rename_i z hd
    have e0 : d = .str z := by
      cases d <;> simp only [deref] at hd <;> first | exact hd | (cases hd) | (split at hd <;> cases hd)
    subst e0
    simp only [Rep] at R1
    exact sl_str pins s σ H x v vl vu lo hi sl Q I rx hs pl pu ⟨z, R1, line16 q.1, fo.id q.2 W rep_str⟩
  · exact q.elim
def dCut (f : D → Option Int → Option Int → Sto → DK → Prop) (t : DE) (l h : DO) : DE := fun env st k => t env st fun d s1 => l env s1 fun lo s2 => h env s2 fun hi s3 => f d lo hi s3 k
theorem pd_cut {f : D → Option Int → Option Int → Sto → DK → Prop} {lo hi : Option Expr} {tl th : DO} {p2 : Pos} (hf : SlR X (rCut X.K f)) (he : PD X a ta) (hl : PDO X lo tl) (hu : PDO X hi th) : PD X (.Subscript a (.Slice lo hi none p2) pos) (dCut f ta tl th) := by
  refine (pe_slice hf he hl hu).wk fun σ H Q ⟨w, env, st, kk, W, E, h, fo⟩ => ?_
  exact ⟨w, env, st, _, W, E, h, fun d st1 v w1 H1 h1 l1 W1 R1 => ⟨w1, env, st1, _, W1, E.mono l1, h1, fun lo st2 w2 H2 h2 l2 W2 =>
    ⟨w2, env, st2, _, W2, (E.mono l1).mono l2, h2, fun hi st3 w3 H3 h3 l3 W3 => ⟨w3, st3, d, kk, W3, Rep.mono (l2.trans l3) _ _ R1, h3, fo.le ((l1.trans l2).trans l3)⟩⟩⟩⟩

/-! ### built-ins called -/
abbrev FB := List D → Sto → DK → Prop
def rDB (K : PySem.W.Frag) (f : FB) : List V → Hp → VK → Prop := fun vs H Q => ∃ w st ds kk, Wld K w st H ∧ Reps K w ds vs ∧ f ds st kk ∧ Fol K w kk Q
def dB (f : FB) (t : DA) : DE := fun env st k => t env st fun ds s1 => f ds s1 k
variable {e : Expr} {es : List Expr} {x : Str} {p : Pos} {idn T : String} {f : FB} {t : DA}
theorem db_in {K : PySem.W.Frag} {σ : L2.St} {H : Hp} {Q : VK} (h : tD K (dB f t) σ H Q) : tCB (rDB K f) (tDA K t) σ H Q := by
  obtain ⟨w, env, st, kk, W, E, h, fo⟩ := h
  exact ⟨w, env, st, _, W, E, h, fun ds st1 vs w1 H1 h1 l1 W1 R1 => ⟨w1, st1, ds, kk, W1, R1, h1, fo.le l1⟩⟩
theorem pd_callB (hc : CallR X (.builtin idn) (rDB X.K f)) (hm : X.mg x = none) (hv : bootBuiltins x = some (.builtin idn)) (ha : PDA X (e :: es) t) (hg : Gl X x := by rfl) (hn : x ≠ "__name__" := by decide) (hdb : (x == ("__debug__" : Str)) = false := by decide)
    (he : starEach (e :: es) X.env = (false, eval e X.env) :: starEach es X.env := by rfl) (hpl : (backTo pos (starEach es X.env)).any (·.1) = false := by rfl) : PD X (.Call (.Name x p) (e :: es) [] pos) (dB f t) :=
  (pe_callB hc hg hm hv ha hn hdb he hpl).wk fun _ _ _ h => db_in h
theorem pd_callTy (hc : CallR X (.type T) (rDB X.K f)) (hm : X.mg x = none) (hv : bootBuiltins x = some (.type T)) (ha : PDA X (e :: es) t) (hg : Gl X x := by rfl) (hn : x ≠ "__name__" := by decide) (hdb : (x == ("__debug__" : Str)) = false := by decide)
    (he : starEach (e :: es) X.env = (false, eval e X.env) :: starEach es X.env := by rfl) (hpl : (backTo pos (starEach es X.env)).any (·.1) = false := by rfl) : PD X (.Call (.Name x p) (e :: es) [] pos) (dB f t) :=
  (pe_callTy hc hg hm hv ha hn hdb he hpl).wk fun _ _ _ h => db_in h
theorem CallR.by_ {g : Value} {f : FB}
    (h : ∀ (vs : List V) (H : Hp) (Q : VK) (w : Wd) (st : Sto) (ds : List D) (kk : DK), Wld X.K w st H → Reps X.K w ds vs → f ds st kk → Fol X.K w kk Q → ∃ r : List V → Hp → VK → Prop, CallR X g r ∧ r vs H Q) : CallR X g (rDB X.K f) :=
  fun pins s σ H xs us Q I rs ⟨w, st, ds, kk, W, R, q, fo⟩ => by
    obtain ⟨r, hr, q⟩ := h xs H Q w st ds kk W R q fo
    exact hr pins s σ H xs us Q I rs q
theorem one_rep {K : PySem.W.Frag} {w : Wd} {d : D} {vs : List V} (R : Reps K w [d] vs) : ∃ v, vs = [v] ∧ Rep K w d v := by
  obtain ⟨v, r, rfl, h1, h2⟩ := R.inv
  rw [h2.inv0]
  exact ⟨v, rfl, h1⟩
theorem two_rep {K : PySem.W.Frag} {w : Wd} {d e : D} {vs : List V} (R : Reps K w [d, e] vs) : ∃ v u, vs = [v, u] ∧ Rep K w d v ∧ Rep K w e u := by
  obtain ⟨v, r, rfl, h1, h2⟩ := R.inv
  obtain ⟨u, rfl, h3⟩ := one_rep h2
  exact ⟨v, u, rfl, h1, h3⟩
def bLen : FB := fun ds st k => match ds with
  | [d] => match deref st d with
    | .lst xs => k (.int xs.length) st
    | .tup xs => k (.int xs.length) st
    | .str z => z.length ≤ 16777216 ∧ k (.int z.length) st
    | _ => False
  | _ => False
theorem cb_len : CallR X (.builtin "len") (rDB X.K bLen) := by
  refine CallR.by_ fun vs H Q w st ds kk W R q fo => ?_
  unfold bLen at q
  split at q
  · obtain ⟨v, rfl, R1⟩ := one_rep R
    split at q
    · rename_i hd
      obtain ⟨p, us, rfl, q1, r1, _⟩ := rep_lst W R1 hd
      refine ⟨_, call_len_seq, p, us, rfl, .inl q1, ?_⟩
      rw [r1.length]
      exact fo.id q W rep_int
    · rename_i hd
      obtain ⟨p, us, rfl, q1, r1, _⟩ := rep_tup W R1 hd
      refine ⟨_, call_len_seq, p, us, rfl, .inr q1, ?_⟩
      rw [r1.length]
      exact fo.id q W rep_int
    · rename_i hd
      have e0 := deref_self hd (fun _ z => by cases z) (fun _ z => by cases z)
      subst e0
      simp only [Rep] at R1
      subst R1
      exact ⟨_, call_len_str, _, rfl, line16 q.1, fo.id q.2 W rep_int⟩
    · exact q.elim
  · exact q.elim
def bAbs : FB := fun ds st k => match ds with
  | [.int i] => k (.int (if i < 0 then -i else i)) st
  | _ => False
theorem cb_abs : CallR X (.builtin "abs") (rDB X.K bAbs) := by
  refine CallR.by_ fun vs H Q w st ds kk W R q fo => ?_
  unfold bAbs at q
  split at q
  · obtain ⟨v, rfl, R1⟩ := one_rep R
    simp only [Rep] at R1
    subst R1
    exact ⟨_, call_abs, _, rfl, fo.id q W rep_int⟩
  · exact q.elim
def bInt : FB := fun ds st k => match ds with
  | [.int i] => k (.int i) st
  | [.bl b] => k (.int (if b = true then 1 else 0)) st
  | _ => False
theorem cb_int : CallR X (.type "int") (rDB X.K bInt) := by
  refine CallR.by_ fun vs H Q w st ds kk W R q fo => ?_
  unfold bInt at q
  split at q
  · obtain ⟨v, rfl, R1⟩ := one_rep R
    simp only [Rep] at R1
    subst R1
    exact ⟨_, call_int1, .inl ⟨_, rfl, fo.id q W rep_int⟩⟩
  · obtain ⟨v, rfl, R1⟩ := one_rep R
    simp only [Rep] at R1
    subst R1
    exact ⟨_, call_int1, .inr ⟨_, rfl, fo.id q W rep_int⟩⟩
  · exact q.elim
/-- a list of ints, read off -/
def intsD : List D → Option (List Int)
  | [] => some []
  | .int i :: r => (intsD r).map (i :: ·)
  | _ => none
theorem intsD_map : ∀ (ns : List Int), intsD (ns.map D.int) = some ns
  | [] => rfl
  | n :: ns => by
    show (intsD (ns.map D.int)).map (n :: ·) = _
    rw [intsD_map ns]
    rfl
def blsD : List D → Option (List Bool)
  | [] => some []
  | .bl i :: r => (blsD r).map (i :: ·)
  | _ => none
theorem blsD_eq : ∀ {ds : List D} {ns : List Bool}, blsD ds = some ns → ds = ns.map D.bl
  | [], ns, h => by cases h; rfl
  | .bl i :: r, ns, h => by
    have h' : (blsD r).map (i :: ·) = some ns := h
    cases e : blsD r with
    | none => rw [e] at h'; cases h'
    | some ms =>
      rw [e] at h'
      cases h'
      rw [blsD_eq e]
      rfl
  | .non :: _, _, h => by cases h
  | .int _ :: _, _, h => by cases h
  | .str _ :: _, _, h => by cases h
  | .lst _ :: _, _, h => by cases h
  | .klst _ :: _, _, h => by cases h
  | .tup _ :: _, _, h => by cases h
  | .obj _ :: _, _, h => by cases h
  | .dic _ _ :: _, _, h => by cases h
  | .fdic _ _ :: _, _, h => by cases h
  | .gtup _ :: _, _, h => by cases h
def bAll : FB := fun ds st k => match ds with
  | [d] => match deref st d with
    | .lst xs => match blsD xs with
      | some bs => k (.bl (bs.all id)) st
      | none => False
    | _ => False
  | _ => False
theorem cb_all (hc : X.calm = true) : CallR X (.builtin "all") (rDB X.K bAll) := by
  refine CallR.by_ fun vs H Q w st ds kk W R q fo => ?_
  unfold bAll at q
  split at q
  · obtain ⟨v, rfl, R1⟩ := one_rep R
    split at q
    · rename_i hd
      split at q
      · rename_i bs hb
        obtain ⟨p, us, rfl, q1, r1, _⟩ := rep_lst W R1 hd
        rw [blsD_eq hb] at r1
        refine ⟨_, cr_all hc, p, bs, rfl, ?_, fo.id q W rep_bl⟩
        rw [← r1.bls]
        exact q1
      · exact q.elim
    · exact q.elim
  · exact q.elim
def bMax2 : FB := fun ds st k => match ds with
  | [.int i, .int j] => k (.int (if j > i then j else i)) st
  | _ => False
theorem cb_max2 (hc : X.calm = true) : CallR X (.builtin "max") (rDB X.K bMax2) := by
  refine CallR.by_ fun vs H Q w st ds kk W R q fo => ?_
  unfold bMax2 at q
  split at q
  · obtain ⟨v, u, rfl, R1, R2⟩ := two_rep R
    simp only [Rep] at R1 R2
    subst R1 R2
    exact ⟨_, call_max2 hc, _, _, rfl, fo.id q W rep_int⟩
  · exact q.elim
def bListNew : FB := fun ds st k => match ds with
  | [d] => match deref st d with
    | .lst xs => k (.obj st.length) (st ++ [xs])
    | .tup xs => k (.obj st.length) (st ++ [xs])
    | _ => False
  | _ => False
theorem cb_listNew : CallR X (.type "list") (rDB X.K bListNew) := by
  refine CallR.by_ fun vs H Q w st ds kk W R q fo => ?_
  unfold bListNew at q
  split at q
  · obtain ⟨v, rfl, R1⟩ := one_rep R
    split at q
    · rename_i hd
      obtain ⟨p, us, rfl, q1, r1, n⟩ := rep_lst W R1 hd
      exact ⟨_, call_list_of, p, us, rfl, .inl q1, fol_new W r1 n q fo⟩
    · rename_i hd
      obtain ⟨p, us, rfl, q1, r1, n⟩ := rep_tup W R1 hd
      exact ⟨_, call_list_of, p, us, rfl, .inr q1, fol_new W r1 n q fo⟩
    · exact q.elim
  · exact q.elim
def bTuple : FB := fun ds st k => match ds with
  | [d] => match deref st d with
    | .lst xs => k (.tup xs) st
    | .tup xs => noG d (k (.tup xs) st)
    | _ => False
  | _ => False
theorem cb_tuple : CallR X (.type "tuple") (rDB X.K bTuple) := by
  refine CallR.by_ fun vs H Q w st ds kk W R q fo => ?_
  unfold bTuple at q
  split at q
  · obtain ⟨v, rfl, R1⟩ := one_rep R
    split at q
    · rename_i hd
      obtain ⟨p, us, rfl, q1, r1, n⟩ := rep_lst W R1 hd
      exact ⟨_, call_tuple_of, p, us, rfl, .inl ⟨q1, fol_tup W r1 n q fo⟩⟩
    · rename_i hd
      obtain ⟨ng, q⟩ := noG_of q
      have e0 := deref_tup hd ng
      obtain ⟨p, us, rfl, q1, r1, n⟩ := rep_tup W R1 hd
      refine ⟨_, call_tuple_of, p, us, rfl, .inr ⟨q1, fo.id q W ?_⟩⟩
      rw [← e0]
      exact R1
    · exact q.elim
  · exact q.elim
end
end DL

/-! enumerate over a tuple, and over either -/
namespace DL
open PySem PySem.Spec PyProof.Rows L2
theorem meetsEnumOne {v : Value} {ob : Obj} {G : Heap → Prop} (B : Begins v ob G) :
    Meets (Builtin.«enumerate.__new__» ⟨[.type "enumerate", v], []⟩) (fun _ R z => G z.heap ∧
      R (.ok (.ret (.ref (z.heap.push ob).objs.size))) { z with heap := (z.heap.push ob).push { cls := .type "enumerate", data := .fields #[.none, .bool false, .ref z.heap.objs.size, rawInt 0, .none, .none] } }) :=
  .of_wp fun pr w A R z hh => by
    obtain ⟨hp, gs, dr, tk, os⟩ := z
    obtain ⟨g1, hh⟩ := hh
    have hsub := sub_enumerate
    have into : ∀ {A1 : Around} {E : Value → Shared → Prop} {Q : Value → Shared → Prop}, Q (.ref hp.objs.size) ⟨hp.push ob, gs, dr, tk, os⟩ → wpAny (model pr w) A1 (pyIter v) Q E ⟨hp, gs, dr, tk, os⟩ :=
      fun q => B.iter pr w _ _ ⟨hp, gs, dr, tk, os⟩ _ g1 q
    wp_walk using into
    refine wpAny_stack_any fun stk => wpAny_pure ?_
    split
    · rename_i cl _ _ _ _ _
      cases (cl == Value.type "enumerate")
      · wp_walk using into
        exact ⟨_, rfl, hh⟩
      · wp_walk using into
        exact ⟨_, rfl, hh⟩
    · wp_walk using into
      exact ⟨_, rfl, hh⟩
theorem callEnumOne {pr : Program} {w : World} {A : Around} {E : Value → Shared → Prop} {z : Shared} {v : Value} {ob : Obj} {G : Heap → Prop} {Q : Value → Shared → Prop} (B : Begins v ob G) (g1 : G z.heap)
    (hh : ∀ h', IsEnum h' (z.heap.objs.size + 1) z.heap.objs.size 0 .none → h'.get? z.heap.objs.size = some ob → (∀ b o, z.heap.get? b = some o → h'.get? b = some o) → Q (.ref (z.heap.objs.size + 1)) { z with heap := h' }) :
    wpAny (model pr w) A (call (.type "enumerate") [v]) Q E z := by
  refine callType_new F.called_enumerate (by decide) (F.typeCall_enumerate_1 _) (F.newCall_enumerate_1 _) (fun ob1 => F.args_object_init_2 ob1 _) F.entry_enumerate_new (meetsEnumOne B) ⟨g1, ?_⟩
  have hz : (z.heap.push ob).objs.size = z.heap.objs.size + 1 := Heap.size_push ..
  show _ ∧ _
  rw [hz]
  have he : IsEnum ((z.heap.push ob).push { cls := .type "enumerate", data := .fields #[.none, .bool false, .ref z.heap.objs.size, rawInt 0, .none, .none] }) (z.heap.objs.size + 1) z.heap.objs.size 0 .none := by
    have this := Heap.get?_push_size (z.heap.push ob) (o := { cls := .type "enumerate", data := .fields #[.none, .bool false, .ref z.heap.objs.size, rawInt 0, .none, .none] }) rfl
    rw [hz] at this
    exact this
  refine ⟨⟨_, he, rfl⟩, hh _ he (Heap.get?_push_of_some _ (Heap.get?_push_size _ B.free)) fun b o q => Heap.get?_push_of_some _ (Heap.get?_push_of_some _ q)⟩
/-- the tuple at a, each item in a new pair -/
def IteT (K : PySem.W.Frag) (a : Addr) : It :=
  ⟨fun n H => ∃ (zs : List V) (u : V), SqT K H a zs ∧ zs[n]? = some u, fun n H v H' => ∃ T u, v = .ref T ∧ H T = none ∧ H' = upd H T (.tup [.int (n : Nat), u]) ∧ ∀ zs, SqT K H a zs → zs[n]? = some u, fun n H => ∃ zs : List V, SqT K H a zs ∧ zs.length = n⟩
theorem turnEnumT {Pg : Program} {w : World} {K : PySem.W.Frag} {elts : List Expr} {kk : Nat} {tpos : Pos} (a en it : Addr) :
    Turn Pg w K (.Tuple elts kk tpos) (IteT K a) [en, it] en (fun n h => (∃ old, IsEnum h en it ((n : Nat) : Int) old) ∧ h.IsTupleIter it a n ∧ en ≠ it ∧ a ≠ it ∧ a ≠ en) where
  mem := by simp
  obj := fun n h s1 b hb => by
    obtain ⟨⟨old, g1⟩, ⟨o, ho, hc, hd⟩, _⟩ := s1
    have e' : b = en ∨ b = it := by simpa using hb
    rcases e' with rfl | rfl
    · exact ⟨_, g1, fun v q => nomatch q⟩
    · exact ⟨o, ho, fun v q => by rw [hd] at q; cases q⟩
  keep := fun n h h' s1 kp => by
    obtain ⟨⟨old, g1⟩, g2, g3, g4, g5⟩ := s1
    exact ⟨⟨old, kp en (by simp) _ g1⟩, g2.at fun o q => kp it (by simp) o q, g3, g4, g5⟩
  item := by
    intro X hP hw hK hc n pins s σ H E I fps s1 hg
    subst hP hw hK
    obtain ⟨⟨old, g1⟩, g2, g3, g4, g5⟩ := s1
    obtain ⟨zs, u, hq, hu⟩ := hg
    obtain ⟨its, rv, p, hz⟩ := I.tuple hq
    obtain ⟨val, hv, ru⟩ := rv.get hu
    have lt1 : en < s.heap.objs.size := Heap.lt_size g1
    have lt2 : it < s.heap.objs.size := by
      obtain ⟨_, q, _⟩ := g2
      exact Heap.lt_size q
    have hn : n < its.toArray.size := by
      obtain ⟨h', _⟩ := List.getElem?_eq_some_iff.mp hv
      simpa using h'
    refine wpAny_pyNext_enum_itemD (Draws.tuple (A := X.A.in1) (show X.A.in1.handled = none from I.ok.hd hc) it a g4 its.toArray) g1 ⟨g2, p⟩ hn g3 (by simp; exact ⟨g3, Ne.symm g5⟩) fun x h' tk hP ho hst hT hsz hk => ?_
    have hx : x = val := by
      have : its.toArray[n]? = some val := by simpa using hv
      rw [this] at hP
      cases hP
      rfl
    subst hx
    refine ⟨_, rfl, wpAny_letOwnedTupleGo_enum (s := { s with heap := h', toks := tk + 1 }) ho fun h'' he' sb => ?_⟩
    have hT2 : h''.get? s.heap.objs.size = some { cls := .type "tuple", data := .seq #[.int n tk, x] } := (sb.2 _ (Nat.ne_of_gt lt1)).trans hT
    have fresh : ObjOk X.prog X.w (upd H s.heap.objs.size (.tup [.int (n : Nat), u])) h'' s.heap.objs.size (.tup [.int (n : Nat), u]) :=
      ⟨by show 2 ≤ sizeLine; decide, [.int n tk, x], .cons ⟨_, rfl⟩ (.cons ru .nil), ⟨_, hT2, rfl, _, rfl⟩⟩
    have I2 : Inv X pins σ (upd H s.heap.objs.size (.tup [.int (n : Nat), u])) { s with heap := h'', toks := tk + 1 } :=
      I.turnedNew (ch := [en, it]) (fun b o1 hb q => (sb.2 b (fun z => hb (by simp [z]))).trans (hk b o1 (fun z => hb (by simp [z])) (fun z => hb (by simp [z])) q)) fps (Nat.le_refl _) fresh
    refine ⟨.ref s.heap.objs.size, _, I2, rfl, ⟨_, u, rfl, I.hok.fresh (Nat.le_refl _), rfl, fun ys hy => by rw [I.tuple_inj hy hq]; exact hu⟩, ⟨⟨x, ?_⟩, hst.1.at fun o q => (sb.2 it (Ne.symm g3)).trans q, g3, g4, g5⟩, fun b hb => ?_⟩
    · have e1 : ((n + 1 : Nat) : Int) = (n : Int) + 1 := by omega
      rw [e1]
      exact he'
    · have hb' : b < s.heap.objs.size := by
        have e' : b = en ∨ b = it := by simpa using hb
        rcases e' with rfl | rfl
        · exact lt1
        · exact lt2
      rw [upd_ne (Nat.ne_of_lt hb')]
      exact (fps b hb).1
  done := by
    intro X hP hw hK hc n pins s σ H E I fps s1 hg
    subst hP hw hK
    obtain ⟨⟨old, g1⟩, g2, g3, g4, g5⟩ := s1
    obtain ⟨zs, hq, hu⟩ := hg
    obtain ⟨its, rv, p, hz⟩ := I.tuple hq
    obtain ⟨f0, f1, f2, f3, f4, f5⟩ := fps it (by simp)
    have hl := rv.length
    have hn : its.toArray.size = n := by
      rw [← hu, hl]
      simp
    subst hn
    exact wpAny_pyNext_enum_endD (Draws.tuple (A := X.A.in1) (show X.A.in1.handled = none from I.ok.hd hc) it a g4 its.toArray) g1 ⟨g2, p⟩ fun h' eb => ⟨rfl, I.turned (t' := s.toks) (fun b o hb q => eb b o hb q) f0 f1 f3 f4 f5⟩
  self := fun A n s Q E s1 h => let ⟨⟨_, g1⟩, _⟩ := s1; wpAny_pyIter_enum g1 h
def iEnumA (K : PySem.W.Frag) (ta : TA) : TI := fun σ H R => ta σ H fun vs H1 => ∃ a xs, vs = [.ref a] ∧ ((SqL K H1 a xs ∧ R (Ite K a) H1) ∨ (SqT K H1 a xs ∧ R (IteT K a) H1))
theorem piEnumA {X : Cx} {e : Expr} {ta : TA} {p pos tpos : Pos} {elts : List Expr} {kk : Nat} (hg : Gl X "enumerate") (hm : X.mg "enumerate" = none) (ha : PA X [e] ta) (hs : starEach [e] X.env = [(false, eval e X.env)] := by rfl) :
    PI X (.Tuple elts kk tpos) (.Call (.Name "enumerate" p) [e] [] pos) (iEnumA X.K ta) := by
  refine ⟨fun pins s σ H R I hh => ?_⟩
  refine Call_ (ld_blt I hg hm boot_enumerate (PyProof.Rows.callWith_type1 (thn (ha.run pos pins s σ H _ I hh) fun us z ⟨vs, H1, I1, r1, q1⟩ => ?_) hs rfl))
  obtain ⟨a, xs, ex, q1⟩ := q1
  subst ex
  cases r1 with
  | cons r rr =>
    cases rr
    cases r
    have fps : ∀ b, b ∈ [z.heap.objs.size + 1, z.heap.objs.size] → FpOk X pins H1 b := fun b hb => by
      have hle : z.heap.objs.size ≤ b := by
        have e' : b = z.heap.objs.size + 1 ∨ b = z.heap.objs.size := by simpa using hb
        omega
      exact I1.fpOk hle (I1.hok.fresh hle)
    rcases q1 with ⟨hq, q⟩ | ⟨hq, q⟩
    · obtain ⟨its, rv, p', hz⟩ := I1.list hq
      refine callEnumOne (begins_list a its.toArray) p'.isList fun h' he hit hk => wpAny_pyIter_enum he ?_
      have I2 : Inv X pins σ H1 { z with heap := h' } := I1.kept (t' := z.toks) hk
      exact ⟨z.heap.objs.size + 1, [z.heap.objs.size + 1, z.heap.objs.size], _, _, H1, rfl, I2, turn_enum a _ _, ⟨⟨.none, he⟩, ⟨_, hit, rfl, rfl⟩, Nat.succ_ne_self _⟩, fps, q⟩
    · obtain ⟨its, rv, p', hz⟩ := I1.tuple hq
      have la : a < z.heap.objs.size := by
        obtain ⟨_, q, _⟩ := p'
        exact Heap.lt_size q
      refine callEnumOne (begins_tuple a its.toArray) p' fun h' he hit hk => wpAny_pyIter_enum he ?_
      have I2 : Inv X pins σ H1 { z with heap := h' } := I1.kept (t' := z.toks) hk
      exact ⟨z.heap.objs.size + 1, [z.heap.objs.size + 1, z.heap.objs.size], _, _, H1, rfl, I2, turnEnumT a _ _, ⟨⟨.none, he⟩, ⟨_, hit, rfl, rfl⟩, Nat.succ_ne_self _, Nat.ne_of_lt la, Nat.ne_of_lt (Nat.lt_succ_of_lt la)⟩, fps, q⟩
end DL

namespace DL
open PySem PySem.Spec PyProof.Rows L2
/-! ### what is walked -/
def SrcOk : List (Nat × List D) → Sto → Prop
  | [], _ => True
  | p :: r, st => st[p.1]? = some p.2 ∧ SrcOk r st
structure DWk (K : PySem.W.Frag) (J : It) (w : Wd) (xs : List D) (src : List (Nat × List D)) : Prop where
  goes : ∀ (i : Nat) (w1 : Wd) (st1 : Sto) (H1 : Hp), i < xs.length → Le0 w w1 → Wld K w1 st1 H1 → SrcOk src st1 → J.go i H1
  stops : ∀ (w1 : Wd) (st1 : Sto) (H1 : Hp), Le0 w w1 → Wld K w1 st1 H1 → SrcOk src st1 → J.stop xs.length H1
  yields : ∀ (i : Nat) (w1 : Wd) (st1 : Sto) (H1 : Hp) (v : V) (H2 : Hp), i < xs.length → Le0 w w1 → Wld K w1 st1 H1 → SrcOk src st1 → J.yld i H1 v H2 →
    ∃ (w2 : Wd) (d : D), Le w1 w2 ∧ Wld K w2 st1 H2 ∧ xs[i]? = some d ∧ Rep K w2 d v
abbrev DIk := List D → List (Nat × List D) → Sto → Prop
abbrev DI := Env → Sto → DIk → Prop
def tDI (K : PySem.W.Frag) (t : DI) : TI := fun σ H R => ∃ w env st kk, Wld K w st H ∧ EnvR K w env σ ∧ t env st kk ∧ ∀ xs src st' w' H' J, kk xs src st' → Le w w' → Wld K w' st' H' → DWk K J w' xs src → R J H'
abbrev PDI (X : Cx) (tg e : Expr) (t : DI) : Prop := PI X tg e (tDI X.K t)
theorem _root_.L2.PI.wk {X : Cx} {tg e : Expr} {t t' : TI} (h : PI X tg e t) (i : ∀ σ H R, t' σ H R → t σ H R) : PI X tg e t' := ⟨fun pins s σ H R I q => h.run pins s σ H R I (i σ H R q)⟩
def srcOf (d : D) (xs : List D) : List (Nat × List D) := match d with
  | .obj i => [(i, xs)]
  | _ => []
section
variable {K : PySem.W.Frag} {w w' w1 : Wd} {st st1 : Sto} {H H1 : Hp}
theorem src_seq {d : D} {a : Addr} {xs : List D} (R : Rep K w d (.ref a)) (e : deref st d = .lst xs) (l : Le0 w w1) (W1 : Wld K w1 st1 H1) (s : SrcOk (srcOf d xs) st1) : ∃ vs, SqL K H1 a vs ∧ Reps K w1 xs vs := by
  have e1 : deref st1 d = .lst xs := by
    cases d with
    | obj i =>
      have s' : st1[i]? = some xs := s.1
      show (match st1[i]? with | some xs => D.lst xs | none => D.obj i) = .lst xs
      rw [s']
    | _ => exact e
  obtain ⟨a', vs, ea, q, r, _⟩ := rep_lst W1 (Rep.mono' l.same l.pre _ _ R) e1
  cases ea
  exact ⟨vs, q, r⟩
theorem tup_seq {d : D} {a : Addr} {xs : List D} (R : Rep K w d (.ref a)) (e : deref st d = .tup xs) (l : Le0 w w1) (W1 : Wld K w1 st1 H1) : ∃ vs, SqT K H1 a vs ∧ Reps K w1 xs vs := by
  obtain ⟨a', vs, ea, q, r, _⟩ := rep_tup W1 (Rep.mono' l.same l.pre _ _ R) (deref_tups e st1)
  cases ea
  exact ⟨vs, q, r⟩
theorem wk_list {d : D} {a : Addr} {xs : List D} (R : Rep K w d (.ref a)) (e : deref st d = .lst xs) : DWk K (Itl K a) w xs (srcOf d xs) where
  goes := fun i w1 st1 H1 hi l W1 s => by
    obtain ⟨vs, q, r⟩ := src_seq R e l W1 s
    exact (walk_list (xs := vs)).goes i H1 (by rw [r.length]; exact hi) q
  stops := fun w1 st1 H1 l W1 s => by
    obtain ⟨vs, q, r⟩ := src_seq R e l W1 s
    rw [← r.length]
    exact (walk_list (xs := vs)).stops H1 q
  yields := fun i w1 st1 H1 v H2 hi l W1 s y => by
    obtain ⟨vs, q, r⟩ := src_seq R e l W1 s
    obtain ⟨rfl, h⟩ := (walk_list (xs := vs)).yields i H1 v H2 (by rw [r.length]; exact hi) q y
    obtain ⟨d', h1, h2⟩ := r.getv h
    exact ⟨w1, d', .refl _, W1, h1, h2⟩
theorem wk_tup {d : D} {a : Addr} {xs : List D} (R : Rep K w d (.ref a)) (e : deref st d = .tup xs) : DWk K (Itt K a) w xs [] where
  goes := fun i w1 st1 H1 hi l W1 s => by
    obtain ⟨vs, q, r⟩ := tup_seq R e l W1
    exact (walk_tup (xs := vs)).goes i H1 (by rw [r.length]; exact hi) q
  stops := fun w1 st1 H1 l W1 s => by
    obtain ⟨vs, q, r⟩ := tup_seq R e l W1
    rw [← r.length]
    exact (walk_tup (xs := vs)).stops H1 q
  yields := fun i w1 st1 H1 v H2 hi l W1 s y => by
    obtain ⟨vs, q, r⟩ := tup_seq R e l W1
    obtain ⟨rfl, h⟩ := (walk_tup (xs := vs)).yields i H1 v H2 (by rw [r.length]; exact hi) q y
    obtain ⟨d', h1, h2⟩ := r.getv h
    exact ⟨w1, d', .refl _, W1, h1, h2⟩
def signs (z : Str) : List D := z.cps.toList.map fun c => .str ⟨#[c]⟩
theorem signs_length (z : Str) : (signs z).length = z.cps.size := by unfold signs; rw [List.length_map, Array.length_toList]
theorem wk_str {z : Str} : DWk K (Its z) w (signs z) [] where
  goes := fun i w1 st1 H1 hi l W1 s => walk_str.goes i H1 (by rw [signs_length] at hi; exact hi) trivial
  stops := fun w1 st1 H1 l W1 s => by
    rw [signs_length]
    exact walk_str.stops H1 trivial
  yields := fun i w1 st1 H1 v H2 hi l W1 s y => by
    rw [signs_length] at hi
    obtain ⟨rfl, c, h1, rfl⟩ := walk_str.yields i H1 v H2 hi trivial y
    refine ⟨w1, .str ⟨#[c]⟩, .refl _, W1, ?_, rep_str⟩
    unfold signs
    rw [List.getElem?_map, Array.getElem?_toList, h1]
    rfl
/-- lo, lo + 1, .. -/
def rangeD (lo : Int) (n : Nat) : List D := (List.range n).map fun i => .int (lo + (i : Nat))
theorem rangeD_length (lo : Int) (n : Nat) : (rangeD lo n).length = n := by simp [rangeD]
theorem wk_range {lo : Int} {n : Nat} : DWk K (Itr lo n) w (rangeD lo n) [] where
  goes := fun i w1 st1 H1 hi l W1 s => walk_range.goes i H1 (by rw [rangeD_length] at hi; exact hi) trivial
  stops := fun w1 st1 H1 l W1 s => by
    rw [rangeD_length]
    exact walk_range.stops H1 trivial
  yields := fun i w1 st1 H1 v H2 hi l W1 s y => by
    rw [rangeD_length] at hi
    obtain ⟨rfl, rfl⟩ := walk_range.yields i H1 v H2 hi trivial y
    refine ⟨w1, .int (lo + (i : Nat)), .refl _, W1, ?_, rep_int⟩
    unfold rangeD
    rw [List.getElem?_map, List.getElem?_range hi]
    rfl
/-- a new pair of what is represented -/
theorem pair_put (W : Wld K w st H) {T : Addr} {x y : V} {d e : D} (hT : H T = none) (r1 : Rep K w d x) (r2 : Rep K w e y) :
    ∃ w2, Le w w2 ∧ Wld K w2 st (upd H T (.tup [x, y])) ∧ Rep K w2 (.tup [d, e]) (.ref T) := by
  have l := Le.put (w := w) (o := .tup [x, y]) (W.free hT)
  refine ⟨w.put T (.tup [x, y]), l, W.put hT (by show 2 ≤ sizeLine; decide), ?_⟩
  simp only [Rep]
  exact ⟨T, [x, y], rfl, upd_same, .cons (Rep.mono l _ _ r1) (.cons (Rep.mono l _ _ r2) .nil)⟩
def enumD : Nat → List D → List D
  | _, [] => []
  | n, x :: r => .tup [.int (n : Nat), x] :: enumD (n + 1) r
theorem enumD_length : ∀ (n : Nat) (xs : List D), (enumD n xs).length = xs.length
  | _, [] => rfl
  | n, x :: r => by simp [enumD, enumD_length (n + 1) r]
theorem enumD_get : ∀ (n : Nat) (xs : List D) (i : Nat) (d : D), xs[i]? = some d → (enumD n xs)[i]? = some (.tup [.int ((n + i : Nat) : Int), d])
  | _, [], _, _, h => by simp at h
  | n, x :: r, 0, d, h => by
    simp at h
    subst h
    simp [enumD]
  | n, x :: r, i + 1, d, h => by
    have := enumD_get (n + 1) r i d (by simpa using h)
    simp only [enumD, List.getElem?_cons_succ]
    rw [this]
    have e : n + 1 + i = n + (i + 1) := by omega
    rw [e]
theorem wk_enum {d : D} {a : Addr} {xs : List D} (R : Rep K w d (.ref a)) (e : deref st d = .lst xs) : DWk K (Ite K a) w (enumD 0 xs) (srcOf d xs) where
  goes := fun i w1 st1 H1 hi l W1 s => by
    obtain ⟨vs, q, r⟩ := src_seq R e l W1 s
    rw [enumD_length] at hi
    exact (walk_enum (xs := vs)).goes i H1 (by rw [r.length]; exact hi) q
  stops := fun w1 st1 H1 l W1 s => by
    obtain ⟨vs, q, r⟩ := src_seq R e l W1 s
    rw [enumD_length, ← r.length]
    exact (walk_enum (xs := vs)).stops H1 q
  yields := fun i w1 st1 H1 v H2 hi l W1 s y => by
    obtain ⟨vs, q, r⟩ := src_seq R e l W1 s
    rw [enumD_length] at hi
    obtain ⟨T, x, y, rfl, hT, rfl, h1, h2⟩ := (walk_enum (xs := vs)).yields i H1 v H2 (by rw [r.length]; exact hi) q y
    cases h1
    obtain ⟨d', g1, g2⟩ := r.getv h2
    obtain ⟨w2, l2, W2, R2⟩ := pair_put W1 hT (rep_int (a := (i : Nat))) g2
    refine ⟨w2, _, l2, W2, ?_, R2⟩
    rw [enumD_get 0 xs i d' g1, Nat.zero_add]
theorem wk_enumT {d : D} {a : Addr} {xs : List D} (R : Rep K w d (.ref a)) (e : deref st d = .tup xs) : DWk K (IteT K a) w (enumD 0 xs) [] where
  goes := fun i w1 st1 H1 hi l W1 s => by
    obtain ⟨vs, q, r⟩ := tup_seq R e l W1
    rw [enumD_length] at hi
    exact ⟨vs, vs[i]'(by rw [r.length]; exact hi), q, List.getElem?_eq_getElem _⟩
  stops := fun w1 st1 H1 l W1 s => by
    obtain ⟨vs, q, r⟩ := tup_seq R e l W1
    rw [enumD_length, ← r.length]
    exact ⟨vs, q, rfl⟩
  yields := fun i w1 st1 H1 v H2 hi l W1 s y => by
    obtain ⟨vs, q, r⟩ := tup_seq R e l W1
    rw [enumD_length] at hi
    obtain ⟨T, y, rfl, hT, rfl, h2⟩ := y
    obtain ⟨d', g1, g2⟩ := r.getv (h2 vs q)
    obtain ⟨w2, l2, W2, R2⟩ := pair_put W1 hT (rep_int (a := (i : Nat))) g2
    refine ⟨w2, _, l2, W2, ?_, R2⟩
    rw [enumD_get 0 xs i d' g1, Nat.zero_add]
def zipD : List D → List D → List D
  | x :: r, y :: s => .tup [x, y] :: zipD r s
  | _, _ => []
theorem zipD_length : ∀ (xs ys : List D), (zipD xs ys).length = min xs.length ys.length
  | [], _ => by simp [zipD]
  | _ :: _, [] => by simp [zipD]
  | x :: r, y :: s => by simp only [zipD, List.length_cons, zipD_length r s]; omega
theorem zipD_get : ∀ (xs ys : List D) (i : Nat) (d e : D), xs[i]? = some d → ys[i]? = some e → (zipD xs ys)[i]? = some (.tup [d, e])
  | [], _, _, _, _, h, _ => by simp at h
  | _ :: _, [], _, _, _, _, h => by simp at h
  | x :: r, y :: s, 0, d, e, h, g => by
    simp at h g
    subst h g
    simp [zipD]
  | x :: r, y :: s, i + 1, d, e, h, g => by
    simp only [zipD, List.getElem?_cons_succ]
    exact zipD_get r s i d e (by simpa using h) (by simpa using g)
theorem SrcOk.split {a b : List (Nat × List D)} {st : Sto} : SrcOk (a ++ b) st → SrcOk a st ∧ SrcOk b st := by
  induction a with
  | nil => intro h; exact ⟨trivial, h⟩
  | cons p r ih => intro h; exact ⟨⟨h.1, (ih h.2).1⟩, (ih h.2).2⟩
theorem wk_zip {d e : D} {a b : Addr} {xs ys : List D} (R : Rep K w d (.ref a)) (hd : deref st d = .lst xs) (R' : Rep K w e (.ref b)) (he : deref st e = .lst ys) : DWk K (Itz K a b) w (zipD xs ys) (srcOf d xs ++ srcOf e ys) where
  goes := fun i w1 st1 H1 hi l W1 s => by
    obtain ⟨vs, q, r⟩ := src_seq R hd l W1 s.split.1
    obtain ⟨us, q', r'⟩ := src_seq R' he l W1 s.split.2
    rw [zipD_length, ← r.length, ← r'.length] at hi
    exact (walk_zip (xs := vs) (ys := us) rfl).goes i H1 hi ⟨q, q'⟩
  stops := fun w1 st1 H1 l W1 s => by
    obtain ⟨vs, q, r⟩ := src_seq R hd l W1 s.split.1
    obtain ⟨us, q', r'⟩ := src_seq R' he l W1 s.split.2
    rw [zipD_length, ← r.length, ← r'.length]
    exact (walk_zip (xs := vs) (ys := us) rfl).stops H1 ⟨q, q'⟩
  yields := fun i w1 st1 H1 v H2 hi l W1 s y => by
    obtain ⟨vs, q, r⟩ := src_seq R hd l W1 s.split.1
    obtain ⟨us, q', r'⟩ := src_seq R' he l W1 s.split.2
    rw [zipD_length, ← r.length, ← r'.length] at hi
    obtain ⟨T, x, y, rfl, hT, rfl, h1, h2⟩ := (walk_zip (xs := vs) (ys := us) rfl).yields i H1 v H2 hi ⟨q, q'⟩ y
    obtain ⟨d', g1, g2⟩ := r.getv h1
    obtain ⟨e', g3, g4⟩ := r'.getv h2
    obtain ⟨w2, l2, W2, R2⟩ := pair_put W1 hT g2 g4
    exact ⟨w2, _, l2, W2, zipD_get _ _ _ _ _ g1 g3, R2⟩
theorem wk_zipT {d e : D} {a b : Addr} {xs ys : List D} (R : Rep K w d (.ref a)) (hd : deref st d = .tup xs) (R' : Rep K w e (.ref b)) (he : deref st e = .tup ys) : DWk K (RZ.ItzT K a b) w (zipD xs ys) [] where
  goes := fun i w1 st1 H1 hi l W1 s => by
    obtain ⟨vs, q, r⟩ := tup_seq R hd l W1
    obtain ⟨us, q', r'⟩ := tup_seq R' he l W1
    rw [zipD_length, ← r.length, ← r'.length] at hi
    have h1 : i < vs.length := by omega
    have h2 : i < us.length := by omega
    exact ⟨vs, us, vs[i], us[i], q, q', by simp [h1], by simp [h2]⟩
  stops := fun w1 st1 H1 l W1 s => by
    obtain ⟨vs, q, r⟩ := tup_seq R hd l W1
    obtain ⟨us, q', r'⟩ := tup_seq R' he l W1
    rw [zipD_length, ← r.length, ← r'.length]
    exact ⟨vs, us, q, q', by omega⟩
  yields := fun i w1 st1 H1 v H2 hi l W1 s y => by
    obtain ⟨vs, q, r⟩ := tup_seq R hd l W1
    obtain ⟨us, q', r'⟩ := tup_seq R' he l W1
    obtain ⟨T, x, y, rfl, hT, rfl, h1, h2⟩ := y
    obtain ⟨d', g1, g2⟩ := r.getv (h1 vs q)
    obtain ⟨e', g3, g4⟩ := r'.getv (h2 us q')
    obtain ⟨w2, l2, W2, R2⟩ := pair_put W1 hT g2 g4
    exact ⟨w2, _, l2, W2, zipD_get _ _ _ _ _ g1 g3, R2⟩
end
section
variable {X : Cx} {tg e e2 : Expr} {pos p : Pos} {ta tb : DE}
def rIt (K : PySem.W.Frag) (x : V) (H : Hp) (R : It → Hp → Prop) : Prop :=
  (∃ a xs, x = .ref a ∧ SqL K H a xs ∧ R (Itl K a) H) ∨ (∃ a xs, x = .ref a ∧ SqT K H a xs ∧ R (Itt K a) H) ∨ ∃ z, x = .str z ∧ R (Its z) H
theorem pi_any {tl : TE} (hl : PE X e tl) : PI X tg e (fun σ H R => tl σ H fun x H1 => rIt X.K x H1 R) := by
  refine ⟨fun pins s σ H R I h => thn (hl.run pins s σ H _ I h) fun v s1 ⟨x, H1, I1, r1, q1⟩ => ?_⟩
  rcases q1 with ⟨a, xs, rfl, hq, q⟩ | ⟨a, xs, rfl, hq, q⟩ | ⟨z, rfl, q⟩
  · cases r1
    obtain ⟨its, rv, pl, hz⟩ := I1.list hq
    exact wpAny_pyIter_list pl.isList (pi_one (tk := s1.toks) I1 _ (turn_list a _) ⟨_, Heap.get?_push_size _ rfl, rfl, rfl⟩ q)
  · cases r1
    obtain ⟨its, rv, pl, hz⟩ := I1.tuple hq
    exact wpAny_pyIter_tuple (show s1.heap.IsTuple a its.toArray from pl) (pi_one (tk := s1.toks) I1 _ (turn_tuple a _) ⟨_, Heap.get?_push_size _ rfl, rfl, rfl⟩ q)
  · obtain ⟨t, rfl⟩ := r1
    by_cases ha : z.cps.all (· < 128) = true
    · exact wpAny_pyIter_ascii ha (pi_one (tk := s1.toks) I1 _ (turn_str _ z t "str_ascii_iterator" (.inl rfl)) ⟨_, Heap.get?_push_size _ rfl, rfl, rfl⟩ q)
    · exact wpAny_pyIter_wide (by simpa using ha) (pi_one (tk := s1.toks) I1 _ (turn_str _ z t "str_iterator" (.inr rfl)) ⟨_, Heap.get?_push_size _ rfl, rfl, rfl⟩ q)
def dIter (t : DE) : DI := fun env st kk => t env st fun d s1 => match deref s1 d with
  | .lst xs => xs.length ≤ 16777216 → kk xs (srcOf d xs) s1
  | .tup xs => xs.length ≤ 16777216 → kk xs [] s1
  | .str z => kk (signs z) [] s1
  | _ => False
theorem line_of {n : Nat} (h : n ≤ sizeLine) : n ≤ 16777216 := by rw [sizeLine_eq] at h; exact h
theorem pdi_any (h : PD X e ta) : PDI X tg e (dIter ta) := by
  refine (pi_any h).wk fun σ H R ⟨w, env, st, kk, W, E, h, fo⟩ => ?_
  refine ⟨w, env, st, _, W, E, h, fun d st1 v w1 H1 h1 l1 W1 R1 => ?_⟩
  split at h1
  · rename_i xs hd
    obtain ⟨a, vs, rfl, q, r, n⟩ := rep_lst W1 R1 hd
    exact .inl ⟨a, vs, rfl, q, fo _ _ _ _ _ _ (h1 (by rw [← r.length]; exact line_of n)) l1 W1 (wk_list R1 hd)⟩
  · rename_i xs hd
    obtain ⟨a, vs, rfl, q, r, n⟩ := rep_tup W1 R1 hd
    exact .inr (.inl ⟨a, vs, rfl, q, fo _ _ _ _ _ _ (h1 (by rw [← r.length]; exact line_of n)) l1 W1 (wk_tup R1 hd)⟩)
  · rename_i z hd
    have e0 := deref_self hd (fun _ z => by cases z) (fun _ z => by cases z)
    subst e0
    simp only [Rep] at R1
    exact .inr (.inr ⟨z, R1, fo _ _ _ _ _ _ h1 l1 W1 wk_str⟩)
  · exact h1.elim
def dRng1 (t : DE) : DI := fun env st kk => t env st fun d s1 => match d with
  | .int j => (-(2 ^ 62) ≤ j ∧ j < 2 ^ 62) ∧ kk (rangeD 0 j.toNat) [] s1
  | _ => False
def dRng2 (t u : DE) : DI := fun env st kk => t env st fun d s1 => u env s1 fun e s2 => match d, e with
  | .int i, .int j => (-(2 ^ 62) ≤ i ∧ i < 2 ^ 62 ∧ -(2 ^ 62) ≤ j ∧ j < 2 ^ 62) ∧ kk (rangeD i (j - i).toNat) [] s2
  | _, _ => False
theorem pdi_range1 (hm : X.mg "range" = none) (ha : PD X e ta) (hg : Gl X "range" := by rfl) (hs : starEach [e] X.env = [(false, eval e X.env)] := by rfl) : PDI X tg (.Call (.Name "range" p) [e] [] pos) (dRng1 ta) := by
  refine (pi_range1 hg hm (pa_cons ha pa_nil hs) hs).wk fun σ H R ⟨w, env, st, kk, W, E, h, fo⟩ => ?_
  refine ⟨w, env, st, _, W, E, h, fun d st1 v w1 H1 h1 l1 W1 R1 => ?_⟩
  split at h1
  · simp only [Rep] at R1
    subst R1
    exact ⟨_, rfl, h1.1.1, h1.1.2, fo _ _ _ _ _ _ h1.2 l1 W1 wk_range⟩
  · exact h1.elim
theorem pdi_range2 (hm : X.mg "range" = none) (ha : PD X e ta) (hb : PD X e2 tb) (hg : Gl X "range" := by rfl) (hs : starEach [e, e2] X.env = [(false, eval e X.env), (false, eval e2 X.env)] := by rfl) (hs2 : starEach [e2] X.env = [(false, eval e2 X.env)] := by rfl) : PDI X tg (.Call (.Name "range" p) [e, e2] [] pos) (dRng2 ta tb) := by
  refine (pi_range2 hg hm (pa_cons ha (pa_cons hb pa_nil hs2) (hs.trans (by rw [hs2]))) hs hs2).wk fun σ H R ⟨w, env, st, kk, W, E, h, fo⟩ => ?_
  refine ⟨w, env, st, _, W, E, h, fun d st1 v w1 H1 h1 l1 W1 R1 => ⟨w1, env, st1, _, W1, E.mono l1, h1, fun e' st2 u w2 H2 h2 l2 W2 R2 => ?_⟩⟩
  split at h2
  · simp only [Rep] at R1 R2
    subst R1 R2
    exact ⟨_, _, rfl, h2.1, fo _ _ _ _ _ _ h2.2 (l1.trans l2) W2 wk_range⟩
  · exact h2.elim
def dEnum (t : DE) : DI := fun env st kk => t env st fun d s1 => match deref s1 d with
  | .lst xs => xs.length ≤ 16777216 → kk (enumD 0 xs) (srcOf d xs) s1
  | .tup xs => xs.length ≤ 16777216 → kk (enumD 0 xs) [] s1
  | _ => False
theorem pdi_enum {elts : List Expr} {k : Nat} {tpos : Pos} (hm : X.mg "enumerate" = none) (ha : PD X e ta) (hg : Gl X "enumerate" := by rfl) (hs : starEach [e] X.env = [(false, eval e X.env)] := by rfl) :
    PDI X (.Tuple elts k tpos) (.Call (.Name "enumerate" p) [e] [] pos) (dEnum ta) := by
  refine (piEnumA hg hm (pa_cons ha pa_nil hs) hs).wk fun σ H R ⟨w, env, st, kk, W, E, h, fo⟩ => ?_
  refine ⟨w, env, st, _, W, E, h, fun d st1 v w1 H1 h1 l1 W1 Rv => ?_⟩
  split at h1
  · rename_i xs hd
    obtain ⟨a, vs, rfl, q, r, n⟩ := rep_lst W1 Rv hd
    exact ⟨a, vs, rfl, .inl ⟨q, fo _ _ _ _ _ _ (h1 (by rw [← r.length]; exact line_of n)) l1 W1 (wk_enum Rv hd)⟩⟩
  · rename_i xs hd
    obtain ⟨a, vs, rfl, q, r, n⟩ := rep_tup W1 Rv hd
    exact ⟨a, vs, rfl, .inr ⟨q, fo _ _ _ _ _ _ (h1 (by rw [← r.length]; exact line_of n)) l1 W1 (wk_enumT Rv hd)⟩⟩
  · exact h1.elim
def dZip (t u : DE) : DI := fun env st kk => t env st fun d s1 => u env s1 fun e s2 => match deref s2 d, deref s2 e with
  | .lst xs, .lst ys => xs.length ≤ 16777216 → kk (zipD xs ys) (srcOf d xs ++ srcOf e ys) s2
  | .tup xs, .tup ys => xs.length ≤ 16777216 → kk (zipD xs ys) [] s2
  | _, _ => False
theorem pdi_zip {elts : List Expr} {k : Nat} {tpos : Pos} (hm : X.mg "zip" = none) (ha : PD X e ta) (hb : PD X e2 tb) (hg : Gl X "zip" := by rfl) (hs : starEach [e, e2] X.env = (false, eval e X.env) :: starEach [e2] X.env := by rfl) (hpl : (backTo pos (starEach [e2] X.env)).any (·.1) = false := by rfl) (hs2 : starEach [e2] X.env = [(false, eval e2 X.env)] := by rfl) :
    PDI X (.Tuple elts k tpos) (.Call (.Name "zip" p) [e, e2] [] pos) (dZip ta tb) := by
  refine (RZ.pi_zipA hg hm (pa_cons ha (pa_cons hb pa_nil hs2) hs) hs hpl).wk fun σ H R ⟨w, env, st, kk, W, E, h, fo⟩ => ?_
  refine ⟨w, env, st, _, W, E, h, fun d st1 v w1 H1 h1 l1 W1 R1 => ⟨w1, env, st1, _, W1, E.mono l1, h1, fun e' st2 u w2 H2 h2 l2 W2 R2 => ?_⟩⟩
  have R1' := Rep.mono l2 _ _ R1
  split at h2
  · rename_i xs ys hd he
    obtain ⟨a, vs, rfl, q, r, n⟩ := rep_lst W2 R1' hd
    obtain ⟨b, us, rfl, q', r', n'⟩ := rep_lst W2 R2 he
    exact ⟨a, b, vs, us, rfl, .inl ⟨q, q', fo _ _ _ _ _ _ (h2 (by rw [← r.length]; exact line_of n)) (l1.trans l2) W2 (wk_zip R1' hd R2 he)⟩⟩
  · rename_i xs ys hd he
    obtain ⟨a, vs, rfl, q, r, n⟩ := rep_tup W2 R1' hd
    obtain ⟨b, us, rfl, q', r', n'⟩ := rep_tup W2 R2 he
    exact ⟨a, b, vs, us, rfl, .inr ⟨q, q', fo _ _ _ _ _ _ (h2 (by rw [← r.length]; exact line_of n)) (l1.trans l2) W2 (wk_zipT R1' hd R2 he)⟩⟩
  · exact h2.elim

/-! ### loops -/
def goFor (src : List (Nat × List D)) (g : DG) (b : DS) (E : DEnds) : List D → Env → Sto → Prop
  | [], env, st => SrcOk src st ∧ E.nx env st
  | x :: r, env, st => SrcOk src st ∧ g x env st fun env' st' => b { E with nx := fun env2 st2 => goFor src g b E r env2 st2 } env' st'
def dFor (di : DI) (g : DG) (b : DS) : DS := fun E env st => di env st fun xs src s1 => goFor src g b E xs env s1
theorem pds_for {iter : Expr} {body : List Stmt} {di : DI} {g : DG} {b : DS} (hp : PassesOwn (model X.prog X.w) X.A X.env X.xe) (hc : X.calm = true) (hi : PDI X tg iter di) (hg : PDG X tg g) (hb : PDSs X body b)
    (hs : ∀ x, foldedSetIterable iter X.env x = pure x := by intro _; rfl) : PDS X (.For tg iter body [] pos) (dFor di g b) := by
  refine (ps_for hp hc hi hg hb hs).wk fun Ed σ H ⟨w, env, st, E0, W, E, h, fn, fr⟩ => ?_
  refine ⟨w, env, st, _, W, E, h, fun xs src st1 w1 H1 J h1 l1 W1 wk => ?_⟩
  refine ⟨fun i m σ2 H2 => m = xs.length - i ∧ i ≤ xs.length ∧ ∃ w2 env2 st2, Le w1 w2 ∧ Wld X.K w2 st2 H2 ∧ EnvR X.K w2 env2 σ2 ∧ goFor src g b E0 (xs.drop i) env2 st2,
    ⟨xs.length, by simp, Nat.zero_le _, w1, env, st1, .refl _, W1, E.mono l1, by simpa using h1⟩, ?_⟩
  rintro i m σ2 H2 ⟨rfl, hi, w2, env2, st2, l2, W2, E2, q⟩
  by_cases hlt : i < xs.length
  · rw [List.drop_eq_getElem_cons hlt] at q
    obtain ⟨so, q⟩ := q
    refine .inr ⟨wk.goes i w2 st2 H2 hlt l2.toLe0 W2 so, fun σ' H' => ∃ w3 env3 st3, Le w1 w3 ∧ Wld X.K w3 st3 H' ∧ EnvR X.K w3 env3 σ' ∧ goFor src g b E0 (xs.drop (i + 1)) env3 st3, fun σ' H' pv => ⟨xs.length - (i + 1), by omega, rfl, hlt, pv⟩, fun v H3 y => ?_⟩
    obtain ⟨w3, d, l3, W3, e3, R3⟩ := wk.yields i w2 st2 H2 v H3 hlt l2.toLe0 W2 so y
    have ed : d = xs[i] := by
      rw [List.getElem?_eq_getElem hlt] at e3
      exact (Option.some.inj e3).symm
    rw [← ed] at q
    refine ⟨w3, env2, st2, d, _, W3, E2.mono l3, R3, q, fun env4 st4 σ4 w4 H4 h4 l4 W4 E4 => ?_⟩
    have l14 := (l2.trans l3).trans l4
    exact ⟨w4, env4, st4, _, W4, E4, h4, fun env5 st5 σ5 w5 H5 h5 l5 W5 E5 => ⟨w5, env5, st5, l14.trans l5, W5, E5, h5⟩, fr.le (l1.trans l14)⟩
  · have hie : i = xs.length := by omega
    subst hie
    rw [List.drop_length] at q
    exact .inl ⟨wk.stops w2 st2 H2 l2.toLe0 W2 q.1, fn _ _ _ _ _ q.2 (l1.trans l2) W2 E2⟩
def dWhile (c : DT) (b : DS) : DS := fun E env st => ∃ I : Nat → Env → Sto → Prop, (∃ m, I m env st) ∧ ∀ m env st, I m env st →
  c env st fun k s1 => if k = true then b { E with nx := fun env2 st2 => ∃ m', m' < m ∧ I m' env2 st2 } env s1 else E.nx env s1
theorem pds_while {c : Expr} {body : List Stmt} {tc : DT} {b : DS} (hp : PassesOwn (model X.prog X.w) X.A X.env X.xe) (hc : PDT X c tc) (hb : PDSs X body b) : PDS X (.While c body [] pos) (dWhile tc b) := by
  refine (ps_while hp hc hb).wk fun Ed σ H ⟨w, env, st, E0, W, E, ⟨I, ⟨m0, h0⟩, turn⟩, fn, fr⟩ => ?_
  refine ⟨fun m σ2 H2 => ∃ w2 env2 st2, Le w w2 ∧ Wld X.K w2 st2 H2 ∧ EnvR X.K w2 env2 σ2 ∧ I m env2 st2, ⟨m0, w, env, st, .refl _, W, E, h0⟩, ?_⟩
  rintro m σ2 H2 ⟨w2, env2, st2, l2, W2, E2, q⟩
  refine ⟨w2, env2, st2, _, W2, E2, turn m env2 st2 q, fun k st3 w3 H3 h3 l3 W3 => ?_⟩
  cases k with
  | true =>
    simp only [↓reduceIte] at h3 ⊢
    refine ⟨fun σ' H' => ∃ m', m' < m ∧ ∃ w4 env4 st4, Le w w4 ∧ Wld X.K w4 st4 H' ∧ EnvR X.K w4 env4 σ' ∧ I m' env4 st4, fun σ' H' pv => pv, ?_⟩
    exact ⟨w3, env2, st3, _, W3, E2.mono l3, h3, fun env5 st5 σ5 w5 H5 ⟨m', hm, h5⟩ l5 W5 E5 => ⟨m', hm, w5, env5, st5, (l2.trans l3).trans l5, W5, E5, h5⟩, fr.le (l2.trans l3)⟩
  | false =>
    simp only [Bool.false_eq_true, ↓reduceIte] at h3 ⊢
    exact fn _ _ _ _ _ h3 (l2.trans l3) W3 (E2.mono l3)

/-! ### list comprehensions -/
def wipeE (env : Env) : List Nat → Env
  | [] => env
  | v :: vs => (wipeE env vs).set v none
theorem EnvR.wipe {K : PySem.W.Frag} {w : Wd} {env : Env} {σ : L2.St} (h : EnvR K w env σ) : ∀ vs : List Nat, EnvR K w (wipeE env vs) (wipe σ vs)
  | [] => h
  | v :: vs => (h.wipe vs).unset v
def goLc (src : List (Nat × List D)) (g : DG) (tt : DT) (te : DE) (vs : List Nat) (env : Env) (k : List D → Sto → Prop) : List D → List D → Sto → Prop
  | [], acc, st => SrcOk src st ∧ k acc st
  | x :: r, acc, st => SrcOk src st ∧ g x (wipeE env vs) st fun env' st' => tt env' st' fun b s1 =>
      if b = true then te env' s1 fun d s2 => goLc src g tt te vs env k r (acc ++ [d]) s2 else goLc src g tt te vs env k r acc s1
/-- a comprehension's list: nobody changes it -/
def dLc (di : DI) (g : DG) (tt : DT) (te : DE) (vs : List Nat) : DE := fun env st k => di env st fun xs src s1 => xs.length ≤ 16777216 ∧ goLc src g tt te vs env (fun acc s2 => k (.lst acc) s2) xs [] s1
/-- .. a list of the store -/
def dLcNew (di : DI) (g : DG) (tt : DT) (te : DE) (vs : List Nat) : DE := fun env st k => di env st fun xs src s1 => xs.length ≤ 16777216 ∧ goLc src g tt te vs env (fun acc s2 => k (.obj s2.length) (s2 ++ [acc])) xs [] s1
theorem Reps.rh {K : PySem.W.Frag} {w : Wd} {ds : List D} {vs : List V} (h : Reps K w ds vs) (l : List (Addr × List V)) : Reps K ⟨w.G, w.as, l, w.dk, w.lk⟩ ds vs := Reps.mono' (w := w) (w' := ⟨w.G, w.as, l, w.dk, w.lk⟩) (Same.refl w.G) (.eq rfl rfl) _ _ h
theorem Rep.rh {K : PySem.W.Frag} {w : Wd} {d : D} {v : V} (h : Rep K w d v) (l : List (Addr × List V)) : Rep K ⟨w.G, w.as, l, w.dk, w.lk⟩ d v := Rep.mono' (w := w) (w' := ⟨w.G, w.as, l, w.dk, w.lk⟩) (Same.refl w.G) (.eq rfl rfl) _ _ h
theorem EntR.rh {K : PySem.W.Frag} {w : Wd} {k : Option Kd} {L : Lk} {xs : List D} {o : HO} (h : EntR K w k L xs o) (l : List (Addr × List V)) : EntR K ⟨w.G, w.as, l, w.dk, w.lk⟩ k L xs o := EntR.mono' (w := w) (w' := ⟨w.G, w.as, l, w.dk, w.lk⟩) (Same.refl w.G) (.eq rfl rfl) h
theorem EntR.rg {K : PySem.W.Frag} {w : Wd} {k : Option Kd} {L : Lk} {xs : List D} {o : HO} (h : EntR K w k L xs o) {G : Hp} (s : Same w.G G) (l : List (Addr × List V)) : EntR K ⟨G, w.as, l, w.dk, w.lk⟩ k L xs o := EntR.mono' (w := w) (w' := ⟨G, w.as, l, w.dk, w.lk⟩) s (.eq rfl rfl) h
theorem Reps.rg {K : PySem.W.Frag} {w : Wd} {ds : List D} {vs : List V} (h : Reps K w ds vs) {G : Hp} (s : Same w.G G) (l : List (Addr × List V)) : Reps K ⟨G, w.as, l, w.dk, w.lk⟩ ds vs := Reps.mono' (w := w) (w' := ⟨G, w.as, l, w.dk, w.lk⟩) s (.eq rfl rfl) _ _ h
/-- a list in the making is laid -/
theorem Wld.hide {K : PySem.W.Frag} {w : Wd} {st : Sto} {H : Hp} (W : Wld K w st H) {p : Addr} {vs : List V} (h : H p = none) : Wld K ⟨w.G, w.as, (p, vs) :: w.hid, w.dk, w.lk⟩ st (upd H p (.lst vs)) where
  same := fun b u e => by
    have ne : b ≠ p := fun z => by
      have e' : w.G b = some u := e
      rw [z, W.free h] at e'
      cases e'
    rw [upd_ne ne]
    exact W.same b u e
  len := W.len
  nd := W.nd
  at_ := fun i a e => by
    obtain ⟨g, xs, us, h1, h2, h3⟩ := W.at_ i a e
    have ne : a ≠ p := fun z => by rw [z, h] at h2; cases h2
    exact ⟨g, xs, us, h1, by rw [upd_ne ne]; exact h2, h3.rh _⟩
  small := W.small
  hidd := fun a us m => by
    rcases List.mem_cons.mp m with z | z
    · cases z
      exact ⟨W.free h, W.nas h, upd_same⟩
    · obtain ⟨g, n, h1⟩ := W.hidd a us z
      have ne : a ≠ p := fun z => by rw [z, h] at h1; cases h1
      exact ⟨g, n, by rw [upd_ne ne]; exact h1⟩
  hnd := by
    show (p :: w.hid.map (·.1)).Nodup
    refine List.nodup_cons.mpr ⟨fun m => ?_, W.hnd⟩
    obtain ⟨⟨a, us⟩, m1, m2⟩ := List.mem_map.mp m
    have m2' : a = p := m2
    subst m2'
    have := (W.hidd a us m1).2.2
    rw [h] at this
    cases this
/-- the list in the making has grown -/
theorem Wld.regrow {K : PySem.W.Frag} {w : Wd} {st : Sto} {H : Hp} {p : Addr} {vs us : List V} {r : List (Addr × List V)} (W : Wld K w st H) (hh : w.hid = (p, vs) :: r) : Wld K ⟨w.G, w.as, (p, us) :: r, w.dk, w.lk⟩ st (upd H p (.lst us)) := by
  obtain ⟨g0, n0, h0⟩ := W.hidd p vs (by rw [hh]; exact List.mem_cons_self)
  have hnd := W.hnd
  rw [hh] at hnd
  have hnd' : (p :: r.map (·.1)).Nodup := hnd
  refine ⟨fun b u e => ?_, W.len, W.nd, fun i a e => ?_, W.small, fun a zs m => ?_, hnd'⟩
  · have ne : b ≠ p := fun z => by
      have e' : w.G b = some u := e
      rw [z, g0] at e'
      cases e'
    rw [upd_ne ne]
    exact W.same b u e
  · obtain ⟨g, xs, zs, h1, h2, h3⟩ := W.at_ i a e
    have ne : a ≠ p := fun z => n0 (by rw [← z]; exact List.mem_of_getElem? e)
    exact ⟨g, xs, zs, h1, by rw [upd_ne ne]; exact h2, h3.rh _⟩
  · rcases List.mem_cons.mp m with z | z
    · cases z
      exact ⟨g0, n0, upd_same⟩
    · obtain ⟨g, n, h1⟩ := W.hidd a zs (by rw [hh]; exact List.mem_cons_of_mem _ z)
      have ne : a ≠ p := fun q => (List.nodup_cons.mp hnd').1 (by rw [← q]; exact List.mem_map.mpr ⟨_, z, rfl⟩)
      exact ⟨g, n, by rw [upd_ne ne]; exact h1⟩
/-- the list in the making is done: frozen -/
theorem Wld.done {K : PySem.W.Frag} {w : Wd} {st : Sto} {H : Hp} {p : Addr} {vs : List V} {r : List (Addr × List V)} (W : Wld K w st H) (hh : w.hid = (p, vs) :: r) (n : vs.length ≤ sizeLine) : Wld K ⟨upd w.G p (.lst vs), w.as, r, w.dk, w.lk⟩ st H := by
  obtain ⟨g0, n0, h0⟩ := W.hidd p vs (by rw [hh]; exact List.mem_cons_self)
  have hnd := W.hnd
  rw [hh] at hnd
  have hnd' : (p :: r.map (·.1)).Nodup := hnd
  have s : Same w.G (upd w.G p (.lst vs)) := fun b u e => by
    rw [upd_ne (ne_of_none e g0)]
    exact e
  refine ⟨fun b u e => ?_, W.len, W.nd, fun i a e => ?_, fun a u e => ?_, fun a zs m => ?_, (List.nodup_cons.mp hnd').2⟩
  · have e' : upd w.G p (.lst vs) b = some u := e
    by_cases hb : b = p
    · subst hb
      rw [upd_same] at e'
      cases e'
      exact h0
    · rw [upd_ne hb] at e'
      exact W.same b u e'
  · obtain ⟨g, xs, zs, h1, h2, h3⟩ := W.at_ i a e
    have ne : a ≠ p := fun z => n0 (by rw [← z]; exact List.mem_of_getElem? e)
    refine ⟨?_, xs, zs, h1, h2, h3.rg s _⟩
    show upd w.G p (.lst vs) a = none
    rw [upd_ne ne]
    exact g
  · have e' : upd w.G p (.lst vs) a = some u := e
    by_cases ha : a = p
    · subst ha
      rw [upd_same] at e'
      cases e'
      exact n
    · rw [upd_ne ha] at e'
      exact W.small a u e'
  · obtain ⟨g, n, h1⟩ := W.hidd a zs (by rw [hh]; exact List.mem_cons_of_mem _ m)
    have ne : a ≠ p := fun q => (List.nodup_cons.mp hnd').1 (by rw [← q]; exact List.mem_map.mpr ⟨_, m, rfl⟩)
    refine ⟨?_, n, h1⟩
    show upd w.G p (.lst vs) a = none
    rw [upd_ne ne]
    exact g
/-- .. a list of the store now -/
theorem Wld.doneNew {K : PySem.W.Frag} {w : Wd} {st : Sto} {H : Hp} {p : Addr} {xs : List D} {vs : List V} {r : List (Addr × List V)} (W : Wld K w st H) (hh : w.hid = (p, vs) :: r) (n : vs.length ≤ sizeLine) (R : Reps K w xs vs) : Wld K ⟨w.G, w.as ++ [p], r, fun b => if b = p then none else w.dk b, fun b => if b = p then none else w.lk b⟩ (st ++ [xs]) H := by
  obtain ⟨g0, n0, h0⟩ := W.hidd p vs (by rw [hh]; exact List.mem_cons_self)
  have hnd := W.hnd
  rw [hh] at hnd
  have hnd' : (p :: r.map (·.1)).Nodup := hnd
  have pr : Pre w ⟨w.G, w.as ++ [p], r, fun b => if b = p then none else w.dk b, fun b => if b = p then none else w.lk b⟩ := ⟨⟨[p], rfl⟩, fun a ha => if_neg fun (z : a = p) => n0 (z ▸ ha)⟩
  have sm : Same w.G (Wd.G ⟨w.G, w.as ++ [p], r, fun b => if b = p then none else w.dk b, fun b => if b = p then none else w.lk b⟩) := Same.refl w.G
  refine ⟨W.same, ?_, ?_, fun i a e => ?_, W.small, fun a zs m => ?_, (List.nodup_cons.mp hnd').2⟩
  · show (w.as ++ [p]).length = (st ++ [xs]).length
    rw [List.length_append, List.length_append, W.len]
    rfl
  · show (w.as ++ [p]).Nodup
    refine List.nodup_append.mpr ⟨W.nd, by simp, fun a ha b hb z => ?_⟩
    have hbp : b = p := by simpa using hb
    rw [z, hbp] at ha
    exact n0 ha
  · have e' : (w.as ++ [p])[i]? = some a := e
    by_cases hi : i < w.as.length
    · rw [List.getElem?_append_left hi] at e'
      obtain ⟨g, ys, us, h1, h2, h3⟩ := W.at_ i a e'
      refine ⟨g, ys, us, by rw [List.getElem?_append_left (by rw [← W.len]; exact hi)]; exact h1, h2, ?_⟩
      rw [pr.dk a (List.mem_of_getElem? e')]
      have el : Wd.lk ⟨w.G, w.as ++ [p], r, fun b => if b = p then none else w.dk b, fun b => if b = p then none else w.lk b⟩ a = w.lk a := if_neg fun (z : a = p) => n0 (z ▸ List.mem_of_getElem? e')
      rw [el]
      exact h3.mono' sm pr
    · have hi2 : i = w.as.length := by
        have := (List.getElem?_eq_some_iff.mp e').1
        simp at this
        omega
      subst hi2
      rw [List.getElem?_concat_length] at e'
      cases e'
      refine ⟨g0, xs, _, by rw [W.len, List.getElem?_concat_length], h0, ?_⟩
      rw [show Wd.dk ⟨w.G, w.as ++ [p], r, fun b => if b = p then none else w.dk b, fun b => if b = p then none else w.lk b⟩ p = none from if_pos rfl]
      exact .inl ⟨if_pos rfl, vs, rfl, n, Reps.mono' sm pr _ _ R⟩
  · obtain ⟨g, n, h1⟩ := W.hidd a zs (by rw [hh]; exact List.mem_cons_of_mem _ m)
    have ne : a ≠ p := fun q => (List.nodup_cons.mp hnd').1 (by rw [← q]; exact List.mem_map.mpr ⟨_, m, rfl⟩)
    refine ⟨g, fun m' => ?_, h1⟩
    rcases List.mem_append.mp m' with z | z
    · exact n z
    · exact ne (by simpa using z)
theorem wipe_get (σ : L2.St) (j : Nat) : ∀ vs : List Nat, (wipe σ vs)[j]? = if j ∈ vs then σ[j]?.map (fun _ => none) else σ[j]?
  | [] => by simp [wipe]
  | v :: vs => by
    show ((wipe σ vs).set v none)[j]? = _
    by_cases hj : v = j
    · subst hj
      rw [if_pos List.mem_cons_self]
      by_cases hl : v < σ.length
      · rw [List.getElem?_set_self (by rw [wipe_length]; exact hl), List.getElem?_eq_getElem hl]
        rfl
      · rw [List.getElem?_eq_none (by simp [wipe_length]; omega), List.getElem?_eq_none (by omega)]
        rfl
    · rw [List.getElem?_set_ne hj, wipe_get σ j vs]
      by_cases hm : j ∈ vs
      · rw [if_pos hm, if_pos (List.mem_cons_of_mem _ hm)]
      · rw [if_neg hm, if_neg (fun z => by rcases List.mem_cons.mp z with z | z; exact hj z.symm; exact hm z)]
theorem wipe_set {σ : L2.St} {i : Nat} {x : Option V} {vs : List Nat} (h : i ∈ vs) : wipe (σ.set i x) vs = wipe σ vs := by
  refine List.ext_getElem? fun j => ?_
  rw [wipe_get, wipe_get]
  by_cases hj : j = i
  · subst hj
    rw [if_pos h, if_pos h]
    by_cases hl : j < σ.length
    · rw [List.getElem?_set_self hl, List.getElem?_eq_getElem hl]
      rfl
    · rw [List.getElem?_eq_none (by simp; omega), List.getElem?_eq_none (by omega)]
  · rw [List.getElem?_set_ne (Ne.symm hj)]
theorem wipe_wipe (σ : L2.St) (vs : List Nat) : wipe (wipe σ vs) vs = wipe σ vs := by
  refine List.ext_getElem? fun j => ?_
  rw [wipe_get, wipe_get]
  split
  · cases σ[j]? <;> rfl
  · rfl
/-- a target that is the block's own -/
def tDGo (K : PySem.W.Frag) (vs : List Nat) (g : DG) : TG := fun v σ H Q => ∃ w env st d nx, Wld K w st H ∧ EnvR K w env σ ∧ Rep K w d v ∧ g d env st nx ∧
  ∀ env' st' σ' w' H', nx env' st' → Le w w' → Wld K w' st' H' → EnvR K w' env' σ' → wipe σ' vs = wipe σ vs → Q σ' H'
def tDGso (K : PySem.W.Frag) (vs : List Nat) (g : DGs) : TGs := fun us σ H Q => ∃ w env st ds nx, Wld K w st H ∧ EnvR K w env σ ∧ Reps K w ds us ∧ g ds env st nx ∧
  ∀ env' st' σ' w' H', nx env' st' → Le w w' → Wld K w' st' H' → EnvR K w' env' σ' → wipe σ' vs = wipe σ vs → Q σ' H'
abbrev PDGo (X : Cx) (vs : List Nat) (e : Expr) (g : DG) : Prop := PG X e (tDGo X.K vs g)
abbrev PDGso (X : Cx) (vs : List Nat) (e : List Expr) (g : DGs) : Prop := PGs X e (tDGso X.K vs g)
theorem pdgo_name (i : Nat) {vs : List Nat} {x : Str} (hN : X.N.Nodup) (hi : X.N[i]? = some x := by rfl) (hx : Loc X.env.scope x := by first | exact Or.inl rfl | exact Or.inr rfl) (hf : X.fn x = true ∨ X.env.scope.names.lookup x = some .local := by first | exact .inl rfl | exact .inr rfl | assumption) (hv : i ∈ vs := by decide) : PDGo X vs (.Name x pos) (dgName i) := by
  refine L2.PG.wk (pg_name hN hi hx hf) fun v σ H Q ⟨w, env, st, d, nx, W, E, R, h, fn⟩ => ?_
  exact fn _ _ _ _ _ h (.refl _) W (E.set i R) (wipe_set hv)
theorem pdgso_nil {vs : List Nat} : PDGso X vs [] dgNil := by
  refine L2.PGs.wk pgs_nil fun v σ H Q ⟨w, env, st, ds, nx, W, E, R, h, fn⟩ => ?_
  cases ds with
  | nil => exact ⟨R.inv0, fn _ _ _ _ _ h (.refl _) W E rfl⟩
  | cons _ _ => exact h.elim
theorem pdgso_cons {vs : List Nat} {es : List Expr} {t : DG} {u : DGs} (h1 : PDGo X vs e t) (h2 : PDGso X vs es u)
    (hs : (assignEach (e :: es) X.env).map (·.2) = assign e X.env :: (assignEach es X.env).map (·.2) := by rfl) : PDGso X vs (e :: es) (dgCons t u) := by
  refine L2.PGs.wk (pgs_cons h1 h2 hs) fun v σ H Q ⟨w, env, st, ds, nx, W, E, R, h, fn⟩ => ?_
  cases ds with
  | nil => exact h.elim
  | cons d r =>
    obtain ⟨v, vr, rfl, R1, R2⟩ := R.inv
    exact ⟨v, vr, rfl, w, env, st, d, _, W, E, R1, h, fun env1 st1 σ1 w1 H1 h1 l1 W1 E1 ew => ⟨w1, env1, st1, r, nx, W1, E1, Reps.mono l1 _ _ R2, h1,
      fun env2 st2 σ2 w2 H2 h2 l2 W2 E2 ew2 => fn _ _ _ _ _ h2 (l1.trans l2) W2 E2 (ew2.trans ew)⟩⟩
theorem pdgo_tup {vs : List Nat} {es : List Expr} {kk : Nat} {t : DGs} {n : Nat} (hc : X.calm = true) (h : PDGso X vs es t)
    (hn : (assignEach es X.env).length = n := by rfl) (hst : (assignEach es X.env).findIdx? (·.1) = none := by rfl) : PDGo X vs (.Tuple es kk pos) (dgTup n t) := by
  refine L2.PG.wk (pg_tup hc h hn hst) fun v σ H Q ⟨w, env, st, d, nx, W, E, R, h, fn⟩ => ?_
  unfold dgTup at h
  split at h
  · rename_i xs e
    obtain ⟨a, us, rfl, q, r, _⟩ := rep_tup W R e
    exact ⟨a, us, rfl, q, by rw [r.length]; exact h.1, w, env, st, xs, nx, W, E, r, h.2, fn⟩
  · exact h.elim
def dYes : DT := fun _ st k => k true st
abbrev PDTs (X : Cx) (ifs : List Expr) (t : DT) : Prop := PTs X ifs (tDT X.K t)
theorem pdts_nil : PDTs X [] dYes := ⟨fun pins s σ H Q I ⟨w, env, st, kk, W, E, h, fo⟩ => pts_nil.run pins s σ H Q I (fo _ _ _ _ h (.refl _) W)⟩
theorem pdts_one {c : Expr} {t : DT} (h : PDT X c t) : PDTs X [c] t := pts_one h
theorem lc_in {K : PySem.W.Frag} {di : DI} {g : DG} {tt : DT} {te : DE} {vs : List Nat} {σ : L2.St} {H : Hp} {Q : VK} {w : Wd} {env : Env} {st : Sto} {k : List D → Sto → Prop} (W : Wld K w st H) (E : EnvR K w env σ)
    (h : di env st fun xs src s1 => xs.length ≤ 16777216 ∧ goLc src g tt te vs env k xs [] s1)
    (fin : ∀ (acc : List D) (st2 : Sto) (D : Addr) (us : List V) (w2 : Wd) (H2 : Hp), w2.hid = (D, us) :: w.hid → Le0 w w2 → Wld K w2 st2 H2 → Reps K w2 acc us → us.length ≤ sizeLine → k acc st2 → Q (.ref D) H2) :
    tLc (tDI K di) (tDGo K vs g) (tDT K tt) (tD K te) vs σ H Q := by
  refine ⟨w, env, st, _, W, E, h, fun xs src st1 w1 H1 J ⟨hlen, h1⟩ l1 W1 wk D hD => ?_⟩
  refine ⟨fun i m H2 => m = xs.length - i ∧ i ≤ xs.length ∧ ∃ w2 st2 acc us, w2.hid = (D, us) :: w.hid ∧ Le0 w1 w2 ∧ Wld K w2 st2 H2 ∧ Reps K w2 acc us ∧ us.length ≤ i ∧ goLc src g tt te vs env k (xs.drop i) acc st2,
    ⟨xs.length, by simp, Nat.zero_le _, ⟨w1.G, w1.as, (D, []) :: w1.hid, w1.dk, w1.lk⟩, st1, [], [], by rw [← l1.hid], ⟨Same.refl w1.G, .eq rfl rfl, fun _ _ => rfl⟩, W1.hide (vs := []) hD, .nil, Nat.le_refl _, by simpa using h1⟩, ?_⟩
  rintro i m H2 ⟨rfl, hi, w2, st2, acc, us, hh, l2, W2, R2, hu, q⟩
  by_cases hlt : i < xs.length
  · rw [List.drop_eq_getElem_cons hlt] at q
    obtain ⟨so, q⟩ := q
    refine .inr ⟨wk.goes i w2 st2 H2 hlt l2 W2 so, fun H' => ∃ w3 st3 acc us, w3.hid = (D, us) :: w.hid ∧ Le0 w1 w3 ∧ Wld K w3 st3 H' ∧ Reps K w3 acc us ∧ us.length ≤ i + 1 ∧ goLc src g tt te vs env k (xs.drop (i + 1)) acc st3, fun H' pv => ⟨xs.length - (i + 1), by omega, rfl, hlt, pv⟩, fun v H3 y => ?_⟩
    obtain ⟨w3, d, l3, W3, e3, R3⟩ := wk.yields i w2 st2 H2 v H3 hlt l2 W2 so y
    have ed : d = xs[i] := by
      rw [List.getElem?_eq_getElem hlt] at e3
      exact (Option.some.inj e3).symm
    rw [← ed] at q
    have l03 : Le0 w w3 := (l1.toLe0.trans l2).trans l3.toLe0
    refine ⟨w3, wipeE env vs, st2, d, _, W3, (E.mono0 l03).wipe vs, R3, q, fun env4 st4 σ4 w4 H4 h4 l4 W4 E4 ew => ⟨ew.trans (wipe_wipe σ vs), ?_⟩⟩
    refine ⟨w4, env4, st4, _, W4, E4, h4, fun b st5 w5 H5 h5 l5 W5 => ?_⟩
    have l25 := (l3.trans l4).trans l5
    cases b with
    | true =>
      simp only [↓reduceIte] at h5 ⊢
      refine ⟨w5, env4, st5, _, W5, E4.mono l5, h5, fun d6 st6 v6 w6 H6 h6 l6 W6 R6 => ?_⟩
      have l26 := l25.trans l6
      have h6h : w6.hid = (D, us) :: w.hid := l26.hid.trans hh
      refine ⟨us, (W6.hidd D us (by rw [h6h]; exact List.mem_cons_self)).2.2, by rw [sizeLine_eq]; omega, ⟨w6.G, w6.as, (D, us ++ [v6]) :: w.hid, w6.dk, w6.lk⟩, st6, acc ++ [d6], us ++ [v6], rfl, ?_, W6.regrow h6h, ?_, by simp; omega, h6⟩
      · exact ⟨(l2.trans l26.toLe0).same, ⟨(l2.trans l26.toLe0).pre.as, (l2.trans l26.toLe0).pre.dk⟩, (l2.trans l26.toLe0).lk⟩
      · exact ((Reps.mono l26 _ _ R2).rh _).append (.cons (R6.rh _) .nil)
    | false =>
      simp only [Bool.false_eq_true, ↓reduceIte] at h5 ⊢
      exact ⟨w5, st5, acc, us, l25.hid.trans hh, l2.trans l25.toLe0, W5, Reps.mono l25 _ _ R2, Nat.le_succ_of_le hu, h5⟩
  · have hie : i = xs.length := by omega
    subst hie
    rw [List.drop_length] at q
    exact .inl ⟨wk.stops w2 st2 H2 l2 W2 q.1, fin acc st2 D us w2 H2 hh (l1.toLe0.trans l2) W2 R2 (by rw [sizeLine_eq]; omega) q.2⟩
theorem lc_fin {K : PySem.W.Frag} {w : Wd} {kk : DK} {Q : VK} (fo : Fol K w kk Q) (acc : List D) (st2 : Sto) (p : Addr) (us : List V) (w2 : Wd) (H2 : Hp) (hh : w2.hid = (p, us) :: w.hid) (l : Le0 w w2) (W2 : Wld K w2 st2 H2) (R : Reps K w2 acc us) (n : us.length ≤ sizeLine) (k : kk (.lst acc) st2) : Q (.ref p) H2 := by
  have g0 := (W2.hidd p us (by rw [hh]; exact List.mem_cons_self)).1
  have s : Same w2.G (upd w2.G p (.lst us)) := fun b u e => by
    rw [upd_ne (ne_of_none e g0)]
    exact e
  refine fo _ _ _ ⟨upd w2.G p (.lst us), w2.as, w.hid, w2.dk, w2.lk⟩ _ k ⟨⟨l.same.trans s, ⟨l.pre.as, l.pre.dk⟩, l.lk⟩, rfl⟩ (W2.done hh n) ?_
  simp only [Rep]
  exact ⟨p, us, rfl, upd_same, R.rg s _⟩
theorem lc_finNew {K : PySem.W.Frag} {w : Wd} {kk : DK} {Q : VK} (fo : Fol K w kk Q) (acc : List D) (st2 : Sto) (p : Addr) (us : List V) (w2 : Wd) (H2 : Hp) (hh : w2.hid = (p, us) :: w.hid) (l : Le0 w w2) (W2 : Wld K w2 st2 H2) (R : Reps K w2 acc us) (n : us.length ≤ sizeLine) (k : kk (.obj st2.length) (st2 ++ [acc])) : Q (.ref p) H2 := by
  have n0 := (W2.hidd p us (by rw [hh]; exact List.mem_cons_self)).2.1
  have l2 : Le0 w2 ⟨w2.G, w2.as ++ [p], w.hid, fun b => if b = p then none else w2.dk b, fun b => if b = p then none else w2.lk b⟩ :=
    ⟨Same.refl w2.G, ⟨⟨[p], rfl⟩, fun a ha => if_neg fun (z : a = p) => n0 (z ▸ ha)⟩, fun a ha => if_neg fun (z : a = p) => n0 (z ▸ ha)⟩
  refine fo _ _ _ ⟨w2.G, w2.as ++ [p], w.hid, fun b => if b = p then none else w2.dk b, fun b => if b = p then none else w2.lk b⟩ _ k ⟨⟨l.same, (l.trans l2).pre, (l.trans l2).lk⟩, rfl⟩ (W2.doneNew hh n R) ?_
  simp only [Rep]
  refine ⟨p, rfl, ?_, if_pos rfl⟩
  show (w2.as ++ [p])[st2.length]? = some p
  rw [← W2.len, List.getElem?_concat_length]
variable {elt iter : Expr} {ifs : List Expr} {scope : Scope} {own : List (Str × Nat)} {di : DI} {g : DG} {tt : DT} {te : DE}
theorem pd_lc (own : List (Str × Nat)) (hc : X.calm = true) (hN : X.N.Nodup) (hi : PDI X tg iter di) (ok : BlkOk X.N X.env.scope scope own)
    (hg : ∀ (s : Shared) (H : Hp) (C : Addr) (cl : List (Str × Addr)) (fp : List Addr), PDGo (X.blk s H scope (compEnvC scope cl C X.env) fp) (own.map (·.2)) tg g) (ht : ∀ (s : Shared) (H : Hp) (C : Addr) (cl : List (Str × Addr)) (fp : List Addr), PDTs (X.blk s H scope (compEnvC scope cl C X.env) fp) ifs tt)
    (he : ∀ (s : Shared) (H : Hp) (C : Addr) (cl : List (Str × Addr)) (fp : List Addr), PD (X.blk s H scope (compEnvC scope cl C X.env) fp) elt te) (hs : ∀ x, foldedSetIterable iter X.env x = pure x := by intro _; rfl) :
    PD X (.ListComp elt [⟨tg, iter, ifs, 0⟩] scope pos) (dLc di g tt te (own.map (·.2))) :=
  (L2.pe_lc hc hN hi ok hg ht he hs).wk fun σ H Q ⟨w, env, st, kk, W, E, h, fo⟩ => lc_in W E h (lc_fin fo)
theorem pd_lcNew (own : List (Str × Nat)) (hc : X.calm = true) (hN : X.N.Nodup) (hi : PDI X tg iter di) (ok : BlkOk X.N X.env.scope scope own)
    (hg : ∀ (s : Shared) (H : Hp) (C : Addr) (cl : List (Str × Addr)) (fp : List Addr), PDGo (X.blk s H scope (compEnvC scope cl C X.env) fp) (own.map (·.2)) tg g) (ht : ∀ (s : Shared) (H : Hp) (C : Addr) (cl : List (Str × Addr)) (fp : List Addr), PDTs (X.blk s H scope (compEnvC scope cl C X.env) fp) ifs tt)
    (he : ∀ (s : Shared) (H : Hp) (C : Addr) (cl : List (Str × Addr)) (fp : List Addr), PD (X.blk s H scope (compEnvC scope cl C X.env) fp) elt te) (hs : ∀ x, foldedSetIterable iter X.env x = pure x := by intro _; rfl) :
    PD X (.ListComp elt [⟨tg, iter, ifs, 0⟩] scope pos) (dLcNew di g tt te (own.map (·.2))) :=
  (L2.pe_lc hc hN hi ok hg ht he hs).wk fun σ H Q ⟨w, env, st, kk, W, E, h, fo⟩ => lc_in W E h (lc_finNew fo)
/-- y = [..], y a local -/
theorem pds_setLc (i : Nat) (own : List (Str × Nat)) {y : Str} {py spos : Pos} (hc : X.calm = true) (hN : X.N.Nodup) (hi : PDI X tg iter di) (ok : BlkOk X.N X.env.scope scope own)
    (hg : ∀ (s : Shared) (H : Hp) (C : Addr) (cl : List (Str × Addr)) (fp : List Addr), PDGo (X.blk s H scope (compEnvC scope cl C X.env) fp) (own.map (·.2)) tg g) (ht : ∀ (s : Shared) (H : Hp) (C : Addr) (cl : List (Str × Addr)) (fp : List Addr), PDTs (X.blk s H scope (compEnvC scope cl C X.env) fp) ifs tt)
    (he : ∀ (s : Shared) (H : Hp) (C : Addr) (cl : List (Str × Addr)) (fp : List Addr), PD (X.blk s H scope (compEnvC scope cl C X.env) fp) elt te)
    (hsw : swapsWith (.ListComp elt [⟨tg, iter, ifs, 0⟩] scope pos) (some (.Name y py)) spos.line X.env = pure true) (hy : X.N[i]? = some y := by rfl) (hyl : X.env.scope.names.lookup y = some .local := by rfl) (hs : ∀ x, foldedSetIterable iter X.env x = pure x := by intro _; rfl) :
    PDS X (.Assign [.Name y py] (.ListComp elt [⟨tg, iter, ifs, 0⟩] scope pos) spos) (dAsg (dLc di g tt te (own.map (·.2))) (dgName i)) := by
  refine (L2.ps_setLc (g := tDGo X.K (own.map (·.2)) g) (tt := tDT X.K tt) (te := tD X.K te) hc hN hy hyl hsw hi ok hg ht he hs).wk fun Ed σ H ⟨w, env, st, E0, W, E, h, fn, fr⟩ => ?_
  exact lc_in W E h (lc_fin (kk := fun d s1 => dgName i d env s1 E0.nx) fun d st1 v w1 H1 h1 l1 W1 R1 => fn _ _ _ _ _ h1 l1 W1 ((E.mono l1).set i R1))
end
end DL

namespace DL
open PySem PySem.Spec PyProof.Rows L2
section
variable {X : Cx} {tg e e2 o i : Expr} {es : List Expr} {pos p : Pos} {ta tb to ti : DE}
/-! ### methods of lists -/
abbrev FM := D → List D → Sto → DK → Prop
def rDM (K : PySem.W.Frag) (f : FM) : V → List V → Hp → VK → Prop := fun x vs H Q => ∃ w st d ds kk, Wld K w st H ∧ Rep K w d x ∧ Reps K w ds vs ∧ f d ds st kk ∧ Fol K w kk Q
def isLst (st : Sto) (d : D) : Bool := match deref st d with
  | .lst _ => true
  | _ => false
def dMeth (f : FM) (to : DE) (ta : DA) : DE := fun env st k => to env st fun d s1 => isLst s1 d = true ∧ ta env s1 fun ds s2 => f d ds s2 k
theorem isLst_rep {K : PySem.W.Frag} {w : Wd} {st : Sto} {H : Hp} {d : D} {v : V} (W : Wld K w st H) (R : Rep K w d v) (h : isLst st d = true) : tyV K "list" v H := by
  unfold isLst at h
  split at h
  · rename_i xs hd
    obtain ⟨a, vs, rfl, q, _⟩ := rep_lst W R hd
    exact .inl ⟨rfl, vs, q⟩
  · cases h
theorem pd_bm {nm : Str} {idn : String} {apos cpos : Pos} {f : FM} {t : DA} (slot : Slot "list" nm idn) (hty : typeOf (.builtin idn) = pure (.type "method_descriptor")) (hm : MtR X idn (rDM X.K f)) (ho : PD X o to) (ha : PDA X (e :: es) t)
    (hbase : attributeBase o nm X.env (eval o X.env) = eval o X.env := by rfl)
    (hfew : ((backTo cpos (starEach (e :: es) X.env)).all (fun x => !x.1) && (backToKw cpos (keywordEach [] X.env)).all (fun x => x.1.isSome)
      && decide ((e :: es).length + ([] : List Keyword).length + (if ([] : List Keyword).isEmpty then 0 else 1) < 30)) = true := by rfl)
    (hline : (apos.endLine == cpos.line) = true := by rfl) (hs : starEach (e :: es) X.env = (false, eval e X.env) :: starEach es X.env := by rfl) (hplain : (backTo cpos (starEach es X.env)).any (·.1) = false := by rfl) :
    PD X (.Call (.Attribute o nm apos) (e :: es) [] cpos) (dMeth f to t) := by
  refine (pe_bm PySem.F.plainAttrs_list slot hty hm ho ha hbase hfew hline hs hplain).wk fun σ H Q ⟨w, env, st, kk, W, E, h, fo⟩ => ?_
  refine ⟨w, env, st, _, W, E, h, fun d st1 v w1 H1 h1 l1 W1 R1 => ⟨isLst_rep W1 R1 h1.1, ?_⟩⟩
  exact ⟨w1, env, st1, _, W1, E.mono l1, h1.2, fun ds st2 vs w2 H2 h2 l2 W2 R2 => ⟨w2, st2, d, ds, kk, W2, Rep.mono l2 _ _ R1, R2, h2, fo.le (l1.trans l2)⟩⟩
def mAppend : FM := fun d ds st k => match d, ds with
  | .obj i, [x] => match st[i]? with
    | some xs => xs.length < 16777216 ∧ k .non (st.set i (xs ++ [x]))
    | none => False
  | _, _ => False
theorem obj_rep {K : PySem.W.Frag} {w : Wd} {st : Sto} {H : Hp} {i : Nat} {v : V} {xs : List D} (W : Wld K w st H) (R : Rep K w (.obj i) v) (h : st[i]? = some xs) :
    ∃ a vs, v = .ref a ∧ (w.as[i]? = some a ∧ w.dk a = none) ∧ H a = some (.lst vs) ∧ Reps K w xs vs ∧ vs.length ≤ sizeLine := by
  simp only [Rep] at R
  obtain ⟨a, e1, q, q2⟩ := R
  obtain ⟨g, ys, o, h1, h2, h3⟩ := W.at_ i a q
  rw [h] at h1
  cases h1
  rw [q2] at h3
  obtain ⟨vs, rfl, n3, h4⟩ := h3.lst
  exact ⟨a, vs, e1, ⟨q, q2⟩, h2, h4, n3⟩
theorem md_append : MtR X "list.append" (rDM X.K mAppend) := by
  rintro pins s σ H x xs v us Q I rx rs ⟨w, st, d, ds, kk, W, R1, R2, q, fo⟩
  unfold mAppend at q
  split at q
  · rename_i j y
    split at q
    · rename_i ys hj
      obtain ⟨a, vs, rfl, ha, hH, r, n⟩ := obj_rep W R1 hj
      obtain ⟨yv, rfl, ry⟩ := one_rep R2
      have n' : vs.length < sizeLine := by rw [r.length, sizeLine_eq]; exact q.1
      refine mt_append pins s σ H _ _ v us Q I rx rs ⟨a, vs, yv, rfl, rfl, hH, n', ?_⟩
      exact fo _ _ _ _ _ q.2 (.refl _) (W.wr ha.1 ha.2 (r.append (.cons ry .nil)) (by rw [List.length_append]; exact n')) rep_non
    · exact q.elim
  · exact q.elim
/-! ### o[i] = v -/
def setD (o i v : D) (st : Sto) (k : Sto → Prop) : Prop := match o, i with
  | .obj j, .int n => match st[j]? with
    | some xs => ∃ m, ixN xs.length n = some m ∧ k (st.set j (xs.set m v))
    | none => False
  | _, _ => False
def dgSub (to ti : DE) : DG := fun v env st k => to env st fun o s1 => ti env s1 fun i s2 => setD o i v s2 fun s3 => k env s3
theorem pdg_sub (ho : PD X o to) (hi : PD X i ti)
    (ha : ∀ v, assign (.Subscript o i pos) X.env v = (do
      let ov ← holding [v] (eval o X.env)
      let iv ← holding [v, ov] (eval i X.env)
      standAt pos
      holding [v, ov, iv] (setItem ov iv v)
      release [v, ov, iv] []) := by intro _; rfl) : PDG X (.Subscript o i pos) (dgSub to ti) := by
  refine L2.PG.wk (pg_sub ho hi set_list ha) fun v σ H Q ⟨w, env, st, d, nx, W, E, R, h, fn⟩ => ?_
  refine ⟨w, env, st, _, W, E, h, fun d1 st1 v1 w1 H1 h1 l1 W1 R1 => ⟨w1, env, st1, _, W1, E.mono l1, h1, fun d2 st2 v2 w2 H2 h2 l2 W2 R2 => ?_⟩⟩
  unfold setD at h2
  split at h2
  · rename_i j n
    split at h2
    · rename_i xs hj
      obtain ⟨m, hm, h2⟩ := h2
      obtain ⟨a, vs, rfl, ha, hH, r, nn⟩ := obj_rep W2 (Rep.mono l2 _ _ R1) hj
      simp only [Rep] at R2
      subst R2
      refine ⟨a, vs, n, m, rfl, rfl, hH, by rw [r.length]; exact hm, ?_⟩
      refine fn _ _ _ _ _ h2 (l1.trans l2) (W2.wr ha.1 ha.2 (r.set m (Rep.mono (l1.trans l2) _ _ R)) (by rw [List.length_set]; exact nn)) (E.mono (l1.trans l2))
    · exact h2.elim
  · exact h2.elim
/-! ### isinstance -/
def tyD : D → String
  | .non => "NoneType"
  | .bl _ => "bool"
  | .int _ => "int"
  | .str _ => "str"
  | .lst _ => "list"
  | .klst _ => "list"
  | .tup _ => "tuple"
  | .obj _ => "list"
  | .dic _ _ => "dict"
  | .fdic _ _ => "dict"
  | .gtup _ => "tuple"
/-- is a value of the type a one of the type b -/
def subTy (a b : String) : Bool := a == b || (a == "bool" && b == "int")
theorem kit_all : (["NoneType", "bool", "int", "str", "list", "tuple", "dict"].all fun a => okTy.all fun b => kitB a b == some (subTy a b)) = true := by decide +kernel
theorem kit_at (d : D) {b : String} (hb : b ∈ okTy) : kitB (tyD d) b = some (subTy (tyD d) b) := by
  have h := List.all_eq_true.mp kit_all (tyD d) (by cases d <;> simp [tyD])
  exact eq_of_beq (List.all_eq_true.mp h b hb)
/-- a value's type, as isinstance needs it; of a dict with keys of tuples, too -/
def TyZ (K : PySem.W.Frag) (H : Hp) (v : V) (t : Value) : Prop := TyX K H v t ∨ (t = .type "dict" ∧ ∃ a b ys vs, v = .ref a ∧ (H a = some (ndO b ys vs) ∨ ∃ ob, H a = some (.frz ob (ndO b ys vs)))) ∨ ∃ c a dx fs, v = .ref a ∧ t = .ref (He.ga K c) ∧ H a = some (exh a (He.ga K c) dx) ∧ H dx = some (.xd fs) ∧ ExcN K c
theorem nd_self {P : Program} {wo : World} {H : Hp} {h : Heap} {a b : Addr} {ys : List PySem.NestedKey} {vs : List V} (x : ObjOk P wo H h a (ndO b ys vs)) : b = a := by
  obtain ⟨z, _, st⟩ := x
  refine Classical.byContradiction fun ne => ?_
  obtain ⟨G, g1, g2⟩ := restrict h fun c => decide (c ≠ b)
  have y := st h G z fun o e => by rw [g1 a (decide_eq_true (Ne.symm ne))]; exact e
  obtain ⟨us, _, ⟨o, es, ep, e, _⟩, _⟩ := y
  rw [g2 b (by simp)] at e
  cases e
theorem nd_at {P : Program} {wo : World} {H : Hp} {h : Heap} {a b : Addr} {ys : List PySem.NestedKey} {vs : List V} (x : ObjOk P wo H h a (ndO b ys vs)) : ∃ us, Vals vs us ∧ NdRaw h a ys us ∧ (a == sysModules) = false ∧ ys.Nodup ∧ vs.length ≤ 2 * sizeLine := by
  have e := nd_self x
  subst e
  exact x.1
theorem kit_ofZ {X : Cx} {pins : List (Addr × Obj)} {σ : L2.St} {H : Hp} {s : Shared} {x : V} {u t : Value} (I : Inv X pins σ H s) (rx : RelV x u) (ty : TyZ X.K H x t) : ∃ P : Heap → Prop, PySem.W.KitX X.K u t P ∧ P s.heap ∧ u ≠ .builtin "__main__.__loader__#opaque" := by
  rcases ty with ty | ⟨rfl, a, b, ys, vs, rfl, h⟩ | ⟨c, a, dx, fs, rfl, rfl, h1, h2, n⟩
  · exact kit_of I rx ty
  rotate_left
  · have x : ObjOk X.prog X.w H s.heap a (.ext fun h => ∃ o vs, h.get? a = some o ∧ Zc (.ref (He.ga X.K c)) (some dx) o ∧ o.data = .fields vs) := I.hok a _ h1
    obtain ⟨⟨o, vs, q1, q2, q3⟩, _, _⟩ := x
    have y : ObjOk X.prog X.w H s.heap dx (.xd fs) := I.hok dx _ h2
    obtain ⟨mA, hns, _⟩ := y
    obtain ⟨od, ho, _⟩ := lookIn_ns hns
    obtain rfl : u = Value.ref a := rx
    exact ⟨_, PySem.W.kitx_exc (ox := o) (od := some od) n.cl n.hg n.hk n.hs n.ha n.hn n.htk n.hm, ⟨q1, q2.1, by unfold PySem.W.notCls; rw [q3], by rw [q2.2]; exact ho⟩, fun z => nomatch z⟩
  · obtain ⟨us, _, ⟨o, es, ep, e, ex, _⟩, _⟩ := nd_at (P := X.prog) (wo := X.w) (H := H) (h := s.heap) (a := a) (b := b) (ys := ys) (vs := vs) (by
      rcases h with h | ⟨ob, h⟩
      · exact I.hok a _ h
      · exact (I.hok a _ h).2)
    obtain rfl : u = Value.ref a := rx
    exact ⟨_, PySem.W.kitx_dict, ⟨o, e, ex.1⟩, fun z => nomatch z⟩
/-- isinstance(x, c), isinstance(x, (c1, c2)) -/
def rIsiZ (K : PySem.W.Frag) : List V → Hp → VK → Prop := fun xs H Q => ∃ (x c : V) (t u : Value) (b : Bool), xs = [x, c] ∧ ClsV c u ∧ TyZ K H x t ∧ PySem.W.kitOne K t u = some b ∧ Q (.bl b) H
def rIsiTZ (K : PySem.W.Frag) : List V → Hp → VK → Prop := fun xs H Q => ∃ (x : V) (p : Addr) (cs : List V) (t : Value) (us : List Value) (b : Bool), xs = [x, .ref p] ∧ H p = some (.tup cs) ∧ Paired ClsV cs us ∧ TyZ K H x t ∧ PySem.W.kitAny K t us = some b ∧ Q (.bl b) H
theorem call_isiZ {X : Cx} : CallR X (.builtin "isinstance") (rIsiZ X.K) := by
  rintro pins s σ H _ ws Q I r ⟨x, c, t, u, b, rfl, k, ty, e, q⟩
  obtain ⟨w1, w2, rfl, r1, r2⟩ := vals2 r
  obtain ⟨P, Z, p, hx⟩ := kit_ofZ I r1 ty
  rw [k.eq r2]
  exact PySem.W.kia_one Z I.kIn p e hx fun tk => ⟨.bl b, _, I.tok tk, rfl, q⟩
theorem call_isiTZ {X : Cx} : CallR X (.builtin "isinstance") (rIsiTZ X.K) := by
  rintro pins s σ H _ ws Q I r ⟨x, p0, cs, t, us, b, rfl, hT, k, ty, e, q⟩
  obtain ⟨w1, w2, rfl, r1, r2⟩ := vals2 r
  obtain rfl : w2 = Value.ref p0 := r2
  obtain ⟨P, Z, p, hx⟩ := kit_ofZ I r1 ty
  have ok := I.hok p0 _ hT
  obtain ⟨_, its, rv, ⟨c, dd, dat, sl⟩, h1, h2, n, h3⟩ := ok
  obtain rfl : c = _ := h2
  obtain rfl : dat = _ := h3
  obtain rfl := ClsV.all k rv
  exact PySem.W.kia_tup Z I.kIn p h1 e hx fun tk => ⟨.bl b, _, I.tok tk, rfl, q⟩
def TyI (K : PySem.W.Frag) (H : Hp) (v : V) (y : String) : Prop := ∃ t, TyZ K H v t ∧ ∀ b ∈ okTy, PySem.W.kitOne K t (.type b) = some (subTy y b)
theorem tyI_of {K : PySem.W.Frag} {H : Hp} {v : V} (d : D) (h : TyX K H v (.type (tyD d))) : TyI K H v (tyD d) := ⟨_, .inl h, fun _ hb => kit_ty (kit_at d hb)⟩
theorem dict_no : ∀ b ∈ okTy, subTy "dict" b = false := by decide +kernel
theorem tyI_ins {K : PySem.W.Frag} {H : Hp} {a dx : Addr} {fs : List (Str × V)} {c : Str} (h : H a = some (.ins (He.ga K c) dx fs)) (q : ClsT K c) : TyI K H (.ref a) "dict" :=
  ⟨_, .inl (.base (.ins h q.cls q.ha q.hn q.htk q.hm)), fun b hb => by rw [q.no b hb, dict_no b hb]⟩
theorem tyI_nd {K : PySem.W.Frag} {H : Hp} {a b : Addr} {ys : List PySem.NestedKey} {vs : List V} (h : H a = some (ndO b ys vs)) : TyI K H (.ref a) "dict" :=
  ⟨_, .inr (.inl ⟨rfl, a, b, ys, vs, rfl, .inl h⟩), fun _ hb => kit_ty (kit_at (.dic .n 0) hb)⟩
theorem tyI_ndf {K : PySem.W.Frag} {H : Hp} {a b : Addr} {ob : Obj} {ys : List PySem.NestedKey} {vs : List V} (h : H a = some (.frz ob (ndO b ys vs))) : TyI K H (.ref a) "dict" :=
  ⟨_, .inr (.inl ⟨rfl, a, b, ys, vs, rfl, .inr ⟨ob, h⟩⟩), fun _ hb => kit_ty (kit_at (.dic .n 0) hb)⟩
theorem tyI_exh {K : PySem.W.Frag} {H : Hp} {a dx : Addr} {fs : List (Str × V)} {c : Str} (h1 : H a = some (exh a (He.ga K c) dx)) (h2 : H dx = some (.xd fs)) (n : ExcN K c) : TyI K H (.ref a) "dict" :=
  ⟨_, .inr (.inr ⟨c, a, dx, fs, rfl, rfl, h1, h2, n⟩), fun b hb => by rw [n.no b hb, dict_no b hb]⟩
theorem tyX_rep {K : PySem.W.Frag} {w : Wd} {st : Sto} {H : Hp} {d : D} {v : V} (W : Wld K w st H) (R : Rep K w d v) : TyI K H v (tyD d) := by
  have lst : ∀ {a : Addr} {vs : List V}, SqL K H a vs → TyX K H (.ref a) (.type "list") := fun {a vs} q => by
    rcases q with (h | ⟨o, h⟩) | ⟨o, its, n, h, hc, _⟩
    · exact .base (.lst h)
    · exact .base (.frz h)
    · exact .kList h hc
  cases d with
  | non => simp only [Rep] at R; subst R; exact tyI_of .non (.base .non)
  | bl b => simp only [Rep] at R; subst R; exact tyI_of (.bl b) (.base (.bl b))
  | int b => simp only [Rep] at R; subst R; exact tyI_of (.int b) (.base (.int b))
  | str b => simp only [Rep] at R; subst R; exact tyI_of (.str b) (.base (.str b))
  | lst xs => simp only [Rep] at R; obtain ⟨a, vs, rfl, q, _⟩ := R; exact tyI_of (.lst xs) (.base (.lst (W.same _ _ q)))
  | klst xs => simp only [Rep] at R; obtain ⟨a, vs, rfl, q, _⟩ := R; exact tyI_of (.klst xs) (lst (W.same.seq q))
  | tup xs =>
    simp only [Rep] at R
    obtain ⟨a, vs, rfl, q, _⟩ := R
    exact tyI_of (.tup xs) (.base (.tup (W.same _ _ q)))
  | gtup xs =>
    simp only [Rep] at R
    obtain ⟨a, vs, rfl, q, _⟩ := R
    rcases seqT_mono W.same q with (h | ⟨o, h⟩) | ⟨o, its, n, h, hc, _⟩
    · exact tyI_of (.gtup xs) (.base (.tup h))
    · exact tyI_of (.gtup xs) (.fTuple h)
    · exact tyI_of (.gtup xs) (.kTuple h hc)
  | obj i =>
    simp only [Rep] at R
    obtain ⟨a, rfl, q, q2⟩ := R
    obtain ⟨_, _, o, _, h, h3⟩ := W.at_ i a q
    rw [q2] at h3
    obtain ⟨vs, rfl, _⟩ := h3.lst
    exact tyI_of (.obj i) (.base (.lst h))
  | dic t i =>
    simp only [Rep] at R
    obtain ⟨a, rfl, q, q2, q3⟩ := R
    obtain ⟨_, _, o, _, h, h3⟩ := W.at_ i a q
    rw [q2] at h3
    rcases t with (_ | _) | c | _ | c
    · rcases h3 with ⟨_, vs, rfl, _⟩ | ⟨_, _, _, _, _, _, rfl, _⟩ | ⟨z, _⟩
      · exact tyI_of (.dic false i) (.base (.dK h))
      · exact tyI_of (.dic false i) (.fDict h)
      · cases z
    · obtain ⟨vs, rfl, _⟩ := h3.dT
      exact tyI_of (.dic true i) (.base (.dT h))
    · obtain ⟨dx, kvs, rfl, _⟩ := h3.ins
      exact tyI_ins h q3
    · rcases h3 with ⟨_, b, ys, vs, rfl, _⟩ | ⟨z, _⟩ | ⟨_, rows, ob, b, ys, vs, _, _, rfl, _⟩
      · exact tyI_nd h
      · cases z
      · exact tyI_ndf h
    · rcases h3 with ⟨_, z⟩ | ⟨z, _⟩ | ⟨z, _⟩
      · exact z.elim
      · cases z
      · cases z
  | fdic t rows =>
    rcases t with (_ | _) | c | _ | c
    rotate_right
    · simp only [Rep] at R
      obtain ⟨a, dx, kvs, rfl, q, q2, n, _⟩ := R
      exact tyI_exh (W.same _ _ q) (W.same _ _ q2) n
    · simp only [Rep] at R
      obtain ⟨a, kvs, rfl, q, _⟩ := R
      exact tyI_of (.fdic false rows) (.base (.dK (W.same _ _ q)))
    · simp only [Rep] at R
      obtain ⟨a, kvs, rfl, q, _⟩ := R
      exact tyI_of (.fdic true rows) (.base (.dT (W.same _ _ q)))
    · simp only [Rep] at R
      obtain ⟨a, dx, kvs, rfl, q, q3, _⟩ := R
      exact tyI_ins (W.same _ _ q) q3
    · simp only [Rep] at R
      obtain ⟨a, b, ys, vs, rfl, q, _⟩ := R
      exact tyI_nd (W.same _ _ q)
def dIsi (t : DE) (ts : List String) : DE := fun env st k => t env st fun d s1 => k (.bl (ts.any (subTy (tyD d)))) s1
theorem pd_isi {x : Str} {T : String} {q1 q2 : Pos} (hm : X.mg "isinstance" = none) (ha : PD X e ta) (hmx : X.mg x = none) (hv : bootBuiltins x = some (.type T)) (hT : T ∈ okTy := by decide)
    (hg : Gl X "isinstance" := by rfl) (hgx : Gl X x := by rfl) (hn : x ≠ "__name__" := by decide) (hdb : (x == ("__debug__" : Str)) = false := by decide)
    (he : starEach [e, .Name x q1] X.env = (false, eval e X.env) :: starEach [.Name x q1] X.env := by rfl) (he2 : starEach [.Name x q1] X.env = [(false, eval (.Name x q1) X.env)] := by rfl) (hpl : (backTo pos (starEach [.Name x q1] X.env)).any (·.1) = false := by rfl) :
    PD X (.Call (.Name "isinstance" q2) [e, .Name x q1] [] pos) (dIsi ta [T]) := by
  refine (pe_callB call_isiZ hg hm (by decide +kernel) (pa_cons ha (pa_cons (pe_bltn (v := .ty T) hgx hmx hv rfl hn hdb) pa_nil he2) he) (by decide) (by decide) he hpl).wk fun σ H Q ⟨w, env, st, kk, W, E, h, fo⟩ => ?_
  refine ⟨w, env, st, _, W, E, h, fun d st1 v w1 H1 h1 l1 W1 R1 => ?_⟩
  obtain ⟨ty, hty, hto⟩ := tyX_rep W1 R1
  refine ⟨v, .ty T, _, _, _, rfl, .ty T, hty, hto T hT, ?_⟩
  have h2 : kk (.bl (subTy (tyD d) T || false)) st1 := h1
  rw [Bool.or_false] at h2
  exact fo _ _ _ _ _ h2 l1 W1 rep_bl
theorem Wld.other {K : PySem.W.Frag} {w : Wd} {st : Sto} {H : Hp} (W : Wld K w st H) {p : Addr} {o : HO} (h : H p = none) : Wld K w st (upd H p o) where
  same := fun b u e => by rw [upd_ne (ne_of_none (W.same b u e) h)]; exact W.same b u e
  len := W.len
  nd := W.nd
  at_ := fun i a e => by
    obtain ⟨g, xs, vs, h1, h2, h3⟩ := W.at_ i a e
    exact ⟨g, xs, vs, h1, by rw [upd_ne (ne_of_none h2 h)]; exact h2, h3⟩
  small := W.small
  hidd := fun a vs m => by
    obtain ⟨g, n, h1⟩ := W.hidd a vs m
    exact ⟨g, n, by rw [upd_ne (ne_of_none h1 h)]; exact h1⟩
  hnd := W.hnd
theorem pd_isi2 {x y : Str} {T U : String} {q1 q2 q3 : Pos} {k0 : Nat} {q4 : Pos} (hm : X.mg "isinstance" = none) (ha : PD X e ta) (hmx : X.mg x = none) (hv : bootBuiltins x = some (.type T)) (hmy : X.mg y = none) (hvy : bootBuiltins y = some (.type U)) (hT : T ∈ okTy := by decide) (hU : U ∈ okTy := by decide)
    (hg : Gl X "isinstance" := by rfl) (hgx : Gl X x := by rfl) (hn : x ≠ "__name__" := by decide) (hdb : (x == ("__debug__" : Str)) = false := by decide) (hgy : Gl X y := by rfl) (hny : y ≠ "__name__" := by decide) (hdby : (y == ("__debug__" : Str)) = false := by decide)
    (he : starEach [e, .Tuple [.Name x q1, .Name y q3] k0 q4] X.env = (false, eval e X.env) :: starEach [.Tuple [.Name x q1, .Name y q3] k0 q4] X.env := by rfl) (he2 : starEach [.Tuple [.Name x q1, .Name y q3] k0 q4] X.env = [(false, eval (.Tuple [.Name x q1, .Name y q3] k0 q4) X.env)] := by rfl)
    (he3 : starEach [.Name x q1, .Name y q3] X.env = (false, eval (.Name x q1) X.env) :: starEach [.Name y q3] X.env := by rfl) (he4 : starEach [.Name y q3] X.env = [(false, eval (.Name y q3) X.env)] := by rfl) (hpl : (backTo pos (starEach [.Tuple [.Name x q1, .Name y q3] k0 q4] X.env)).any (·.1) = false := by rfl) :
    PD X (.Call (.Name "isinstance" q2) [e, .Tuple [.Name x q1, .Name y q3] k0 q4] [] pos) (dIsi ta [T, U]) := by
  refine (pe_callB call_isiTZ hg hm (by decide +kernel) (pa_cons ha (pa_cons (pe_tup (pa_cons (pe_bltn (v := .ty T) hgx hmx hv rfl hn hdb) (pa_cons (pe_bltn (v := .ty U) hgy hmy hvy rfl hny hdby) pa_nil he4) he3)) pa_nil he2) he) (by decide) (by decide) he hpl).wk fun σ H Q ⟨w, env, st, kk, W, E, h, fo⟩ => ?_
  refine ⟨w, env, st, _, W, E, h, fun d st1 v w1 H1 h1 l1 W1 R1 => ⟨by show 2 ≤ sizeLine; decide, fun t ht => ?_⟩⟩
  have W2 := W1.other (o := .tup [.ty T, .ty U]) ht
  obtain ⟨ty, hty, hto⟩ := tyX_rep W2 R1
  refine ⟨v, t, [.ty T, .ty U], _, [.type T, .type U], _, rfl, upd_same, .cons (.ty T) (.cons (.ty U) .nil), hty, ?_, fo _ _ _ _ _ h1 l1 W2 rep_bl⟩
  show PySem.W.kitAny X.K ty [.type T, .type U] = some ([T, U].any (subTy (tyD d)))
  refine kitAny_cons (hto T hT) (fun e1 => kitAny_cons (hto U hU) (fun e2 => ?_) (fun e2 => ?_)) (fun e1 => ?_)
  · simp [List.any, e1, e2, kitAny_nil]
  · simp [List.any, e1, e2]
  · simp [List.any, e1]

/-! ### calls with keywords -/
/-- the values in the parameters' order: the written ones, then the keywords' -/
def kperm {α : Type} (ix : List Nat) (us ws : List α) : List α := ix.filterMap fun i => (us ++ ws)[i]?
theorem kperm_vals (ix : List Nat) {vs zs : List V} {us ws : List Value} (r1 : Vals vs us) (r2 : Vals zs ws) : Vals (kperm ix vs zs) (kperm ix us ws) := by
  have r := r1.append r2
  unfold kperm
  induction ix with
  | nil => exact .nil
  | cons j js ih =>
    cases e : (vs ++ zs)[j]? with
    | none => rw [List.filterMap_cons, List.filterMap_cons, e, r.none_of e]; exact ih
    | some v =>
      obtain ⟨u, e1, rv⟩ := r.get e
      rw [List.filterMap_cons, List.filterMap_cons, e, e1]
      exact .cons rv ih
theorem kperm_reps {K : PySem.W.Frag} {w : Wd} (ix : List Nat) {ds es : List D} {vs us : List V} (r1 : Reps K w ds vs) (r2 : Reps K w es us) : Reps K w (kperm ix ds es) (kperm ix vs us) := by
  have r := r1.append r2
  unfold kperm
  induction ix with
  | nil => exact .nil
  | cons j js ih =>
    cases e : (ds ++ es)[j]? with
    | none =>
      have e1 : (vs ++ us)[j]? = none := by
        rw [List.getElem?_eq_none_iff] at e ⊢
        rw [r.length]
        exact e
      rw [List.filterMap_cons, List.filterMap_cons, e, e1]
      exact ih
    | some d =>
      obtain ⟨u, e1, rv⟩ := r.get e
      rw [List.filterMap_cons, List.filterMap_cons, e, e1]
      exact .cons rv ih
theorem kbn_of {K : PySem.W.Frag} {x qual : Str} {params : Arguments} {body : List Stmt} {scope : Scope} {kws : List (Str × V)} {f : Addr} {fd : FuncData} {ps : List Str} (n : Nat) (ks : List Str) (ix : List Nat) (F : FunD K x qual params body scope [] kws f fd)
    (h : ∀ (kV doc pm : Value) (an : Option Addr) (cdv ct : Value) (us ws : List Value), us.length = n → ws.length = ks.length → bindArgs (PySem.W.fnOf x qual params body scope .none kV doc pm an cdv ct) ⟨us, ks.zip ws⟩ = pure (ps.zip (kperm ix us ws))) :
    KBn K fd ps n ks (kperm ix) (kperm ix) where
  to := fun s us ws X l1 l2 => by
    obtain ⟨oc, od, dV, kV, doc, pm, an, cdv, ct, osl, rfl, _, _, hD, _⟩ := F.ex
    rcases hD with ⟨_, rfl⟩ | ⟨hne, _⟩
    · exact .of_eq (h kV doc pm an cdv ct us ws l1 l2)
    · exact absurd rfl hne
  rel := fun r1 r2 => kperm_vals ix r1 r2
abbrev PDK (X : Cx) (kws : List Keyword) (t : DA) : Prop := PK X kws (tDA X.K t)
theorem _root_.L2.PK.wk {X : Cx} {kws : List Keyword} {t t' : TA} (h : PK X kws t) (i : ∀ σ H Q, t' σ H Q → t σ H Q) : PK X kws t' := ⟨fun ps pins s σ H Q I q => h.run ps pins s σ H Q I (i σ H Q q)⟩
theorem pdk_nil : PDK X [] dNil := pk_nil.wk fun σ H Q ⟨w, env, st, kk, W, E, h, fo⟩ => fo _ _ _ _ _ h (.refl _) W .nil
theorem pdk_cons {nm : Option Str} {kpos : Pos} {kws : List Keyword} {t : DE} {u : DA} (ha : PD X e t) (hr : PDK X kws u) : PDK X (⟨nm, e, kpos⟩ :: kws) (dCons t u) := by
  refine (pk_cons ha hr).wk fun σ H Q ⟨w, env, st, kk, W, E, h, fo⟩ => ?_
  exact ⟨w, env, st, _, W, E, h, fun d st1 v w1 H1 h1 l1 W1 R1 => ⟨w1, env, st1, _, W1, E.mono l1, h1, fun ds st2 vs w2 H2 h2 l2 W2 R2 =>
    fo _ _ _ _ _ h2 (l1.trans l2) W2 (.cons (Rep.mono l2 _ _ R1) R2)⟩⟩
def dCallK (n m : Nat) (ix : List Nat) (sp : SpD) (t tk : DA) : DE := fun env st k => t env st fun ds s1 => tk env s1 fun es s2 => ds.length = n ∧ es.length = m ∧ sp (kperm ix ds es) s2 k
variable {k : Nat} {f : Addr} {fd : FuncData} {ps ks : List Str} {sp : SpD} {x : Str} {kws : List Keyword}
theorem pd_callK0 {ix : List Nat} {tk : DA} (F : FnG X.prog X.w X.K X.mg X.base CX0 k f fd ps (spD X.K sp)) (hr : RoomG k X.A) (hm : X.mg x = some (.ref f)) (hk : PySem.W.keepIn X.K (.ref f) = true) (hb : KBn X.K fd ps 0 ks (kperm ix) (kperm ix))
    (hkw : PDK X kws tk) (hg : Gl X x := by rfl) (hall : (backToKw pos (keywordEach kws X.env)).all (·.1.isSome) = true := by rfl) (hks : (backToKw pos (keywordEach kws X.env)).filterMap (·.1) = ks := by rfl)
    (hdb : (x == ("__debug__" : Str)) = false := by decide)
    (hpl : ((backTo pos (starEach [] X.env)).any (·.1) || (backToKw pos (keywordEach kws X.env)).any (·.1.isNone)) = false := by rfl) :
    PD X (.Call (.Name x p) [] kws pos) (dCallK 0 ks.length ix sp dNil tk) := by
  refine ⟨fun pins s σ H Q I ⟨w, env, st, kk, W, E, h, fo⟩ => ?_⟩
  refine wpAny_Call_Name_kw (ld_glob I hg hm ?_ hdb)
  refine PySem.W.callWith_KW0 (h₀ := X.base) I.ok.mod.kin hk hall ?_ hpl
  refine thn (hkw.run pos pins s σ H (fun zs H2 => zs.length = ks.length ∧ spD X.K sp (kperm ix [] zs) H2 Q E0) I ⟨w, env, st, _, W, E, h, fun es st2 us w2 H2 h2 l2 W2 R2 => ?_⟩) fun ws s2 ⟨zs, H2, I2, rz, l2, q2⟩ => ⟨I2.kIn, ?_⟩
  · exact ⟨R2.length.trans h2.2.1, w2, st2, _, kk, W2, kperm_reps ix .nil R2, h2.2.2, fo.le l2⟩
  · rw [hks]
    exact run_fnG F hr pass0 I2 (hb.to s2 [] ws I2.kIn rfl (rz.length.symm.trans l2)) (hb.rel .nil rz) q2
end

/-! ### behind a def: its own lists are frozen -/
mutual
def sub (n : Nat) (a : List D) : D → D
  | .non => .non
  | .bl b => .bl b
  | .int b => .int b
  | .str b => .str b
  | .lst xs => .lst (subs n a xs)
  | .klst xs => .klst (subs n a xs)
  | .tup xs => .tup (subs n a xs)
  | .obj i => if i = n then .lst a else .obj i
  | .dic t i => if i = n then .fdic t a else .dic t i
  | .fdic t rows => .fdic t (subs n a rows)
  | .gtup xs => .gtup (subs n a xs)
def subs (n : Nat) (a : List D) : List D → List D
  | [] => []
  | x :: xs => sub n a x :: subs n a xs
end
mutual
def below (n : Nat) : D → Bool
  | .lst xs => belows n xs
  | .klst xs => belows n xs
  | .tup xs => belows n xs
  | .obj i => decide (i < n)
  | .dic _ i => decide (i < n)
  | .fdic .n rows => belows n rows
  | .fdic (.b _) rows => okRows rows && belows n rows
  | .fdic (.ins _) rows => okRows rows && belows n rows
  | .fdic (.x _) rows => okRows rows && belows n rows
  | .gtup xs => belows n xs
  | _ => true
def belows (n : Nat) : List D → Bool
  | [] => true
  | x :: xs => below n x && belows n xs
end
theorem subs_map (n : Nat) (a : List D) : ∀ xs : List D, subs n a xs = xs.map (sub n a)
  | [] => rfl
  | x :: xs => by simp only [subs, List.map_cons, subs_map n a xs]
mutual
theorem sub_below {n : Nat} {a : List D} : ∀ d : D, below n d = true → sub n a d = d
  | .non, _ => by simp only [sub]
  | .bl _, _ => by simp only [sub]
  | .int _, _ => by simp only [sub]
  | .str _, _ => by simp only [sub]
  | .lst xs, h => by simp only [below] at h; simp only [sub, subs_below xs h]
  | .klst xs, h => by simp only [below] at h; simp only [sub, subs_below xs h]
  | .tup xs, h => by simp only [below] at h; simp only [sub, subs_below xs h]
  | .obj i, h => by
    simp only [below, decide_eq_true_eq] at h
    simp only [sub]
    rw [if_neg (by omega)]
  | .dic t i, h => by
    simp only [below, decide_eq_true_eq] at h
    simp only [sub]
    rw [if_neg (by omega)]
  | .fdic .n rows, h => by simp only [below] at h; simp only [sub, subs_below rows h]
  | .fdic (.b _) rows, h => by simp only [below, Bool.and_eq_true] at h; simp only [sub, subs_below rows h.2]
  | .fdic (.ins _) rows, h => by simp only [below, Bool.and_eq_true] at h; simp only [sub, subs_below rows h.2]
  | .fdic (.x _) rows, h => by simp only [below, Bool.and_eq_true] at h; simp only [sub, subs_below rows h.2]
  | .gtup rows, h => by simp only [below] at h; simp only [sub, subs_below rows h]
theorem subs_below {n : Nat} {a : List D} : ∀ ds : List D, belows n ds = true → subs n a ds = ds
  | [], _ => by simp only [subs]
  | x :: xs, h => by
    simp only [belows, Bool.and_eq_true] at h
    simp only [subs, sub_below x h.1, subs_below xs h.2]
end
mutual
theorem below_mono {n m : Nat} (l : n ≤ m) : ∀ d : D, below n d = true → below m d = true
  | .non, _ => by simp only [below]
  | .bl _, _ => by simp only [below]
  | .int _, _ => by simp only [below]
  | .str _, _ => by simp only [below]
  | .lst xs, h => by simp only [below] at h ⊢; exact belows_mono l xs h
  | .klst xs, h => by simp only [below] at h ⊢; exact belows_mono l xs h
  | .tup xs, h => by simp only [below] at h ⊢; exact belows_mono l xs h
  | .obj i, h => by
    simp only [below, decide_eq_true_eq] at h ⊢
    omega
  | .dic t i, h => by
    simp only [below, decide_eq_true_eq] at h ⊢
    omega
  | .fdic .n rows, h => by simp only [below] at h ⊢; exact belows_mono l rows h
  | .fdic (.b _) rows, h => by simp only [below, Bool.and_eq_true] at h ⊢; exact ⟨h.1, belows_mono l rows h.2⟩
  | .fdic (.ins _) rows, h => by simp only [below, Bool.and_eq_true] at h ⊢; exact ⟨h.1, belows_mono l rows h.2⟩
  | .fdic (.x _) rows, h => by simp only [below, Bool.and_eq_true] at h ⊢; exact ⟨h.1, belows_mono l rows h.2⟩
  | .gtup rows, h => by simp only [below] at h ⊢; exact belows_mono l rows h
theorem belows_mono {n m : Nat} (l : n ≤ m) : ∀ ds : List D, belows n ds = true → belows m ds = true
  | [], _ => by simp only [belows]
  | x :: xs, h => by
    simp only [belows, Bool.and_eq_true] at h ⊢
    exact ⟨below_mono l x h.1, belows_mono l xs h.2⟩
end
theorem rowsK_okRows {K : PySem.W.Frag} {w : Wd} : ∀ {ds : List D} {kvs : List (Key × V)}, RowsK K w ds kvs → okRows ds = true
  | [], _, _ => rfl
  | .tup [k, d] :: ds, kvs, h => by
    simp only [RowsK] at h
    obtain ⟨y, v, r, _, _, _, h3⟩ := h
    simp only [okRows]
    exact rowsK_okRows h3
  | .tup [] :: _, _, h => by simp only [RowsK] at h
  | .tup [_] :: _, _, h => by simp only [RowsK] at h
  | .tup (_ :: _ :: _ :: _) :: _, _, h => by simp only [RowsK] at h
  | .non :: _, _, h => by simp only [RowsK] at h
  | .bl _ :: _, _, h => by simp only [RowsK] at h
  | .int _ :: _, _, h => by simp only [RowsK] at h
  | .str _ :: _, _, h => by simp only [RowsK] at h
  | .lst _ :: _, _, h => by simp only [RowsK] at h
  | .klst _ :: _, _, h => by simp only [RowsK] at h
  | .obj _ :: _, _, h => by simp only [RowsK] at h
  | .dic _ _ :: _, _, h => by simp only [RowsK] at h
  | .fdic _ _ :: _, _, h => by simp only [RowsK] at h
  | .gtup _ :: _, _, h => by simp only [RowsK] at h
theorem rowsT_okRows {K : PySem.W.Frag} {w : Wd} : ∀ {ds : List D} {kvs : List (List Key × V)}, RowsT K w ds kvs → okRows ds = true
  | [], _, _ => rfl
  | .tup [k, d] :: ds, kvs, h => by
    simp only [RowsT] at h
    obtain ⟨y, v, r, _, _, _, h3⟩ := h
    simp only [okRows]
    exact rowsT_okRows h3
  | .tup [] :: _, _, h => by simp only [RowsT] at h
  | .tup [_] :: _, _, h => by simp only [RowsT] at h
  | .tup (_ :: _ :: _ :: _) :: _, _, h => by simp only [RowsT] at h
  | .non :: _, _, h => by simp only [RowsT] at h
  | .bl _ :: _, _, h => by simp only [RowsT] at h
  | .int _ :: _, _, h => by simp only [RowsT] at h
  | .str _ :: _, _, h => by simp only [RowsT] at h
  | .lst _ :: _, _, h => by simp only [RowsT] at h
  | .klst _ :: _, _, h => by simp only [RowsT] at h
  | .obj _ :: _, _, h => by simp only [RowsT] at h
  | .dic _ _ :: _, _, h => by simp only [RowsT] at h
  | .fdic _ _ :: _, _, h => by simp only [RowsT] at h
  | .gtup _ :: _, _, h => by simp only [RowsT] at h
theorem key_below {n : Nat} {d : D} {y : Key} (h : keyD d = some y) : below n d = true := by
  cases d <;> first | rfl | (simp only [below]; done) | simp [keyD] at h
theorem keys_below {n : Nat} : ∀ {ds : List D} {ys : List Key}, keysD ds = some ys → belows n ds = true
  | [], _, _ => rfl
  | d :: r, ys, h => by
    unfold keysD at h
    cases h1 : keyD d with
    | none => rw [h1] at h; cases h
    | some y =>
      cases h2 : keysD r with
      | none => rw [h1, h2] at h; cases h
      | some zs => simp only [belows, key_below h1, keys_below h2, Bool.and_true]
theorem tkey_below {n : Nat} {d : D} {y : List Key} (h : tkeyD d = some y) : below n d = true := by
  cases d with
  | tup xs => simp only [below]; exact keys_below h
  | _ => cases h
section
variable {K : PySem.W.Frag} {w w' : Wd} {st : Sto} {H : Hp}
mutual
theorem rep_below : ∀ (d : D) (v : V), Rep K w d v → below w.as.length d = true
  | .non, _, _ => by simp only [below]
  | .bl _, _, _ => by simp only [below]
  | .int _, _, _ => by simp only [below]
  | .str _, _, _ => by simp only [below]
  | .lst xs, v, h => by
    simp only [Rep] at h
    obtain ⟨a, vs, _, _, r⟩ := h
    simp only [below]
    exact reps_below xs vs r
  | .klst xs, v, h => by
    simp only [Rep] at h
    obtain ⟨a, vs, _, _, r⟩ := h
    simp only [below]
    exact reps_below xs vs r
  | .tup xs, v, h => by
    simp only [Rep] at h
    obtain ⟨a, vs, _, _, r⟩ := h
    simp only [below]
    exact reps_below xs vs r
  | .gtup xs, v, h => by
    simp only [Rep] at h
    obtain ⟨a, vs, _, _, r⟩ := h
    simp only [below]
    exact reps_below xs vs r
  | .obj i, v, h => by
    simp only [Rep] at h
    obtain ⟨a, _, q, _⟩ := h
    simp only [below, decide_eq_true_eq]
    exact (List.getElem?_eq_some_iff.mp q).1
  | .dic t i, v, h => by
    simp only [Rep] at h
    obtain ⟨a, _, q, _⟩ := h
    simp only [below, decide_eq_true_eq]
    exact (List.getElem?_eq_some_iff.mp q).1
  | .fdic .n rows, v, h => by
    simp only [Rep] at h
    obtain ⟨a, b, ys, vs, _, _, _, r⟩ := h
    simp only [below]
    exact reps_below rows vs r
  | .fdic (.x c) rows, v, h => by
    simp only [Rep] at h
    obtain ⟨a, dx, kvs, _, _, _, _, r⟩ := h
    simp only [below, Bool.and_eq_true]
    exact ⟨rowsK_okRows r, rowsK_below rows kvs r⟩
  | .fdic (.ins c) rows, v, h => by
    simp only [Rep] at h
    obtain ⟨a, dx, kvs, _, _, _, r⟩ := h
    simp only [below, Bool.and_eq_true]
    exact ⟨rowsK_okRows r, rowsK_below rows kvs r⟩
  | .fdic (.b false) rows, v, h => by
    simp only [Rep] at h
    obtain ⟨a, kvs, _, _, _, r⟩ := h
    simp only [below, Bool.and_eq_true]
    exact ⟨rowsK_okRows r, rowsK_below rows kvs r⟩
  | .fdic (.b true) rows, v, h => by
    simp only [Rep] at h
    obtain ⟨a, kvs, _, _, _, r⟩ := h
    simp only [below, Bool.and_eq_true]
    exact ⟨rowsT_okRows r, rowsT_below rows kvs r⟩
theorem rowsK_below : ∀ (ds : List D) (kvs : List (Key × V)), RowsK K w ds kvs → belows w.as.length ds = true
  | [], _, _ => by simp only [belows]
  | .tup [k, d] :: ds, kvs, h => by
    simp only [RowsK] at h
    obtain ⟨y, v, r, _, h1, h2, h3⟩ := h
    simp only [belows, below, Bool.and_true, Bool.and_eq_true]
    exact ⟨⟨key_below h1, rep_below d v h2⟩, rowsK_below ds r h3⟩
  | .tup [] :: _, _, h => by simp only [RowsK] at h
  | .tup [_] :: _, _, h => by simp only [RowsK] at h
  | .tup (_ :: _ :: _ :: _) :: _, _, h => by simp only [RowsK] at h
  | .non :: _, _, h => by simp only [RowsK] at h
  | .bl _ :: _, _, h => by simp only [RowsK] at h
  | .int _ :: _, _, h => by simp only [RowsK] at h
  | .str _ :: _, _, h => by simp only [RowsK] at h
  | .lst _ :: _, _, h => by simp only [RowsK] at h
  | .klst _ :: _, _, h => by simp only [RowsK] at h
  | .obj _ :: _, _, h => by simp only [RowsK] at h
  | .dic _ _ :: _, _, h => by simp only [RowsK] at h
  | .fdic _ _ :: _, _, h => by simp only [RowsK] at h
  | .gtup _ :: _, _, h => by simp only [RowsK] at h
theorem rowsT_below : ∀ (ds : List D) (kvs : List (List Key × V)), RowsT K w ds kvs → belows w.as.length ds = true
  | [], _, _ => by simp only [belows]
  | .tup [k, d] :: ds, kvs, h => by
    simp only [RowsT] at h
    obtain ⟨y, v, r, _, h1, h2, h3⟩ := h
    simp only [belows, below, Bool.and_true, Bool.and_eq_true]
    exact ⟨⟨tkey_below h1, rep_below d v h2⟩, rowsT_below ds r h3⟩
  | .tup [] :: _, _, h => by simp only [RowsT] at h
  | .tup [_] :: _, _, h => by simp only [RowsT] at h
  | .tup (_ :: _ :: _ :: _) :: _, _, h => by simp only [RowsT] at h
  | .non :: _, _, h => by simp only [RowsT] at h
  | .bl _ :: _, _, h => by simp only [RowsT] at h
  | .int _ :: _, _, h => by simp only [RowsT] at h
  | .str _ :: _, _, h => by simp only [RowsT] at h
  | .lst _ :: _, _, h => by simp only [RowsT] at h
  | .klst _ :: _, _, h => by simp only [RowsT] at h
  | .obj _ :: _, _, h => by simp only [RowsT] at h
  | .dic _ _ :: _, _, h => by simp only [RowsT] at h
  | .fdic _ _ :: _, _, h => by simp only [RowsT] at h
  | .gtup _ :: _, _, h => by simp only [RowsT] at h
theorem reps_below : ∀ (ds : List D) (vs : List V), Reps K w ds vs → belows w.as.length ds = true
  | [], _, _ => by simp only [belows]
  | x :: xs, vs, h => by
    obtain ⟨v, r, rfl, h1, h2⟩ := h.inv
    simp only [belows, Bool.and_eq_true]
    exact ⟨rep_below x v h1, reps_below xs r h2⟩
end
theorem entR_ok {k : Option Kd} {L : Lk} {xs : List D} {o : HO} (h : EntR K w k L xs o) : ∀ d ∈ xs, below w.as.length d = true ∨ d = lockD := by
  have mem : ∀ {xs : List D} {d : D}, belows w.as.length xs = true → d ∈ xs → below w.as.length d = true := by
    intro xs
    induction xs with
    | nil => intro d _ m; cases m
    | cons x xs ih =>
      intro d h m
      simp only [belows, Bool.and_eq_true] at h
      rcases List.mem_cons.mp m with e | m
      · rw [e]; exact h.1
      · exact ih h.2 m
  intro d hd
  rcases h with ⟨_, h⟩ | ⟨_, rows, ob, kvs, _, e, _, _, r⟩ | ⟨_, rows, ob, b, ys, vs, _, e, _, _, r⟩
  · left
    refine mem ?_ hd
    match k, h with
    | none, ⟨vs, _, _, r⟩ => exact reps_below _ _ r
    | some (.b false), ⟨vs, _, _, r⟩ => exact rowsK_below _ _ r
    | some (.b true), ⟨vs, _, _, r⟩ => exact rowsT_below _ _ r
    | some (.ins c), ⟨dx, vs, _, r⟩ => exact rowsK_below _ _ r
    | some (.x _), h => exact h.elim
    | some .n, ⟨b, ys, vs, _, _, r⟩ => exact reps_below _ _ r
  · rw [e] at hd
    rcases List.mem_append.mp hd with z | z
    · exact .inl (mem (rowsK_below _ _ r) z)
    · exact .inr (List.mem_singleton.mp z)
  · rw [e] at hd
    rcases List.mem_append.mp hd with z | z
    · exact .inl (mem (reps_below _ _ r) z)
    · exact .inr (List.mem_singleton.mp z)
theorem belows_lock {n : Nat} {rows : List D} : belows n (rows ++ [lockD]) = false := by
  induction rows with
  | nil => simp only [List.nil_append, belows, lockD, below, okRows, Bool.false_and]
  | cons x r ih => simp only [List.cons_append, belows, ih, Bool.and_false]
mutual
theorem nkD_below {n : Nat} : ∀ (d : D) (y : PySem.NestedKey), nkD d = some y → below n d = true
  | .non, _, _ => rfl
  | .bl _, _, _ => rfl
  | .int _, _, _ => rfl
  | .tup xs, y, h => by
    simp only [nkD] at h
    simp only [below]
    cases e : nkDs xs with
    | none => rw [e] at h; cases h
    | some ks => exact nkDs_below xs ks e
  | .str _, _, h => by simp only [nkD] at h; cases h
  | .lst _, _, h => by simp only [nkD] at h; cases h
  | .klst _, _, h => by simp only [nkD] at h; cases h
  | .obj _, _, h => by simp only [nkD] at h; cases h
  | .dic _ _, _, h => by simp only [nkD] at h; cases h
  | .fdic _ _, _, h => by simp only [nkD] at h; cases h
  | .gtup _, _, h => by simp only [nkD] at h; cases h
theorem nkDs_below {n : Nat} : ∀ (ds : List D) (ys : List PySem.NestedKey), nkDs ds = some ys → belows n ds = true
  | [], _, _ => rfl
  | x :: r, ys, h => by
    simp only [nkDs] at h
    cases e : nkD x with
    | none => rw [e] at h; cases h
    | some k =>
      cases e2 : nkDs r with
      | none => rw [e, e2] at h; cases h
      | some ks => simp only [belows, nkD_below x k e, nkDs_below r ks e2, Bool.and_self]
end
theorem nkT_nkD {d : D} {y : PySem.NestedKey} (h : nkT d = some y) : nkD d = some y ∧ y.depth ≤ 8 ∧ ∃ xs, d = .tup xs := by
  unfold nkT at h
  cases d <;> try (cases h; done)
  rename_i xs
  simp only at h
  cases e : nkD (.tup xs) with
  | none => rw [e] at h; cases h
  | some z =>
    rw [e] at h
    simp only at h
    split at h
    · rename_i q
      cases h
      exact ⟨rfl, q, xs, rfl⟩
    · cases h
theorem nks_cons {k d : D} {r : List D} {zs : List PySem.NestedKey} (h : nks (k :: d :: r) = some zs) : ∃ y ys, zs = y :: ys ∧ nkT k = some y ∧ nks r = some ys := by
  simp only [nks] at h
  cases e : nkT k with
  | none => rw [e] at h; cases h
  | some y =>
    cases e2 : nks r with
    | none => rw [e, e2] at h; cases h
    | some ys =>
      rw [e, e2] at h
      cases h
      exact ⟨y, ys, rfl, rfl, rfl⟩
theorem nks_sub {n : Nat} {a : List D} : ∀ {ds : List D} {ys : List PySem.NestedKey}, nks ds = some ys → nks (subs n a ds) = some ys
  | [], _, h => by simpa only [subs] using h
  | [_], _, h => by simp only [nks] at h; cases h
  | k :: d :: r, zs, h => by
    obtain ⟨y, ys, rfl, h1, h2⟩ := nks_cons h
    obtain ⟨h3, _, _⟩ := nkT_nkD h1
    simp only [subs, nks]
    rw [sub_below k (nkD_below k y h3), h1, nks_sub h2]
mutual
/-- the last object of the store frozen: what is represented -/
theorem rep_sub {p : Addr} {o : HO} {a : List D} {as : List Addr} (e : w.as = as ++ [p]) (e' : w'.as = as) (ed : w'.dk = w.dk) (s : Same w.G w'.G) (g : w'.G p = some o) (r : EntP K w' (w.dk p) a o) : ∀ (d : D) (v : V), Rep K w d v → Rep K w' (sub as.length a d) v
  | .non, _, h => by simpa only [Rep, sub] using h
  | .bl _, _, h => by simpa only [Rep, sub] using h
  | .int _, _, h => by simpa only [Rep, sub] using h
  | .str _, _, h => by simpa only [Rep, sub] using h
  | .lst xs, v, h => by
    simp only [Rep] at h
    obtain ⟨b, vs, e1, q, r1⟩ := h
    simp only [sub, Rep]
    exact ⟨b, vs, e1, s _ _ q, reps_sub e e' ed s g r xs vs r1⟩
  | .klst xs, v, h => by
    simp only [Rep] at h
    obtain ⟨b, vs, e1, q, r1⟩ := h
    simp only [sub, Rep]
    exact ⟨b, vs, e1, s.seq q, reps_sub e e' ed s g r xs vs r1⟩
  | .tup xs, v, h => by
    simp only [Rep] at h
    obtain ⟨b, vs, e1, q, r1⟩ := h
    simp only [sub, Rep]
    exact ⟨b, vs, e1, s _ _ q, reps_sub e e' ed s g r xs vs r1⟩
  | .gtup xs, v, h => by
    simp only [Rep] at h
    obtain ⟨b, vs, e1, q, r1⟩ := h
    simp only [sub, Rep]
    exact ⟨b, vs, e1, seqT_mono s q, reps_sub e e' ed s g r xs vs r1⟩
  | .obj i, v, h => by
    simp only [Rep] at h
    obtain ⟨b, e1, q, q2⟩ := h
    simp only [sub]
    rw [e] at q
    by_cases hi : i = as.length
    · subst hi
      rw [List.getElem?_concat_length] at q
      cases q
      rw [if_pos rfl]
      rw [q2] at r
      obtain ⟨us, rfl, _, r⟩ := r
      simp only [Rep]
      exact ⟨p, us, e1, g, r⟩
    · rw [if_neg hi]
      simp only [Rep]
      refine ⟨b, e1, ?_, by rw [ed]; exact q2⟩
      have hlt : i < (as ++ [p]).length := (List.getElem?_eq_some_iff.mp q).1
      rw [List.length_append, List.length_singleton] at hlt
      rw [List.getElem?_append_left (by omega)] at q
      rw [e']
      exact q
  | .dic t i, v, h => by
    simp only [Rep] at h
    obtain ⟨b, e1, q, q2, q3⟩ := h
    simp only [sub]
    rw [e] at q
    by_cases hi : i = as.length
    · subst hi
      rw [List.getElem?_concat_length] at q
      cases q
      rw [if_pos rfl]
      rw [q2] at r
      rcases t with (_ | _) | c | _ | c
      · obtain ⟨kvs, rfl, n, r⟩ := r
        simp only [Rep]
        exact ⟨p, kvs, e1, g, n, r⟩
      · obtain ⟨kvs, rfl, n, r⟩ := r
        simp only [Rep]
        exact ⟨p, kvs, e1, g, n, r⟩
      · obtain ⟨dx, kvs, rfl, r⟩ := r
        simp only [Rep]
        exact ⟨p, dx, kvs, e1, g, q3, r⟩
      · obtain ⟨b0, ys, vs, rfl, n, r⟩ := r
        simp only [Rep]
        exact ⟨p, b0, ys, vs, e1, g, n, r⟩
      · exact r.elim
    · rw [if_neg hi]
      simp only [Rep]
      refine ⟨b, e1, ?_, by rw [ed]; exact q2, q3⟩
      have hlt : i < (as ++ [p]).length := (List.getElem?_eq_some_iff.mp q).1
      rw [List.length_append, List.length_singleton] at hlt
      rw [List.getElem?_append_left (by omega)] at q
      rw [e']
      exact q
  | .fdic .n rows, v, h => by
    simp only [Rep] at h
    obtain ⟨b, b0, ys, vs, e1, q, n, r1⟩ := h
    simp only [sub, Rep]
    exact ⟨b, b0, ys, vs, e1, s _ _ q, nks_sub n, reps_sub e e' ed s g r rows vs r1⟩
  | .fdic (.x c) rows, v, h => by
    simp only [Rep] at h
    obtain ⟨b, dx, kvs, e1, q, q2, n, r1⟩ := h
    simp only [sub, Rep]
    exact ⟨b, dx, kvs, e1, s _ _ q, s _ _ q2, n, rowsK_sub e e' ed s g r rows kvs r1⟩
  | .fdic (.ins c) rows, v, h => by
    simp only [Rep] at h
    obtain ⟨b, dx, kvs, e1, q, n, r1⟩ := h
    simp only [sub, Rep]
    exact ⟨b, dx, kvs, e1, s _ _ q, n, rowsK_sub e e' ed s g r rows kvs r1⟩
  | .fdic (.b false) rows, v, h => by
    simp only [Rep] at h
    obtain ⟨b, kvs, e1, q, n, r1⟩ := h
    simp only [sub, Rep]
    exact ⟨b, kvs, e1, s _ _ q, n, rowsK_sub e e' ed s g r rows kvs r1⟩
  | .fdic (.b true) rows, v, h => by
    simp only [Rep] at h
    obtain ⟨b, kvs, e1, q, n, r1⟩ := h
    simp only [sub, Rep]
    exact ⟨b, kvs, e1, s _ _ q, n, rowsT_sub e e' ed s g r rows kvs r1⟩
theorem rowsK_sub {p : Addr} {o : HO} {a : List D} {as : List Addr} (e : w.as = as ++ [p]) (e' : w'.as = as) (ed : w'.dk = w.dk) (s : Same w.G w'.G) (g : w'.G p = some o) (r : EntP K w' (w.dk p) a o) : ∀ (ds : List D) (kvs : List (Key × V)), RowsK K w ds kvs → RowsK K w' (subs as.length a ds) kvs
  | [], _, h => by simpa only [RowsK, subs] using h
  | .tup [k, d] :: ds, kvs, h => by
    simp only [RowsK] at h
    obtain ⟨y, v, r1, e1, h1, h2, h3⟩ := h
    simp only [subs, sub, RowsK]
    exact ⟨y, v, r1, e1, by rw [sub_below k (key_below h1)]; exact h1, rep_sub e e' ed s g r d v h2, rowsK_sub e e' ed s g r ds r1 h3⟩
  | .tup [] :: _, _, h => by simp only [RowsK] at h
  | .tup [_] :: _, _, h => by simp only [RowsK] at h
  | .tup (_ :: _ :: _ :: _) :: _, _, h => by simp only [RowsK] at h
  | .non :: _, _, h => by simp only [RowsK] at h
  | .bl _ :: _, _, h => by simp only [RowsK] at h
  | .int _ :: _, _, h => by simp only [RowsK] at h
  | .str _ :: _, _, h => by simp only [RowsK] at h
  | .lst _ :: _, _, h => by simp only [RowsK] at h
  | .klst _ :: _, _, h => by simp only [RowsK] at h
  | .obj _ :: _, _, h => by simp only [RowsK] at h
  | .dic _ _ :: _, _, h => by simp only [RowsK] at h
  | .fdic _ _ :: _, _, h => by simp only [RowsK] at h
  | .gtup _ :: _, _, h => by simp only [RowsK] at h
theorem rowsT_sub {p : Addr} {o : HO} {a : List D} {as : List Addr} (e : w.as = as ++ [p]) (e' : w'.as = as) (ed : w'.dk = w.dk) (s : Same w.G w'.G) (g : w'.G p = some o) (r : EntP K w' (w.dk p) a o) : ∀ (ds : List D) (kvs : List (List Key × V)), RowsT K w ds kvs → RowsT K w' (subs as.length a ds) kvs
  | [], _, h => by simpa only [RowsT, subs] using h
  | .tup [k, d] :: ds, kvs, h => by
    simp only [RowsT] at h
    obtain ⟨y, v, r1, e1, h1, h2, h3⟩ := h
    simp only [subs, sub, RowsT]
    exact ⟨y, v, r1, e1, by rw [sub_below k (tkey_below h1)]; exact h1, rep_sub e e' ed s g r d v h2, rowsT_sub e e' ed s g r ds r1 h3⟩
  | .tup [] :: _, _, h => by simp only [RowsT] at h
  | .tup [_] :: _, _, h => by simp only [RowsT] at h
  | .tup (_ :: _ :: _ :: _) :: _, _, h => by simp only [RowsT] at h
  | .non :: _, _, h => by simp only [RowsT] at h
  | .bl _ :: _, _, h => by simp only [RowsT] at h
  | .int _ :: _, _, h => by simp only [RowsT] at h
  | .str _ :: _, _, h => by simp only [RowsT] at h
  | .lst _ :: _, _, h => by simp only [RowsT] at h
  | .klst _ :: _, _, h => by simp only [RowsT] at h
  | .obj _ :: _, _, h => by simp only [RowsT] at h
  | .dic _ _ :: _, _, h => by simp only [RowsT] at h
  | .fdic _ _ :: _, _, h => by simp only [RowsT] at h
  | .gtup _ :: _, _, h => by simp only [RowsT] at h
theorem reps_sub {p : Addr} {o : HO} {a : List D} {as : List Addr} (e : w.as = as ++ [p]) (e' : w'.as = as) (ed : w'.dk = w.dk) (s : Same w.G w'.G) (g : w'.G p = some o) (r : EntP K w' (w.dk p) a o) : ∀ (ds : List D) (vs : List V), Reps K w ds vs → Reps K w' (subs as.length a ds) vs
  | [], _, h => by simpa only [Reps, subs] using h
  | x :: xs, vs, h => by
    obtain ⟨v, r1, rfl, h1, h2⟩ := h.inv
    simp only [subs]
    exact .cons (rep_sub e e' ed s g r x v h1) (reps_sub e e' ed s g r xs r1 h2)
end
mutual
theorem rep_low {as m : List Addr} (e : w.as = as ++ m) (e' : w'.as = as) (ed : w'.dk = w.dk) (s : Same w.G w'.G) : ∀ (d : D) (v : V), below as.length d = true → Rep K w d v → Rep K w' d v
  | .non, _, _, h => by simpa only [Rep] using h
  | .bl _, _, _, h => by simpa only [Rep] using h
  | .int _, _, _, h => by simpa only [Rep] using h
  | .str _, _, _, h => by simpa only [Rep] using h
  | .lst xs, v, l, h => by
    simp only [below] at l
    simp only [Rep] at h ⊢
    obtain ⟨b, vs, e1, q, r1⟩ := h
    exact ⟨b, vs, e1, s _ _ q, reps_low e e' ed s xs vs l r1⟩
  | .klst xs, v, l, h => by
    simp only [below] at l
    simp only [Rep] at h ⊢
    obtain ⟨b, vs, e1, q, r1⟩ := h
    exact ⟨b, vs, e1, s.seq q, reps_low e e' ed s xs vs l r1⟩
  | .tup xs, v, l, h => by
    simp only [below] at l
    simp only [Rep] at h ⊢
    obtain ⟨b, vs, e1, q, r1⟩ := h
    exact ⟨b, vs, e1, s _ _ q, reps_low e e' ed s xs vs l r1⟩
  | .gtup xs, v, l, h => by
    simp only [below] at l
    simp only [Rep] at h ⊢
    obtain ⟨b, vs, e1, q, r1⟩ := h
    exact ⟨b, vs, e1, seqT_mono s q, reps_low e e' ed s xs vs l r1⟩
  | .obj i, v, l, h => by
    simp only [below, decide_eq_true_eq] at l
    simp only [Rep] at h ⊢
    obtain ⟨b, e1, q, q2⟩ := h
    refine ⟨b, e1, ?_, by rw [ed]; exact q2⟩
    rw [e, List.getElem?_append_left l] at q
    rw [e']
    exact q
  | .dic t i, v, l, h => by
    simp only [below, decide_eq_true_eq] at l
    simp only [Rep] at h ⊢
    obtain ⟨b, e1, q, q2, q3⟩ := h
    refine ⟨b, e1, ?_, by rw [ed]; exact q2, q3⟩
    rw [e, List.getElem?_append_left l] at q
    rw [e']
    exact q
  | .fdic .n rows, v, l, h => by
    simp only [below] at l
    simp only [Rep] at h ⊢
    obtain ⟨b, b0, ys, vs, e1, q, n, r1⟩ := h
    exact ⟨b, b0, ys, vs, e1, s _ _ q, n, reps_low e e' ed s rows vs l r1⟩
  | .fdic (.x c) rows, v, l, h => by
    simp only [below, Bool.and_eq_true] at l
    simp only [Rep] at h ⊢
    obtain ⟨b, dx, kvs, e1, q, q2, n, r1⟩ := h
    exact ⟨b, dx, kvs, e1, s _ _ q, s _ _ q2, n, rowsK_low e e' ed s rows kvs l.2 r1⟩
  | .fdic (.ins c) rows, v, l, h => by
    simp only [below, Bool.and_eq_true] at l
    simp only [Rep] at h ⊢
    obtain ⟨b, dx, kvs, e1, q, n, r1⟩ := h
    exact ⟨b, dx, kvs, e1, s _ _ q, n, rowsK_low e e' ed s rows kvs l.2 r1⟩
  | .fdic (.b false) rows, v, l, h => by
    simp only [below, Bool.and_eq_true] at l
    simp only [Rep] at h ⊢
    obtain ⟨b, kvs, e1, q, n, r1⟩ := h
    exact ⟨b, kvs, e1, s _ _ q, n, rowsK_low e e' ed s rows kvs l.2 r1⟩
  | .fdic (.b true) rows, v, l, h => by
    simp only [below, Bool.and_eq_true] at l
    simp only [Rep] at h ⊢
    obtain ⟨b, kvs, e1, q, n, r1⟩ := h
    exact ⟨b, kvs, e1, s _ _ q, n, rowsT_low e e' ed s rows kvs l.2 r1⟩
theorem rowsK_low {as m : List Addr} (e : w.as = as ++ m) (e' : w'.as = as) (ed : w'.dk = w.dk) (s : Same w.G w'.G) : ∀ (ds : List D) (kvs : List (Key × V)), belows as.length ds = true → RowsK K w ds kvs → RowsK K w' ds kvs
  | [], _, _, h => by simpa only [RowsK] using h
  | .tup [k, d] :: ds, kvs, l, h => by
    simp only [belows, below, Bool.and_true, Bool.and_eq_true] at l
    simp only [RowsK] at h ⊢
    obtain ⟨y, v, r1, e1, h1, h2, h3⟩ := h
    exact ⟨y, v, r1, e1, h1, rep_low e e' ed s d v l.1.2 h2, rowsK_low e e' ed s ds r1 l.2 h3⟩
  | .tup [] :: _, _, _, h => by simp only [RowsK] at h
  | .tup [_] :: _, _, _, h => by simp only [RowsK] at h
  | .tup (_ :: _ :: _ :: _) :: _, _, _, h => by simp only [RowsK] at h
  | .non :: _, _, _, h => by simp only [RowsK] at h
  | .bl _ :: _, _, _, h => by simp only [RowsK] at h
  | .int _ :: _, _, _, h => by simp only [RowsK] at h
  | .str _ :: _, _, _, h => by simp only [RowsK] at h
  | .lst _ :: _, _, _, h => by simp only [RowsK] at h
  | .klst _ :: _, _, _, h => by simp only [RowsK] at h
  | .obj _ :: _, _, _, h => by simp only [RowsK] at h
  | .dic _ _ :: _, _, _, h => by simp only [RowsK] at h
  | .fdic _ _ :: _, _, _, h => by simp only [RowsK] at h
  | .gtup _ :: _, _, _, h => by simp only [RowsK] at h
theorem rowsT_low {as m : List Addr} (e : w.as = as ++ m) (e' : w'.as = as) (ed : w'.dk = w.dk) (s : Same w.G w'.G) : ∀ (ds : List D) (kvs : List (List Key × V)), belows as.length ds = true → RowsT K w ds kvs → RowsT K w' ds kvs
  | [], _, _, h => by simpa only [RowsT] using h
  | .tup [k, d] :: ds, kvs, l, h => by
    simp only [belows, below, Bool.and_true, Bool.and_eq_true] at l
    simp only [RowsT] at h ⊢
    obtain ⟨y, v, r1, e1, h1, h2, h3⟩ := h
    exact ⟨y, v, r1, e1, h1, rep_low e e' ed s d v l.1.2 h2, rowsT_low e e' ed s ds r1 l.2 h3⟩
  | .tup [] :: _, _, _, h => by simp only [RowsT] at h
  | .tup [_] :: _, _, _, h => by simp only [RowsT] at h
  | .tup (_ :: _ :: _ :: _) :: _, _, _, h => by simp only [RowsT] at h
  | .non :: _, _, _, h => by simp only [RowsT] at h
  | .bl _ :: _, _, _, h => by simp only [RowsT] at h
  | .int _ :: _, _, _, h => by simp only [RowsT] at h
  | .str _ :: _, _, _, h => by simp only [RowsT] at h
  | .lst _ :: _, _, _, h => by simp only [RowsT] at h
  | .klst _ :: _, _, _, h => by simp only [RowsT] at h
  | .obj _ :: _, _, _, h => by simp only [RowsT] at h
  | .dic _ _ :: _, _, _, h => by simp only [RowsT] at h
  | .fdic _ _ :: _, _, _, h => by simp only [RowsT] at h
  | .gtup _ :: _, _, _, h => by simp only [RowsT] at h
theorem reps_low {as m : List Addr} (e : w.as = as ++ m) (e' : w'.as = as) (ed : w'.dk = w.dk) (s : Same w.G w'.G) : ∀ (ds : List D) (vs : List V), belows as.length ds = true → Reps K w ds vs → Reps K w' ds vs
  | [], _, _, h => by simpa only [Reps] using h
  | x :: xs, vs, l, h => by
    simp only [belows, Bool.and_eq_true] at l
    obtain ⟨v, r1, rfl, h1, h2⟩ := h.inv
    exact .cons (rep_low e e' ed s x v l.1 h1) (reps_low e e' ed s xs r1 l.2 h2)
end
theorem entR_low {as m : List Addr} (e : w.as = as ++ m) (e' : w'.as = as) (ed : w'.dk = w.dk) (s : Same w.G w'.G) {k : Option Kd} {L : Lk} {xs : List D} {o : HO} (l : belows as.length xs = true) (h : EntR K w k L xs o) : EntP K w' k xs o := by
  rcases h with ⟨_, h⟩ | ⟨_, rows, ob, kvs, _, e1, _⟩ | ⟨_, rows, _, _, _, _, _, e1, _⟩
  · match k, h with
    | none, ⟨vs, z, n, r⟩ => exact ⟨vs, z, n, reps_low e e' ed s _ _ l r⟩
    | some (.b false), ⟨vs, z, n, r⟩ => exact ⟨vs, z, n, rowsK_low e e' ed s _ _ l r⟩
    | some (.b true), ⟨vs, z, n, r⟩ => exact ⟨vs, z, n, rowsT_low e e' ed s _ _ l r⟩
    | some (.ins c), ⟨dx, vs, z, r⟩ => exact ⟨dx, vs, z, rowsK_low e e' ed s _ _ l r⟩
    | some (.x _), h => exact h.elim
    | some .n, ⟨b, ys, vs, z, n, r⟩ => exact ⟨b, ys, vs, z, n, reps_low e e' ed s _ _ l r⟩
  · rw [e1, belows_lock] at l
    cases l
  · rw [e1, belows_lock] at l
    cases l
theorem entR_sub {p : Addr} {o : HO} {a : List D} {as : List Addr} (e : w.as = as ++ [p]) (e' : w'.as = as) (ed : w'.dk = w.dk) (s : Same w.G w'.G) (g : w'.G p = some o) (r : EntP K w' (w.dk p) a o) {k : Option Kd} {L : Lk} {xs : List D} {u : HO} (h : EntR K w k L xs u) : EntR K w' k L (xs.map (sub as.length a)) u := by
  rw [← subs_map]
  rcases h with ⟨hL, h⟩ | ⟨hk, rows, ob, kvs, e0, e1, e2, n, q⟩ | ⟨hk, rows, ob, b, ys, vs, e0, e1, e2, n, q⟩
  · refine .inl ⟨hL, ?_⟩
    match k, h with
    | none, ⟨vs, z, n, q⟩ => exact ⟨vs, z, n, reps_sub e e' ed s g r _ _ q⟩
    | some (.b false), ⟨vs, z, n, q⟩ => exact ⟨vs, z, n, rowsK_sub e e' ed s g r _ _ q⟩
    | some (.b true), ⟨vs, z, n, q⟩ => exact ⟨vs, z, n, rowsT_sub e e' ed s g r _ _ q⟩
    | some (.ins c), ⟨dx, vs, z, q⟩ => exact ⟨dx, vs, z, rowsK_sub e e' ed s g r _ _ q⟩
    | some (.x _), h => exact h.elim
    | some .n, ⟨b, ys, vs, z, n, q⟩ => exact ⟨b, ys, vs, z, nks_sub n, reps_sub e e' ed s g r _ _ q⟩
  · refine .inr (.inl ⟨hk, subs as.length a rows, ob, kvs, e0, ?_, e2, n, rowsK_sub e e' ed s g r _ _ q⟩)
    rw [e1, subs_map, List.map_append, ← subs_map, List.map_singleton]
    simp only [lockD, sub, subs]
  · refine .inr (.inr ⟨hk, subs as.length a rows, ob, b, ys, vs, e0, ?_, e2, nks_sub n, reps_sub e e' ed s g r _ _ q⟩)
    rw [e1, subs_map, List.map_append, ← subs_map, List.map_singleton]
    simp only [lockD, sub, subs]
theorem entR_small {k : Option Kd} {L : Lk} {xs : List D} {o : HO} (h : EntR K w k L xs o) : SizeOk o := by
  rcases h with ⟨_, h⟩ | ⟨_, _, _, _, _, _, rfl, _⟩ | ⟨_, _, _, _, _, _, _, _, rfl, _⟩
  · cases k with
    | none =>
      obtain ⟨vs, rfl, n, _⟩ := h
      exact n
    | some t =>
      rcases t with (_ | _) | c | _ | c
      rotate_right
      · exact h.elim
      · obtain ⟨vs, rfl, _⟩ := h
        trivial
      · obtain ⟨vs, rfl, _⟩ := h
        trivial
      · obtain ⟨dx, vs, rfl, _⟩ := h
        trivial
      · obtain ⟨b, ys, vs, rfl, _⟩ := h
        trivial
  · trivial
  · trivial
theorem frz_one {sx : Sto} {b : List D} (W : Wld K w (sx ++ [b]) H) (hb : belows sx.length b = true) :
    ∃ w', (∃ m, w.as = w'.as ++ m) ∧ Same w.G w'.G ∧ (w'.hid = w.hid ∧ w'.dk = w.dk ∧ w'.lk = w.lk) ∧ Wld K w' (sx.map (List.map (sub sx.length b))) H ∧ ∀ d v, Rep K w d v → Rep K w' (sub sx.length b d) v := by
  have hlen : w.as.length = sx.length + 1 := by rw [W.len, List.length_append, List.length_singleton]
  obtain ⟨as, p, e⟩ : ∃ as p, w.as = as ++ [p] := by
    refine ⟨w.as.dropLast, w.as.getLast (fun z => by rw [z] at hlen; simp at hlen), ?_⟩
    rw [List.dropLast_concat_getLast]
  have elen : as.length = sx.length := by
    rw [e, List.length_append, List.length_singleton] at hlen
    omega
  obtain ⟨g, xs, us, h1, h2, h3⟩ := W.at_ as.length p (by rw [e, List.getElem?_concat_length])
  have exs : xs = b := by
    rw [elen, List.getElem?_concat_length] at h1
    exact (Option.some.inj h1).symm
  subst exs
  have s : Same w.G (upd w.G p us) := fun c u q => by
    rw [upd_ne (ne_of_none q g)]
    exact q
  have R0 : EntP K ⟨upd w.G p us, as, w.hid, w.dk, w.lk⟩ (w.dk p) xs us := entR_low (w' := ⟨upd w.G p us, as, w.hid, w.dk, w.lk⟩) e rfl rfl s (by rw [elen]; exact hb) h3
  have conv : ∀ d v, Rep K w d v → Rep K ⟨upd w.G p us, as, w.hid, w.dk, w.lk⟩ (sub sx.length xs d) v := fun d v h => by
    rw [← elen]
    exact rep_sub (w' := ⟨upd w.G p us, as, w.hid, w.dk, w.lk⟩) e rfl rfl s upd_same R0 d v h
  have convs : ∀ {k : Option Kd} {L : Lk} {ds : List D} {u : HO}, EntR K w k L ds u → EntR K ⟨upd w.G p us, as, w.hid, w.dk, w.lk⟩ k L (ds.map (sub sx.length xs)) u := fun h => by
    rw [← elen]
    exact entR_sub (w' := ⟨upd w.G p us, as, w.hid, w.dk, w.lk⟩) e rfl rfl s upd_same R0 h
  have nd : (as ++ [p]).Nodup := by rw [← e]; exact W.nd
  have pas : p ∉ as := fun z => (List.nodup_append.mp nd).2.2 p z p (by simp) rfl
  have inas : p ∈ w.as := by rw [e]; simp
  refine ⟨⟨upd w.G p us, as, w.hid, w.dk, w.lk⟩, ⟨[p], e⟩, s, ⟨rfl, rfl, rfl⟩, ⟨fun c u q => ?_, by rw [List.length_map]; exact elen, (List.nodup_append.mp nd).1, fun i a q => ?_, fun c u q => ?_, fun c vs m => ?_, W.hnd⟩, conv⟩
  · have q' : upd w.G p us c = some u := q
    by_cases hc : c = p
    · subst hc
      rw [upd_same] at q'
      cases q'
      exact h2
    · rw [upd_ne hc] at q'
      exact W.same c u q'
  · have hlt : i < as.length := (List.getElem?_eq_some_iff.mp q).1
    obtain ⟨g', ys, vs, k1, k2, k3⟩ := W.at_ i a (by rw [e, List.getElem?_append_left hlt]; exact q)
    have ne : a ≠ p := fun z => pas (by rw [← z]; exact List.mem_of_getElem? q)
    rw [List.getElem?_append_left (by omega)] at k1
    refine ⟨?_, ys.map (sub sx.length xs), vs, by rw [List.getElem?_map, k1]; rfl, k2, convs k3⟩
    show upd w.G p us a = none
    rw [upd_ne ne]
    exact g'
  · have q' : upd w.G p us c = some u := q
    by_cases hc : c = p
    · subst hc
      rw [upd_same] at q'
      cases q'
      exact entR_small h3
    · rw [upd_ne hc] at q'
      exact W.small c u q'
  · obtain ⟨g', n, k1⟩ := W.hidd c vs m
    have ne : c ≠ p := fun z => n (by rw [z]; exact inas)
    refine ⟨?_, fun z => n (by rw [e]; exact List.mem_append_left _ z), k1⟩
    show upd w.G p us c = none
    rw [upd_ne ne]
    exact g'
/-- the store's lists from place n on, frozen in what is told -/
def frzs : Nat → List (List D) → D → D
  | _, [], d => d
  | n, a :: r, d => sub n (a.map (frzs (n + 1) r)) (frzs (n + 1) r d)
def SafeLoc : Nat → List (List D) → Prop
  | _, [] => True
  | n, a :: r => belows n (a.map (frzs (n + 1) r)) = true ∧ SafeLoc (n + 1) r
theorem frz_loc : ∀ (loc : List (List D)) (w : Wd) (s1 : Sto), Wld K w (s1 ++ loc) H → SafeLoc s1.length loc →
    ∃ w', (∃ m, w.as = w'.as ++ m) ∧ Same w.G w'.G ∧ (w'.hid = w.hid ∧ w'.dk = w.dk ∧ w'.lk = w.lk) ∧ Wld K w' (s1.map (List.map (frzs s1.length loc))) H ∧ ∀ d v, Rep K w d v → Rep K w' (frzs s1.length loc d) v
  | [], w, s1, W, _ => by
    refine ⟨w, ⟨[], by simp⟩, Same.refl _, ⟨rfl, rfl, rfl⟩, ?_, fun d v h => h⟩
    have e : s1.map (List.map (frzs s1.length [])) = s1 := by
      have : List.map (frzs s1.length []) = id := by
        funext xs
        show xs.map (fun d => d) = xs
        simp
      rw [this, List.map_id]
    rw [e]
    rw [List.append_nil] at W
    exact W
  | a :: r, w, s1, W, h => by
    have W' : Wld K w ((s1 ++ [a]) ++ r) H := by rw [List.append_assoc]; exact W
    have n1 : (s1 ++ [a]).length = s1.length + 1 := by simp
    obtain ⟨w1, p1, g1, hd1, W1, c1⟩ := frz_loc r w (s1 ++ [a]) W' (by rw [n1]; exact h.2)
    rw [n1] at W1 c1
    rw [List.map_append, List.map_singleton] at W1
    have n2 : (s1.map (List.map (frzs (s1.length + 1) r))).length = s1.length := by simp
    obtain ⟨w2, p2, g2, hd2, W2, c2⟩ := frz_one W1 (by rw [n2]; exact h.1)
    rw [n2] at W2 c2
    refine ⟨w2, ?_, g1.trans g2, ⟨hd2.1.trans hd1.1, hd2.2.1.trans hd1.2.1, hd2.2.2.trans hd1.2.2⟩, ?_, fun d v q => c2 _ _ (c1 d v q)⟩
    · obtain ⟨m1, e1⟩ := p1
      obtain ⟨m2, e2⟩ := p2
      exact ⟨m2 ++ m1, by rw [e1, e2, List.append_assoc]⟩
    · have e : s1.map (List.map (frzs s1.length (a :: r))) = (s1.map (List.map (frzs (s1.length + 1) r))).map (List.map (sub s1.length (a.map (frzs (s1.length + 1) r)))) := by
        rw [List.map_map]
        congr 1
        funext xs
        show xs.map (frzs s1.length (a :: r)) = (xs.map (frzs (s1.length + 1) r)).map (sub s1.length (a.map (frzs (s1.length + 1) r)))
        rw [List.map_map]
        rfl
      rw [e]
      exact W2
theorem frzs_below : ∀ (loc : List (List D)) (n : Nat) (d : D), below n d = true → frzs n loc d = d
  | [], _, _, _ => rfl
  | a :: r, n, d, h => by
    show sub n _ (frzs (n + 1) r d) = d
    rw [frzs_below r (n + 1) d (below_mono (Nat.le_succ n) d h)]
    exact sub_below d h
theorem frzs_lock : ∀ (loc : List (List D)) (n : Nat), frzs n loc lockD = lockD
  | [], _ => rfl
  | a :: r, n => by
    show sub n _ (frzs (n + 1) r lockD) = lockD
    rw [frzs_lock r (n + 1)]
    simp only [lockD, sub, subs]
theorem belows_mem {n : Nat} : ∀ {xs : List D} {d : D}, belows n xs = true → d ∈ xs → below n d = true
  | [], _, _, m => by cases m
  | x :: xs, d, h, m => by
    simp only [belows, Bool.and_eq_true] at h
    rcases List.mem_cons.mp m with rfl | m
    · exact h.1
    · exact belows_mem h.2 m
/-- what a def leaves: st1 in the place of the callers' store, loc its own lists -/
def Frz (st : Sto) (d : D) (st' : Sto) (kk : DK) : Prop := ∃ st1 loc, st' = st1 ++ loc ∧ st1.length = st.length ∧ (∀ (i : Nat) (xs : List D), st1[i]? = some xs → st[i]? = some xs ∨ belows st.length xs = true) ∧ SafeLoc st.length loc ∧ kk (frzs st.length loc d) st1
theorem Frz.none {st : Sto} {d : D} {kk : DK} (h : kk d st) : Frz st d st kk := ⟨st, [], by simp, rfl, fun _ _ e => .inl e, trivial, h⟩
theorem Frz.one {st : Sto} {a : List D} {d : D} {kk : DK} (hb : belows st.length a = true) (h : kk (sub st.length a d) st) : Frz st d (st ++ [a]) kk := by
  have e : a.map (frzs (st.length + 1) []) = a := by
    show a.map (fun d => d) = a
    simp
  refine ⟨st, [a], rfl, rfl, fun _ _ e => .inl e, ⟨?_, trivial⟩, ?_⟩
  · rw [e]; exact hb
  · show kk (sub st.length (a.map (frzs (st.length + 1) [])) d) st
    rw [e]
    exact h
theorem fol_frz {kk : DK} {Q : VK} (W : Wld K w st H) (fo : Fol K w kk Q) : Fol K w (fun d st' => Frz st d st' kk) Q := by
  rintro d st' v w1 H' ⟨st1, loc, rfl, hl, hs, hloc, k⟩ l1 W1 R1
  rw [← hl] at hloc
  obtain ⟨w2, p2, g2, hd2, W2, c2⟩ := frz_loc loc w1 st1 W1 hloc
  have low : ∀ xs ∈ st1, ∀ d ∈ xs, below st1.length d = true ∨ d = lockD := fun xs m => by
    obtain ⟨i, hi⟩ := List.getElem?_of_mem m
    rcases hs i xs hi with h | h
    · have hi' : i < w.as.length := by
        rw [W.len, ← hl]
        exact (List.getElem?_eq_some_iff.mp hi).1
      obtain ⟨_, ys, vs, k1, _, k4⟩ := W.at_ i w.as[i] (by rw [List.getElem?_eq_getElem hi'])
      rw [h] at k1
      cases k1
      rw [hl, ← W.len]
      exact entR_ok k4
    · rw [hl]; exact fun d md => .inl (belows_mem h md)
  have est : st1.map (List.map (frzs st1.length loc)) = st1 := by
    have : ∀ xs ∈ st1, List.map (frzs st1.length loc) xs = xs := fun xs m => by
      have : ∀ d ∈ xs, frzs st1.length loc d = d := fun d md => by
        rcases low xs m d md with z | z
        · exact frzs_below loc _ d z
        · rw [z]
          exact frzs_lock loc _
      rw [List.map_congr_left this]
      simp
    rw [List.map_congr_left this]
    simp
  rw [est] at W2
  have eas : w2.as = w.as := by
    obtain ⟨m1, e1⟩ := l1.pre.as
    obtain ⟨m2, e2⟩ := p2
    have n2 : w2.as.length = w.as.length := by rw [W2.len, hl, W.len]
    have h : w2.as ++ m2 = w.as ++ m1 := by rw [← e2, e1]
    exact (List.append_inj h n2).1
  refine fo _ _ v w2 H' k ⟨⟨l1.same.trans g2, ⟨⟨[], by rw [eas]; simp⟩, fun a ha => by rw [hd2.2.1]; exact l1.pre.dk a ha⟩, fun a ha => by rw [hd2.2.2]; exact l1.lk a ha⟩, hd2.1.trans l1.hid⟩ W2 ?_
  rw [← hl]
  exact c2 d v R1
end

/-! ### a def keeps its promise -/
def startD (N : List Str) (ds : List D) : Env := ds.map some ++ List.replicate (N.length - ds.length) none
theorem startD_rep {K : PySem.W.Frag} {w : Wd} {N : List Str} {ds : List D} {vs : List V} (R : Reps K w ds vs) : EnvR K w (startD N ds) (L2.start N vs) := by
  unfold startD L2.start
  refine ⟨by simp [R.length], fun i d e => ?_⟩
  by_cases hi : i < ds.length
  · rw [List.getElem?_append_left (by simpa using hi), List.getElem?_map, List.getElem?_eq_getElem hi] at e
    obtain ⟨v, h1, h2⟩ := R.get (i := i) (d := d) (by rw [List.getElem?_eq_getElem hi]; simpa using e)
    refine ⟨v, ?_, h2⟩
    rw [List.getElem?_append_left (by rw [List.length_map, R.length]; exact hi), List.getElem?_map, h1]
    rfl
  · rw [List.getElem?_append_right (by simpa using hi), List.getElem?_replicate] at e
    split at e <;> cases e
section
variable {P : Program} {wo : World} {K : PySem.W.Frag} {mg : Str → Option Value} {base : Heap} {x qual : Str} {params : Arguments} {body : List Stmt} {scope : Scope} {kws : List (Str × V)} {f : Addr} {fd : FuncData} {N ps : List Str} {k : Nat} {sp : SpD} {t : DS}
/-- what the body reads to: frozen (fz) or as it stands -/
def BodyD (fz : Bool) (N : List Str) (sp : SpD) (t : DS) : Prop := ∀ ds st kk, sp ds st kk →
  t ⟨fun _ st' => if fz = true then Frz st .non st' kk else kk .non st', fun d st' => if fz = true then Frz st d st' kk else kk d st'⟩ (startD N ds) st
theorem fnD (fz : Bool) (F : FunD K x qual params body scope [] kws f fd) (S : FnScope N ps scope) (len : ∀ ds st kk, sp ds st kk → ds.length = ps.length)
    (hd : ∀ (cdv : Value) (A : Around) (outer : List PySem.Env) (s : Shared) (H : Hp) (E : XK), RoomG k (A.deeper (envOfC qual scope s.heap.objs.size f cdv)) → PDSs (cxOf CX0 P wo K mg base N qual scope f cdv A outer s H E).nox body t)
    (hp : BodyD fz N sp t) : FnG P wo K mg base CX0 (k + 1) f fd ps (spD K sp) := by
  refine fnG_body F S (fun vs H Q E ⟨w, st, ds, kk, W, R, q, fo⟩ => R.length.trans (len ds st kk q)) fun cdv A outer s H vs Q E hr ⟨w, st, ds, kk, W, R, q, fo⟩ => ?_
  refine ⟨_, PSs.nox (hd cdv A outer s H E hr), w, startD N ds, st, _, W, startD_rep R, hp ds st kk q, ?_, ?_⟩
  · intro env' st' σ' w' H' h l W' E'
    cases fz with
    | true => exact fol_frz W fo _ _ _ _ _ h l W' rep_non
    | false => exact fo _ _ _ _ _ h l W' rep_non
  · cases fz with
    | true => exact fol_frz W fo
    | false => exact fo
end

/-! ### the law -/
/-- what is promised of a law: True, whatever numbers the script has -/
def spLaw : SpD := fun ds st kk => ∃ ns : List Int, ds = [.klst (ns.map D.int)] ∧ ns.length ≤ 63 ∧ (∀ z ∈ ns, Builtin.Int.intBits z ≤ 1048576) ∧ st = [] ∧ ∀ st', kk (.bl true) st'
theorem law_start {K : PySem.W.Frag} {H : Hp} {a : Addr} {ns : List Int} (hn : ns.length ≤ 63) (hb : ∀ z ∈ ns, Builtin.Int.intBits z ≤ 1048576) (hS : SqL K H a (ns.map V.int)) : spD K spLaw [.ref a] H (fun v _ => v = .bl true) fun _ _ _ => False := by
  have small : (ns.map V.int).length ≤ sizeLine := by rw [List.length_map, sizeLine_eq]; omega
  have fin : ∀ G : Hp, Same G H → (∀ a u, G a = some u → SizeOk u) → SqL K G a (ns.map V.int) → spD K spLaw [.ref a] H (fun v _ => v = .bl true) fun _ _ _ => False := fun G s sm q => by
    refine ⟨⟨G, [], [], fun _ => none, fun _ => none⟩, [], [.klst (ns.map D.int)], fun d _ => d = .bl true, ⟨s, rfl, List.nodup_nil, fun i a e => (by simp at e), sm, fun a vs m => (by cases m), List.nodup_nil⟩, .cons ?_ .nil, ⟨ns, rfl, hn, hb, rfl, fun _ => rfl⟩, fun d st' v w' H' e _ _ R => ?_⟩
    · simp only [Rep]
      exact ⟨a, _, rfl, q, Reps.of_ints ns⟩
    · subst e
      simpa only [Rep] using R
  rcases hS with (h | ⟨o, h⟩) | h
  · refine fin (fun b => if b = a then some (.lst (ns.map V.int)) else none) (fun b u e => ?_) (fun b u e => ?_) (.of (if_pos rfl))
    · by_cases hb : b = a
      · subst hb
        have e' := (if_pos rfl).symm.trans e
        cases e'
        exact h
      · have e' := (if_neg hb).symm.trans e
        cases e'
    · by_cases hb : b = a
      · have e' := (if_pos hb).symm.trans e
        cases e'
        exact small
      · have e' := (if_neg hb).symm.trans e
        cases e'
  · refine fin (fun b => if b = a then some (.frz o (.lst (ns.map V.int))) else none) (fun b u e => ?_) (fun b u e => ?_) (.inl (.inr ⟨o, if_pos rfl⟩))
    · by_cases hb : b = a
      · subst hb
        have e' := (if_pos rfl).symm.trans e
        cases e'
        exact h
      · have e' := (if_neg hb).symm.trans e
        cases e'
    · by_cases hb : b = a
      · have e' := (if_pos hb).symm.trans e
        cases e'
        exact small
      · have e' := (if_neg hb).symm.trans e
        cases e'
  · exact fin (fun _ => none) (fun b u e => by cases e) (fun b u e => by cases e) (.inr h)
/-- the end of a law's proof, the script's sizes told -/
theorem law_end {l : PySem.W.OpenLaw} {k : Nat} {q : Program} {loose : List Str} {XP : (Str → Option Value) → Heap → Prop} {YP : World → Heap → Prop} {d : DefRec} {x : Str}
    (hn : l.most = some 63) (hdf : d.params.defaults = []) (hr : RoomG k callerA)
    (F : ∀ (w : World) (mg : Str → Option Value) (fa : Addr) (h : Heap), YP w h → h.Ns mainGlobals mg → mg d.name = some (.ref fa) →
      ∃ (K : PySem.W.Frag) (fd : FuncData), K.In h ∧ (∀ (s : Shared) (u : Value), BindsTo s fd ⟨[u], []⟩ [(x, u)]) ∧
        ∀ base : Heap, K.In base → base.Ns mainGlobals mg → FnG l.prog w K mg base CX0 k fa fd [x] (spD K spLaw)) :
    PySem.W.WalkO q loose XP YP l.row.toRowW d [] (fun f vs => PySem.call f vs) := by
  refine Att.attach_callB hn hdf ?_
  intro w s₀ s₁ mg mb fa o pm cd doc a vs ns G Y ho hd hcd hmg hobj hints hlen hbits hg
  obtain ⟨K, fd, KX, hb, hF⟩ := F w mg fa _ Y G.T.g hmg
  refine law_callG KX G.T.g G.T.b G.T.builtins G.T.nolimit hg hobj hints (Nat.le_trans hlen (by decide)) hr hF hb ?_ ?_
  · exact fun H _ hS => law_start hlen hbits hS
  · exact fun H e s' z => z
end DL

namespace DL
open PySem PySem.Spec PyProof.Rows L2
/-! ### callees, as a def's derivation takes them -/
def Cal (P : Program) (wo : World) (K : PySem.W.Frag) (mg : Str → Option Value) (base : Heap) (k : Nat) (nm : Str) (ps : List Str) (sp : SpD) : Prop :=
  ∃ f fd, mg nm = some (.ref f) ∧ PySem.W.keepIn K (.ref f) = true ∧ FnG P wo K mg base CX0 k f fd ps (spD K sp) ∧ Binds K fd ps []
def Calk (P : Program) (wo : World) (K : PySem.W.Frag) (mg : Str → Option Value) (base : Heap) (k : Nat) (nm : Str) (ps : List Str) (sp : SpD) (n : Nat) (ks : List Str) (ix : List Nat) : Prop :=
  ∃ f fd, mg nm = some (.ref f) ∧ PySem.W.keepIn K (.ref f) = true ∧ FnG P wo K mg base CX0 k f fd ps (spD K sp) ∧ KBn K fd ps n ks (kperm ix) (kperm ix)
section
variable {P : Program} {wo : World} {K : PySem.W.Frag} {mg : Str → Option Value} {base : Heap} {k j : Nat} {nm : Str} {ps : List Str} {sp : SpD}
theorem Cal.up (c : Cal P wo K mg base k nm ps sp) (h : k ≤ j) : Cal P wo K mg base j nm ps sp :=
  let ⟨f, fd, a, b, F, d⟩ := c; ⟨f, fd, a, b, F.mono h, d⟩
theorem Calk.up {n : Nat} {ks : List Str} {ix : List Nat} (c : Calk P wo K mg base k nm ps sp n ks ix) (h : k ≤ j) : Calk P wo K mg base j nm ps sp n ks ix :=
  let ⟨f, fd, a, b, F, d⟩ := c; ⟨f, fd, a, b, F.mono h, d⟩
variable {X : Cx} {e : Expr} {es : List Expr} {p pos : Pos} {t tk : DA}
theorem pd_callC (c : Cal X.prog X.w X.K X.mg X.base k nm ps sp) (hr : RoomG j X.A)
    (ha : PDA X (e :: es) t) (hkj : k ≤ j := by decide) (hg : Gl X nm := by rfl) (hdb : (nm == ("__debug__" : Str)) = false := by decide) (he : starEach (e :: es) X.env = (false, eval e X.env) :: starEach es X.env := by rfl) (hpl : (backTo pos (starEach es X.env)).any (·.1) = false := by rfl) :
    PD X (.Call (.Name nm p) (e :: es) [] pos) (dCall sp t) := by
  obtain ⟨f, fd, a, b, F, d⟩ := c
  exact pd_call F (hr.mono hkj) a b d ha hg hdb he hpl
theorem pd_callC2 {m : Nat} {ks : List Str} {ix : List Nat} {kws : List Keyword} (c : Calk X.prog X.w X.K X.mg X.base k nm ps sp 0 ks ix) (hr : RoomG j X.A)
    (hkw : PDK X kws tk) (hm : ks.length = m := by rfl) (hkj : k ≤ j := by decide) (hg : Gl X nm := by rfl) (hall : (backToKw pos (keywordEach kws X.env)).all (·.1.isSome) = true := by rfl) (hks : (backToKw pos (keywordEach kws X.env)).filterMap (·.1) = ks := by rfl)
    (hdb : (nm == ("__debug__" : Str)) = false := by decide)
    (hpl : ((backTo pos (starEach [] X.env)).any (·.1) || (backToKw pos (keywordEach kws X.env)).any (·.1.isNone)) = false := by rfl) : PD X (.Call (.Name nm p) [] kws pos) (dCallK 0 m ix sp dNil tk) := by
  subst hm
  obtain ⟨f, fd, a, b, F, d⟩ := c
  exact pd_callK0 F (hr.mono hkj) a b d hkw hg hall hks hdb hpl
end
/-- a def without defaults as it stands behind the top -/
abbrev FnP (K : PySem.W.Frag) (x : Str) (st : Stmt) (f : Addr) (fd : FuncData) : Prop := FunD K x x (defArgs st) (defBody st) (defScope st) [] [] f fd
/-- a promise that is the body's own reading: nothing is said of it -/
def inl (fz : Bool) (N : List Str) (n : Nat) (t : DS) : SpD := fun ds st kk => ds.length = n ∧
  t ⟨fun _ st' => if fz = true then Frz st .non st' kk else kk .non st', fun d st' => if fz = true then Frz st d st' kk else kk d st'⟩ (startD N ds) st
end DL

/-! readings evaluated: one equation a form -/
namespace DL
open PySem PySem.Spec PyProof.Rows L2
def testK (k : Bool → Sto → Prop) : DK := fun d s1 => match d with
  | .bl b => k b s1
  | _ => False
def truK (k : Bool → Sto → Prop) : DK := fun d s1 => OkTru s1 d ∧ k (truD s1 d) s1
def andK (u : DE) (env : DL.Env) (k : DK) : DK := fun d s1 => match d with
  | .bl b => if b = true then u env s1 k else k (.bl false) s1
  | _ => False
def notK (k : DK) : DK := fun d s1 => match d with
  | .bl b => k (.bl (!b)) s1
  | _ => False
def someK (k : Option Int → Sto → Prop) : DK := fun d s1 => match d with
  | .int i => k (some i) s1
  | _ => False
def iterK (kk : DIk) : DK := fun d s1 => match deref s1 d with
  | .lst xs => xs.length ≤ 16777216 → kk xs (srcOf d xs) s1
  | .tup xs => xs.length ≤ 16777216 → kk xs [] s1
  | .str z => kk (signs z) [] s1
  | _ => False
def enumK (kk : DIk) : DK := fun d s1 => match deref s1 d with
  | .lst xs => xs.length ≤ 16777216 → kk (enumD 0 xs) (srcOf d xs) s1
  | .tup xs => xs.length ≤ 16777216 → kk (enumD 0 xs) [] s1
  | _ => False
def zipK (kk : DIk) (d : D) : DK := fun e s2 => match deref s2 d, deref s2 e with
  | .lst xs, .lst ys => xs.length ≤ 16777216 → kk (zipD xs ys) (srcOf d xs ++ srcOf e ys) s2
  | .tup xs, .tup ys => xs.length ≤ 16777216 → kk (zipD xs ys) [] s2
  | _, _ => False
def rng1K (kk : DIk) : DK := fun d s1 => match d with
  | .int j => (-(2 ^ 62) ≤ j ∧ j < 2 ^ 62) ∧ kk (rangeD 0 j.toNat) [] s1
  | _ => False
def rng2K (kk : DIk) (d : D) : DK := fun e s2 => match d, e with
  | .int i, .int j => (-(2 ^ 62) ≤ i ∧ i < 2 ^ 62 ∧ -(2 ^ 62) ≤ j ∧ j < 2 ^ 62) ∧ kk (rangeD i (j - i).toNat) [] s2
  | _, _ => False
def parK (i j : Nat) (env : DL.Env) (nx : DL.Env → Sto → Prop) : List D → Sto → Prop := fun ds s1 => match ds with
  | [d, e] => dgName i d env s1 fun env1 s2 => dgName j e env1 s2 nx
  | _ => False
section
variable {env r : DL.Env} {st : Sto} {k : DK} {kt : Bool → Sto → Prop} {ka : List D → Sto → Prop} {kg : DL.Env → Sto → Prop} {kk : DIk} {d e : D} {ds es : List D} {a : Option D} {n m i j : Nat} {t u v : DE} {c c2 : DT} {ta tb : DA} {f g : F2} {f1 : F1} {fb : FB} {fm : FM} {sp : SpD} {E : DEnds} {s1 s2 : DS} {tg : DG} {tgs : DGs} {di : DI} {o o2 : DO} {fc : D → Option Int → Option Int → Sto → DK → Prop}
theorem e_v0 : dVar 0 (some d :: r) st k = k d st := rfl
theorem e_vs : dVar (n + 1) (a :: r) st k = dVar n r st k := rfl
theorem e_c : dC d env st k = k d st := rfl
theorem e_op : dOp f t u env st k = t env st fun x s1 => u env s1 fun y s2 => f x y s2 k := rfl
theorem e_un : dUn f1 t env st k = t env st fun x s1 => f1 x s1 k := rfl
theorem e_test : dTest t env st kt = t env st (testK kt) := rfl
theorem e_testK {b : Bool} : testK kt (.bl b) st = kt b st := rfl
theorem e_tru : dTru t env st kt = t env st (truK kt) := rfl
theorem e_truL : truK kt (.lst ds) st = kt (!ds.isEmpty) st := by simp [truK, OkTru, truD, deref]
theorem e_truT : truK kt (.tup ds) st = kt (!ds.isEmpty) st := by simp [truK, OkTru, truD, deref]
theorem e_truB {b : Bool} : truK kt (.bl b) st = kt b st := by simp [truK, OkTru, truD, deref]
theorem e_truI {b : Int} : truK kt (.int b) st = kt (b != 0) st := by simp [truK, OkTru, truD, deref]
theorem e_truN : truK kt .non st = kt false st := by simp [truK, OkTru, truD, deref]
theorem e_truS {x : Str} : truK kt (.str x) st = (x.length ≤ sizeLine ∧ kt ((x.length : Int) != 0) st) := by simp [truK, OkTru, truD, deref]
theorem e_not : dNot c env st kt = c env st fun b s1 => kt (!b) s1 := rfl
theorem e_and : dAnd c c2 env st kt = c env st fun b s1 => if b = true then c2 env s1 kt else kt false s1 := rfl
theorem e_or : dOr c c2 env st kt = c env st fun b s1 => if b = true then kt true s1 else c2 env s1 kt := rfl
theorem e_andv : dAndV t u env st k = t env st (andK u env k) := rfl
theorem e_notv : dNotV t env st k = t env st (notK k) := rfl
theorem e_andK {b : Bool} : andK u env k (.bl b) st = if b = true then u env st k else k (.bl false) st := rfl
theorem e_notK {b : Bool} : notK k (.bl b) st = k (.bl (!b)) st := rfl
theorem e_if : dIf c t u env st k = c env st fun b s1 => if b = true then t env s1 k else u env s1 k := rfl
theorem e_nil : dNil env st ka = ka [] st := rfl
theorem e_cons : dCons t ta env st ka = t env st fun d s1 => ta env s1 fun ds s2 => ka (d :: ds) s2 := rfl
theorem e_tup : dTup ta env st k = ta env st fun ds s1 => ds.length ≤ 16777216 ∧ k (.tup ds) s1 := rfl
theorem e_lst : dLst ta env st k = ta env st fun ds s1 => ds.length ≤ 16777216 ∧ k (.lst ds) s1 := rfl
theorem e_new : dNew ta env st k = ta env st fun ds s1 => ds.length ≤ 16777216 ∧ k (.obj s1.length) (s1 ++ [ds]) := rfl
theorem e_call : dCall sp ta env st k = ta env st fun ds s1 => sp ds s1 k := rfl
theorem e_callK {ix : List Nat} : dCallK n m ix sp ta tb env st k = ta env st fun ds s1 => tb env s1 fun es s2 => ds.length = n ∧ es.length = m ∧ sp (kperm ix ds es) s2 k := rfl
theorem e_drop : dDrop t E env st = t env st fun _ s1 => E.nx env s1 := rfl
theorem e_ret : dRet t E env st = t env st E.rt := rfl
theorem e_pass : dPass E env st = E.nx env st := rfl
theorem e_ifS : dIfS c s1 s2 E env st = c env st fun b s => if b = true then s1 E env s else s2 E env s := rfl
theorem e_g0 : dgName 0 d (a :: r) st kg = kg (some d :: r) st := rfl
theorem e_gs : dgName (n + 1) d (a :: r) st kg = dgName n d r st fun env' st' => kg (a :: env') st' := rfl
theorem e_gnil : dgNil [] env st kg = kg env st := rfl
theorem e_gcons : dgCons tg tgs (d :: ds) env st kg = tg d env st fun env' st' => tgs ds env' st' kg := rfl
theorem e_gtup : dgTup n tgs (.tup ds) env st kg = (ds.length = n ∧ tgs ds env st kg) := rfl
theorem e_asg : dAsg t tg E env st = t env st fun d s1 => tg d env s1 E.nx := rfl
theorem e_par : dPar i j ta E env st = ta env st (parK i j env E.nx) := by
  unfold dPar
  congr 1
theorem e_parK : parK i j env kg [d, e] st = dgName i d env st fun env1 s2 => dgName j e env1 s2 kg := rfl
theorem e_no {ko : Option Int → Sto → Prop} : dNo env st ko = ko none st := rfl
theorem e_some {ko : Option Int → Sto → Prop} : dSome t env st ko = t env st (someK ko) := rfl
theorem e_someK {ko : Option Int → Sto → Prop} {b : Int} : someK ko (.int b) st = ko (some b) st := rfl
theorem e_cut : dCut fc t o o2 env st k = t env st fun d s1 => o env s1 fun lo s2 => o2 env s2 fun hi s3 => fc d lo hi s3 k := rfl
theorem e_b : dB fb ta env st k = ta env st fun ds s1 => fb ds s1 k := rfl
theorem e_iter : dIter t env st kk = t env st (iterK kk) := rfl
theorem e_iterL : iterK kk (.lst ds) st = (ds.length ≤ 16777216 → kk ds [] st) := rfl
theorem e_iterT : iterK kk (.tup ds) st = (ds.length ≤ 16777216 → kk ds [] st) := rfl
theorem e_iterS {x : Str} : iterK kk (.str x) st = kk (signs x) [] st := rfl
theorem e_iterO {xs : List D} (h : st[i]? = some xs) : iterK kk (.obj i) st = (xs.length ≤ 16777216 → kk xs [(i, xs)] st) := by simp [iterK, deref, srcOf, h]
theorem e_rng1 : dRng1 t env st kk = t env st (rng1K kk) := rfl
theorem e_rng1K {b : Int} : rng1K kk (.int b) st = ((-(2 ^ 62) ≤ b ∧ b < 2 ^ 62) ∧ kk (rangeD 0 b.toNat) [] st) := rfl
theorem e_rng2 : dRng2 t u env st kk = t env st fun d s1 => u env s1 (rng2K kk d) := rfl
theorem e_rng2K {a b : Int} : rng2K kk (.int a) (.int b) st = ((-(2 ^ 62) ≤ a ∧ a < 2 ^ 62 ∧ -(2 ^ 62) ≤ b ∧ b < 2 ^ 62) ∧ kk (rangeD a (b - a).toNat) [] st) := rfl
theorem e_enum : dEnum t env st kk = t env st (enumK kk) := rfl
theorem e_enumL : enumK kk (.lst ds) st = (ds.length ≤ 16777216 → kk (enumD 0 ds) [] st) := rfl
theorem e_enumT : enumK kk (.tup ds) st = (ds.length ≤ 16777216 → kk (enumD 0 ds) [] st) := rfl
theorem e_zip : dZip t u env st kk = t env st fun d s1 => u env s1 (zipK kk d) := rfl
theorem e_zipL : zipK kk (.lst ds) (.lst es) st = (ds.length ≤ 16777216 → kk (zipD ds es) [] st) := rfl
theorem e_zipT : zipK kk (.tup ds) (.tup es) st = (ds.length ≤ 16777216 → kk (zipD ds es) [] st) := rfl
theorem e_for : dFor di tg s1 E env st = di env st fun xs src s => goFor src tg s1 E xs env s := rfl
theorem e_lc {vs : List Nat} : dLc di tg c t vs env st k = di env st fun xs src s1 => xs.length ≤ 16777216 ∧ goLc src tg c t vs env (fun acc s2 => k (.lst acc) s2) xs [] s1 := rfl
theorem e_lcNew {vs : List Nat} : dLcNew di tg c t vs env st k = di env st fun xs src s1 => xs.length ≤ 16777216 ∧ goLc src tg c t vs env (fun acc s2 => k (.obj s2.length) (s2 ++ [acc])) xs [] s1 := rfl
theorem e_forN {src : List (Nat × List D)} : goFor src tg s1 E [] env st = (SrcOk src st ∧ E.nx env st) := rfl
theorem e_forC {src : List (Nat × List D)} {x : D} {xs : List D} : goFor src tg s1 E (x :: xs) env st = (SrcOk src st ∧ tg x env st fun env' st' => s1 ⟨fun env2 st2 => goFor src tg s1 E xs env2 st2, E.rt⟩ env' st') := rfl
theorem e_lcN {src : List (Nat × List D)} {vs : List Nat} : goLc src tg c t vs env ka [] ds st = (SrcOk src st ∧ ka ds st) := rfl
theorem e_lcC {src : List (Nat × List D)} {vs : List Nat} {x : D} {xs : List D} : goLc src tg c t vs env ka (x :: xs) ds st = (SrcOk src st ∧ tg x (wipeE env vs) st fun env' st' => c env' st' fun b s1 =>
      if b = true then t env' s1 fun d s2 => goLc src tg c t vs env ka xs (ds ++ [d]) s2 else goLc src tg c t vs env ka xs ds s1) := rfl
theorem e_srcN : SrcOk [] st = True := rfl
theorem e_srcC {p : Nat × List D} {r : List (Nat × List D)} : SrcOk (p :: r) st = (st[p.1]? = some p.2 ∧ SrcOk r st) := rfl
theorem e_meth : dMeth fm t ta env st k = t env st fun d s1 => isLst s1 d = true ∧ ta env s1 fun ds s2 => fm d ds s2 k := rfl
theorem e_isL : isLst st (.lst ds) = true := rfl
theorem e_isO {xs : List D} (h : st[i]? = some xs) : isLst st (.obj i) = true := by simp [isLst, deref, h]
theorem e_app {xs : List D} (h : st[i]? = some xs) : mAppend (.obj i) [d] st k = (xs.length < 16777216 ∧ k .non (st.set i (xs ++ [d]))) := by simp [mAppend, h]
theorem e_sub {to ti : DE} : dgSub to ti d env st kg = to env st fun o s1 => ti env s1 fun i s2 => setD o i d s2 fun s3 => kg env s3 := rfl
theorem e_setO {xs : List D} {b : Int} {ks : Sto → Prop} (h : st[i]? = some xs) : setD (.obj i) (.int b) d st ks = ∃ m, ixN xs.length b = some m ∧ ks (st.set i (xs.set m d)) := by simp [setD, h]
theorem e_isi {ts : List String} : dIsi t ts env st k = t env st fun d s1 => k (.bl (ts.any (subTy (tyD d)))) s1 := rfl
theorem e_yes : dYes env st kt = kt true st := rfl
-- operators
theorem e_addI {a b : Int} : addD (.int a) (.int b) st k = k (.int (a + b)) st := rfl
theorem e_addB {a : Int} {b : Bool} : addD (.int a) (.bl b) st k = k (.int (a + b2i b)) st := rfl
theorem e_addBI {a : Bool} {b : Int} : addD (.bl a) (.int b) st k = k (.int (b2i a + b)) st := rfl
theorem e_subBI {a : Bool} {b : Int} : subD (.bl a) (.int b) st k = k (.int (b2i a - b)) st := rfl
theorem e_subIB {a : Int} {b : Bool} : subD (.int a) (.bl b) st k = k (.int (a - b2i b)) st := rfl
theorem e_addS {a b : Str} : addD (.str a) (.str b) st k = (a.length + b.length ≤ 16777216 ∧ k (.str (a ++ b)) st) := rfl
theorem e_addT {a b : List D} : addD (.tup a) (.tup b) st k = (a.length + b.length ≤ 16777216 ∧ k (.tup (a ++ b)) st) := rfl
theorem e_addL {a b : List D} : addD (.lst a) (.lst b) st k = (a.length + b.length ≤ 16777216 ∧ k (.lst (a ++ b)) st) := rfl
theorem e_subI {a b : Int} : subD (.int a) (.int b) st k = k (.int (a - b)) st := rfl
theorem e_mulI {a b : Int} : mulD (.int a) (.int b) st k = (MulOk a b ∧ k (.int (a * b)) st) := rfl
theorem e_mulT {a : List D} {b : Int} : mulD (.tup a) (.int b) st k = (a ≠ [] ∧ 1 ≤ b ∧ b ≤ 1000 ∧ a.length ≤ 1000 ∧ k (.tup (List.replicate b.toNat a).flatten) st) := rfl
theorem e_mulL {a : List D} {b : Int} : mulD (.lst a) (.int b) st k = (-(2 ^ 63) ≤ b ∧ b < 2 ^ 63 ∧ a.length * b.toNat ≤ 16777216 ∧ k (.lst (List.replicate b.toNat a).flatten) st) := rfl
theorem e_divI {a b : Int} : divD (.int a) (.int b) st k = (DivOk b ∧ k (.int (a / b)) st) := rfl
theorem e_modI {a b : Int} : modD (.int a) (.int b) st k = (0 < b ∧ k (.int (a % b)) st) := rfl
theorem e_powI {a b : Int} : powD (.int a) (.int b) st k = (PowOk a b ∧ k (.int (a ^ b.toNat)) st) := rfl
theorem e_negI {a : Int} : negD (.int a) st k = k (.int (-a)) st := rfl
theorem e_cmpI {p : Int → Int → Bool} {a b : Int} : cmpI p (.int a) (.int b) st k = k (.bl (p a b)) st := rfl
theorem e_eq : eqOp false d e st k = (okD 60 (deref st d) = true ∧ okD 60 (deref st e) = true ∧ k (.bl (eqD (deref st d) (deref st e))) st) := rfl
theorem e_ne : eqOp true d e st k = (okD 60 (deref st d) = true ∧ okD 60 (deref st e) = true ∧ k (.bl (!eqD (deref st d) (deref st e))) st) := rfl
theorem e_isn : isOp false d .non st k = k (.bl (isNon d)) st := rfl
theorem e_isb {a b neg : Bool} : isOp neg (.bl a) (.bl b) st k = k (.bl (if neg then !(a == b) else a == b)) st := rfl
theorem e_isnn : isOp true d .non st k = k (.bl (!isNon d)) st := rfl
theorem e_ixL {a : List D} {b : Int} : ixD (.lst a) (.int b) st k = ∃ x, atI a b = some x ∧ k x st := rfl
theorem e_ixKL {a : List D} {b : Int} : ixD (.klst a) (.int b) st k = ∃ x, atI a b = some x ∧ k x st := rfl
theorem e_ixT {a : List D} {b : Int} : ixD (.tup a) (.int b) st k = ∃ x, atI a b = some x ∧ k x st := rfl
theorem e_ixO {a : List D} {b : Int} (h : st[i]? = some a) : ixD (.obj i) (.int b) st k = ∃ x, atI a b = some x ∧ k x st := by simp [ixD, deref, h]
theorem e_cutL {a : List D} {lo hi : Option Int} : cutOp (.lst a) lo hi st k = k (.lst (cutD a lo hi)) st := rfl
theorem e_cutKL {a : List D} {lo hi : Option Int} : cutOp (.klst a) lo hi st k = k (.lst (cutD a lo hi)) st := rfl
theorem e_cutT {a : List D} {lo hi : Option Int} : cutOp (.tup a) lo hi st k = k (.tup (cutD a lo hi)) st := rfl
theorem e_lenL : bLen [.lst ds] st k = k (.int ds.length) st := rfl
theorem e_lenKL : bLen [.klst ds] st k = k (.int ds.length) st := rfl
theorem e_lenT : bLen [.tup ds] st k = k (.int ds.length) st := rfl
theorem e_lenO {xs : List D} (h : st[i]? = some xs) : bLen [.obj i] st k = k (.int xs.length) st := by simp [bLen, deref, h]
theorem e_abs {a : Int} : bAbs [.int a] st k = k (.int (if a < 0 then -a else a)) st := rfl
theorem e_intI {a : Int} : bInt [.int a] st k = k (.int a) st := rfl
theorem e_intB {b : Bool} : bInt [.bl b] st k = k (.int (if b = true then 1 else 0)) st := rfl
theorem e_max2 {a b : Int} : bMax2 [.int a, .int b] st k = k (.int (if b > a then b else a)) st := rfl
theorem e_listNL : bListNew [.lst ds] st k = k (.obj st.length) (st ++ [ds]) := rfl
theorem e_listNT : bListNew [.tup ds] st k = k (.obj st.length) (st ++ [ds]) := rfl
theorem e_tupL : bTuple [.lst ds] st k = k (.tup ds) st := rfl
theorem e_tupT : bTuple [.tup ds] st k = k (.tup ds) st := rfl
theorem e_tupO {xs : List D} (h : st[i]? = some xs) : bTuple [.obj i] st k = k (.tup xs) st := by simp [bTuple, deref, h]
theorem e_all {bs : List Bool} (h : blsD ds = some bs) : bAll [.lst ds] st k = k (.bl (bs.all id)) st := by simp [bAll, deref, h]
theorem e_drI {b : Int} : deref st (.int b) = .int b := rfl
theorem e_drB {b : Bool} : deref st (.bl b) = .bl b := rfl
theorem e_drS {b : Str} : deref st (.str b) = .str b := rfl
theorem e_drN : deref st .non = .non := rfl
theorem e_drL : deref st (.lst ds) = .lst ds := rfl
theorem e_drT : deref st (.tup ds) = .tup ds := rfl
theorem e_drO {xs : List D} (h : st[i]? = some xs) : deref st (.obj i) = .lst xs := by simp [deref, h]
theorem e_seq : dSeq s1 s2 E env st = s1 ⟨s2 E, E.rt⟩ env st := rfl
end
theorem okDs_int (n : Nat) : ∀ xs : List Int, okDs n (xs.map D.int) = true
  | [] => by simp only [List.map_nil, okDs]
  | x :: r => by simp only [List.map_cons, okDs, okD, Bool.true_and]; exact okDs_int n r
mutual
theorem eqD_refl : ∀ (n : Nat) (d : D), okD n d = true → eqD d d = true
  | _, .non, _ => by simp [eqD]
  | _, .bl _, _ => by simp [eqD]
  | _, .int _, _ => by simp [eqD]
  | _, .str _, _ => by simp [eqD]
  | 0, .lst _, h => by simp [okD] at h
  | 0, .tup _, h => by simp [okD] at h
  | n + 1, .lst xs, h => by simp only [okD] at h; simp only [eqD]; exact eqDs_refl n xs h
  | n + 1, .tup xs, h => by simp only [okD] at h; simp only [eqD]; exact eqDs_refl n xs h
  | n, .klst _, h => by cases n <;> simp [okD] at h
  | n, .obj _, h => by cases n <;> simp [okD] at h
  | n, .dic _ _, h => by cases n <;> simp [okD] at h
  | n, .fdic _ _, h => by cases n <;> simp [okD] at h
  | n, .gtup _, h => by cases n <;> simp [okD] at h
theorem eqDs_refl : ∀ (n : Nat) (ds : List D), okDs n ds = true → eqDs ds ds = true
  | _, [], _ => by simp [eqDs]
  | n, x :: r, h => by
    simp only [okDs, Bool.and_eq_true] at h
    simp only [eqDs, Bool.and_eq_true]
    exact ⟨eqD_refl n x h.1, eqDs_refl n r h.2⟩
end
end DL

/-! tests by chains of any length -/
namespace DL
open PySem PySem.Spec PyProof.Rows L2
abbrev DCh := D → DL.Env → Sto → (Bool → Sto → Prop) → Prop
section
variable {X : Cx} {a b : Expr} {ta tb : DE}
end
section
variable {env : DL.Env} {st : Sto} {k : Bool → Sto → Prop} {f : F2} {t : DE} {c : DCh} {x : D} {b : Bool}
theorem q_okI {n : Nat} {i : Int} : okD n (.int i) = true := by cases n <;> rfl
theorem q_okB {n : Nat} {i : Bool} : okD n (.bl i) = true := by cases n <;> rfl
theorem q_okN {n : Nat} : okD n .non = true := by cases n <;> rfl
theorem q_okS {n : Nat} {s : Str} : okD n (.str s) = PyData.strOk s := by cases n <;> rfl
theorem q_okL {n : Nat} {ds : List D} : okD (n + 1) (.lst ds) = okDs n ds := by simp only [okD]
theorem q_okT {n : Nat} {ds : List D} : okD (n + 1) (.tup ds) = okDs n ds := by simp only [okD]
theorem q_oks0 {n : Nat} : okDs n [] = true := by simp only [okDs]
theorem q_oks1 {n : Nat} {d : D} {ds : List D} : okDs n (d :: ds) = (okD n d && okDs n ds) := by simp only [okDs]
theorem q_eqII {i j : Int} : eqD (.int i) (.int j) = (i == j) := by simp only [eqD]
theorem q_eqBB {i j : Bool} : eqD (.bl i) (.bl j) = (i == j) := by simp only [eqD]
theorem q_eqSS {i j : Str} : eqD (.str i) (.str j) = (i == j) := by simp only [eqD]
theorem q_eqLL {i j : List D} : eqD (.lst i) (.lst j) = eqDs i j := by simp only [eqD]
theorem q_eqTT {i j : List D} : eqD (.tup i) (.tup j) = eqDs i j := by simp only [eqD]
theorem q_eqNN : eqD .non .non = true := by simp only [eqD]
theorem q_eqNI {i : Int} : eqD .non (.int i) = false := by simp only [eqD]
theorem q_eqIN {i : Int} : eqD (.int i) .non = false := by simp only [eqD]
theorem q_eqs0 : eqDs [] [] = true := by simp only [eqDs]
theorem q_eqs1 {d e : D} {ds es : List D} : eqDs (d :: ds) (e :: es) = (eqD d e && eqDs ds es) := by simp only [eqDs]
end
end DL

/-! sum, max, min of a list or a tuple of ints -/
namespace DL
open PySem PySem.Spec PyProof.Rows L2
section
variable {prog : Program} {w : World} {A : Around} {E : Value → Shared → Prop} {s : Shared} {l : Addr} {its : List Value} {ns : List Int} {Q : Value → Shared → Prop}
end
section
variable {X : Cx}
variable {st : Sto} {k : DK} {ns : List Int}
end
section
variable {X : Cx} {tg e e2 e3 : Expr} {ta tb tc : DE} {p pos : Pos}
variable {env : DL.Env} {st : Sto} {kk : DIk} {i j c : Int}
end
end DL

/-! bit_length; reversed -/
namespace DL
open PySem PySem.Spec PyProof.Rows L2
section
variable {X : Cx} {o : Expr} {to : DE}
variable {env : DL.Env} {st : Sto} {k : DK} {i : Int}
end
def par3K (i j l : Nat) (env : DL.Env) (nx : DL.Env → Sto → Prop) : List D → Sto → Prop := fun ds s1 => match ds with
  | [d, e, f] => dgName i d env s1 fun env1 s2 => dgName j e env1 s2 fun env2 s3 => dgName l f env2 s3 nx
  | _ => False
def dPar3 (i j l : Nat) (t : DA) : DS := fun E env st => t env st (par3K i j l env E.nx)
section
variable {X : Cx} {a b c : Expr} {pos : Pos}
theorem pds_par3 (i j l : Nat) {x y z : Str} {t : DA} {px py pz pt : Pos} {kt k2 pt2} (hc : X.calm = true) (hN : X.N.Nodup) (ha : PDA X [a, b, c] t) (hi : X.N[i]? = some x := by rfl) (hj : X.N[j]? = some y := by rfl) (hl : X.N[l]? = some z := by rfl) (hij : i ≠ j := by decide) (hil : i ≠ l := by decide) (hjl : j ≠ l := by decide)
    (hx : X.env.scope.names.lookup x = some .local := by rfl) (hy : X.env.scope.names.lookup y = some .local := by rfl) (hz : X.env.scope.names.lookup z = some .local := by rfl)
    (hw : swappedStores [.Tuple [.Name x px, .Name y py, .Name z pz] kt pt] (.Tuple [a, b, c] k2 pt2) X.env = pure (some [x, y, z]) := by rfl)
    (hs : swapsWithSole [.Tuple [.Name x px, .Name y py, .Name z pz] kt pt] (.Tuple [a, b, c] k2 pt2) pos.line X.env = pure false := by rfl) :
    PDS X (.Assign [.Tuple [.Name x px, .Name y py, .Name z pz] kt pt] (.Tuple [a, b, c] k2 pt2) pos) (dPar3 i j l t) := by
  refine (ps_par3 hc hN hi hj hl hij hil hjl hx hy hz ha hw hs).wk fun Ed σ H ⟨w, env, st, D, W, E, h, fn, fr⟩ => ?_
  refine ⟨w, env, st, _, W, E, h, fun ds st1 vs w1 H1 h1 l1 W1 R1 => ?_⟩
  match ds, h1, R1 with
  | [d, e, f], h1, R1 =>
    obtain ⟨v, r, rfl, Rv, R2⟩ := R1.inv
    obtain ⟨u, r', rfl, Ru, R3⟩ := R2.inv
    obtain ⟨q, r'', rfl, Rq, R4⟩ := R3.inv
    rw [R4.inv0]
    exact ⟨v, u, q, rfl, fn _ _ _ _ _ h1 l1 W1 ((((E.mono l1).set i Rv).set j Ru).set l Rq)⟩
  | [], h1, _ => exact h1.elim
  | [_], h1, _ => exact h1.elim
  | [_, _], h1, _ => exact h1.elim
  | _ :: _ :: _ :: _ :: _, h1, _ => exact h1.elim
variable {i j l : Nat} {t : DA} {E : DEnds} {env : DL.Env} {st : Sto} {d e f : D} {kg : DL.Env → Sto → Prop}
theorem e_par3 : dPar3 i j l t E env st = t env st (par3K i j l env E.nx) := rfl
theorem e_par3K : par3K i j l env kg [d, e, f] st = dgName i d env st fun env1 s2 => dgName j e env1 s2 fun env2 s3 => dgName l f env2 s3 kg := rfl
end
end DL

/-! zip(.., strict=True) of a list and a tuple of one length -/
namespace DL
open PySem PySem.Spec PyProof.Rows L2
section
variable {pr : Program} {w : World} {A : Around} {E : Value → Shared → Prop} {z : Shared} {zz TI TO j1 j2 : Addr} {f1 f2 : List Addr} {m1 m2 i : Nat} {P1 P2 : Nat → Value → Prop} {S1 S2 : Nat → Heap → Prop} {c1 c2 : Value}
end
end DL

/-! for .. in zip(a, b, strict=True), by data -/
namespace DL
open PySem PySem.Spec PyProof.Rows L2
section
variable {K : PySem.W.Frag} {w : Wd} {st : Sto}
end
section
variable {X : Cx} {e e2 : Expr} {ta tb : DE} {p pos kp : Pos}
variable {env : DL.Env} {st : Sto} {kk : DIk} {ds es : List D} {i : Nat}
end
end DL

/-! zip of a list and a tuple, not strict -/
namespace DL
open PySem PySem.Spec PyProof.Rows L2
section
variable {K : PySem.W.Frag} {w : Wd} {st : Sto}
end
section
variable {X : Cx} {e e2 : Expr} {ta tb : DE} {p pos : Pos}
variable {env : DL.Env} {st : Sto} {kk : DIk} {ds es : List D} {i : Nat}
end
end DL

/-! The data layer: what is taken backwards, sorted lists and sets of ints, lists of ranges, divmod, ranges backwards. -/
namespace DLA
open PySem PySem.Spec PyProof.Rows L2 HT
section
variable {prog : Program} {w : World} {A : Around} {E : Value → Shared → Prop} {s : Shared}
end
end DLA
namespace DLA
open PySem PySem.Spec PyProof.Rows L2
section
variable {P : Program} {w : World} {A : Around} {E : Value → Shared → Prop} {s : Shared}
end
end DLA
namespace DL
open PySem PySem.Spec PyProof.Rows L2
/-! ### sorted ints -/
def sortZ (ns : List Int) : List Int := ns.mergeSort (fun a b => decide (a ≤ b))
theorem sortZ_perm (ns : List Int) : (sortZ ns).Perm ns := List.mergeSort_perm _ _
theorem sortZ_le (ns : List Int) : (sortZ ns).Pairwise (· ≤ ·) := by
  have h := List.pairwise_mergeSort (le := fun a b : Int => decide (a ≤ b)) (fun a b c h1 h2 => by simp only [decide_eq_true_eq] at *; omega) (fun a b => by simp only [Bool.or_eq_true, decide_eq_true_eq]; omega) ns
  exact h.imp fun h => by simpa using h
theorem sorted_one : ∀ {xs ys : List Int}, xs.Perm ys → xs.Pairwise (· ≤ ·) → ys.Pairwise (· ≤ ·) → xs = ys
  | [], ys, p, _, _ => by rw [p.nil_eq]
  | x :: r, [], p, _, _ => by cases p.length_eq
  | x :: r, y :: s, p, h1, h2 => by
    have e : x = y := by
      have a : x ∈ y :: s := p.mem_iff.mp List.mem_cons_self
      have b : y ∈ x :: r := p.mem_iff.mpr List.mem_cons_self
      rcases List.mem_cons.mp a with a | a
      · exact a
      · rcases List.mem_cons.mp b with b | b
        · exact b.symm
        · have c1 := List.rel_of_pairwise_cons h2 a
          have c2 := List.rel_of_pairwise_cons h1 b
          omega
    subst e
    rw [sorted_one ((List.perm_cons _).mp p) h1.of_cons h2.of_cons]
theorem sortZ_of {xs ns : List Int} (p : xs.Perm ns) (h : xs.Pairwise (· ≤ ·)) : xs = sortZ ns := sorted_one (p.trans (sortZ_perm ns).symm) h (sortZ_le ns)
section
variable {X : Cx} {e e2 e3 : Expr} {ta tb tc : DE} {p p2 pos pos2 : Pos}
theorem sortZ_length (ns : List Int) : (sortZ ns).length = ns.length := (sortZ_perm ns).length_eq
variable {st : Sto} {k : DK} {ns : List Int} {env : DL.Env}
/-! ### divmod -/
theorem DivOk.plain {i j : Int} (h : DivOk j) : CDivP i j := by
  refine ⟨h.1, ?_⟩
  have h2 := h.2
  unfold Builtin.divisionGoesByPylong
  have e : ¬ (300 < if j = 0 then 0 else j.natAbs.log2 / 30 + 1) := by
    split <;> omega
  simp
  exact fun q => absurd q e
/-! ### what is taken backwards -/
end
end DL
namespace DLA
open PySem PySem.Spec PyProof.Rows L2
variable {X : Cx}
/-! ### lists of ranges with a step -/
end DLA
namespace DL
open PySem PySem.Spec PyProof.Rows L2
section
variable {X : Cx} {tg e e2 e3 : Expr} {ta tb tc : DE} {p p2 pos pos2 : Pos}
variable {env : DL.Env} {st : Sto} {k : DK} {kk : DIk} {i j c : Int} {xs : List D} {ns : List Int}
/-! ### list(range(..)) -/
/-! ### reversed(range(n)) -/
/-! ### sorted(set(xs)), len(set(xs)) of a list of ints -/
end
end DL

/-! Loops by an invariant, comprehensions by what each turn tells, the tape of draws. -/
namespace DL
open PySem PySem.Spec PyProof.Rows L2
theorem set_same {st : Sto} {i : Nat} {xs : List D} (h : st[i]? = some xs) : st.set i xs = st := by
  obtain ⟨hi, e⟩ := List.getElem?_eq_some_iff.mp h
  rw [← e]
  exact List.set_getElem_self ..
def Tape (n : Nat) (xs : List D) : Prop := ∃ a b c : Int, xs = [.int a, .int b, .int c] ∧ 0 ≤ b ∧ b < 4611686018427387904 ∧ 0 ≤ c ∧ c ≤ n
def Tp (i n : Nat) (st : Sto) : Prop := ∃ xs, st[i]? = some xs ∧ Tape n xs
theorem Tp.mono {i n m : Nat} {st : Sto} (h : Tp i n st) (l : n ≤ m) : Tp i m st := by
  obtain ⟨xs, e, a, b, c, r, h1, h2, h3, h4⟩ := h
  exact ⟨xs, e, a, b, c, r, h1, h2, h3, by omega⟩
theorem Tp.app {i n : Nat} {st : Sto} (h : Tp i n st) (ys : Sto) : Tp i n (st ++ ys) := by
  obtain ⟨xs, e, t⟩ := h
  exact ⟨xs, by rw [List.getElem?_append_left (List.getElem?_eq_some_iff.mp e).1]; exact e, t⟩
theorem Tp.set {i n j : Nat} {st : Sto} (h : Tp i n st) (ys : List D) (ne : j ≠ i) : Tp i n (st.set j ys) := by
  obtain ⟨xs, e, t⟩ := h
  exact ⟨xs, by rw [List.getElem?_set_ne ne]; exact e, t⟩
theorem Tp.lt {i n : Nat} {st : Sto} (h : Tp i n st) : i < st.length := by
  obtain ⟨xs, e, _⟩ := h
  exact (List.getElem?_eq_some_iff.mp e).1
theorem Tp.same {i n : Nat} {st : Sto} (h : Tp i n st) : ∃ xs, st.set i xs = st := by
  obtain ⟨xs, e, _⟩ := h
  exact ⟨xs, set_same e⟩
section
variable {α β : Type} {src : List (Nat × List D)} {g : DG} {b : DS} {e : DE} {tt : DT} {own : List Nat} {env : DL.Env} {kk : DL.Env → Sto → Prop} {rt : DK} {k : List D → Sto → Prop}
/-- a loop by an invariant over what is left -/
theorem go_for (f : α → D) (I : List α → DL.Env → Sto → Prop)
    (step : ∀ x r env st (nx : DL.Env → Sto → Prop), I (x :: r) env st → (∀ e s, I r e s → nx e s) → SrcOk src st ∧ g (f x) env st fun e s => b ⟨nx, rt⟩ e s)
    (done : ∀ env st, I [] env st → SrcOk src st ∧ kk env st) : ∀ xs env st, I xs env st → goFor src g b ⟨kk, rt⟩ (xs.map f) env st
  | [], env, st, h => done env st h
  | x :: r, env, st, h => step x r env st _ h fun e s q => go_for f I step done r e s q
/-- a loop over 0, 1, .. by an invariant -/
theorem go_range (n : Nat) (I : Nat → DL.Env → Sto → Prop)
    (step : ∀ j env st (nx : DL.Env → Sto → Prop), j < n → I j env st → (∀ e s, I (j + 1) e s → nx e s) → SrcOk src st ∧ g (.int (j : Nat)) env st fun e s => b ⟨nx, rt⟩ e s)
    (done : ∀ env st, I n env st → SrcOk src st ∧ kk env st) (env : DL.Env) (st : Sto) (h : I 0 env st) : goFor src g b ⟨kk, rt⟩ (rangeD 0 n) env st := by
  have e : rangeD 0 n = (List.range n).map fun i => D.int (i : Nat) := by
    unfold rangeD
    refine List.map_congr_left fun x _ => ?_
    rw [Int.zero_add]
  rw [e]
  refine go_for (fun i : Nat => D.int (i : Nat)) (fun r env st => ∃ j, r = (List.range n).drop j ∧ j ≤ n ∧ I j env st) ?_ ?_ _ env st ⟨0, rfl, Nat.zero_le _, h⟩
  · rintro x r env st nx ⟨j, hr, hj, hI⟩ q
    have lt : j < n := by
      apply Nat.lt_of_not_le
      intro z
      rw [List.drop_eq_nil_of_le (by rw [List.length_range]; exact z)] at hr
      cases hr
    have hd := List.drop_eq_getElem_cons (l := List.range n) (i := j) (by rw [List.length_range]; exact lt)
    rw [hd] at hr
    injection hr with h1 h2
    rw [List.getElem_range] at h1
    subst h1
    exact step x env st nx lt hI fun e s hi => q e s ⟨x + 1, h2, lt, hi⟩
  · rintro env st ⟨j, hr, hj, hI⟩
    have : j = n := by
      have := congrArg List.length hr
      rw [List.length_nil, List.length_drop, List.length_range] at this
      omega
    subst this
    exact done env st hI
/-- each turn tells one thing, the store stays -/
theorem lc_eachD (st : Sto) (hs : SrcOk src st) : ∀ (xs ys acc : List D), xs.length = ys.length → (∀ x y, (x, y) ∈ xs.zip ys → ∀ kd : DK, kd y st → g x (wipeE env own) st fun e1 s1 => e e1 s1 kd) → k (acc ++ ys) st → goLc src g dYes e own env k xs acc st
  | [], [], acc, _, _, h => ⟨hs, by simpa using h⟩
  | [], _ :: _, _, q, _, _ => by cases q
  | _ :: _, [], _, q, _, _ => by cases q
  | x :: xs, y :: ys, acc, q, f, h => by
    refine ⟨hs, ?_⟩
    refine f x y (by simp) (fun d s2 => goLc src g dYes e own env k xs (acc ++ [d]) s2) ?_
    refine lc_eachD st hs xs ys (acc ++ [y]) (by simpa using q) (fun a b m => f a b (by simp [m])) ?_
    rw [List.append_assoc]
    exact h
theorem lc_map (f h : α → D) (xs : List α) (st : Sto) (hs : SrcOk src st) (acc : List D) (step : ∀ x ∈ xs, ∀ kd : DK, kd (h x) st → g (f x) (wipeE env own) st fun e1 s1 => e e1 s1 kd) (q : k (acc ++ xs.map h) st) : goLc src g dYes e own env k (xs.map f) acc st := by
  refine lc_eachD st hs _ _ _ (by rw [List.length_map, List.length_map]) (fun x y m kd hk => ?_) q
  rw [List.zip_map'] at m
  obtain ⟨a, ha, e⟩ := List.mem_map.mp m
  cases e
  exact step a ha kd hk
theorem lc_filter (f h : α → D) (p : α → Bool) (st : Sto) (hs : SrcOk src st) : ∀ (xs : List α) (acc : List D), (∀ x ∈ xs, ∀ (k1 : DK) (k2 : Sto → Prop), (p x = true → k1 (h x) st) → (p x = false → k2 st) → g (f x) (wipeE env own) st fun e1 s1 => tt e1 s1 fun b s2 => if b = true then e e1 s2 k1 else k2 s2) →
    k (acc ++ (xs.filter p).map h) st → goLc src g tt e own env k (xs.map f) acc st
  | [], acc, _, q => ⟨hs, by simpa using q⟩
  | x :: xs, acc, step, q => by
    refine ⟨hs, ?_⟩
    refine step x List.mem_cons_self (fun d s2 => goLc src g tt e own env k (xs.map f) (acc ++ [d]) s2) (fun s2 => goLc src g tt e own env k (xs.map f) acc s2) (fun hp => ?_) (fun hp => ?_)
    · refine lc_filter f h p st hs xs _ (fun y hy => step y (List.mem_cons_of_mem _ hy)) ?_
      rw [List.filter_cons, if_pos hp, List.map_cons] at q
      rw [List.append_assoc]
      exact q
    · refine lc_filter f h p st hs xs _ (fun y hy => step y (List.mem_cons_of_mem _ hy)) ?_
      rw [List.filter_cons, if_neg (by simp [hp])] at q
      exact q
/-- each turn draws -/
theorem lc_draws (f : α → D) (P : α → Prop) (i c B : Nat) (step : ∀ x n st (kd : DK), Tp i n st → n < B → (∀ a ys, P a → Tp i (n + c) (st.set i ys) → kd (f a) (st.set i ys)) → g x (wipeE env own) st fun e1 s1 => e e1 s1 kd) :
    ∀ (xs : List D) (n : Nat) (st : Sto) (acc : List D), Tp i n st → n + c * xs.length < B →
    (∀ (as : List α) ys, as.length = xs.length → (∀ a ∈ as, P a) → Tp i (n + c * xs.length) (st.set i ys) → k (acc ++ as.map f) (st.set i ys)) → goLc [] g dYes e own env k xs acc st
  | [], n, st, acc, ht, _, h => by
    obtain ⟨xs, hx, hT⟩ := id ht
    have q := set_same hx
    refine ⟨trivial, ?_⟩
    have := h [] xs rfl (fun _ m => by cases m) (by rw [q]; exact ht)
    rw [q] at this
    simpa using this
  | x :: r, n, st, acc, ht, hn, h => by
    simp only [List.length_cons, Nat.mul_add] at hn
    refine ⟨trivial, ?_⟩
    refine step x n st (fun d s2 => goLc [] g dYes e own env k r (acc ++ [d]) s2) ht (by omega) fun a ys ha t => ?_
    refine lc_draws f P i c B step r (n + c) _ _ t (by omega) fun as zs hl hp t' => ?_
    rw [List.set_set] at t' ⊢
    rw [List.append_assoc]
    refine h (a :: as) zs (by simp [hl]) (fun y hy => ?_) (t'.mono ?_)
    · rcases List.mem_cons.mp hy with rfl | hy
      · exact ha
      · exact hp y hy
    · rw [List.length_cons, Nat.mul_add]
      omega
theorem atI_pick {ns : List Int} {r : Int} (h0 : 0 ≤ r) (h1 : r < ns.length) : ∃ x ∈ ns, atI (ns.map D.int) r = some (.int x) := by
  refine ⟨ns[r.toNat]'(by omega), List.getElem_mem _, ?_⟩
  unfold atI ixN
  rw [if_pos h0, if_pos (by rw [List.length_map]; exact h1)]
  show (ns.map D.int)[r.toNat]? = _
  rw [List.getElem?_map, List.getElem?_eq_getElem (by omega)]
  rfl
end
end DL

/-! The plain law of a balance: falls, runs, what stays. No program in sight. -/
namespace DL
open PySem
def sd (s : Int) : Str := if s < 0 then "left" else "right"
def fallI (s w : Int) : Int := if s < 0 then s + 2 * w else s - 2 * w
theorem lr_ne : ¬ (("right" : Str) = "left") := by decide +kernel
theorem sd_lr (s : Int) : sd s = "left" ∨ sd s = "right" := by
  unfold sd
  split
  · exact .inl rfl
  · exact .inr rfl
theorem sd_left (s : Int) : (sd s = "left") ↔ s < 0 := by
  unfold sd
  split
  · simp_all
  · simp_all [lr_ne]
theorem sd_fall (s w : Int) : (if sd s = "left" then s + 2 * w else s - 2 * w) = fallI s w := by
  unfold fallI
  by_cases h : s < 0
  · rw [if_pos h, if_pos ((sd_left s).mpr h)]
  · rw [if_neg h, if_neg (fun z => h ((sd_left s).mp z))]
def foldR (r : Int × Int) (w : Int) : Int × Int :=
  if r.1 < 2 * w ∧ 2 * w < r.2 then (1, if r.2 - 2 * w > 2 * w - r.1 then r.2 - 2 * w else 2 * w - r.1)
  else if r.2 < 2 * w then (2 * w - r.2, 2 * w - r.1) else (r.1 - 2 * w, r.2 - 2 * w)
def foldsR : Int × Int → List Int → Int × Int
  | r, [] => r
  | r, w :: ws => foldsR (foldR r w) ws
def OkRun (r : Int × Int) : Prop := 1 ≤ r.1 ∧ r.1 ≤ r.2 ∧ r.1 % 2 = 1 ∧ r.2 % 2 = 1
def wholeR : Int × Int → List Int → Bool
  | _, [] => true
  | r, w :: ws => if r.1 < 2 * w ∧ 2 * w < r.2 then false else wholeR (foldR r w) ws
def MaxOf (m : Int) (ws : List Int) : Prop := m ∈ ws ∧ ∀ y ∈ ws, y ≤ m
theorem MaxOf.eq {m m' : Int} {ws : List Int} (h : MaxOf m ws) (h1 : m' ∈ ws) (h2 : ∀ y, y ∈ ws → y ≤ m') : m' = m := by
  have a1 := h.2 _ h1
  have a2 := h2 _ h.1
  omega
theorem MaxOf.pos {m : Int} {ws : List Int} (h : MaxOf m ws) : 0 < ws.length := List.length_pos_of_mem h.1
def spotR (r : Int × Int) : Int := (r.2 - r.1) / 2 + 1
def halvR (r : Int × Int) : Int := (r.1 - 1) / 2 + spotR r / 2
def ResetC : Int × Int → List Int → Prop
  | r, [] => ¬ 1 < spotR r
  | r, h :: hs => 1 < spotR r ∧ h = halvR r ∧ ResetC (foldR r h) hs
instance decReset : ∀ (hs : List Int) (r : Int × Int), Decidable (ResetC r hs)
  | [], r => inferInstanceAs (Decidable (¬ 1 < spotR r))
  | h :: hs, r => by
    have := decReset hs (foldR r h)
    exact inferInstanceAs (Decidable (1 < spotR r ∧ h = halvR r ∧ ResetC (foldR r h) hs))
/-! ### sizes, runs -/
def sz (s : Int) : Int := if s < 0 then -s else s
def Sub (r q : Int × Int) : Prop := q.1 ≤ r.1 ∧ r.2 ≤ q.2
theorem fold_ok {r : Int × Int} (h : OkRun r) (w : Int) : OkRun (foldR r w) := by
  obtain ⟨h1, h2, h3, h4⟩ := h
  unfold foldR
  split
  · refine ⟨?_, ?_, ?_, ?_⟩ <;> dsimp only
    · omega
    · split <;> omega
    · decide
    · split <;> omega
  · split
    · refine ⟨?_, ?_, ?_, ?_⟩ <;> (try dsimp only) <;> omega
    · refine ⟨?_, ?_, ?_, ?_⟩ <;> (try dsimp only) <;> omega
def WOk (m : Int) (ws : List Int) : Prop := MaxOf m ws ∧ ∀ w ∈ ws, 1 ≤ w
theorem WOk.all {m : Int} {ws : List Int} (h : WOk m ws) : ∀ w ∈ ws, 1 ≤ w ∧ w ≤ m := fun w hw => ⟨h.2 w hw, h.1.2 w hw⟩
theorem WOk.one {m : Int} {ws : List Int} (h : WOk m ws) : 1 ≤ m := h.2 m h.1.1
/-- a fold never makes more spots; fewer, where it parts -/
theorem spot_fold {r : Int × Int} (h : OkRun r) (w : Int) : spotR (foldR r w) ≤ spotR r ∧ (r.1 < 2 * w ∧ 2 * w < r.2 → spotR (foldR r w) < spotR r) := by
  obtain ⟨h1, h2, h3, h4⟩ := h
  unfold foldR spotR
  constructor
  · split
    · dsimp only
      split <;> omega
    · split <;> dsimp only <;> omega
  · intro p
    rw [if_pos p]
    dsimp only
    split <;> omega
theorem spot_folds : ∀ (ws : List Int) {r : Int × Int}, OkRun r → spotR (foldsR r ws) ≤ spotR r
  | [], _, _ => Int.le_refl _
  | w :: ws, _, h => Int.le_trans (spot_folds ws (fold_ok h w)) (spot_fold h w).1
theorem whole_of : ∀ (ws : List Int) {r : Int × Int}, OkRun r → spotR (foldsR r ws) = spotR r → wholeR r ws = true
  | [], _, _, _ => rfl
  | w :: ws, r, h, e => by
    have a := spot_folds ws (fold_ok h w)
    have b := spot_fold h w
    simp only [foldsR] at e
    unfold wholeR
    by_cases p : r.1 < 2 * w ∧ 2 * w < r.2
    · have := b.2 p
      omega
    · rw [if_neg p]
      exact whole_of ws (fold_ok h w) (by omega)
/-! ### rounds -/
/-- the run that stays -/
structure Stays (ws : List Int) (T : Int × Int) : Prop where
  ok : OkRun T
  fix : foldsR T ws = T
theorem Stays.whole {ws : List Int} {T : Int × Int} (h : Stays ws T) : wholeR T ws = true := whole_of ws h.ok (by rw [h.fix])
/-! ### far off -/
/-! ### pounds -/
/-! ### the sizes of a run, one by one -/
end DL

/-! x in xs, x not in xs: lists and tuples of data of any depth. -/
namespace DL
open PySem PySem.Spec PyProof.Rows L2
def inD (d : D) (ys : List D) : Bool := ys.any fun z => eqD z d
def inK (neg : Bool) (x : D) (ys : List D) (st : Sto) (k : DK) : Prop := okD 60 x = true ∧ okDs 59 ys = true ∧ k (.bl (if neg = true then !inD x ys else inD x ys)) st
def inOp (neg : Bool) : F2 := fun d e st k => match deref st e with
  | .lst ys => inK neg (deref st d) ys st k
  | .tup ys => inK neg (deref st d) ys st k
  | _ => False
theorem any_toPs {n m : Nat} {d : D} (h : okD n d = true) : ∀ (ys : List D), okDs m ys = true → ((toPs ys).any fun z => PyData.eqv z (toP d)) = inD d ys
  | [], _ => by simp [toPs, inD]
  | y :: ys, g => by
    simp only [okDs, Bool.and_eq_true] at g
    have ih := any_toPs h ys g.2
    unfold inD at ih ⊢
    simp only [toPs, List.any_cons]
    rw [eqv_toP m n y d g.1 h, ih]
section
variable {X : Cx}
theorem in_room {A : Around} {d : D} {n : Nat} (h : okD n d = true) (hn : n ≤ 60) (hu : A.units + 64 < cLine) (xs : List PyData) : A.units + 1 + min (PyData.depthAll xs) (toP d).depth < cLine := by
  have := (shape_toP n d h).2
  have := Nat.min_le_right (PyData.depthAll xs) (toP d).depth
  omega
theorem dop_notin (hu : X.A.units + 64 < cLine) : OpR X (compareOp .NotIn) (rD X.K (inOp true)) := by
  intro pins s σ H x y v u Q I rx ry ⟨w, st, d, e, kk, W, R1, R2, q, fo⟩
  unfold inOp at q
  split at q
  · rename_i ys hd
    obtain ⟨h1, h2, q⟩ := q
    obtain ⟨as, r1⟩ := Dp.reads I _ x v (dp_deref W R1 h1) rx
    have ok2 : okD 60 (deref st e) = true := by rw [hd]; exact h2
    have hp := dp_deref W R2 ok2
    rw [hd] at hp
    obtain ⟨bs, r2⟩ := Dp.reads I _ y u hp ry
    refine SeqAt.notIn_list_reads r2 r1 (shape_toPs 59 ys h2).1 (shape_toP 60 _ h1).1 (in_room h1 (Nat.le_refl _) hu _) ⟨.bl _, H, I, rfl, ?_⟩
    rw [any_toPs h1 ys h2]
    exact fo.id q W rep_bl
  · rename_i ys hd
    obtain ⟨h1, h2, q⟩ := q
    obtain ⟨as, r1⟩ := Dp.reads I _ x v (dp_deref W R1 h1) rx
    have ok2 : okD 60 (deref st e) = true := by rw [hd]; exact h2
    have hp := dp_deref W R2 ok2
    rw [hd] at hp
    obtain ⟨bs, r2⟩ := Dp.reads I _ y u hp ry
    refine SeqAt.notIn_tuple_reads r2 r1 (shape_toPs 59 ys h2).1 (shape_toP 60 _ h1).1 (in_room h1 (Nat.le_refl _) hu _) ⟨.bl _, H, I, rfl, ?_⟩
    rw [any_toPs h1 ys h2]
    exact fo.id q W rep_bl
  · exact q.elim
variable {neg : Bool} {d : D} {ys : List D} {st : Sto} {k : DK} {i : Nat}
theorem e_inL : inOp neg d (.lst ys) st k = inK neg (deref st d) ys st k := rfl
theorem e_inKL : inOp neg d (.klst ys) st k = inK neg (deref st d) ys st k := rfl
theorem e_inT : inOp neg d (.tup ys) st k = inK neg (deref st d) ys st k := rfl
theorem e_inO (h : st[i]? = some ys) : inOp neg d (.obj i) st k = inK neg (deref st d) ys st k := by simp [inOp, deref, h]
theorem e_inFlat : inK neg d ys st k = (okD 60 d = true ∧ okDs 59 ys = true ∧ k (.bl (if neg = true then !inD d ys else inD d ys)) st) := rfl
theorem e_drK : deref st (.klst ys) = .lst ys := rfl
theorem in_ints (i : Int) : ∀ xs : List Int, inD (.int i) (xs.map D.int) = decide (i ∈ xs)
  | [] => by simp [inD]
  | x :: r => by
    have ih := in_ints i r
    unfold inD at ih ⊢
    simp only [List.map_cons, List.any_cons]
    rw [ih, show eqD (D.int x) (.int i) = (x == i) by simp only [eqD]]
    by_cases e : x = i
    · subst e; simp
    · rw [show (x == i) = false by simpa using e, Bool.false_or]
      have : i ∈ x :: r ↔ i ∈ r := by
        simp only [List.mem_cons]
        exact ⟨fun h => h.resolve_left fun z => e z.symm, .inr⟩
      simp only [this]
end
section
variable {X : Cx} {es : List Expr} {pos : Pos}
variable {n : Nat} {g : DGs} {xs : List D} {env : DL.Env} {st : Sto} {k : DL.Env → Sto → Prop} {i : Nat}
end
theorem all_true {α : Type} (xs : List α) (st : Sto) (k : DK) : bAll [.lst (xs.map fun _ => D.bl true)] st k = k (.bl true) st := by
  have e : ∀ xs : List α, blsD (xs.map fun _ => D.bl true) = some (xs.map fun _ => true) := by
    intro xs
    induction xs with
    | nil => rfl
    | cons x r ih =>
      show (blsD (r.map fun _ => D.bl true)).map (true :: ·) = _
      rw [ih]
      rfl
  have a : (xs.map fun _ => true).all id = true := by simp
  show (match deref st (.lst (xs.map fun _ => D.bl true)) with
    | .lst xs => match blsD xs with
      | some bs => k (.bl (bs.all id)) st
      | none => False
    | _ => False) = _
  show (match blsD (xs.map fun _ => D.bl true) with
      | some bs => k (.bl (bs.all id)) st
      | none => False) = _
  rw [e xs]
  show k (.bl ((xs.map fun _ => true).all id)) st = _
  rw [a]
end DL

/-! len(set(xs)), xs a list of tuples of ints. -/
namespace DL
open PySem PySem.Spec PyProof.Rows L2
section
variable {X : Cx}
variable {e : Expr} {ta : DE} {p p2 pos2 pos : Pos}
end
end DL

namespace DL
open PySem PySem.Spec PyProof.Rows L2

/-! ### a Hook with looks of one's own beside the head's facts -/
abbrev AlX : Type := Bool × He.AlD
def obsX (ex : List (PySem.W.Frag → Bool)) (fa : List He.Fa) (fn : List He.DefD) (K : PySem.W.Frag) : AlX := (ex.all fun g => g K, He.obsD fa fn K)
def valX (fn : List He.DefD) : AlX := (true, He.valD fn)
def SaysX (ex : List (PySem.W.Frag → Bool)) (fa : List He.Fa) (fn : List He.DefD) (K : PySem.W.Frag) : Prop := obsX ex fa fn K = valX fn
def obsXG (n : Nat) (ex : List (PySem.W.Frag → Bool)) (fa : List He.Fa) (fn : List He.DefD) (g : Addr → Option Obj) : AlX := obsX ex fa fn (He.frG g (He.asD g n))
def hookX (n : Nat) (ex : List (PySem.W.Frag → Bool)) (fa : List He.Fa) (fn : List He.DefD) : PySem.W.Hook where
  α := AlX
  obs := fun s => obsXG n ex fa fn s.heap.get?
  val := fun _ => valX fn
  says := fun _ h => ∃ K : PySem.W.Frag, K.In h ∧ SaysX ex fa fn K
  of := fun _ _ e => ⟨_, He.frG_in, e⟩
  keeps := fun _ _ _ ⟨K, inK, c⟩ kp => ⟨K, PySem.W.Frag.In.keeps inK kp, c⟩
theorem obsXG_eq {n : Nat} {ex : List (PySem.W.Frag → Bool)} {fa : List He.Fa} {fn : List He.DefD} {g : Addr → Option Obj} {s : Shared} (h : ∀ a, g a = s.heap.get? a) : obsXG n ex fa fn g = (hookX n ex fa fn).obs s := by
  rw [show g = s.heap.get? from funext h]
  rfl
section
variable {ex : List (PySem.W.Frag → Bool)} {fa : List He.Fa} {fn : List He.DefD} {K : PySem.W.Frag}
theorem SaysX.d (c : SaysX ex fa fn K) : He.SaysD fa fn K := congrArg (fun z : AlX => z.2) c
theorem SaysX.own (c : SaysX ex fa fn K) (i : Nat) {g : PySem.W.Frag → Bool} (h : ex[i]? = some g := by rfl) : g K = true := by
  have c1 : (ex.all fun g => g K) = true := congrArg (fun z : AlX => z.1) c
  exact List.all_eq_true.mp c1 g (List.mem_of_getElem? h)
end

/-! ### a tuple of the module's head -/
def dvD : He.Dv → D
  | .bl b => .bl b
  | .int i => .int i
  | .str x => .str x
  | _ => .non
def dvS : He.Dv → Bool
  | .non | .bl _ | .int _ | .str _ => true
  | _ => false
/-- the module's name x is a tuple of these -/
def GTup (K : PySem.W.Frag) (mg : Str → Option Value) (x : Str) (ds : List D) : Prop :=
  ∃ (a : Addr) (vs : List V), mg x = some (.ref a) ∧ (∀ H, SqT K H a vs) ∧ (∀ w : Wd, Reps K w ds vs) ∧ ∃ o, K.lookup a = some o ∧ o.cls = .type "tuple" ∧ o.dict = none
def noDct (K : PySem.W.Frag) (a : Addr) : Bool := match K.lookup a with
  | some ⟨.type c, none, _, _⟩ => decide (c = "tuple")
  | _ => false
theorem noDct_ok {K : PySem.W.Frag} {a : Addr} (h : noDct K a = true) : ∃ o, K.lookup a = some o ∧ o.cls = .type "tuple" ∧ o.dict = none := by
  unfold noDct at h
  split at h
  · rename_i c d s e
    exact ⟨_, e, by rw [of_decide_eq_true h], rfl⟩
  · cases h
def gtupB (x : Str) (vs : List He.Dv) (K : PySem.W.Frag) : Bool := (eqR (PySem.W.nsIn K mainGlobals x) (He.ga K x) && He.tupB K x vs) && noDct K (He.ga K x)
where eqR (a : Option (Option Value)) (b : Addr) : Bool := decide (a = some (some (.ref b)))
theorem dv_reps {K : PySem.W.Frag} {w : Wd} : ∀ vs : List He.Dv, vs.all dvS = true → Reps K w (vs.map dvD) (vs.map (He.Dv.v K))
  | [], _ => .nil
  | v :: vs, h => by
    rw [List.all_cons, Bool.and_eq_true] at h
    refine .cons ?_ (dv_reps vs h.2)
    cases v <;> first | (simp only [dvD, He.Dv.v, Rep]; done) | (cases h.1)
theorem gtup_ok {K : PySem.W.Frag} {h : Heap} {mg : Str → Option Value} (X : K.In h) (G : h.Ns mainGlobals mg) {x : Str} {vs : List He.Dv} (c : gtupB x vs K = true) (s : vs.all dvS = true) : GTup K mg x (vs.map dvD) := by
  have c3 := Bool.and_eq_true_iff.mp c
  have c2 := Bool.and_eq_true_iff.mp c3.1
  exact ⟨He.ga K x, vs.map (He.Dv.v K), PySem.W.mg_of X G (of_decide_eq_true c2.1), fun H => He.tupB_ok c2.2 H, fun w => dv_reps vs s, noDct_ok c3.2⟩
section
variable {X : Cx} {x : Str} {pos : Pos} {ds : List D}
end

/-! ### repr -/
section
variable {X : Cx}
end
/-! ### signs of a text that is shown are signs -/
section
variable {st : Sto} {k : DK} {xs : List D}
end
end DL

/-! enumerate(tuple, s0) -/
namespace DL
open PySem PySem.Spec PyProof.Rows L2
section
variable {K : PySem.W.Frag} {w : Wd} {st : Sto}
end
section
variable {X : Cx} {e : Expr} {ta : DE} {p pos : Pos}
end
end DL

/-! DLI: dicts of the store. -/
namespace DL
open PySem PySem.Spec PyProof.Rows L2
/-- a key, whatever the dict's kind -/
def ky (t : Bool) (d : D) : Option (List Key) := if t = true then tkeyD d else (keyD d).map fun k => [k]
def valR (t : Bool) : List D → D → Option D
  | .tup [k', d] :: r, k => if ky t k' = ky t k then some d else valR t r k
  | _, _ => none
def setR (t : Bool) (k d : D) : D → D
  | .tup [k', d'] => if ky t k' = ky t k then .tup [k', d] else .tup [k', d']
  | x => x
theorem setR_row {t : Bool} {k d k' d' : D} : setR t k d (.tup [k', d']) = if ky t k' = ky t k then .tup [k', d] else .tup [k', d'] := rfl
def putR (t : Bool) (rows : List D) (k d : D) : List D :=
  if (valR t rows k).isSome = true then rows.map (setR t k d) else rows ++ [.tup [k, d]]
def dicOf (st : Sto) : D → Option (Bool × List D)
  | .dic (.b t) i => (st[i]?).map fun xs => (t, xs)
  | .fdic (.b t) rows => some (t, rows)
  | _ => none
section
variable {K : PySem.W.Frag} {w : Wd} {st : Sto} {H : Hp}
def OptR (K : PySem.W.Frag) (w : Wd) : Option D → Option V → Prop
  | some d, some v => Rep K w d v
  | none, none => True
  | _, _ => False
theorem key_rep {d : D} {v : V} {q : Key} (R : Rep K w d v) (h : keyD d = some q) : v = kV q := by
  cases d with
  | int i => cases h; simp only [Rep] at R; subst R; rfl
  | str i => cases h; simp only [Rep] at R; subst R; rfl
  | _ => cases h
theorem keys_rep : ∀ {ds : List D} {vs : List V} {qs : List Key}, Reps K w ds vs → keysD ds = some qs → vs = qs.map kV
  | [], vs, qs, R, h => by
    cases h
    exact R.inv0
  | d :: r, vs, qs, R, h => by
    obtain ⟨v, u, rfl, R1, R2⟩ := R.inv
    unfold keysD at h
    cases h1 : keyD d with
    | none => rw [h1] at h; cases h
    | some y =>
      cases h2 : keysD r with
      | none => rw [h1, h2] at h; cases h
      | some zs =>
        rw [h1, h2] at h
        cases h
        rw [key_rep R1 h1, keys_rep R2 h2]
        rfl
theorem tkey_rep {d : D} {v : V} {q : List Key} (R : Rep K w d v) (h : tkeyD d = some q) : ∃ b, v = .ref b ∧ w.G b = some (.tup (q.map kV)) := by
  cases d with
  | tup xs =>
    simp only [Rep] at R
    obtain ⟨a, vs, rfl, g, r⟩ := R
    rw [keys_rep r h] at g
    exact ⟨a, rfl, g⟩
  | _ => cases h
theorem rowsK_val {k : D} {q : Key} (hk : keyD k = some q) : ∀ {rows : List D} {kvs : List (Key × V)}, RowsK K w rows kvs → OptR K w (valR false rows k) (valV kvs q)
  | [], kvs, h => by
    simp only [RowsK] at h
    subst h
    trivial
  | .tup [k', d] :: r, kvs, h => by
    simp only [RowsK] at h
    obtain ⟨y, v, s, rfl, h1, h2, h3⟩ := h
    unfold valR
    have e : (ky false k' = ky false k) ↔ y = q := by
      unfold ky
      rw [if_neg (by decide), if_neg (by decide), h1, hk]
      simp
    by_cases z : y = q
    · rw [if_pos (e.mpr z), valV_pos z]
      exact h2
    · rw [if_neg (fun x => z (e.mp x)), valV_neg z]
      exact rowsK_val hk h3
  | .tup [] :: _, _, h => by simp only [RowsK] at h
  | .tup [_] :: _, _, h => by simp only [RowsK] at h
  | .tup (_ :: _ :: _ :: _) :: _, _, h => by simp only [RowsK] at h
  | .non :: _, _, h => by simp only [RowsK] at h
  | .bl _ :: _, _, h => by simp only [RowsK] at h
  | .int _ :: _, _, h => by simp only [RowsK] at h
  | .str _ :: _, _, h => by simp only [RowsK] at h
  | .lst _ :: _, _, h => by simp only [RowsK] at h
  | .klst _ :: _, _, h => by simp only [RowsK] at h
  | .obj _ :: _, _, h => by simp only [RowsK] at h
  | .dic _ _ :: _, _, h => by simp only [RowsK] at h
  | .fdic _ _ :: _, _, h => by simp only [RowsK] at h
  | .gtup _ :: _, _, h => by simp only [RowsK] at h
theorem rowsT_val {k : D} {q : List Key} (hk : tkeyD k = some q) : ∀ {rows : List D} {kvs : List (List Key × V)}, RowsT K w rows kvs → OptR K w (valR true rows k) (valV kvs q)
  | [], kvs, h => by
    simp only [RowsT] at h
    subst h
    trivial
  | .tup [k', d] :: r, kvs, h => by
    simp only [RowsT] at h
    obtain ⟨y, v, s, rfl, h1, h2, h3⟩ := h
    unfold valR
    have e : (ky true k' = ky true k) ↔ y = q := by
      unfold ky
      rw [if_pos rfl, if_pos rfl, h1, hk]
      simp
    by_cases z : y = q
    · rw [if_pos (e.mpr z), valV_pos z]
      exact h2
    · rw [if_neg (fun x => z (e.mp x)), valV_neg z]
      exact rowsT_val hk h3
  | .tup [] :: _, _, h => by simp only [RowsT] at h
  | .tup [_] :: _, _, h => by simp only [RowsT] at h
  | .tup (_ :: _ :: _ :: _) :: _, _, h => by simp only [RowsT] at h
  | .non :: _, _, h => by simp only [RowsT] at h
  | .bl _ :: _, _, h => by simp only [RowsT] at h
  | .int _ :: _, _, h => by simp only [RowsT] at h
  | .str _ :: _, _, h => by simp only [RowsT] at h
  | .lst _ :: _, _, h => by simp only [RowsT] at h
  | .klst _ :: _, _, h => by simp only [RowsT] at h
  | .obj _ :: _, _, h => by simp only [RowsT] at h
  | .dic _ _ :: _, _, h => by simp only [RowsT] at h
  | .fdic _ _ :: _, _, h => by simp only [RowsT] at h
  | .gtup _ :: _, _, h => by simp only [RowsT] at h
theorem rowsK_map {k d : D} {q : Key} {v : V} (hk : keyD k = some q) (R : Rep K w d v) : ∀ {rows : List D} {kvs : List (Key × V)}, RowsK K w rows kvs → RowsK K w (rows.map (setR false k d)) (kvs.map fun kv => if kv.1 = q then (kv.1, v) else kv)
  | [], kvs, h => by
    simp only [RowsK] at h
    subst h
    simp only [List.map_nil, RowsK]
  | .tup [k', d'] :: r, kvs, h => by
    simp only [RowsK] at h
    obtain ⟨y, u, s, rfl, h1, h2, h3⟩ := h
    have e : (ky false k' = ky false k) ↔ y = q := by
      unfold ky
      rw [if_neg (by decide), if_neg (by decide), h1, hk]
      simp
    rw [List.map_cons, List.map_cons, setR_row]
    by_cases z : y = q
    · rw [if_pos (e.mpr z), if_pos z]
      simp only [RowsK]
      exact ⟨y, v, _, rfl, h1, R, rowsK_map hk R h3⟩
    · rw [if_neg (fun x => z (e.mp x)), if_neg z]
      simp only [RowsK]
      exact ⟨y, u, _, rfl, h1, h2, rowsK_map hk R h3⟩
  | .tup [] :: _, _, h => by simp only [RowsK] at h
  | .tup [_] :: _, _, h => by simp only [RowsK] at h
  | .tup (_ :: _ :: _ :: _) :: _, _, h => by simp only [RowsK] at h
  | .non :: _, _, h => by simp only [RowsK] at h
  | .bl _ :: _, _, h => by simp only [RowsK] at h
  | .int _ :: _, _, h => by simp only [RowsK] at h
  | .str _ :: _, _, h => by simp only [RowsK] at h
  | .lst _ :: _, _, h => by simp only [RowsK] at h
  | .klst _ :: _, _, h => by simp only [RowsK] at h
  | .obj _ :: _, _, h => by simp only [RowsK] at h
  | .dic _ _ :: _, _, h => by simp only [RowsK] at h
  | .fdic _ _ :: _, _, h => by simp only [RowsK] at h
  | .gtup _ :: _, _, h => by simp only [RowsK] at h
theorem rowsT_map {k d : D} {q : List Key} {v : V} (hk : tkeyD k = some q) (R : Rep K w d v) : ∀ {rows : List D} {kvs : List (List Key × V)}, RowsT K w rows kvs → RowsT K w (rows.map (setR true k d)) (kvs.map fun kv => if kv.1 = q then (kv.1, v) else kv)
  | [], kvs, h => by
    simp only [RowsT] at h
    subst h
    simp only [List.map_nil, RowsT]
  | .tup [k', d'] :: r, kvs, h => by
    simp only [RowsT] at h
    obtain ⟨y, u, s, rfl, h1, h2, h3⟩ := h
    have e : (ky true k' = ky true k) ↔ y = q := by
      unfold ky
      rw [if_pos rfl, if_pos rfl, h1, hk]
      simp
    rw [List.map_cons, List.map_cons, setR_row]
    by_cases z : y = q
    · rw [if_pos (e.mpr z), if_pos z]
      simp only [RowsT]
      exact ⟨y, v, _, rfl, h1, R, rowsT_map hk R h3⟩
    · rw [if_neg (fun x => z (e.mp x)), if_neg z]
      simp only [RowsT]
      exact ⟨y, u, _, rfl, h1, h2, rowsT_map hk R h3⟩
  | .tup [] :: _, _, h => by simp only [RowsT] at h
  | .tup [_] :: _, _, h => by simp only [RowsT] at h
  | .tup (_ :: _ :: _ :: _) :: _, _, h => by simp only [RowsT] at h
  | .non :: _, _, h => by simp only [RowsT] at h
  | .bl _ :: _, _, h => by simp only [RowsT] at h
  | .int _ :: _, _, h => by simp only [RowsT] at h
  | .str _ :: _, _, h => by simp only [RowsT] at h
  | .lst _ :: _, _, h => by simp only [RowsT] at h
  | .klst _ :: _, _, h => by simp only [RowsT] at h
  | .obj _ :: _, _, h => by simp only [RowsT] at h
  | .dic _ _ :: _, _, h => by simp only [RowsT] at h
  | .fdic _ _ :: _, _, h => by simp only [RowsT] at h
  | .gtup _ :: _, _, h => by simp only [RowsT] at h
theorem rowsK_snoc {k d : D} {q : Key} {v : V} (hk : keyD k = some q) (R : Rep K w d v) : ∀ {rows : List D} {kvs : List (Key × V)}, RowsK K w rows kvs → RowsK K w (rows ++ [.tup [k, d]]) (kvs ++ [(q, v)])
  | [], kvs, h => by
    simp only [RowsK] at h
    subst h
    simp only [List.nil_append, RowsK]
    exact ⟨q, v, [], rfl, hk, R, rfl⟩
  | .tup [k', d'] :: r, kvs, h => by
    simp only [RowsK] at h
    obtain ⟨y, u, s, rfl, h1, h2, h3⟩ := h
    simp only [List.cons_append, RowsK]
    exact ⟨y, u, _, rfl, h1, h2, rowsK_snoc hk R h3⟩
  | .tup [] :: _, _, h => by simp only [RowsK] at h
  | .tup [_] :: _, _, h => by simp only [RowsK] at h
  | .tup (_ :: _ :: _ :: _) :: _, _, h => by simp only [RowsK] at h
  | .non :: _, _, h => by simp only [RowsK] at h
  | .bl _ :: _, _, h => by simp only [RowsK] at h
  | .int _ :: _, _, h => by simp only [RowsK] at h
  | .str _ :: _, _, h => by simp only [RowsK] at h
  | .lst _ :: _, _, h => by simp only [RowsK] at h
  | .klst _ :: _, _, h => by simp only [RowsK] at h
  | .obj _ :: _, _, h => by simp only [RowsK] at h
  | .dic _ _ :: _, _, h => by simp only [RowsK] at h
  | .fdic _ _ :: _, _, h => by simp only [RowsK] at h
  | .gtup _ :: _, _, h => by simp only [RowsK] at h
theorem rowsT_snoc {k d : D} {q : List Key} {v : V} (hk : tkeyD k = some q) (R : Rep K w d v) : ∀ {rows : List D} {kvs : List (List Key × V)}, RowsT K w rows kvs → RowsT K w (rows ++ [.tup [k, d]]) (kvs ++ [(q, v)])
  | [], kvs, h => by
    simp only [RowsT] at h
    subst h
    simp only [List.nil_append, RowsT]
    exact ⟨q, v, [], rfl, hk, R, rfl⟩
  | .tup [k', d'] :: r, kvs, h => by
    simp only [RowsT] at h
    obtain ⟨y, u, s, rfl, h1, h2, h3⟩ := h
    simp only [List.cons_append, RowsT]
    exact ⟨y, u, _, rfl, h1, h2, rowsT_snoc hk R h3⟩
  | .tup [] :: _, _, h => by simp only [RowsT] at h
  | .tup [_] :: _, _, h => by simp only [RowsT] at h
  | .tup (_ :: _ :: _ :: _) :: _, _, h => by simp only [RowsT] at h
  | .non :: _, _, h => by simp only [RowsT] at h
  | .bl _ :: _, _, h => by simp only [RowsT] at h
  | .int _ :: _, _, h => by simp only [RowsT] at h
  | .str _ :: _, _, h => by simp only [RowsT] at h
  | .lst _ :: _, _, h => by simp only [RowsT] at h
  | .klst _ :: _, _, h => by simp only [RowsT] at h
  | .obj _ :: _, _, h => by simp only [RowsT] at h
  | .dic _ _ :: _, _, h => by simp only [RowsT] at h
  | .fdic _ _ :: _, _, h => by simp only [RowsT] at h
  | .gtup _ :: _, _, h => by simp only [RowsT] at h
theorem optR_some {o : Option D} {u : Option V} (h : OptR K w o u) : o.isSome = u.isSome := by
  cases o <;> cases u <;> first | rfl | exact h.elim
theorem rowsK_put {k d : D} {q : Key} {v : V} (hk : keyD k = some q) (R : Rep K w d v) {rows : List D} {kvs : List (Key × V)} (h : RowsK K w rows kvs) : RowsK K w (putR false rows k d) (putK kvs q v) := by
  unfold putR putK
  rw [valV_any, ← optR_some (rowsK_val hk h)]
  split
  · exact rowsK_map hk R h
  · exact rowsK_snoc hk R h
theorem rowsT_put {k d : D} {q : List Key} {v : V} (hk : tkeyD k = some q) (R : Rep K w d v) {rows : List D} {kvs : List (List Key × V)} (h : RowsT K w rows kvs) : RowsT K w (putR true rows k d) (putK kvs q v) := by
  unfold putR putK
  rw [valV_any, ← optR_some (rowsT_val hk h)]
  split
  · exact rowsT_map hk R h
  · exact rowsT_snoc hk R h
theorem rowsK_length : ∀ {rows : List D} {kvs : List (Key × V)}, RowsK K w rows kvs → rows.length = kvs.length
  | [], kvs, h => by
    simp only [RowsK] at h
    subst h
    rfl
  | .tup [k', d'] :: r, kvs, h => by
    simp only [RowsK] at h
    obtain ⟨y, u, s, rfl, h1, h2, h3⟩ := h
    rw [List.length_cons, List.length_cons, rowsK_length h3]
  | .tup [] :: _, _, h => by simp only [RowsK] at h
  | .tup [_] :: _, _, h => by simp only [RowsK] at h
  | .tup (_ :: _ :: _ :: _) :: _, _, h => by simp only [RowsK] at h
  | .non :: _, _, h => by simp only [RowsK] at h
  | .bl _ :: _, _, h => by simp only [RowsK] at h
  | .int _ :: _, _, h => by simp only [RowsK] at h
  | .str _ :: _, _, h => by simp only [RowsK] at h
  | .lst _ :: _, _, h => by simp only [RowsK] at h
  | .klst _ :: _, _, h => by simp only [RowsK] at h
  | .obj _ :: _, _, h => by simp only [RowsK] at h
  | .dic _ _ :: _, _, h => by simp only [RowsK] at h
  | .fdic _ _ :: _, _, h => by simp only [RowsK] at h
  | .gtup _ :: _, _, h => by simp only [RowsK] at h
theorem rowsT_length : ∀ {rows : List D} {kvs : List (List Key × V)}, RowsT K w rows kvs → rows.length = kvs.length
  | [], kvs, h => by
    simp only [RowsT] at h
    subst h
    rfl
  | .tup [k', d'] :: r, kvs, h => by
    simp only [RowsT] at h
    obtain ⟨y, u, s, rfl, h1, h2, h3⟩ := h
    rw [List.length_cons, List.length_cons, rowsT_length h3]
  | .tup [] :: _, _, h => by simp only [RowsT] at h
  | .tup [_] :: _, _, h => by simp only [RowsT] at h
  | .tup (_ :: _ :: _ :: _) :: _, _, h => by simp only [RowsT] at h
  | .non :: _, _, h => by simp only [RowsT] at h
  | .bl _ :: _, _, h => by simp only [RowsT] at h
  | .int _ :: _, _, h => by simp only [RowsT] at h
  | .str _ :: _, _, h => by simp only [RowsT] at h
  | .lst _ :: _, _, h => by simp only [RowsT] at h
  | .klst _ :: _, _, h => by simp only [RowsT] at h
  | .obj _ :: _, _, h => by simp only [RowsT] at h
  | .dic _ _ :: _, _, h => by simp only [RowsT] at h
  | .fdic _ _ :: _, _, h => by simp only [RowsT] at h
  | .gtup _ :: _, _, h => by simp only [RowsT] at h
/-- a dict's rows may be locked (walked): read so or so -/
theorem valR_lock : ∀ {rows : List D} {k : D}, valR false (rows ++ [lockD]) k = valR false rows k
  | [], _ => rfl
  | .tup [k', d] :: r, k => by simp only [List.cons_append, valR, valR_lock (rows := r)]
  | .tup [] :: _, _ => rfl
  | .tup [_] :: _, _ => rfl
  | .tup (_ :: _ :: _ :: _) :: _, _ => rfl
  | .non :: _, _ => rfl
  | .bl _ :: _, _ => rfl
  | .int _ :: _, _ => rfl
  | .str _ :: _, _ => rfl
  | .lst _ :: _, _ => rfl
  | .klst _ :: _, _ => rfl
  | .obj _ :: _, _ => rfl
  | .dic _ _ :: _, _ => rfl
  | .fdic _ _ :: _, _ => rfl
  | .gtup _ :: _, _ => rfl
theorem entK_rd {a : Addr} {L : Lk} {xs : List D} {o : HO} (h : H a = some o) (r : EntR K w (some (.b false)) L xs o) : ∃ kvs, Rd H a (.dK kvs) ∧ kvs.length ≤ sizeLine ∧ ∃ rows, RowsK K w rows kvs ∧ ∀ k, valR false xs k = valR false rows k := by
  rcases r with ⟨_, kvs, rfl, n, r⟩ | ⟨_, rows, ob, kvs, _, rfl, rfl, n, r⟩ | ⟨z, _⟩
  · exact ⟨kvs, .inl h, n, xs, r, fun _ => rfl⟩
  · exact ⟨kvs, .inr ⟨ob, h⟩, n, rows, r, fun _ => valR_lock⟩
  · cases z
/-- the object of a dict -/
theorem dic_obj {d : D} {v : V} {t : Bool} {rows : List D} (W : Wld K w st H) (R : Rep K w d v) (e : dicOf st d = some (t, rows)) : ∃ a o L, v = .ref a ∧ H a = some o ∧ EntR K w (some (.b t)) L rows o := by
  cases d with
  | dic kd i =>
    rcases kd with t' | c | _ | c
    rotate_left
    · cases e
    · cases e
    · cases e
    simp only [Rep] at R
    obtain ⟨a, rfl, q, q2, _⟩ := R
    obtain ⟨g, ys, o, h1, h2, h3⟩ := W.at_ i a q
    have e' : (st[i]?).map (fun xs => (t', xs)) = some (t, rows) := e
    rw [h1] at e'
    cases e'
    rw [q2] at h3
    exact ⟨a, o, _, rfl, h2, h3⟩
  | fdic kd rs =>
    rcases kd with t' | c | _ | c
    rotate_left
    · cases e
    · cases e
    · cases e
    cases e
    cases t with
    | false =>
      simp only [Rep] at R
      obtain ⟨a, kvs, rfl, q, n, r⟩ := R
      exact ⟨a, _, none, rfl, W.same _ _ q, .inl ⟨rfl, kvs, rfl, n, r⟩⟩
    | true =>
      simp only [Rep] at R
      obtain ⟨a, kvs, rfl, q, n, r⟩ := R
      exact ⟨a, _, none, rfl, W.same _ _ q, .inl ⟨rfl, kvs, rfl, n, r⟩⟩
  | _ => cases e
theorem dic_isD {d : D} {v : V} {t : Bool} {rows : List D} (W : Wld K w st H) (R : Rep K w d v) (e : dicOf st d = some (t, rows)) : ∃ a, v = .ref a ∧ IsD H a := by
  obtain ⟨a, o, L, rfl, h, r⟩ := dic_obj W R e
  cases t with
  | false =>
    obtain ⟨kvs, hr, _⟩ := entK_rd h r
    exact ⟨a, rfl, .inl ⟨kvs, hr⟩⟩
  | true =>
    obtain ⟨kvs, rfl, _⟩ := r.dT
    exact ⟨a, rfl, .inr ⟨kvs, .inl h⟩⟩
/-- what a dict holds at a key -/
theorem dic_get {d k : D} {v y : V} {t : Bool} {rows : List D} (W : Wld K w st H) (R : Rep K w d v) (e : dicOf st d = some (t, rows)) (Rk : Rep K w k y) (hk : (ky t k).isSome = true) : ∃ a o, v = .ref a ∧ DGet H a y o ∧ OptR K w (valR t rows k) o := by
  obtain ⟨a, o, L, rfl, h, r⟩ := dic_obj W R e
  cases t with
  | false =>
    obtain ⟨kvs, hr, _, rows', r, er⟩ := entK_rd h r
    cases hq : keyD k with
    | none =>
      unfold ky at hk
      rw [if_neg (by decide), hq] at hk
      cases hk
    | some q =>
      rw [key_rep Rk hq]
      exact ⟨a, _, rfl, .inl ⟨kvs, q, hr, rfl, rfl⟩, by rw [er]; exact rowsK_val hq r⟩
  | true =>
    obtain ⟨kvs, rfl, _, r⟩ := r.dT
    cases hq : tkeyD k with
    | none =>
      unfold ky at hk
      rw [if_pos rfl, hq] at hk
      cases hk
    | some q =>
      obtain ⟨b, rfl, g⟩ := tkey_rep Rk hq
      exact ⟨a, _, rfl, .t h (W.same _ _ g), rowsT_val hq r⟩
/-- the heap behind d[k] = x -/
theorem dic_put {k x : D} {v y u : V} {t : Bool} {i : Nat} {rows : List D} (W : Wld K w st H) (R : Rep K w (.dic t i) v) (e : st[i]? = some rows) (Rk : Rep K w k y) (hk : (ky t k).isSome = true) (Rx : Rep K w x u) (hn : rows.length < 16777216) (ok : okRows rows = true) :
    ∃ a H', v = .ref a ∧ DPut H a y u H' ∧ Wld K w (st.set i (putR t rows k x)) H' := by
  simp only [Rep] at R
  obtain ⟨a, rfl, q, q2, _⟩ := R
  obtain ⟨g, ys, o, h1, h2, h3⟩ := W.at_ i a q
  rw [e] at h1
  cases h1
  rw [q2] at h3
  have hl := h3.un (.inr ok)
  cases t with
  | false =>
    obtain ⟨kvs, rfl, _, r⟩ := h3.dK ok
    cases hq : keyD k with
    | none =>
      unfold ky at hk
      rw [if_neg (by decide), hq] at hk
      cases hk
    | some z =>
      rw [key_rep Rk hq]
      have hz : kvs.length < sizeLine := by rw [← rowsK_length r, sizeLine_eq]; exact hn
      refine ⟨a, _, rfl, .k h2 hz, W.wrK q ?_⟩
      rw [q2]
      exact .inl ⟨hl, _, rfl, by have := length_putK kvs z u; omega, rowsK_put hq Rx r⟩
  | true =>
    obtain ⟨kvs, rfl, _, r⟩ := h3.dT
    cases hq : tkeyD k with
    | none =>
      unfold ky at hk
      rw [if_pos rfl, hq] at hk
      cases hk
    | some z =>
      obtain ⟨b, rfl, gb⟩ := tkey_rep Rk hq
      have hz : kvs.length < sizeLine := by rw [← rowsT_length r, sizeLine_eq]; exact hn
      refine ⟨a, _, rfl, .t h2 (W.same _ _ gb) hz, W.wrK q ?_⟩
      rw [q2]
      exact .inl ⟨hl, _, rfl, by have := length_putK kvs z u; omega, rowsT_put hq Rx r⟩
end

/-! ### readings -/
/-- {} -/
def dNewD (t : Bool) : DE := fun _ st k => k (.dic t st.length) (st ++ [[]])
def getD (d y : D) (st : Sto) (k : DK) : Prop := match dicOf st d with
  | some (t, rows) => (ky t y).isSome = true ∧ ∃ x, valR t rows y = some x ∧ k x st
  | none => False
def getOrD (x : D) (d y : D) (st : Sto) (k : DK) : Prop := match dicOf st d with
  | some (t, rows) => (ky t y).isSome = true ∧ k ((valR t rows y).getD x) st
  | none => False
def putD (o i v : D) (st : Sto) (k : Sto → Prop) : Prop := match o with
  | .dic (.b t) j => match st[j]? with
    | some rows => (ky t i).isSome = true ∧ rows.length < 16777216 ∧ okRows rows = true ∧ k (st.set j (putR t rows i v))
    | none => False
  | _ => False
def dGet2 (td ty tx : DE) : DE := fun env st k => td env st fun d s1 => (dicOf s1 d).isSome = true ∧ ty env s1 fun y s2 => tx env s2 fun x s3 => getOrD x d y s3 k
def dgPut (to ti : DE) : DG := fun v env st k => to env st fun o s1 => ti env s1 fun i s2 => putD o i v s2 fun s3 => k env s3
section
variable {X : Cx} {o i e f : Expr} {pos apos cpos : Pos} {to ti td ty tx : DE}
theorem pd_dnewT : PD X (.Dict [] [] pos) (dNewD true) := by
  refine pe_dnewT.wk fun σ H Q ⟨w, env, st, kk, W, E, h, fo⟩ p hp => ?_
  refine fo _ _ _ _ _ h (Le.addK (W.nas hp)) (W.addK hp (k := some (.b true)) ⟨[], rfl, Nat.zero_le _, by simp only [RowsT]⟩) ?_
  simp only [Rep]
  refine ⟨p, rfl, ?_, if_pos rfl, trivial⟩
  show (w.as ++ [p])[st.length]? = some p
  rw [← W.len, List.getElem?_concat_length]
theorem pd_dget (hu : X.A.units + 64 < cLine) (ho : PD X o to) (hi : PD X i ti) (hs : NoSl i := by exact fun _ _ => rfl) : PD X (.Subscript o i pos) (dOp getD to ti) := by
  refine (pe_dget (by omega) ho hi hs).wk fun σ H Q ⟨w, env, st, kk, W, E, h, fo⟩ => ?_
  refine ⟨w, env, st, _, W, E, h, fun d st1 v w1 H1 h1 l1 W1 R1 => ⟨w1, env, st1, _, W1, E.mono l1, h1, fun y st2 u w2 H2 h2 l2 W2 R2 => ?_⟩⟩
  unfold getD at h2
  split at h2
  · rename_i t rows hd
    obtain ⟨hk, x, hx, h2⟩ := h2
    obtain ⟨a, ov, rfl, g, r⟩ := dic_get W2 (Rep.mono l2 _ _ R1) hd R2 hk
    rw [hx] at r
    cases ov with
    | none => exact r.elim
    | some z => exact ⟨a, z, rfl, g, fo _ _ _ _ _ h2 (l1.trans l2) W2 r⟩
  · exact h2.elim
theorem isD_of {K : PySem.W.Frag} {w : Wd} {st : Sto} {H : Hp} {d : D} {v : V} (W : Wld K w st H) (R : Rep K w d v) (h : (dicOf st d).isSome = true) : ∃ a, v = .ref a ∧ IsD H a := by
  cases e : dicOf st d with
  | none => rw [e] at h; cases h
  | some p => exact dic_isD W R (t := p.1) (rows := p.2) e
theorem getD_optR {K : PySem.W.Frag} {w : Wd} {a : Option D} {b : Option V} {x : D} {z : V} (r : OptR K w a b) (R : Rep K w x z) : Rep K w (a.getD x) (b.getD z) := by
  cases a <;> cases b <;> first | exact R | exact r | exact r.elim
theorem pd_dget2 (hu : X.A.units + 64 < cLine) (ho : PD X o td) (he : PD X e ty) (hf : PD X f tx)
    (b : attributeBase o "get" X.env (eval o X.env) = eval o X.env := by rfl)
    (f1 : ((backTo cpos (starEach [e, f] X.env)).all (fun x => !x.1) && (backToKw cpos (keywordEach [] X.env)).all (fun x => x.1.isSome)
      && decide (([e, f] : List Expr).length + ([] : List Keyword).length + (if ([] : List Keyword).isEmpty then 0 else 1) < 30)) = true := by rfl)
    (l : (apos.endLine == cpos.line) = true := by rfl) (tr : backTo cpos (starEach [e, f] X.env) = [(false, eval e X.env), (false, eval f X.env)] := by rfl) : PD X (.Call (.Attribute o "get" apos) [e, f] [] cpos) (dGet2 td ty tx) := by
  refine (pe_dget2 (by omega) ho he hf ⟨b, f1, l, tr⟩).wk fun σ H Q ⟨w, env, st, kk, W, E, h, fo⟩ => ?_
  refine ⟨w, env, st, _, W, E, h, fun d st1 v w1 H1 ⟨hd1, h1⟩ l1 W1 R1 => ?_⟩
  obtain ⟨a, rfl, isd⟩ := isD_of W1 R1 hd1
  refine ⟨a, rfl, isd, w1, env, st1, _, W1, E.mono l1, h1, fun y st2 u w2 H2 h2 l2 W2 R2 => ⟨w2, env, st2, _, W2, (E.mono l1).mono l2, h2, fun x st3 z w3 H3 h3 l3 W3 R3 => ?_⟩⟩
  unfold getOrD at h3
  split at h3
  · rename_i t rows hd
    obtain ⟨a', ov, ea, g, r⟩ := dic_get W3 (Rep.mono (l2.trans l3) _ _ R1) hd (Rep.mono l3 _ _ R2) h3.1
    cases ea
    exact ⟨ov, g, fo _ _ _ _ _ h3.2 ((l1.trans l2).trans l3) W3 (getD_optR r R3)⟩
  · exact h3.elim
/-- the setter of a dict's items -/
def rSetD (K : PySem.W.Frag) : TSet := fun x y v H Q => ∃ a H', x = .ref a ∧ DPut H a y v H' ∧ Q H'
theorem set_dict (hu : X.A.units + 64 < cLine) : PSet X (rSetD X.K) := by
  rintro pins s σ H x y v xv yv u Q I rx ry rv ⟨a, H', rfl, g, q⟩
  cases rx
  exact d_setItem (by omega) I g ry rv fun s' I' => ⟨H', I', q⟩
theorem pdg_put (hu : X.A.units + 64 < cLine) (ho : PD X o to) (hi : PD X i ti)
    (ha : ∀ v, assign (.Subscript o i pos) X.env v = (do
      let ov ← holding [v] (eval o X.env)
      let iv ← holding [v, ov] (eval i X.env)
      standAt pos
      holding [v, ov, iv] (setItem ov iv v)
      release [v, ov, iv] []) := by intro _; rfl) : PDG X (.Subscript o i pos) (dgPut to ti) := by
  refine L2.PG.wk (pg_sub ho hi (set_dict hu) ha) fun v σ H Q ⟨w, env, st, d, nx, W, E, R, h, fn⟩ => ?_
  refine ⟨w, env, st, _, W, E, h, fun d1 st1 v1 w1 H1 h1 l1 W1 R1 => ⟨w1, env, st1, _, W1, E.mono l1, h1, fun d2 st2 v2 w2 H2 h2 l2 W2 R2 => ?_⟩⟩
  unfold putD at h2
  split at h2
  · split at h2
    · rename_i rows hj
      obtain ⟨hk, hn, hok, h2⟩ := h2
      obtain ⟨a, H', rfl, g, W3⟩ := dic_put W2 (Rep.mono l2 _ _ R1) hj R2 hk (Rep.mono (l1.trans l2) _ _ R) hn hok
      exact ⟨a, H', rfl, g, fn _ _ _ _ _ h2 (l1.trans l2) W3 (E.mono (l1.trans l2))⟩
    · exact h2.elim
  · exact h2.elim
end
end DL

/-! DLJ: sorted of a dict's keys and of its values. -/
namespace DL
open PySem PySem.Spec PyProof.Rows L2
def valsR : List D → List D
  | .tup [_, v] :: r => v :: valsR r
  | _ => []
theorem valsR_lock : ∀ {rows : List D}, valsR (rows ++ [lockD]) = valsR rows
  | [] => rfl
  | .tup [k, d] :: r => by simp only [List.cons_append, valsR, valsR_lock (rows := r)]
  | .tup [] :: _ => rfl
  | .tup [_] :: _ => rfl
  | .tup (_ :: _ :: _ :: _) :: _ => rfl
  | .non :: _ => rfl
  | .bl _ :: _ => rfl
  | .int _ :: _ => rfl
  | .str _ :: _ => rfl
  | .lst _ :: _ => rfl
  | .klst _ :: _ => rfl
  | .obj _ :: _ => rfl
  | .dic _ _ :: _ => rfl
  | .fdic _ _ :: _ => rfl
  | .gtup _ :: _ => rfl
section
variable {K : PySem.W.Frag} {w : Wd} {st : Sto} {H : Hp} {X : Cx}
/-! ### evaluation -/
variable {kk : DK} {i : Nat} {rows : List D} {y x d : D} {t : Bool}
theorem e_dnew : dNewD t env st kk = kk (.dic t st.length) (st ++ [[]]) := rfl
theorem e_dget (h : st[i]? = some rows) : getD (.dic t i) y st kk = ((ky t y).isSome = true ∧ ∃ x, valR t rows y = some x ∧ kk x st) := by simp [getD, dicOf, h]
theorem e_dgetF : getD (.fdic t rows) y st kk = ((ky t y).isSome = true ∧ ∃ x, valR t rows y = some x ∧ kk x st) := rfl
theorem e_dgetOr (h : st[i]? = some rows) : getOrD x (.dic t i) y st kk = ((ky t y).isSome = true ∧ kk ((valR t rows y).getD x) st) := by simp [getOrD, dicOf, h]
theorem e_dput {ks : Sto → Prop} (h : st[i]? = some rows) : putD (.dic t i) y x st ks = ((ky t y).isSome = true ∧ rows.length < 16777216 ∧ okRows rows = true ∧ ks (st.set i (putR t rows y x))) := by simp [putD, h]
theorem e_dsome (h : st[i]? = some rows) : (dicOf st (.dic t i)).isSome = true := by simp [dicOf, h]
theorem e_dget2 {td ty tx : DE} {env : Env} : dGet2 td ty tx env st kk = td env st fun d s1 => (dicOf s1 d).isSome = true ∧ ty env s1 fun y s2 => tx env s2 fun x s3 => getOrD x d y s3 kk := rfl
theorem e_dgPut {to ti : DE} {env : Env} {v : D} {ke : Env → Sto → Prop} : dgPut to ti v env st ke = to env st fun o s1 => ti env s1 fun i s2 => putD o i v s2 fun s3 => ke env s3 := rfl
theorem e_drG {ds : List D} : deref st (.gtup ds) = .tup ds := rfl
theorem e_kyI {n : Int} : (ky false (.int n)).isSome = true := rfl
theorem e_kyS {n : Str} : (ky false (.str n)).isSome = true := rfl
end
/-! ### tables -/
section
variable {κ α : Type} [DecidableEq κ]
def look : List (κ × α) → κ → Option α
  | [], _ => none
  | p :: r, k => if p.1 = k then some p.2 else look r k
/-- in its place, or at the end -/
def putL (ks : List (κ × α)) (k : κ) (a : α) : List (κ × α) := if (look ks k).isSome = true then ks.map (fun p => if p.1 = k then (p.1, a) else p) else ks ++ [(k, a)]
/-- keys as data -/
structure KeyE (t : Bool) (e : κ → D) : Prop where
  some : ∀ a, (ky t (e a)).isSome = true
  inj : ∀ a b, ky t (e a) = ky t (e b) → a = b
def tabR (e : κ → D) (f : α → D) (ks : List (κ × α)) : List D := ks.map fun p => .tup [e p.1, f p.2]
variable {t : Bool} {e : κ → D} {f : α → D}
theorem valR_tab (h : KeyE t e) (k : κ) : ∀ ks : List (κ × α), valR t (tabR e f ks) (e k) = (look ks k).map f
  | [] => rfl
  | p :: r => by
    show (if ky t (e p.1) = ky t (e k) then some (f p.2) else valR t (tabR e f r) (e k)) = _
    unfold look
    by_cases z : p.1 = k
    · rw [if_pos (by rw [z]), if_pos z]; rfl
    · rw [if_neg (fun q => z (h.inj _ _ q)), if_neg z]
      exact valR_tab h k r
theorem putR_tab (h : KeyE t e) (k : κ) (a : α) (ks : List (κ × α)) : putR t (tabR e f ks) (e k) (f a) = tabR e f (putL ks k a) := by
  unfold putR putL
  rw [valR_tab h, Option.isSome_map]
  by_cases z : (look ks k).isSome = true
  · rw [if_pos z, if_pos z]
    unfold tabR
    rw [List.map_map, List.map_map]
    refine List.map_congr_left fun p _ => ?_
    show setR t (e k) (f a) (.tup [e p.1, f p.2]) = _
    rw [setR_row]
    by_cases y : p.1 = k
    · rw [if_pos (by rw [y])]
      simp [y]
    · rw [if_neg (fun q => y (h.inj _ _ q))]
      simp [y]
  · rw [if_neg z, if_neg z]
    unfold tabR
    rw [List.map_append]
    rfl
theorem tabR_length (ks : List (κ × α)) : (tabR e f ks).length = ks.length := List.length_map _
theorem valsR_tab : ∀ ks : List (κ × α), valsR (tabR e f ks) = ks.map fun p => f p.2
  | [] => rfl
  | p :: r => congrArg (f p.2 :: ·) (valsR_tab r)
theorem look_app (ks ls : List (κ × α)) (k : κ) : look (ks ++ ls) k = match look ks k with
    | some a => some a
    | none => look ls k := by
  induction ks with
  | nil => rfl
  | cons p r ih =>
    show (if p.1 = k then some p.2 else look (r ++ ls) k) = match (if p.1 = k then some p.2 else look r k) with
      | some a => some a
      | none => look ls k
    by_cases z : p.1 = k
    · rw [if_pos z, if_pos z]
    · rw [if_neg z, if_neg z]
      exact ih
theorem look_map (k j : κ) (a : α) : ∀ ks : List (κ × α), look (ks.map (fun p => if p.1 = k then (p.1, a) else p)) j = if j = k then (look ks j).map (fun _ => a) else look ks j
  | [] => by simp [look]
  | p :: r => by
    have ih := look_map k j a r
    rw [List.map_cons]
    by_cases h : p.1 = k
    · rw [if_pos h]
      by_cases q : p.1 = j
      · have jk : j = k := q.symm.trans h
        simp [look, q, jk]
      · have : look ((p.1, a) :: r.map (fun p => if p.1 = k then (p.1, a) else p)) j = look (r.map (fun p => if p.1 = k then (p.1, a) else p)) j := if_neg q
        rw [this, ih]
        simp [look, q]
    · rw [if_neg h]
      by_cases q : p.1 = j
      · have : ¬ j = k := fun z => h (q.trans z)
        simp [look, q, this]
      · have : look (p :: r.map (fun p => if p.1 = k then (p.1, a) else p)) j = look (r.map (fun p => if p.1 = k then (p.1, a) else p)) j := if_neg q
        rw [this, ih]
        simp [look, q]
theorem look_put (ks : List (κ × α)) (k j : κ) (a : α) : look (putL ks k a) j = if j = k then some a else look ks j := by
  unfold putL
  by_cases z : (look ks k).isSome = true
  · rw [if_pos z, look_map]
    by_cases q : j = k
    · rw [if_pos q, if_pos q, q]
      cases h : look ks k with
      | none => rw [h] at z; cases z
      | some b => rfl
    · rw [if_neg q, if_neg q]
  · rw [if_neg z, look_app]
    have hn : look ks k = none := by
      cases h : look ks k with
      | none => rfl
      | some b => rw [h] at z; exact absurd rfl z
    by_cases q : j = k
    · rw [if_pos q, q, hn]
      simp [look]
    · rw [if_neg q]
      cases look ks j with
      | none => simp [look, Ne.symm q]
      | some b => rfl
theorem look_none {ks : List (κ × α)} {k : κ} : look ks k = none ↔ k ∉ ks.map (·.1) := by
  induction ks with
  | nil => exact ⟨fun _ => List.not_mem_nil, fun _ => rfl⟩
  | cons p r ih =>
    rw [List.map_cons, List.mem_cons, not_or, ← ih]
    show (if p.1 = k then some p.2 else look r k) = none ↔ _
    by_cases z : p.1 = k
    · rw [if_pos z]
      refine ⟨fun h => (by cases h), fun h => absurd z.symm h.1⟩
    · rw [if_neg z]
      refine ⟨fun h => ⟨fun q => z q.symm, h⟩, fun h => h.2⟩
theorem look_of_mem {ks : List (κ × α)} (nd : (ks.map (·.1)).Nodup) {p : κ × α} (h : p ∈ ks) : look ks p.1 = some p.2 := by
  induction ks with
  | nil => cases h
  | cons q r ih =>
    rw [List.map_cons, List.nodup_cons] at nd
    show (if q.1 = p.1 then some q.2 else look r p.1) = _
    rcases List.mem_cons.mp h with e | e
    · subst e
      rw [if_pos rfl]
    · have : ¬ q.1 = p.1 := fun z => nd.1 (by rw [z]; exact List.mem_map.mpr ⟨p, e, rfl⟩)
      rw [if_neg this]
      exact ih nd.2 e
theorem putL_new {ks : List (κ × α)} {k : κ} {a : α} (h : look ks k = none) : putL ks k a = ks ++ [(k, a)] := by
  unfold putL
  rw [h]
  exact if_neg (fun z => by cases z)
theorem putL_length (ks : List (κ × α)) (k : κ) (a : α) : (putL ks k a).length ≤ ks.length + 1 := by
  unfold putL
  split
  · rw [List.length_map]; omega
  · rw [List.length_append]; simp
end
/-! ### a def's own objects -/
theorem belows_0 {n : Nat} {xs : List D} (h : belows 0 xs = true) : belows n xs = true := belows_mono (Nat.zero_le n) xs h
theorem frzs_tup : ∀ (loc : List (List D)) (n : Nat) (xs : List D), frzs n loc (.tup xs) = .tup (xs.map (frzs n loc))
  | [], n, xs => by
    show D.tup xs = .tup (xs.map fun d => d)
    rw [List.map_id']
  | a :: r, n, xs => by
    show sub n (a.map (frzs (n + 1) r)) (frzs (n + 1) r (.tup xs)) = _
    rw [frzs_tup r (n + 1) xs]
    simp only [sub, subs_map, List.map_map]
    rfl
theorem frzs_closed {n : Nat} {loc : List (List D)} {d : D} (h : below 0 d = true) : frzs n loc d = d := frzs_below loc n d (below_mono (Nat.zero_le n) d h)
theorem map_closed {n : Nat} {loc : List (List D)} {xs : List D} (h : belows 0 xs = true) : xs.map (frzs n loc) = xs := by
  have : ∀ d ∈ xs, frzs n loc d = id d := fun d m => frzs_closed (belows_mem h m)
  rw [List.map_congr_left this, List.map_id]
theorem frzs_obj : ∀ (loc : List (List D)) (n a : Nat) (xs : List D), (∀ c ∈ loc, belows 0 c = true) → n ≤ a → loc[a - n]? = some xs → frzs n loc (.obj a) = .lst xs
  | [], n, a, xs, _, _, e => by simp at e
  | b :: r, n, a, xs, hc, l, e => by
    have hb := hc b List.mem_cons_self
    show sub n (b.map (frzs (n + 1) r)) (frzs (n + 1) r (.obj a)) = _
    rw [map_closed hb]
    by_cases z : a = n
    · subst z
      rw [Nat.sub_self] at e
      cases e
      rw [frzs_below r (a + 1) (.obj a) (by simp only [below, decide_eq_true_eq]; omega)]
      simp only [sub, if_true]
    · rw [show a - n = (a - (n + 1)) + 1 by omega, List.getElem?_cons_succ] at e
      rw [frzs_obj r (n + 1) a xs (fun c m => hc c (List.mem_cons_of_mem _ m)) (by omega) e]
      refine sub_below _ ?_
      simp only [below]
      exact belows_0 (hc xs (List.mem_cons_of_mem _ (List.mem_of_getElem? e)))
theorem safe_closed : ∀ (loc : List (List D)) (n : Nat), (∀ c ∈ loc, belows 0 c = true) → SafeLoc n loc
  | [], _, _ => trivial
  | b :: r, n, hc => by
    refine ⟨?_, safe_closed r (n + 1) fun c m => hc c (List.mem_cons_of_mem _ m)⟩
    have hb := hc b List.mem_cons_self
    rw [map_closed hb]
    exact belows_0 hb
end DL

/-! DLK: len(set(xs)) of a list of numbers. -/
namespace DL
open PySem PySem.Spec PyProof.Rows L2
section
variable {X : Cx} {e : Expr} {ta : DE} {p p2 pos2 pos : Pos}
/-! a sum of lists that is changed later: a list of the store -/
def addNewD : F2 := fun d e st k => match derefM st d, derefM st e with
  | some a, some b => a.length + b.length ≤ 16777216 ∧ k (.obj st.length) (st ++ [a ++ b])
  | _, _ => False
theorem dop_addNew : OpR X (binaryOp .Add) (rD X.K addNewD) := by
  refine OpR.by_ fun x y H Q w st d e kk W R1 R2 q fo => ?_
  unfold addNewD at q
  split at q
  · rename_i a b h1 h2
    obtain ⟨p, vs, rfl, q1, r1, _⟩ := rep_lstM W R1 h1
    obtain ⟨p2, us, rfl, q2, r2, _⟩ := rep_lstM W R2 h2
    have n' : vs.length + us.length ≤ sizeLine := by rw [r1.length, r2.length]; exact line16 q.1
    exact ⟨rCat, op_cat, p, p2, vs, us, rfl, rfl, q1, q2, n', fol_new W (r1.append r2) (by rw [List.length_append]; exact n') q.2 fo⟩
  · exact q.elim
theorem e_addNewOL {i : Nat} {a b : List D} {st : Sto} {k : DK} (h : st[i]? = some a) : addNewD (.obj i) (.lst b) st k = (a.length + b.length ≤ 16777216 ∧ k (.obj st.length) (st ++ [a ++ b])) := by simp [addNewD, derefM, deref, h]
end
end DL

/-! DLL: texts joined. -/
namespace DL
open PySem PySem.Spec PyProof.Rows L2
section
variable {X : Cx} {o e : Expr} {td te : DE}
def strsD : List D → Option (List Str)
  | [] => some []
  | .str z :: r => (strsD r).map (z :: ·)
  | _ :: _ => none
theorem strsD_eq : ∀ {xs : List D} {zs : List Str}, strsD xs = some zs → xs = zs.map D.str
  | [], zs, h => by cases h; rfl
  | d :: r, zs, h => by
    cases d with
    | str z =>
      simp only [strsD] at h
      cases hr : strsD r with
      | none => rw [hr] at h; cases h
      | some ys =>
        rw [hr] at h
        cases h
        rw [strsD_eq hr]
        rfl
    | _ => simp only [strsD] at h; cases h
theorem strsD_map : ∀ zs : List Str, strsD (zs.map D.str) = some zs
  | [] => rfl
  | z :: r => by
    show (strsD (r.map D.str)).map (z :: ·) = _
    rw [strsD_map r]
    rfl
/-- a.join(xs), xs a list of texts -/
def joinK (a : D) (e : D) (st : Sto) (k : DK) : Prop := match a, deref st e with
  | .str a, .lst xs => match strsD xs with
    | some ys => (ys.map (·.length)).sum + ys.length * a.length ≤ 16777216 ∧ k (.str (Txt.join a ys)) st
    | none => False
  | _, _ => False
def dJoin (to te : DE) : DE := fun env st k => to env st fun d s1 => (∃ a, d = .str a) ∧ te env s1 fun e s2 => joinK d e s2 k
theorem pd_join {apos pos : Pos} (ho : PD X o td) (he : PD X e te) (hs : starEach [e] X.env = [(false, eval e X.env)] := by rfl) (hbase : attributeBase o "join" X.env (eval o X.env) = eval o X.env := by rfl) (hline : (apos.endLine == pos.line) = true := by rfl) :
    PD X (.Call (.Attribute o "join" apos) [e] [] pos) (dJoin td te) := by
  refine (pe_join ho he hs hbase hline).wk fun σ H Q ⟨w, env, st, kk, W, E, h, fo⟩ => ?_
  refine ⟨w, env, st, _, W, E, h, fun d st1 v w1 H1 ⟨hd1, h1⟩ l1 W1 R1 => ?_⟩
  obtain ⟨a, rfl⟩ := hd1
  simp only [Rep] at R1
  subst R1
  refine ⟨⟨a, rfl⟩, w1, env, st1, _, W1, E.mono l1, h1, fun y st2 u w2 H2 h2 l2 W2 R2 => ?_⟩
  unfold joinK at h2
  split at h2
  · rename_i a' xs ea hd
    cases ea
    split at h2
    · rename_i ys hy
      obtain ⟨p, us, rfl, q1, r1, n⟩ := rep_lst W2 R2 hd
      rw [strsD_eq hy] at r1
      rw [Reps.strs r1] at q1
      exact ⟨a, p, ys, rfl, rfl, .inl q1, h2.1, fo _ _ _ _ _ h2.2 (l1.trans l2) W2 rep_str⟩
    · exact h2.elim
  · exact h2.elim
theorem e_join {env : DL.Env} {st : Sto} {k : DK} : dJoin td te env st k = td env st fun d s1 => (∃ a, d = .str a) ∧ te env s1 fun e s2 => joinK d e s2 k := rfl
theorem e_joinL {a : Str} {zs : List Str} {st : Sto} {k : DK} : joinK (.str a) (.lst (zs.map D.str)) st k = ((zs.map (·.length)).sum + zs.length * a.length ≤ 16777216 ∧ k (.str (Txt.join a zs)) st) := by simp only [joinK, deref, strsD_map]
theorem e_cutS {a : Str} {lo hi : Option Int} {st : Sto} {k : DK} : cutOp (.str a) lo hi st k = (a.length ≤ 16777216 ∧ k (.str (L2.cutS a lo hi)) st) := rfl
theorem e_mulS {a : Str} {b : Int} {st : Sto} {k : DK} : mulD (.str a) (.int b) st k = (0 ≤ b ∧ b ≤ 1 ∧ k (.str (if b < 1 then Str.empty else a)) st) := rfl
theorem e_ixS {z : Str} {i : Int} {st : Sto} {k : DK} : ixD (.str z) (.int i) st k = (z.length ≤ 16777216 ∧ ∃ c, atI z.cps.toList i = some c ∧ k (.str ⟨#[c]⟩) st) := rfl
/-! texts compared, a sign in a text: readings that take either -/
end
end DL

/-! DLM: list.remove, sorted pairs, d.values() sorted and summed, dict(pairs), lists put together again and again, o[i] += e. -/
namespace DL
open PySem PySem.Spec PyProof.Rows L2
section
variable {X : Cx} {tg e e2 o i : Expr} {es : List Expr} {pos p : Pos} {ta tb to ti td : DE}
/-! ### xs.remove(y) -/
def findD (y : D) (xs : List D) : Option Nat := xs.findIdx? fun z => eqD z y
def mRemove : FM := fun d ds st k => match d, ds with
  | .obj i, [y] => match st[i]? with
    | some xs => okDs 59 xs = true ∧ okD 60 (deref st y) = true ∧ ∃ j, findD (deref st y) xs = some j ∧ k .non (st.set i (xs.eraseIdx j))
    | none => False
  | _, _ => False
theorem find_toP {n m : Nat} {y : D} (h : okD m y = true) : ∀ (xs : List D), okDs n xs = true → SeqAt.dataPlace (toPs xs) (toP y) = findD y xs := by
  unfold SeqAt.dataPlace findD
  intro xs
  induction xs with
  | nil => intro _; rfl
  | cons x r ih =>
    intro g
    simp only [okDs, Bool.and_eq_true] at g
    simp only [toPs, List.findIdx?_cons]
    rw [eqv_toP n m x y g.1 h, ih g.2]
theorem Reps.eraseIdx {K : PySem.W.Frag} {w : Wd} : ∀ {ds : List D} {vs : List V} (j : Nat), Reps K w ds vs → Reps K w (ds.eraseIdx j) (vs.eraseIdx j)
  | [], _, _, h => by rw [h.inv0]; exact .nil
  | _ :: _, _, 0, h => by
    obtain ⟨v, r, rfl, _, h2⟩ := h.inv
    exact h2
  | _ :: _, _, j + 1, h => by
    obtain ⟨v, r, rfl, h1, h2⟩ := h.inv
    exact .cons h1 (h2.eraseIdx j)
theorem md_remove (hu : X.A.units + 64 < cLine) : MtR X "list.remove" (rDM X.K mRemove) := by
  rintro pins s σ H x xs v us Q I rx rs ⟨w, st, d, ds, kk, W, R1, R2, q, fo⟩
  unfold mRemove at q
  split at q
  · rename_i j y
    split at q
    · rename_i ys hj
      obtain ⟨k1, k2, m, hm, q⟩ := q
      obtain ⟨a, vs, rfl, ha, hH, r, n⟩ := obj_rep W R1 hj
      obtain ⟨yv, rfl, ry⟩ := one_rep R2
      cases rx
      obtain ⟨u, rfl, ru⟩ := rs.one
      have ok2 : okD 60 (deref st (.obj j)) = true := by
        have : deref st (.obj j) = .lst ys := by simp [deref, hj]
        rw [this]
        exact k1
      have hp := dp_deref W R1 ok2
      have hd : deref st (.obj j) = .lst ys := by simp [deref, hj]
      rw [hd] at hp
      obtain ⟨bs, r2⟩ := Dp.reads I _ _ _ hp (show RelV (.ref a) (.ref a) from rfl)
      obtain ⟨as, r1⟩ := Dp.reads I _ yv u (dp_deref W ry k2) ru
      obtain ⟨z, its, nn, rv, hl, e⟩ := I.lstM hH
      cases r2 with
      | list h1 h2 h3 h4 =>
        rw [e] at h1
        cases h1
        cases h3
        have hsh := shape_toPs 59 ys k1
        refine SeqAt.remove_list_data (j := m) ⟨_, e, rfl, _, rfl⟩ h4 r1 (PyData.plainAll_of_canLay0 _ hsh.1) (PyData.plain_of_canLay0 _ (shape_toP 60 _ k2).1) (in_room k2 (Nat.le_refl _) hu _) (by rw [find_toP k2 ys k1]; exact hm) (by rw [List.size_toArray, ← hl]; exact n) ?_
        refine ⟨.non, _, I.lset (its' := its.eraseIdx m) (t' := s.toks) hH e ?_ (rv.eraseIdx m) ?_, rfl, ?_⟩
        · show its.toArray.eraseIdxIfInBounds m = (its.eraseIdx m).toArray
          rw [List.eraseIdxIfInBounds_toArray]
        · exact Nat.le_trans (List.length_eraseIdx_le ..) n
        · exact fo _ _ _ _ _ q (.refl _) (W.wr ha.1 ha.2 (r.eraseIdx m) (Nat.le_trans (List.length_eraseIdx_le ..) n)) rep_non
    · exact q.elim
  · exact q.elim
theorem e_remO {st : Sto} {i : Nat} {xs : List D} {y : D} {k : DK} (h : st[i]? = some xs) : mRemove (.obj i) [y] st k = (okDs 59 xs = true ∧ okD 60 (deref st y) = true ∧ ∃ j, findD (deref st y) xs = some j ∧ k .non (st.set i (xs.eraseIdx j))) := by simp [mRemove, h]
/-! ### sorted(xs), pairs of numbers: the same ones in some order -/
def isPairB : D → Bool
  | .tup [.int _, .int _] => true
  | _ => false
def bSortedP : FB := fun ds st k => match ds with
  | [d] => match deref st d with
    | .lst xs => xs.all isPairB = true ∧ ∀ ys : List D, ys.Perm xs → k (.lst ys) st
    | _ => False
  | _ => False
theorem reps_perm {K : PySem.W.Frag} {w : Wd} {us vs : List V} (p : us.Perm vs) : ∀ {ds : List D}, Reps K w ds vs → ∃ es, es.Perm ds ∧ Reps K w es us := by
  induction p with
  | nil => intro ds h; exact ⟨ds, .refl _, h⟩
  | cons x p ih =>
    intro ds h
    cases ds with
    | nil => rw [Reps] at h; cases h
    | cons d ds =>
      obtain ⟨v, r, e, h1, h2⟩ := h.inv
      cases e
      obtain ⟨es, p1, r1⟩ := ih h2
      exact ⟨d :: es, p1.cons d, .cons h1 r1⟩
  | swap x y l =>
    intro ds h
    match ds, h with
    | [], h => rw [Reps] at h; cases h
    | [d], h =>
      obtain ⟨v, r, e, h1, h2⟩ := h.inv
      cases e
      have := h2.inv0
      cases this
    | d :: d2 :: ds, h =>
      obtain ⟨v, r, e, h1, h2⟩ := h.inv
      cases e
      obtain ⟨v2, r2, e2, h3, h4⟩ := h2.inv
      cases e2
      exact ⟨d2 :: d :: ds, .swap _ _ _, .cons h3 (.cons h1 h4)⟩
  | trans p q ih1 ih2 =>
    intro ds h
    obtain ⟨es, p1, r1⟩ := ih2 h
    obtain ⟨fs, p2, r2⟩ := ih1 r1
    exact ⟨fs, p2.trans p1, r2⟩
theorem pairs_mem {K : PySem.W.Frag} {w : Wd} {H : Hp} (s : Same w.G H) : ∀ {ds : List D} {vs : List V}, Reps K w ds vs → ds.all isPairB = true → ∀ x ∈ vs, ∃ t i j, x = V.ref t ∧ H t = some (.tup [.int i, .int j])
  | [], vs, h, _ => by
    rw [h.inv0]
    intro x hx
    cases hx
  | d :: ds, vs, h, g => by
    obtain ⟨v, r, rfl, h1, h2⟩ := h.inv
    simp only [List.all_cons, Bool.and_eq_true] at g
    intro x hx
    rcases List.mem_cons.mp hx with rfl | hx
    · have g1 := g.1
      unfold isPairB at g1
      split at g1
      · rename_i i j
        simp only [Rep] at h1
        obtain ⟨a, us, rfl, q, r1⟩ := h1
        obtain ⟨v1, r2, rfl, e1, r3⟩ := r1.inv
        obtain ⟨v2, r4, rfl, e2, r5⟩ := r3.inv
        rw [r5.inv0] at q
        simp only [Rep] at e1 e2
        subst e1 e2
        exact ⟨a, i, j, rfl, s _ _ q⟩
      · cases g1
    · exact pairs_mem s h2 g.2 x hx
theorem cb_sortedP : CallR X (.builtin "sorted") (rDB X.K bSortedP) := by
  refine CallR.by_ fun vs H Q w st ds kk W R q fo => ?_
  unfold bSortedP at q
  split at q
  · obtain ⟨v, rfl, R1⟩ := one_rep R
    split at q
    · rename_i xs hd
      obtain ⟨a, us, rfl, q1, r1, n⟩ := rep_lst W R1 hd
      refine ⟨_, cr_sortedP, a, us, rfl, q1, pairs_mem W.same r1 q.1, fun ys p hp hn => ?_⟩
      obtain ⟨es, p1, r2⟩ := reps_perm hp r1
      exact fol_lst W r2 (by rw [hp.length_eq]; exact n) (q.2 es p1) fo p hn
    · exact q.elim
  · exact q.elim
theorem e_sortedPO {st : Sto} {i : Nat} {xs : List D} {k : DK} (h : st[i]? = some xs) : bSortedP [.obj i] st k = (xs.all isPairB = true ∧ ∀ ys : List D, ys.Perm xs → k (.lst ys) st) := by simp [bSortedP, deref, h]
theorem e_sortedPL {st : Sto} {xs : List D} {k : DK} : bSortedP [.lst xs] st k = (xs.all isPairB = true ∧ ∀ ys : List D, ys.Perm xs → k (.lst ys) st) := rfl
/-! ### [..] * n, a list of the store -/
def mulNewD : F2 := fun d e st k => match d, e with
  | d, .int b => match derefM st d with
    | some a => -(2 ^ 63) ≤ b ∧ b < 2 ^ 63 ∧ a.length * b.toNat ≤ 16777216 ∧ k (.obj st.length) (st ++ [(List.replicate b.toNat a).flatten])
    | none => False
  | _, _ => False
theorem dop_mulNew : OpR X (binaryOp .Mult) (rD X.K mulNewD) := by
  refine OpR.by_ fun x y H Q w st d e kk W R1 R2 q fo => ?_
  unfold mulNewD at q
  split at q
  · split at q
    · rename_i a ha
      simp only [Rep] at R2
      obtain ⟨p, vs, rfl, q1, r1, _⟩ := rep_lstM W R1 ha
      obtain ⟨h1, h2, h3, q⟩ := q
      have n' := line16 h3
      rw [← r1.length] at n'
      refine ⟨rRep, op_rep, p, _, vs, rfl, R2, q1, h1, h2, n', fol_new W (r1.rep _) ?_ q fo⟩
      rw [PyProof.Rows.lm_len_rep_flat, Nat.mul_comm]
      exact n'
    · exact q.elim
  · exact q.elim
theorem e_mulNewL {st : Sto} {a : List D} {b : Int} {k : DK} : mulNewD (.lst a) (.int b) st k = (-(2 ^ 63) ≤ b ∧ b < 2 ^ 63 ∧ a.length * b.toNat ≤ 16777216 ∧ k (.obj st.length) (st ++ [(List.replicate b.toNat a).flatten])) := rfl
/-! ### dict(pairs) -/
def mergeR (t : Bool) (rows : List D) (ps : List (D × D)) : List D := ps.foldl (fun r p => putR t r p.1 p.2) rows
def pairsOf : List D → Option (List (D × D))
  | [] => some []
  | .tup [k, v] :: r => match keyD k, pairsOf r with
    | some _, some ps => some ((k, v) :: ps)
    | _, _ => none
  | _ => none
def bDictNew : FB := fun ds st k => match ds with
  | [d] => match deref st d with
    | .lst xs => match pairsOf xs with
      | some ps => k (.dic false st.length) (st ++ [mergeR false [] ps])
      | none => False
    | _ => False
  | _ => False
theorem pairsOf_rep {K : PySem.W.Frag} {w : Wd} {H : Hp} (s : Same w.G H) : ∀ {xs : List D} {vs : List V} {ps : List (D × D)}, Reps K w xs vs → pairsOf xs = some ps →
    ∃ (as : List Addr) (kvs : List (Key × V)), vs = as.map V.ref ∧ Paired (fun p kv => SqT K H p [kV kv.1, kv.2]) as kvs ∧ ∀ (rows : List D) (k0 : List (Key × V)), RowsK K w rows k0 → RowsK K w (mergeR false rows ps) (mergeK k0 kvs)
  | [], vs, ps, h, e => by
    cases e
    rw [h.inv0]
    exact ⟨[], [], rfl, .nil, fun _ _ r => r⟩
  | x :: xs, vs, ps, h, e => by
    obtain ⟨v, r, rfl, h1, h2⟩ := h.inv
    match x, e, h1 with
    | .tup [k, d], e, h1 =>
      unfold pairsOf at e
      cases hk : keyD k with
      | none => rw [hk] at e; cases e
      | some y =>
        cases hp : pairsOf xs with
        | none => rw [hk, hp] at e; cases e
        | some qs =>
          rw [hk, hp] at e
          cases e
          obtain ⟨as, kvs, rfl, pr, m⟩ := pairsOf_rep s h2 hp
          simp only [Rep] at h1
          obtain ⟨a, us, rfl, q, r1⟩ := h1
          obtain ⟨v1, r2, rfl, e1, r3⟩ := r1.inv
          obtain ⟨v2, r4, rfl, e2, r5⟩ := r3.inv
          rw [r5.inv0] at q
          rw [key_rep e1 hk] at q
          refine ⟨a :: as, (y, v2) :: kvs, rfl, .cons (.inl (.inl (s _ _ q))) pr, fun rows k0 rr => ?_⟩
          exact m _ _ (rowsK_put hk e2 rr)
theorem cb_dictP (hc : X.calm = true) : CallR X (.type "dict") (rDB X.K bDictNew) := by
  refine CallR.by_ fun vs H Q w st ds kk W R q fo => ?_
  unfold bDictNew at q
  split at q
  · obtain ⟨v, rfl, R1⟩ := one_rep R
    split at q
    · rename_i xs hd
      split at q
      · rename_i ps hp
        obtain ⟨a, us, rfl, q1, r1, n⟩ := rep_lst W R1 hd
        obtain ⟨as, kvs, rfl, pr, m⟩ := pairsOf_rep W.same r1 hp
        refine ⟨_, call_dictP hc, a, as, kvs, rfl, q1, pr, fun p hn => ?_⟩
        have rr := m [] [] (by simp only [RowsK])
        have hl : kvs.length ≤ sizeLine := by
          have := Paired.length pr
          rw [List.length_map] at n
          omega
        refine fo _ _ _ _ _ q (Le.addK (W.nas hn)) (W.addK hn (k := some (.b false)) ⟨_, rfl, ?_, rr⟩) ?_
        · have := length_mergeK kvs ([] : List (Key × V))
          rw [List.length_nil] at this
          omega
        · simp only [Rep]
          refine ⟨p, rfl, ?_, if_pos rfl, trivial⟩
          show (w.as ++ [p])[st.length]? = some p
          rw [← W.len, List.getElem?_concat_length]
      · exact q.elim
    · exact q.elim
  · exact q.elim
theorem e_dictL {st : Sto} {xs : List D} {ps : List (D × D)} {k : DK} (h : pairsOf xs = some ps) : bDictNew [.lst xs] st k = k (.dic false st.length) (st ++ [mergeR false [] ps]) := by simp [bDictNew, deref, h]
/-! ### o[i] op= e -/
end

/-! ### d.values() -/
/-- the values of a dict are these numbers -/
def DVals (H : Hp) (a : Addr) (ns : List Int) : Prop := (∃ kvs, Rd H a (.dK kvs) ∧ kvs.map (·.2) = ns.map V.int) ∨ ∃ kvs, Rd H a (.dT kvs) ∧ kvs.map (·.2) = ns.map V.int
section
variable {X : Cx} {o : Expr} {p pos apos mpos : Pos} {td : TE}
theorem paired_at {α β : Type} {F : α → β → Prop} : ∀ {l₁ : List α} {l₂ : List β} {i : Nat} {b : β}, Paired F l₁ l₂ → l₂[i]? = some b → ∃ a, l₁[i]? = some a ∧ F a b
  | _, _, i, b, .nil, e => by simp at e
  | _, _, 0, b, .cons h t, e => by
    cases e
    exact ⟨_, rfl, h⟩
  | _, _, i + 1, b, .cons h t, e => by
    obtain ⟨a, h1, h2⟩ := paired_at t (i := i) (b := b) (by simpa using e)
    exact ⟨a, by simpa using h1, h2⟩
theorem raw_vals {pins : List (Addr × Obj)} {σ : L2.St} {H : Hp} {s : Shared} {a : Addr} {ns : List Int} (I : Inv X pins σ H s) (h : DVals H a ns) : ns.length ≤ sizeLine ∧ (a == sysModules) = false ∧ ∃ es ep, s.heap.DictRaw a es ep ∧ es.size = ns.length ∧ ∀ (i : Nat) (hi : i < es.size), ∃ (n : Int) (t : Tok), ns[i]? = some n ∧ es[i].val = .int n t := by
  rcases h with ⟨kvs, hd, hv⟩ | ⟨kvs, hd, hv⟩
  · obtain ⟨z, lo, vs, rel, dd⟩ := dk_rd I.hok hd
    obtain ⟨es, ep, hr, hs, he⟩ := dd.raw
    have hl : kvs.length = ns.length := by
      have := congrArg List.length hv
      simpa using this
    have hl2 : kvs.length = vs.length := Paired.length rel
    refine ⟨by omega, lo, es, ep, hr, by omega, fun i hi => ?_⟩
    have hi2 : i < vs.length := by omega
    obtain ⟨_, ev⟩ := he i hi vs[i].1 vs[i].2 (by rw [List.getElem?_eq_getElem hi2])
    obtain ⟨x, h1, h2⟩ := KV.at' rel (i := i) (k := vs[i].1) (v := vs[i].2) (by rw [List.getElem?_eq_getElem hi2])
    have e1 : (kvs.map (·.2))[i]? = some x := by rw [List.getElem?_map, h1] <;> rfl
    rw [hv, List.getElem?_map] at e1
    obtain ⟨j, hj, e2⟩ := Option.map_eq_some_iff.mp e1
    subst e2
    obtain ⟨t, e3⟩ := h2
    exact ⟨j, t, hj, by rw [ev, e3]⟩
  · obtain ⟨z, lo, vs, rel, dd⟩ := dt_rd I.hok hd
    obtain ⟨es, ep, hr, hs, he⟩ := dd.raw
    have hl : kvs.length = ns.length := by
      have := congrArg List.length hv
      simpa using this
    have hl2 : kvs.length = vs.length := Paired.length rel
    refine ⟨by omega, lo, es, ep, hr, by omega, fun i hi => ?_⟩
    obtain ⟨y, hy, _, ev, _⟩ := he i hi
    obtain ⟨x, h1, h2⟩ := paired_at rel hy
    have e1 : (kvs.map (·.2))[i]? = some x.2 := by rw [List.getElem?_map, h1] <;> rfl
    rw [hv, List.getElem?_map] at e1
    obtain ⟨j, hj, e2⟩ := Option.map_eq_some_iff.mp e1
    have h22 := h2.2.2
    rw [← e2] at h22
    obtain ⟨t, e3⟩ := h22
    exact ⟨j, t, hj, by rw [ev, e3]⟩
/-- the view -/
theorem vals_view {σ : L2.St} {H : Hp} {pins : List (Addr × Obj)} {s : Shared} {R : VK} {Q : Value → Shared → Prop} (hd : PE X o td) (hbase : attributeBase o "values" X.env (eval o X.env) = eval o X.env) (hline : (apos.endLine == mpos.line) = true)
    (I : Inv X pins σ H s) (h : td σ H R) (hR : ∀ x H1, R x H1 → ∃ a ns, x = V.ref a ∧ DVals H1 a ns ∧ ∀ (s' : Shared) (v : Addr) (es : Array DictEntry) (ep : Nat), Inv X pins σ H1 s' → s'.heap.IsValuesView v a → s'.heap.DictRaw a es ep → es.size = ns.length → ns.length ≤ sizeLine →
      (∀ (i : Nat) (hi : i < es.size), ∃ (n : Int) (t : Tok), ns[i]? = some n ∧ es[i].val = .int n t) → Q (.ref v) s') :
    wpAny (model X.prog X.w) X.A (eval (.Call (.Attribute o "values" apos) [] [] mpos) X.env) Q X.xe s := by
  refine wpAny_Call_method0_late hbase hline (thn (hd.run pins s σ H _ I h) fun v s1 ⟨x, H1, I1, r1, hx⟩ => ?_)
  obtain ⟨a, ns, ex, ha, q⟩ := hR _ _ hx
  subst ex
  obtain rfl : v = Value.ref a := r1
  obtain ⟨hz, hsys, es, ep, hr, hs, hv⟩ := raw_vals I1 ha
  obtain ⟨ob, ho, hx, hdat⟩ := id hr
  refine ⟨"dict", "dict.values", PySem.F.plainAttrs_dict, PySem.F.slot_dict_values, PySem.F.type_dict_values, ⟨ob, ho, hx.1⟩, fun b e => ?_, Calls.callWith_builtin rfl (PySem.evalArgs_none ?_)⟩
  · cases e
    exact ⟨ob, ho, hx.2.1⟩
  refine call_meetsIn PySem.F.slot_dict_values ⟨ob, ho, hx.1⟩ PySem.F.entry_dict_values (PySem.F.args_dict_values_1 _) (meets_dict_values_raw a hsys) ⟨⟨es, ep, hr⟩, ?_⟩
  exact q _ s1.heap.objs.size es ep (I1.kept (t' := s1.toks) fun b u e => Heap.get?_push_of_some _ e) ⟨_, Heap.get?_push_size _ rfl, rfl, rfl⟩ (hr.at fun o e => Heap.get?_push_of_some _ e) hs hz hv
/-- sorted(o.values()), numbers, fewer than 64 -/
def tSortV (td : TE) : TE := fun σ H Q => td σ H fun x H1 => ∃ a ns, x = V.ref a ∧ DVals H1 a ns ∧ ns.length < 64 ∧ ∀ (ys : List Int) (p : Addr), ys.Perm ns → ys.Pairwise (· ≤ ·) → H1 p = none → Q (.ref p) (upd H1 p (.lst (ys.map V.int)))
theorem pe_sortV (hc : X.calm = true) (hg : Gl X "sorted") (hm : X.mg "sorted" = none) (hd : PE X o td) (hbase : attributeBase o "values" X.env (eval o X.env) = eval o X.env := by rfl) (hline : (apos.endLine == mpos.line) = true := by rfl)
    (hse : starEach [Expr.Call (.Attribute o "values" apos) [] [] mpos] X.env = [(false, eval (Expr.Call (.Attribute o "values" apos) [] [] mpos) X.env)] := by rfl) :
    PE X (.Call (.Name "sorted" p) [.Call (.Attribute o "values" apos) [] [] mpos] [] pos) (tSortV td) := by
  refine ⟨fun pins s σ H Q I h => ?_⟩
  refine wpAny_Call_Name_kw (ld_blt I hg hm (u := .builtin "sorted") (by first | rfl | decide +kernel) ?_ (by first | decide +kernel | decide) (by first | decide +kernel | decide))
  rw [hse]
  refine PySem.callWith_builtin1 (vals_view hd hbase hline I h fun x H1 ⟨a, ns, ex, ha, h64, q⟩ => ⟨a, ns, ex, ha, fun s' v es ep I1 iv dr hs hz hv => ?_⟩)
  refine Calls.call_function_entry PyProof.Rows.kind_sorted PyProof.Rows.plain_sorted PyProof.Rows.entry_sorted (PyProof.Rows.args_sorted1 _) ?_
  unfold Builtin.«sorted»
  refine wpAny_bind (m := checkCount "sorted" 1 1 _) (wpAny_pure ?_)
  refine wpAny_bind (PySem.W.kdu_collect (A := X.A.in1) (KdlSrc.rawValues (es := es) (ep := ep)) (I1.ok.hd hc) ⟨iv, dr⟩ (by rw [hs]; exact hz) fun h' tk acc hk hacc => ?_)
  have hal : acc.toList.length = ns.length := by rw [Array.length_toList, hacc.1, hs]
  have hS : IntsAre acc.toList ns := ints_each hal fun j v e => by
    obtain ⟨hi, ev⟩ := hacc.2 j v (by rw [← Array.getElem?_toList]; exact e)
    obtain ⟨n, t, e1, e2⟩ := hv j hi
    exact ⟨n, t, e1, by rw [ev, e2]⟩
  have I2 : Inv X pins σ H1 { s' with heap := h', toks := tk } := I1.kept hk
  refine wpAny_bind (wpAny_newList ?_ (by rw [hal, sizeLine_eq]; omega))
  have hoL : (h'.push (seqObj "list" acc.toList.toArray 0)).get? h'.objs.size = some (seqObj "list" acc.toList.toArray 0) := Heap.get?_push_size _ rfl
  show wpAny _ _ _ _ _ { s' with heap := h'.push (seqObj "list" acc.toList.toArray 0), toks := tk }
  refine wpAny_bind (wpAny_holding (wpAny_call_entry PyProof.Rows.slot_list_sort ⟨_, hoL, rfl⟩ PyProof.Rows.entry_list_sort
    (PyProof.Rows.list_sort_tree (s := { s' with heap := h'.push (seqObj "list" acc.toList.toArray 0), toks := tk }) hoL hS (by rw [hal]; exact h64) fun out ys g1 g2 g3 => ⟨_, rfl, ?_⟩) (PyProof.Rows.args_list_sort _)))
  obtain ⟨e', he'⟩ := PyProof.Rows.sortedHeap_at (vs := acc.toList) (out := out) hoL
  have hlen : (ys.map V.int).length ≤ sizeLine := by
    rw [List.length_map, g2.length_eq]
    exact Nat.le_trans (Nat.le_of_lt h64) (by decide)
  refine wpAny_pure ⟨_, rfl, .ref h'.objs.size, upd H1 h'.objs.size (.lst (ys.map V.int)), I2.laid (t' := tk) (fun b u e => ?_) (Nat.le_refl _)
    (show ObjOk X.prog X.w _ _ _ (.lst (ys.map V.int)) from ⟨hlen, out.toList, e', vals_of_ints g1, by rw [Array.toArray_toList]; exact he'⟩), rfl, q ys _ g2 g3 (I2.hok.fresh (Nat.le_refl _))⟩
  have hb : b < h'.objs.size := Heap.lt_size e
  rw [PyProof.Rows.sortedHeap_old (Nat.ne_of_lt hb) (by rw [size_push']; exact Nat.lt_succ_of_lt hb)]
  exact Heap.get?_push_of_some _ e
end
/-! readings -/
def dSortV (td : DE) : DE := fun env st k => td env st fun d s1 => match dicOf s1 d with
  | some (_, rows) => match intsD (valsR rows) with
    | some ns => ns.length < 64 ∧ k (.lst ((sortZ ns).map D.int)) s1
    | none => False
  | none => False
section
variable {K : PySem.W.Frag} {w : Wd} {st : Sto} {H : Hp} {X : Cx} {o : Expr} {p pos apos mpos : Pos} {td : DE}
theorem rowsK_vals : ∀ {rows : List D} {kvs : List (Key × V)} {ns : List Int}, RowsK K w rows kvs → intsD (valsR rows) = some ns → kvs.map (·.2) = ns.map V.int
  | [], kvs, ns, h, e => by
    simp only [RowsK] at h
    subst h
    cases e
    rfl
  | x :: r, kvs, ns, h, e => by
    match x, h, e with
    | .tup [k', d'], h, e =>
      simp only [RowsK] at h
      obtain ⟨y, u, s, rfl, h1, h2, h3⟩ := h
      match d', e, h2 with
      | .int i, e, h2 =>
        have e' : (intsD (valsR r)).map (i :: ·) = some ns := e
        cases e2 : intsD (valsR r) with
        | none => rw [e2] at e'; cases e'
        | some ms =>
          rw [e2] at e'
          cases e'
          simp only [Rep] at h2
          subst h2
          rw [List.map_cons, List.map_cons, rowsK_vals h3 e2]
theorem rowsT_vals : ∀ {rows : List D} {kvs : List (List Key × V)} {ns : List Int}, RowsT K w rows kvs → intsD (valsR rows) = some ns → kvs.map (·.2) = ns.map V.int
  | [], kvs, ns, h, e => by
    simp only [RowsT] at h
    subst h
    cases e
    rfl
  | x :: r, kvs, ns, h, e => by
    match x, h, e with
    | .tup [k', d'], h, e =>
      simp only [RowsT] at h
      obtain ⟨y, u, s, rfl, h1, h2, h3⟩ := h
      match d', e, h2 with
      | .int i, e, h2 =>
        have e' : (intsD (valsR r)).map (i :: ·) = some ns := e
        cases e2 : intsD (valsR r) with
        | none => rw [e2] at e'; cases e'
        | some ms =>
          rw [e2] at e'
          cases e'
          simp only [Rep] at h2
          subst h2
          rw [List.map_cons, List.map_cons, rowsT_vals h3 e2]
theorem dvals_of {d : D} {v : V} {t : Bool} {rows : List D} {ns : List Int} (W : Wld K w st H) (R : Rep K w d v) (e : dicOf st d = some (t, rows)) (hn : intsD (valsR rows) = some ns) : ∃ a, v = .ref a ∧ DVals H a ns := by
  obtain ⟨a, o, L, rfl, h, r⟩ := dic_obj W R e
  cases t with
  | false =>
    rcases r with ⟨_, kvs, rfl, _, r⟩ | ⟨_, rows', ob, kvs, _, rfl, rfl, _, r⟩ | ⟨z, _⟩
    · exact ⟨a, rfl, .inl ⟨kvs, .inl h, rowsK_vals r hn⟩⟩
    · rw [valsR_lock] at hn
      exact ⟨a, rfl, .inl ⟨kvs, .inr ⟨ob, h⟩, rowsK_vals r hn⟩⟩
    · cases z
  | true =>
    obtain ⟨kvs, rfl, _, r⟩ := r.dT
    exact ⟨a, rfl, .inr ⟨kvs, .inl h, rowsT_vals r hn⟩⟩
theorem pd_sortV (hc : X.calm = true) (hm : X.mg "sorted" = none) (hd : PD X o td) (hg : Gl X "sorted" := by rfl) (hbase : attributeBase o "values" X.env (eval o X.env) = eval o X.env := by rfl) (hline : (apos.endLine == mpos.line) = true := by rfl)
    (hse : starEach [Expr.Call (.Attribute o "values" apos) [] [] mpos] X.env = [(false, eval (Expr.Call (.Attribute o "values" apos) [] [] mpos) X.env)] := by rfl) :
    PD X (.Call (.Name "sorted" p) [.Call (.Attribute o "values" apos) [] [] mpos] [] pos) (dSortV td) := by
  refine (pe_sortV hc hg hm hd hbase hline hse).wk fun σ H Q ⟨w, env, st, kk, W, E, h, fo⟩ => ?_
  refine ⟨w, env, st, _, W, E, h, fun d st1 v w1 H1 h1 l1 W1 R1 => ?_⟩
  split at h1
  · rename_i t rows hd
    split at h1
    · rename_i ns hn
      obtain ⟨a, rfl, dv⟩ := dvals_of W1 R1 hd hn
      refine ⟨a, ns, rfl, dv, h1.1, fun ys p g1 g2 hp => ?_⟩
      rw [sortZ_of g1 g2]
      refine fol_lst W1 (Reps.of_ints _) ?_ h1.2 (fo.le l1) p hp
      rw [List.length_map, sortZ_length, sizeLine_eq]
      have := h1.1
      omega
    · exact h1.elim
  · exact h1.elim
/-- what is said of a dict of the store -/
def sortVK (k : DK) (d : D) (s1 : Sto) : Prop := match dicOf s1 d with
  | some (_, rows) => match intsD (valsR rows) with
    | some ns => ns.length < 64 ∧ k (.lst ((sortZ ns).map D.int)) s1
    | none => False
  | none => False
theorem e_sortV {env : Env} {k : DK} : dSortV td env st k = td env st (sortVK k) := rfl
theorem e_sortVK {k : DK} {t : Bool} {j : Nat} {rows : List D} {ns : List Int} (h : st[j]? = some rows) (hn : intsD (valsR rows) = some ns) : sortVK k (.dic t j) st = (ns.length < 64 ∧ k (.lst ((sortZ ns).map D.int)) st) := by simp [sortVK, dicOf, h, hn]
end
end DL

/-! DLN: tuple.index of a text. -/
namespace DL
open PySem PySem.Spec PyProof.Rows L2
section
variable {X : Cx} {e : Expr} {x : Str} {p apos cpos : Pos} {te : DE} {ds : List D}
def strsOf : List D → Option (List Str)
  | [] => some []
  | .str z :: r => (strsOf r).map (z :: ·)
  | _ => none
theorem strsOf_eq : ∀ {ds : List D} {ys : List Str}, strsOf ds = some ys → ds = ys.map D.str
  | [], ys, h => by cases h; rfl
  | d :: r, ys, h => by
    match d, h with
    | .str z, h =>
      have h' : (strsOf r).map (z :: ·) = some ys := h
      cases e : strsOf r with
      | none => rw [e] at h'; cases h'
      | some zs =>
        rw [e] at h'
        cases h'
        rw [strsOf_eq e]
        rfl
/-- X.index(e), X a tuple of texts of the module's head -/
def tidxK (ds : List D) (k : DK) : DK := fun d s1 => match d, strsOf ds with
  | .str z, some ys => ∃ j, ys[j]? = some z ∧ (∀ m, m < j → ys[m]? ≠ some z) ∧ k (.int (j : Nat)) s1
  | _, _ => False
def dTIdx (ds : List D) (te : DE) : DE := fun env st k => te env st (tidxK ds k)
theorem pd_tidx (h : GTup X.K X.mg x ds) (he : PD X e te) (hg : Gl X x := by rfl) (hd : (x == ("__debug__" : Str)) = false := by decide)
    (hbase : attributeBase (.Name x p) "index" X.env (eval (.Name x p) X.env) = eval (.Name x p) X.env := by rfl)
    (hfew : ((backTo cpos (starEach [e] X.env)).all (fun x => !x.1) && (backToKw cpos (keywordEach [] X.env)).all (fun x => x.1.isSome)
      && decide (([e] : List Expr).length + ([] : List Keyword).length + (if ([] : List Keyword).isEmpty then 0 else 1) < 30)) = true := by rfl)
    (hline : (apos.endLine == cpos.line) = true := by rfl) (hs : starEach [e] X.env = (false, eval e X.env) :: starEach [] X.env := by rfl) (hpl : (backTo cpos (starEach [] X.env)).any (·.1) = false := by rfl) :
    PD X (.Call (.Attribute (.Name x p) "index" apos) [e] [] cpos) (dTIdx ds te) := by
  obtain ⟨a, vs, hm, hq, hr, o, hk, hc, hdn⟩ := h
  have ho : PE X (.Name x p) (tC (.ref a)) := pe_glob (v := .ref a) hg hm rfl hd
  refine (pe_bm PySem.F.plainAttrs_tuple PySem.F.slot_tuple_index PySem.F.type_tuple_index mt_tup_index ho (pa_cons he pa_nil hs) hbase hfew hline hs hpl).wk fun σ H Q ⟨w, env, st, kk, W, E, h, fo⟩ => ?_
  refine ⟨.inr (.inl ⟨rfl, o, hk, hc, hdn⟩), w, env, st, _, W, E, h, fun d st1 v w1 H1 h1 l1 W1 R1 => ?_⟩
  unfold tidxK at h1
  split at h1
  · rename_i z ys hy
    obtain ⟨j, hj, hno, h1⟩ := h1
    simp only [Rep] at R1
    subst R1
    have rr := hr w1
    rw [strsOf_eq hy] at rr
    have ev := rr.strs
    refine ⟨a, ys, z, j, rfl, rfl, ?_, hj, hno, fo _ _ _ _ _ h1 l1 W1 rep_int⟩
    rw [← ev]
    exact hq _
  · exact h1.elim
theorem e_tidx {env : Env} {st : Sto} {k : DK} : dTIdx ds te env st k = te env st (tidxK ds k) := rfl
theorem e_tidxK {st : Sto} {k : DK} {z : Str} {ys : List Str} (h : strsOf ds = some ys) : tidxK ds k (.str z) st = ∃ j, ys[j]? = some z ∧ (∀ m, m < j → ys[m]? ≠ some z) ∧ k (.int (j : Nat)) st := by simp [tidxK, h]
end
end DL

/-! DLP: sorted({e for x in xs for y in ys if ..}), the members texts. -/
namespace DL
open PySem PySem.Spec PyProof.Rows L2
open PySem.Froz (SD TxOk sObj addTx tailTx is_str)
/-! ### a set of texts -/
structure TPay (P : Program) (w : World) (D : SD) (ks : List Str) : Prop where
  tx : TxOk P w D ks
  ris : Ris D.2.2.place.toList
  led : w.params.followText "set-order" = true ∨ D.2.2.led = true
  nd : ks.Nodup
section
variable {P : Program} {w : World} {A : Around} {E : Value → Shared → Prop} {s : Shared} {a : Addr} {ks : List Str} {k : Str} {u : Tok}
theorem tail_keeps {ep : Nat} {es1 : Array (Int × Value)} {t2 : SetTable} {wd b : Bool} (r : Ris t2.place.toList) (l : b = true ∨ t2.led = true) : Ris (tailTx ep es1 t2 wd).2.2.place.toList ∧ (b = true ∨ (tailTx ep es1 t2 wd).2.2.led = true) := by
  unfold tailTx
  split
  · refine ⟨relayAll_ris _ _ _, l.imp id fun z => ?_⟩
    dsimp only
    rw [relayAll_led]
    exact z
  · exact ⟨r, l⟩
theorem TPay.more {D : SD} (T : TPay P w D ks) (u : Tok) (hk : k ∉ ks) : TPay P w (addTx (hashStr w k) (.str k u) D) (k :: ks) := by
  obtain ⟨es, ep, t⟩ := D
  have r1 := layNew_ris t es (hashStr w k) (.str k u) T.ris
  have l1 := T.led.imp id fun z => (layNew_led t es (hashStr w k) (.str k u)).trans z
  have q := tail_keeps (ep := ep) (es1 := (layNew t es (hashStr w k) (.str k u)).1) (wd := (layNew t es (hashStr w k) (.str k u)).2.2.1)
    (t2 := if (layNew t es (hashStr w k) (.str k u)).2.1.plain = true then { (layNew t es (hashStr w k) (.str k u)).2.1 with plain := false } else (layNew t es (hashStr w k) (.str k u)).2.1) (b := w.params.followText "set-order") (by split <;> exact r1) (by split <;> exact l1)
  exact ⟨PySem.Froz.add_ok u T.tx, q.1, q.2, List.nodup_cons.mpr ⟨hk, T.nd⟩⟩
end
/-! ### the comprehension of two clauses -/
section
variable {prog : Program} {w : World} {A : Around} {R : Result → Shared → Prop} {s : Shared} {elt t0 i0 t1 i1 : Expr} {c0 c1 : List Expr} {sc : Scope} {pos : Pos} {it acc : Value} {env : PySem.Env}
end
/-! ### over data -/
theorem _root_.L2.FpOk.more {X : Cx} {pins pins' : List (Addr × Obj)} {H : Hp} {b : Addr} (h : FpOk X pins H b) (n : ∀ p ∈ pins', p.1 ≠ b) : FpOk X pins' H b :=
  ⟨h.1, h.2.1, h.2.2.1, h.2.2.2.1, h.2.2.2.2.1, fun p hp => (List.mem_append.mp hp).elim (fun z => h.2.2.2.2.2 p (List.mem_append_left _ z)) (n p)⟩
theorem _root_.L2.FpOk.pins {X : Cx} {pins pins' : List (Addr × Obj)} {H : Hp} {b : Addr} (h : FpOk X pins H b) (n : ∀ p ∈ pins', p.1 ≠ b) : FpOk X pins' H b := h.more n
theorem _root_.L2.FpOk.at {X : Cx} {pins : List (Addr × Obj)} {H H' : Hp} {b : Addr} (h : FpOk X pins H b) (n : H' b = none) : FpOk X pins H' b := ⟨n, h.2⟩
theorem _root_.L2.Inv.only {X : Cx} {pins pins' : List (Addr × Obj)} {σ : L2.St} {H : Hp} {s : Shared} (I : Inv X pins σ H s) (h : ∀ p ∈ pins', p ∈ pins) : Inv X pins' σ H s := I.pins_of fun p hp => I.pin p (List.mem_append_right _ (h p hp))
section
variable {X : Cx} {elt tg iter tg1 iter1 : Expr} {ifs ifs1 : List Expr} {scope : Scope} {own : List (Str × Nat)} {di di1 : DI} {g g1 : DG} {tt tt1 : DT} {te : DE} {vs1 : List Nat} {pos p cpos : Pos}
end
/-! ### sorted(set(xs)) of a list of texts -/
section
variable {P : Program} {w : World} {A : Around} {E : Value → Shared → Prop} {s : Shared} {a : Addr} {ks : List Str} {k : Str} {u : Tok}
end
section
variable {X : Cx} {e : Expr} {te : DE} {p p2 q pos : Pos} {env : DL.Env} {st : Sto} {k : DK} {zs : List Str}
end
/-! ### a sorted list of different texts is one -/
end DL

/-! zip of a tuple and a list, not strict -/
namespace DL
open PySem PySem.Spec PyProof.Rows L2
section
variable {K : PySem.W.Frag} {w : Wd} {st : Sto}
end
section
variable {X : Cx} {e e2 : Expr} {ta tb : DE} {p pos : Pos}
variable {env : DL.Env} {st : Sto} {kk : DIk} {ds es : List D} {i : Nat}
end
end DL

/-! DLR: dicts walked (locked), displayed, copied, made by comprehension; their text keys sorted. -/
namespace DL
open PySem PySem.Spec PyProof.Rows L2
theorem okRows_tab {κ α : Type} {e : κ → D} {f : α → D} {ks : List (κ × α)} : okRows (tabR e f ks) = true := okRows_map (fun p : κ × α => e p.1) (fun p => f p.2) ks
/-! ### a dict is locked -/
section
variable {K : PySem.W.Frag} {w w1 : Wd} {st : Sto} {H : Hp}
end
section
variable {X : Cx}
/-! ### what is walked of a locked dict -/
/-! ### sorted(d), keys texts -/
/-! ### dict(d) -/
/-! ### {k: v, ..} -/
/-! ### {k: v for x in xs} -/
variable {tg iter kx vx : Expr} {ifs : List Expr} {scope : Scope} {own : List (Str × Nat)} {pos : Pos} {di : DI} {g : DG} {tt : DT} {tk tv : DE}
end
/-! ### equations -/
section
variable {env : DL.Env} {st : Sto} {k : DK}
end
end DL

/-! DLS: set(xs) != set([c]) of ints. -/
namespace DL
open PySem PySem.Spec PyProof.Rows L2
section
variable {prog : Program} {w : World} {A : Around} {E : Value → Shared → Prop} {s : Shared}
end
end DL
namespace DLA
open PySem PySem.Spec PyProof.Rows L2
section
variable {prog : Program} {w : World} {A : Around} {E : Value → Shared → Prop} {s : Shared}
end
end DLA
namespace DL
open PySem PySem.Spec PyProof.Rows L2
section
variable {X : Cx} {e e2 : Expr} {ta : DE} {te : TE} {p p2 p3 pos2 pos3 pos4 pos : Pos} {c : Int}
/-! lists of lists of the store, shown -/
end
end DL

/-! DLU: instances of one's own classes: fields, methods, new ones. -/
namespace DL
open PySem PySem.Spec PyProof.Rows L2
/-- a field's value in an instance's rows -/
def fldR (f : Str) : List D → Option D
  | [] => none
  | .tup [.str g, x] :: r => if g = f then some x else fldR f r
  | _ :: r => fldR f r
section
variable {K : PySem.W.Frag} {w : Wd}
theorem rowsK_inv {y : D} {ds : List D} {kvs : List (Key × V)} (h : RowsK K w (y :: ds) kvs) : ∃ k d z v r, y = .tup [k, d] ∧ kvs = (z, v) :: r ∧ keyD k = some z ∧ Rep K w d v ∧ RowsK K w ds r := by
  match y, h with
  | .tup [k, d], h =>
    simp only [RowsK] at h
    obtain ⟨z, v, r, e, h1, h2, h3⟩ := h
    exact ⟨k, d, z, v, r, rfl, e, h1, h2, h3⟩
  | .tup [], h => simp only [RowsK] at h
  | .tup [_], h => simp only [RowsK] at h
  | .tup (_ :: _ :: _ :: _), h => simp only [RowsK] at h
  | .non, h => simp only [RowsK] at h
  | .bl _, h => simp only [RowsK] at h
  | .int _, h => simp only [RowsK] at h
  | .str _, h => simp only [RowsK] at h
  | .lst _, h => simp only [RowsK] at h
  | .klst _, h => simp only [RowsK] at h
  | .obj _, h => simp only [RowsK] at h
  | .dic _ _, h => simp only [RowsK] at h
  | .fdic _ _, h => simp only [RowsK] at h
  | .gtup _, h => simp only [RowsK] at h
theorem key_cases {k : D} {z : Key} (h : keyD k = some z) : (∃ i, k = .int i ∧ z = .inl i) ∨ ∃ x, k = .str x ∧ z = .inr x := by
  cases k <;> simp [keyD] at h
  · exact .inl ⟨_, rfl, h.symm⟩
  · exact .inr ⟨_, rfl, h.symm⟩
theorem fld_val (f : Str) : ∀ {rows : List D} {kvs : List (Key × V)}, RowsK K w rows kvs → OptR K w (fldR f rows) ((fsOf kvs).lookup f)
  | [], kvs, h => by
    simp only [RowsK] at h
    subst h
    trivial
  | y :: ds, kvs, h => by
    obtain ⟨k, d, z, v, r, rfl, rfl, h1, h2, h3⟩ := rowsK_inv h
    have ih := fld_val f h3
    rcases key_cases h1 with ⟨i, rfl, rfl⟩ | ⟨x, rfl, rfl⟩
    · exact ih
    · simp only [fldR, fsOf]
      by_cases e : x = f
      · subst e
        rw [if_pos rfl]
        have : List.lookup x ((x, v) :: fsOf r) = some v := by simp [List.lookup]
        rw [this]
        exact h2
      · rw [if_neg e]
        have e2 : (f == x) = false := beq_eq_false_iff_ne.mpr (Ne.symm e)
        have : List.lookup f ((x, v) :: fsOf r) = List.lookup f (fsOf r) := by simp [List.lookup, e2]
        rw [this]
        exact ih
theorem fld_some {f : Str} {rows : List D} {kvs : List (Key × V)} {x : D} (h : RowsK K w rows kvs) (e : fldR f rows = some x) : ∃ v, (fsOf kvs).lookup f = some v ∧ Rep K w x v := by
  have o := fld_val f h
  rw [e] at o
  cases q : (fsOf kvs).lookup f with
  | none => rw [q] at o; exact o.elim
  | some v => rw [q] at o; exact ⟨v, rfl, o⟩
end
theorem RoomG.make {k : Nat} {A : Around} (r : RoomG (k + 1) A) (C : Addr) (us : List Value) (kw : List (Str × Value)) : RoomG k (A.under (.builtin "type.__call__" ⟨.ref C :: us, kw⟩)) := ⟨r.toRoom.make C us kw, by first | exact r.gd | (simpa [Around.under] using r.gd)⟩
section
variable {X : Cx} {e o value : Expr} {es : List Expr} {pos pos' apos p : Pos} {t to tv : DE} {ta tk : DA} {c f m x : Str} {k : Nat} {g : Addr} {fd : FuncData} {ps ks : List Str} {sp : SpD} {kws : List Keyword}
/-- the world with a new instance -/
theorem Wld.ins {K : PySem.W.Frag} {w : Wd} {st : Sto} {H : Hp} (W : Wld K w st H) {x dx : Addr} (hx : H x = none) (hd : H dx = none) (ne : dx ≠ x) (q : ClsT K c) :
    Wld K (w.addK x (some (.ins c))) (st ++ [[]]) (upd (upd H dx (.own x)) x (.ins (He.ga K c) dx [])) ∧ Le w (w.addK x (some (.ins c))) ∧ Rep K (w.addK x (some (.ins c))) (.dic (.ins c) st.length) (.ref x) := by
  have W1 := W.other (o := .own x) hd
  have hx1 : upd H dx (.own x) x = none := by rw [upd_ne (Ne.symm ne)]; exact hx
  refine ⟨W1.addK hx1 ⟨dx, [], rfl, by simp only [RowsK]⟩, Le.addK (W.nas hx), ?_⟩
  simp only [Rep]
  refine ⟨x, rfl, ?_, if_pos rfl, q⟩
  show (w.as ++ [x])[st.length]? = some x
  rw [← W.len, List.getElem?_concat_length]
end
/-! ### packages -/
def clsBody : Stmt → List Stmt
  | .ClassDef _ _ _ body _ _ _ _ _ _ _ => body
  | _ => []
/-- a method as it stands behind the top -/
abbrev FnM (K : PySem.W.Frag) (x qual : Str) (st : Stmt) (kws : List (Str × V)) (f : Addr) (fd : FuncData) : Prop := FunD K x qual (defArgs st) (defBody st) (defScope st) [] kws f fd
section
variable {X : Cx} {e o : Expr} {es : List Expr} {pos apos p : Pos} {to : DE} {ta tk : DA} {c m : Str} {k j : Nat} {ps ks : List Str} {sp : SpD} {kws : List Keyword}
/-! ### equations -/
variable {env : Env} {st : Sto} {kk : DK} {f : Str} {i : Nat} {rows : List D} {t u : DE} {dd : DEnds} {dfl : List D}
end
end DL

/-! DLV: sorted(d.items()) of texts and numbers, shifts. -/
namespace DL
open PySem PySem.Spec PyProof.Rows L2
section
variable {X : Cx}
/-! ### shifts -/
end
/-! ### sorted(d.items()) -/
section
variable {X : Cx} {o : Expr} {p pos apos mpos : Pos} {td : TE}
end
/-! readings -/
section
variable {K : PySem.W.Frag} {w : Wd} {st : Sto} {H : Hp} {X : Cx} {o : Expr} {p pos apos mpos : Pos} {td : DE}
end
end DL

/-! DLW: a dict that lies in a list is walked. -/
namespace DL
open PySem PySem.Spec PyProof.Rows L2
section
variable {K : PySem.W.Frag} {w : Wd} {st : Sto} {H : Hp}
end
section
variable {X : Cx}
/-! ### the walk -/
end

/-! ### y = {k: v for x in xs}, y a local -/
section
variable {X : Cx}
variable {tg iter kx vx : Expr} {ifs : List Expr} {scope : Scope} {own : List (Str × Nat)} {pos : Pos} {di : DI} {g : DG} {tt : DT} {tk tv : DE}
end
end DL

/-! DLO: every so manieth of a list; a dict put into a dict. -/
namespace DLO
open PySem PySem.Spec PyProof.Rows L2
variable {X : Cx}
/-! ### d.update(e) -/
end DLO
namespace DL
open PySem PySem.Spec PyProof.Rows L2
section
variable {X : Cx} {e o : Expr} {ta td te : DE}
/-! d.update(e) -/
variable {env : DL.Env} {st : Sto} {k : DK}
end
end DL

/-! DMA: sorted([(text, number), ..]), sorted([(text, (number, number)), ..]). -/
namespace DL
open PySem PySem.Spec PyProof.Rows L2
section
variable {X : Cx}
/-! readings -/
end
end DL

/-! DMB: [e for x in xs if .. for y in ys if ..], list.count. -/
namespace DL
open PySem PySem.Spec PyProof.Rows L2
section
variable {X : Cx} {elt tg iter tg1 iter1 : Expr} {ifs ifs1 : List Expr} {scope : Scope} {own : List (Str × Nat)} {di di1 : DI} {g g1 : DG} {tt tt1 : DT} {te : DE} {vs1 : List Nat} {pos p cpos : Pos}
end
end DL

/-! DMC: list.count, list.index of data. -/
namespace DL
open PySem PySem.Spec PyProof.Rows L2
section
variable {X : Cx}
def countD (y : D) (xs : List D) : Nat := xs.countP fun z => eqD z y
def mCount : FM := fun d ds st k => match deref st d, ds with
  | .lst xs, [y] => okDs 59 xs = true ∧ okD 60 (deref st y) = true ∧ k (.int (countD (deref st y) xs : Nat)) st
  | _, _ => False
theorem count_toP {n m : Nat} {y : D} (h : okD m y = true) : ∀ (xs : List D), okDs n xs = true → (toPs xs).countP (fun z => PyData.eqv z (toP y)) = countD y xs := by
  unfold countD
  intro xs
  induction xs with
  | nil => intro _; rfl
  | cons x r ih =>
    intro g
    simp only [okDs, Bool.and_eq_true] at g
    simp only [toPs, List.countP_cons]
    rw [eqv_toP n m x y g.1 h, ih g.2]
theorem md_count (hu : X.A.units + 64 < cLine) : MtR X "list.count" (rDM X.K mCount) := by
  rintro pins s σ H x xs v us Q I rx rs ⟨w, st, d, ds, kk, W, R1, R2, q, fo⟩
  unfold mCount at q
  split at q
  · rename_i ys y hd
    obtain ⟨k1, k2, q⟩ := q
    obtain ⟨a, vs, rfl, hs, r, n⟩ := rep_lst W R1 hd
    obtain ⟨yv, rfl, ry⟩ := one_rep R2
    cases rx
    obtain ⟨u, rfl, ru⟩ := rs.one
    have ok2 : okD 60 (deref st d) = true := by rw [hd]; exact k1
    have hp := dp_deref W R1 ok2
    rw [hd] at hp
    obtain ⟨bs, r2⟩ := Dp.reads I _ _ _ hp (show RelV (.ref a) (.ref a) from rfl)
    obtain ⟨as, r1⟩ := Dp.reads I _ yv u (dp_deref W ry k2) ru
    obtain ⟨its, rv, hl, hn⟩ := I.list hs
    cases r2 with
    | list h1 h2 h3 h4 =>
      have e := hl.isList
      obtain ⟨⟨cls, dd, data, sl⟩, ho, hc, n2, hdt⟩ := id e
      rw [ho] at h1
      cases h1
      simp only at hdt
      subst hdt
      cases h3
      have hsh := shape_toPs 59 ys k1
      refine SeqAt.count_list_data e h4 r1 (PyData.plainAll_of_canLay0 _ hsh.1) (PyData.plain_of_canLay0 _ (shape_toP 60 _ k2).1) (in_room k2 (Nat.le_refl _) hu _) ?_
      rw [count_toP k2 ys k1]
      refine ⟨.int (countD (deref st y) ys : Nat), H, I.tok _, ⟨_, rfl⟩, ?_⟩
      exact fo _ _ _ _ _ q (.refl _) W rep_int
  · exact q.elim
theorem e_countL {st : Sto} {xs : List D} {y : D} {k : DK} : mCount (.lst xs) [y] st k = (okDs 59 xs = true ∧ okD 60 (deref st y) = true ∧ k (.int (countD (deref st y) xs : Nat)) st) := rfl
theorem _root_.L2.Room.units65 {k : Nat} {A : Around} (r : L2.Room k A) : A.units + 65 < cLine := by have := r.un; omega
def mIndex : FM := fun d ds st k => match deref st d, ds with
  | .lst xs, [y] => okDs 59 xs = true ∧ okD 60 (deref st y) = true ∧ ∃ j, findD (deref st y) xs = some j ∧ k (.int (j : Nat)) st
  | _, _ => False
theorem shaped_toP {n : Nat} {d : D} (h : okD n d = true) (hn : n ≤ 60) : SeqAt.shaped (toP d) = true := by
  obtain ⟨h1, h2⟩ := shape_toP n d h
  unfold SeqAt.shaped
  rw [h1, Bool.true_and, decide_eq_true_eq]
  omega
theorem md_index (hu : X.A.units + 65 < cLine) : MtR X "list.index" (rDM X.K mIndex) := by
  rintro pins s σ H x xs v us Q I rx rs ⟨w, st, d, ds, kk, W, R1, R2, q, fo⟩
  unfold mIndex at q
  split at q
  · rename_i ys y hd
    obtain ⟨k1, k2, j, hj, q⟩ := q
    obtain ⟨a, vs, rfl, hs, r, n⟩ := rep_lst W R1 hd
    obtain ⟨yv, rfl, ry⟩ := one_rep R2
    have ok2 : okD 60 (deref st d) = true := by rw [hd]; exact k1
    have hp := dp_deref W R1 ok2
    have hsh := shaped_toP ok2 (Nat.le_refl _)
    rw [hd] at hp hsh
    simp only [toP] at hp hsh
    rw [← find_toP k2 ys k1] at hj
    unfold SeqAt.dataPlace at hj
    obtain ⟨hj1, hj2, hj3⟩ := List.findIdx?_eq_some_iff_getElem.mp hj
    refine mt_indexD hu pins s σ H _ _ v us Q I rx rs ⟨a, yv, _, _, j, (toPs ys)[j], rfl, rfl, hp, dp_deref W ry k2, hsh, shaped_toP k2 (Nat.le_refl _), List.getElem?_eq_getElem hj1, hj2, fun m z hm hz => ?_, ?_⟩
    · obtain ⟨hm2, rfl⟩ := List.getElem?_eq_some_iff.mp hz
      have := hj3 m hm
      simpa using this
    · exact fo _ _ _ _ _ q (.refl _) W rep_int
  · exact q.elim
theorem e_indexL {st : Sto} {xs : List D} {y : D} {k : DK} : mIndex (.lst xs) [y] st k = (okDs 59 xs = true ∧ okD 60 (deref st y) = true ∧ ∃ j, findD (deref st y) xs = some j ∧ k (.int (j : Nat)) st) := rfl
/-! ### for v in d.values() -/
/-! ### a statement that is never reached -/
/-! ### xs.pop(k) -/
/-! ### max of three numbers -/
end
end DL

/-! DMD: a text in a text. -/
namespace DL
open PySem PySem.Spec PyProof.Rows L2
section
variable {X : Cx}
end
end DL

/-! DME: dicts whose keys are tuples of numbers, truths, tuples (kind n). -/
namespace DL
open PySem PySem.Spec PyProof.Rows L2
section
variable {P : Program} {wo : World} {K : PySem.W.Frag} {w : Wd} {st : Sto} {H : Hp} {h : Heap}
/-! what such a dict holds -/
end
/-! ### readings -/
section
variable {X : Cx} {o i e f : Expr} {pos : Pos} {to ti : DE}
variable {st : Sto} {rows : List D} {env : DL.Env} {k : DK}
/-! ### a tuple no or so many times -/
end
end DL

/-! DMF: the values of a dict whose keys are tuples are walked. -/
namespace DL
open PySem PySem.Spec PyProof.Rows L2
/-! ### the lock -/
section
variable {X : Cx}
/-! ### what is walked -/
/-! ### .. over data -/
end
end DL

/-! DMG: how many keys a dict has. -/
namespace DL
open PySem PySem.Spec PyProof.Rows L2
section
variable {X : Cx}
end
end DL

/-! Own exception classes over any built-in one, whose __init__ keeps one field. -/
namespace DL
open PySem PySem.Spec PyProof.Rows L2

/-- a built-in class that own exceptions stand over -/
structure ExB (B newId initId : String) (bmB : List Value) : Prop where
  F : ExcBaseFacts B newId initId bmB
  SF : StoreFacts B bmB "object.__setattr__" "object"
  typ : typeOf (.type B) = pure (.type "type")
  stub : Manifest.isStub B = false
  hin : PySem.W.handedIn (.builtin initId) = true
  boot : bootBuiltins (Str.ofString B) = some (.type B)
  nn : Str.ofString B ≠ "__name__"
  nd : (Str.ofString B == ("__debug__" : Str)) = false
theorem exB_Runtime : ExB "RuntimeError" "RuntimeError.__new__" "RuntimeError.__init__" [.type "RuntimeError", .type "Exception", .type "BaseException", .type "object"] :=
  ⟨F.excBase_RuntimeError, F.store_RuntimeError, by kernel_rfl, by decide +kernel, by decide +kernel, Boot.«RuntimeError», by decide, by decide⟩
/-- what the written part says of an own class over it -/
structure ExT (K : PySem.W.Frag) (C : Addr) (B newId initId : String) (bmB : List Value) : Prop where
  q : PySem.W.excInitIn K C bmB newId = true
  ov : PySem.W.excOver K C bmB = true
  hdC : PySem.W.hasDictIn K C = true
  sa : PySem.W.findIn K (.ref C) "__setattr__" = some (some (.builtin "object.__setattr__"))
  exC : PySem.W.subIn K (.ref C) (.type "BaseException") = some true
  tyC : PySem.W.typeIn K (.ref C) = some (.type "type")
  kC : PySem.W.keepIn K (.ref C) = true
  iv : PySem.W.findCls K (.type B) (.type "type") "__init__" = some (.val (.builtin initId))
  wt : PySem.W.takerIn K C "what" = some none
  wn : PySem.W.findIn K (.ref C) "what" = some none
  ga : PySem.W.findIn K (.ref C) "__getattribute__" = some (some (.builtin "BaseException.__getattribute__"))
  gg : PySem.W.findIn K (.ref C) "__getattr__" = some none
  iC : PySem.W.findIn K (.ref C) "__init__" = some (some (.ref (He.ma K C "__init__")))
  tI : PySem.W.typeIn K (.ref (He.ma K C "__init__")) = some (.type "function")
  kB : bmB.contains (.type "BaseException") = true
def isValC (v : Value) : Option PySem.W.CFound → Bool
  | some (.val u) => u == v
  | _ => false
theorem isValC_ok {v : Value} {o : Option PySem.W.CFound} (h : isValC v o = true) : o = some (.val v) := by
  cases o with
  | none => cases h
  | some c => cases c with
    | val u => rw [beq_iff_eq.mp h]
    | get _ _ _ _ => cases h
def exTB (c : Str) (B newId initId : String) (bmB : List Value) (K : PySem.W.Frag) : Bool :=
  PySem.W.excInitIn K (He.ga K c) bmB newId && (PySem.W.excOver K (He.ga K c) bmB && (PySem.W.hasDictIn K (He.ga K c) && (decide (PySem.W.findIn K (.ref (He.ga K c)) "__setattr__" = some (some (.builtin "object.__setattr__"))) &&
  (decide (PySem.W.subIn K (.ref (He.ga K c)) (.type "BaseException") = some true) && (decide (PySem.W.typeIn K (.ref (He.ga K c)) = some (.type "type")) && (PySem.W.keepIn K (.ref (He.ga K c)) &&
  (isValC (.builtin initId) (PySem.W.findCls K (.type B) (.type "type") "__init__") && (decide (PySem.W.takerIn K (He.ga K c) "what" = some none) && (decide (PySem.W.findIn K (.ref (He.ga K c)) "what" = some none) &&
  (decide (PySem.W.findIn K (.ref (He.ga K c)) "__getattribute__" = some (some (.builtin "BaseException.__getattribute__"))) && (decide (PySem.W.findIn K (.ref (He.ga K c)) "__getattr__" = some none) &&
  (decide (PySem.W.findIn K (.ref (He.ga K c)) "__init__" = some (some (.ref (He.ma K (He.ga K c) "__init__")))) && (decide (PySem.W.typeIn K (.ref (He.ma K (He.ga K c) "__init__")) = some (.type "function")) && bmB.contains (.type "BaseException"))))))))))))))
theorem exTB_ok {c : Str} {B newId initId : String} {bmB : List Value} {K : PySem.W.Frag} (h : exTB c B newId initId bmB K = true) : ExT K (He.ga K c) B newId initId bmB := by
  obtain ⟨h1, h⟩ := He.ba h
  obtain ⟨h2, h⟩ := He.ba h
  obtain ⟨h3, h⟩ := He.ba h
  obtain ⟨h4, h⟩ := He.ba h
  obtain ⟨h5, h⟩ := He.ba h
  obtain ⟨h6, h⟩ := He.ba h
  obtain ⟨h7, h⟩ := He.ba h
  obtain ⟨h8, h⟩ := He.ba h
  obtain ⟨h9, h⟩ := He.ba h
  obtain ⟨h10, h⟩ := He.ba h
  obtain ⟨h11, h⟩ := He.ba h
  obtain ⟨h12, h⟩ := He.ba h
  obtain ⟨h13, h⟩ := He.ba h
  obtain ⟨h14, h15⟩ := He.ba h
  exact ⟨h1, h2, h3, of_decide_eq_true h4, of_decide_eq_true h5, of_decide_eq_true h6, h7, isValC_ok h8, of_decide_eq_true h9, of_decide_eq_true h10, of_decide_eq_true h11, of_decide_eq_true h12, of_decide_eq_true h13, of_decide_eq_true h14, h15⟩
theorem ExT.raises {X : Cx} {C : Addr} {B newId initId : String} {bmB : List Value} (T : ExT X.K C B newId initId bmB) : Raises X (.ref C) := raises_own T.exC T.tyC

/-! ### self.what = v, the first field of an exception -/
section
open Builtin Builtin.ObjectAttr
variable {prog : Program} {w : World} {A : Around} {E : Value → Shared → Prop} {R : Result → Shared → Prop} {hp : Heap} {g : Array GenState} {d : Drawn} {t : Nat} {os : OsState} {B newId initId : String} {bmB : List Value}
theorem osa_first {K : PySem.W.Frag} {name : Str} {tk : Tok} {v : Value} {x C : Addr} {fv : Array Value} (SF : StoreFacts B bmB "object.__setattr__" "object") (inK : K.In hp) (hx : hp.get? x = some { cls := .ref C, data := .fields fv }) (ov : PySem.W.excOver K C bmB = true)
    (hd : PySem.W.hasDictIn K C = true) (ht : PySem.W.takerIn K C name = some none)
    (q : ∀ G tk2 dx, (∀ b o, b ≠ x → hp.get? b = some o → G.get? b = some o) → hp.objs.size ≤ dx → dx ≠ x → G.get? x = some { cls := .ref C, dict := some dx, data := .fields fv } →
      G.Ns1 dx (fun y => if y = name then some v else none) → R (.ok (.ret .none)) ⟨G, g, d, tk2, os⟩) :
    codeAny (model prog w) A (.call (.builtin "object.__setattr__") ⟨[.ref x, .str name tk, v], []⟩) R ⟨hp, g, d, t, os⟩ := by
  refine PySem.W.osa_openX SF inK (od := none) ⟨hx, rfl, rfl, trivial⟩ ov ht fun b => ?_
  obtain ⟨cd, hc, hh⟩ : ∃ cd, PySem.W.clsIn K C = some cd ∧ cd.hasDict = true := by
    unfold PySem.W.hasDictIn at hd
    cases z : PySem.W.clsIn K C with
    | none => rw [z] at hd; cases hd
    | some cd => rw [z] at hd; exact ⟨cd, rfl, hd⟩
  have lc : PySem.W.Looks (model prog w) hp (classData C) cd := PySem.W.looks_clsIn inK hc
  have xn : x ≠ hp.objs.size := Nat.ne_of_lt (Heap.lt_size hx)
  dsimp only
  obtain ⟨c1, c2, c3, c4, c5, c6, c7, c8, c9, c10, c11⟩ := cd
  dsimp only at hh
  subst hh
  unfold storeInOwnDict ownDictForStores
  repeat (first | with_reducible refine PySem.HandSPX.store_in_new ?_ ?_ | with_reducible refine lc.at ?_ | with_reducible refine wpAny_loadPart_at hx ?_ | wp_step)
  · exact ⟨_, #[], _, (Heap.get?_update_ne _ _ _ _ (Ne.symm xn)).trans (Heap.get?_push_at rfl rfl), rfl, fun _ he => absurd he (by simp), fun _ => rfl⟩
  · intro G tk2 ns sb
    have hx2 := Heap.get?_push_of_some { cls := .type "dict", data := .dict #[] } hx
    exact q G tk2 hp.objs.size (fun b o hb ho => (sb.2 b (Nat.ne_of_lt (Heap.lt_size ho))).trans ((Heap.get?_update_ne _ _ _ _ hb).trans (Heap.get?_push_of_some _ ho))) (Nat.le_refl _) (Ne.symm xn)
      ((sb.2 x xn).trans (Heap.get?_update_self _ hx2 rfl)) ns
end
section
variable {X : Cx} {pins : List (Addr × Obj)} {σ : L2.St} {H : Hp} {s : Shared} {a C : Addr} {y : V} {u : Value} {A : Around} {E : Value → Shared → Prop} {B newId initId : String} {bmB : List Value}
/-- the field is set, the exception has a dict then -/
theorem put_what {Q : Unit → Shared → Prop} (b : ExB B newId initId bmB) (T : ExT X.K C B newId initId bmB) (I : Inv X pins σ H s) (ha : H a = some (exo a C none)) (ry : RelV y u)
    (q : ∀ dx s', H dx = none → dx ≠ a → Inv X pins σ (upd (upd H a (exo a C (some dx))) dx (exd dx [("what", y)])) s' → Q () s') : wpAny (model X.prog X.w) A (setAttr (.ref a) "what" u) Q E s := by
  obtain ⟨t1, ho⟩ := exo_at I.hok ha
  obtain ⟨hp, g, d, tk, os⟩ := s
  refine PySem.W.set_plain I.kIn (ox := { cls := .ref C, dict := none, data := .fields #[.ref t1, .none, .none, .none, .bool false, .none] }) (od := none) ⟨ho, rfl, rfl, trivial⟩ T.sa ?_
  refine osa_first b.SF I.kIn ho T.ov T.hdC T.wt fun G tk2 dx k dn dne hx hn => ?_
  have nd : H dx = none := I.hok.fresh dn
  -- first the object, then its dict
  have up : (hp.update a fun o => { o with dict := some dx }).get? a = some { cls := .ref C, dict := some dx, data := .fields #[.ref t1, .none, .none, .none, .bool false, .none] } := Heap.get?_update_self _ ho rfl
  have J := I.write (t' := tk2) (x := a) (e := a) (o := exo a C (some dx)) (h' := hp.update a fun o => { o with dict := some dx }) (by rw [ha]; exact True.intro) (.inl rfl) (fun b o hb z => (Heap.get?_update_ne _ _ _ _ hb).trans z) ⟨_, up⟩ (exo_ok up)
  have sz : (hp.update a fun o => { o with dict := some dx }).objs.size = hp.objs.size := Heap.size_update ..
  have L := J.laid (a := dx) (o := exd dx [("what", y)]) (h' := G) (t' := tk2) (fun b o z => by
    by_cases hb : b = a
    · rw [hb, up] at z
      cases z
      rw [hb]
      exact hx
    · rw [Heap.get?_update_ne _ _ _ _ hb] at z
      exact k b o hb z) (by show (hp.update a _).objs.size ≤ dx; rw [sz]; exact dn) (exd_ok hn (relO_put (fs := []) ry fun _ => True.intro))
  exact q dx _ nd dne L
/-- B.__init__(self): nothing of it is told -/
theorem base_init {us : List Value} {Q : Value → Shared → Prop} (b : ExB B newId initId bmB) (T : ExT X.K C B newId initId bmB) (I : Inv X pins σ H s) (ha : H a = some (exo a C none)) (hl : us.length ≤ sizeLine) (q : ∀ s', Inv X pins σ H s' → Q .none s') :
    wpAny (model X.prog X.w) A (call (.builtin initId) (.ref a :: us)) Q E s := by
  obtain ⟨_, _, _, _, _, _, _, _, _, _, _, _, _, _, _, _, hC, hT⟩ := PySem.W.excInit_of I.kIn T.q
  obtain ⟨t1, ho⟩ := exo_at I.hok ha
  obtain ⟨hp, g, d, tk, os⟩ := s
  refine wpAny_call (PySem.HandSPX.init_base b.F hT hC ho hl fun G t2 k hx => ?_)
  have J := I.write (t' := tk) (x := a) (e := a) (o := exo a C none) (by rw [ha]; exact True.intro) (.inl rfl) k ⟨_, hx⟩ (exo_ok hx)
  have same : upd H a (exo a C none) = H := funext fun b => by
    by_cases hb : b = a
    · rw [hb, upd_same, ha]
    · exact upd_ne hb
  rw [same] at J
  exact q _ J
end
/-! ### the class's own __init__ -/
section
variable {X : Cx} {C : Addr} {B newId initId : String} {bmB : List Value} {e o : Expr} {te to : TE} {p1 p2 p' pos : Pos}
/-- B.__init__(e) -/
def tBI (C : Addr) (te : TE) : TE := fun σ H Q => te σ H fun v H1 => ∃ a, [v] = [V.ref a] ∧ H1 a = some (exo a C none) ∧ Q .non H1
theorem pe_binit {pl : Sem Bool} (b : ExB B newId initId bmB) (T : ExT X.K C B newId initId bmB) (hg : Gl X B) (hm : X.mg B = none) (he : PE X e te)
    (hc : eval (.Call (.Attribute (.Name (Str.ofString B) p1) "__init__" p2) [e] [] pos) X.env = (do
      let ov ← eval (.Name (Str.ofString B) p1) X.env
      standAt p2.atName
      let (f, first) ← holding [ov] (getMethod ov "__init__" pl)
      callWith pos f first (backTo pos (starEach [e] X.env)) (backToKw pos (keywordEach [] X.env))))
    (hs : starEach [e] X.env = (false, eval e X.env) :: starEach [] X.env) :
    PE X (.Call (.Attribute (.Name (Str.ofString B) p1) "__init__" p2) [e] [] pos) (tBI C te) := by
  refine ⟨fun pins s σ H Q I h => PySem.W.methodCall_KW (ld_blt I hg hm b.boot ?_ b.nn b.nd) hc⟩
  obtain ⟨m, fr⟩ := I.fr
  refine PySem.W.method_type fr I.ok.mod.kin b.typ b.stub T.iv b.hin (show wpAny _ _ (callWith pos (Value.builtin initId) [] (backTo pos (starEach [e] X.env)) []) _ _ _ from ?_)
  have hp : PA X [e] (fun σ H Q => te σ H fun v H1 => Q [v] H1) := pa_cons he pa_nil hs
  refine PyProof.Rows.callWith_method1 (thn (hp.run pos pins _ σ H (fun vs H1 => ∃ a, vs = [V.ref a] ∧ H1 a = some (exo a C none) ∧ Q .non H1) (I.tok _) h) fun us s1 ⟨vs, H1, I1, rv, a, ev, ha, q⟩ => ?_) hs rfl
  subst ev
  cases rv with
  | @cons _ u _ _ hr rr =>
    cases rr
    have eu : u = Value.ref a := hr
    subst eu
    show wpAny _ _ (call (Value.builtin initId) (Value.ref a :: [])) _ _ _
    refine base_init b T I1 ha ?_ fun s' J => ⟨.non, H1, J, rfl, q⟩
    rw [sizeLine_eq]
    exact Nat.zero_le _
/-- o.what = e, the first field -/
def tPutW (C : Addr) (to te : TE) : TS := fun D σ H => te σ H fun y H1 => to σ H1 fun x H2 => ∃ a, x = .ref a ∧ H2 a = some (exo a C none) ∧ ∀ dx, H2 dx = none → dx ≠ a → D.nx σ (upd (upd H2 a (exo a C (some dx))) dx (exd dx [("what", y)]))
theorem ps_putw (b : ExB B newId initId bmB) (T : ExT X.K C B newId initId bmB) (ho : PE X o to) (he : PE X e te) (hs : swapsWith e (some (.Attribute o "what" p')) pos.line X.env = pure false) : PS X (.Assign [.Attribute o "what" p'] e pos) (tPutW C to te) := by
  refine ⟨fun pins s σ H D I h => plainObj_wpAny_Assign_Attribute (thn (he.run pins s σ H _ I h) fun v s1 ⟨y, H1, I1, ry, h1⟩ => thn (ho.run pins s1 σ H1 _ I1 h1) fun u s2 ⟨x, H2, I2, rx, a, ex, ha, q⟩ => ?_) hs⟩
  subst ex
  obtain rfl : u = Value.ref a := rx
  exact put_what b T I2 ha ry fun dx s' n ne J => ⟨σ, _, J, q dx n ne⟩
end
/-- what __init__ of such a class keeps -/
def spInitX (C : Addr) : Sp := fun vs H Q _ => ∃ a y, vs = [V.ref a, y] ∧ H a = some (exo a C none) ∧ ∀ dx, H dx = none → dx ≠ a → Q .non (upd (upd H a (exo a C (some dx))) dx (exd dx [("what", y)]))
section
variable {P : Program} {wo : World} {K : PySem.W.Frag} {mg : Str → Option Value} {base : Heap} {x qual : Str} {params : Arguments} {scope : Scope} {f : Addr} {fd : FuncData} {k : Nat} {C : Addr} {B newId initId : String} {bmB : List Value} {p1 p2 p3 p4 p5 p6 p7 p8 p9 : Pos}
/-- how the first statement is read -/
def InitEq (B : Str) (p1 p2 p3 p4 : Pos) (env : PySem.Env) : Prop := ∃ pl : Sem Bool, eval (.Call (.Attribute (.Name B p1) "__init__" p2) [.Name "self" p3] [] p4) env = (do
      let ov ← eval (.Name B p1) env
      standAt p2.atName
      let (f, first) ← holding [ov] (getMethod ov "__init__" pl)
      callWith p4 f first (backTo p4 (starEach [.Name "self" p3] env)) (backToKw p4 (keywordEach [] env)))
theorem initX_ok (b : ExB B newId initId bmB) (T : ExT K C B newId initId bmB)
    (F : FunD K x qual params [.Expr (.Call (.Attribute (.Name (Str.ofString B) p1) "__init__" p2) [.Name "self" p3] [] p4) p5, .Assign [.Attribute (.Name "self" p6) "what" p7] (.Name "what" p8) p9] scope [] [] f fd)
    (S : FnScope ["self", "what"] ["self", "what"] scope) (hg : ∀ (s : Shared) (cd : Value) (A : Around) (ou : List PySem.Env) (H : Hp) (y : XK), Gl (cxOf CX0 P wo K mg base ["self", "what"] qual scope f cd A ou s H y) B) (hm : mg B = none)
    (hev : ∀ (n : Nat) (cd : Value), InitEq (Str.ofString B) p1 p2 p3 p4 (envOfC qual scope n f cd)) : FnG P wo K mg base CX0 (k + 1) f fd ["self", "what"] (spInitX C) := by
  refine fnG_body F S (fun vs H Q E ⟨a, y, e, _⟩ => by rw [e]; rfl) fun cd A ou s H vs Q E hr ⟨a, y, ev, ha, q⟩ => ?_
  subst ev
  have v0 : Vis scope "self" := (S.par "self" (by decide)).elim .inl fun z => .inr (.inl z)
  have v1 : Vis scope "what" := (S.par "what" (by decide)).elim .inl fun z => .inr (.inl z)
  obtain ⟨pl, ev⟩ := hev s.heap.objs.size cd
  refine ⟨_, pss_cons (ps_expr (pe_binit (pl := pl) b T (hg s cd A ou H E) hm (pe_var (i := 0) (x := "self") rfl v0 (by decide) (by decide)) ev (by rfl)) (by rfl)) (pss_one (ps_putw b T (pe_var (i := 0) (x := "self") rfl v0 (by decide) (by decide)) (pe_var (i := 1) (x := "what") rfl v1 (by decide) (by decide)) (by rfl))), ?_⟩
  exact ⟨_, rfl, a, rfl, ha, _, rfl, _, rfl, a, rfl, ha, fun dx n ne => q dx n ne⟩
end
/-! ### such an exception made -/
section
variable {X : Cx} {c : Str} {fd : FuncData} {k j : Nat} {C : Addr} {B newId initId : String} {bmB : List Value} {e : Expr} {te : TE} {p pos : Pos}
theorem pmk_x (b : ExB B newId initId bmB) (T : ExT X.K C B newId initId bmB) (F : FnG X.prog X.w X.K X.mg X.base CX0 k (He.ma X.K C "__init__") fd ["self", "what"] (spInitX C)) (hr : RoomG (k + 1) X.A) (hb : Binds X.K fd ["self", "what"] [])
    (hg : Gl X c) (hm : X.mg c = some (.ref C)) (he : PE X e te) (hs : starEach [e] X.env = (false, eval e X.env) :: starEach [] X.env := by rfl) (hdb : (c == ("__debug__" : Str)) = false := by decide) :
    PMk X (.Call (.Name c p) [e] [] pos) (fun σ H Q => te σ H fun w H1 => ∃ v, [w] = [v] ∧ ∀ d, H1 d = none → Q (.ref C) (some d) (upd H1 d (.xd [("what", v)]))) := by
  intro pins s σ H Q I h
  refine wpAny_Call_Name_kw (ld_glob I hg hm ?_ hdb)
  have hp : PA X [e] (fun σ H Q => te σ H fun v H1 => Q [v] H1) := pa_cons he pa_nil hs
  refine PySem.W.callWith_K (h₀ := X.base) I.ok.mod.kin T.kC (thn (hp.run pos pins s σ H (fun vs H1 => ∃ v, vs = [v] ∧ ∀ d, H1 d = none → Q (.ref C) (some d) (upd H1 d (.xd [("what", v)]))) I h) fun us s1 ⟨vs, H1, I1, rv, v, ev, q⟩ => ⟨I1.kIn, ?_⟩) hs (by rfl)
  subst ev
  obtain ⟨u, eu, ru⟩ : ∃ u, us = [u] ∧ RelV v u := by
    cases rv with
    | @cons _ u _ _ hr rr =>
      cases rr
      exact ⟨u, rfl, hr⟩
  subst eu
  show wpAny _ _ (call (.ref C) [u]) _ _ _
  obtain ⟨_, _, _, _, _, _, _, _, _, _, _, _, _, _, _, _, hC, hT⟩ := PySem.W.excInit_of I1.kIn T.q
  obtain ⟨hp, g, dr, tk, os⟩ := s1
  have le : hp.objs.size ≤ hp.objs.size + 1 := Nat.le_succ _
  have hn : H1 (hp.objs.size + 1) = none := I1.hok.fresh le
  generalize hA : hp.objs.size + 1 = A at le hn
  have kk : ∀ b o, hp.get? b = some o → ((hp.push (PySem.W.kdv_tup [u])).push (PySem.HandSPX.excO C hp.objs.size)).get? b = some o := fun b o z => Heap.get?_push_of_some _ (Heap.get?_push_of_some _ z)
  have hx : ((hp.push (PySem.W.kdv_tup [u])).push (PySem.HandSPX.excO C hp.objs.size)).get? A = some (PySem.HandSPX.excO C hp.objs.size) := by rw [← hA]; heap_get
  have I2 := I1.laid (t' := tk) (a := A) (o := exo A C none) kk le (exo_ok hx)
  have sp : spInitX C [V.ref A, v] (upd H1 A (exo A C none)) (fun x H2 => x = .non ∧ ∃ d, H1 d = none ∧ d ≠ A ∧ H2 = upd (upd (upd H1 A (exo A C none)) A (exo A C (some d))) d (exd d [("what", v)])) (fun _ _ _ => False) :=
    ⟨A, v, rfl, upd_same, fun dx n ne => ⟨rfl, dx, by rw [upd_ne ne] at n; exact n, ne, rfl⟩⟩
  have hus : [u].length ≤ sizeLine := by
    rw [sizeLine_eq]
    show 1 ≤ 16777216
    decide
  refine wpAny_call (PySem.HandSPX.call_own b.F hT hC (PySem.W.looks_findIn I1.kIn T.iC) (fun self => PySem.W.bind_fn I1.kIn self T.tI) hus ?_)
  rw [hA]
  have bi := hb ⟨(hp.push (PySem.W.kdv_tup [u])).push (PySem.HandSPX.excO C hp.objs.size), g, dr, tk, os⟩ [.ref A, u] I2.kIn rfl
  refine codeAny_mono (F.run _ X.stack _ _ ⟨[.ref A, u], []⟩ [.ref A, u] _ _ _ (hr.make C [u] []) (I2.env0.make C [u] []) bi (show Vals [V.ref A, v] [Value.ref A, u] from .cons rfl (.cons ru .nil)) sp) fun r s' z => ?_
  match r, z with
  | .error _, z => exact z.elim
  | .ok .next, z => exact z.elim
  | .ok .brk, z => exact z.elim
  | .ok .cont, z => exact z.elim
  | .ok (.ret x), ⟨y, H2, os2, bare2, un2, hok2, ry, ey, d, hd, ne, eH⟩ =>
    subst ey
    subst eH
    obtain ⟨h2, g2, d2, t2, os'⟩ := s'
    have ea : (upd (upd (upd H1 A (exo A C none)) A (exo A C (some d))) d (exd d [("what", v)])) A = some (exo A C (some d)) := by rw [upd_ne (Ne.symm ne), upd_same]
    have eH : upd (del (upd (upd (upd H1 A (exo A C none)) A (exo A C (some d))) d (exd d [("what", v)])) A) d (.xd [("what", v)]) = upd H1 d (.xd [("what", v)]) := funext fun x => by
      by_cases h1 : x = d
      · rw [h1, upd_same, upd_same]
      · rw [upd_ne h1, upd_ne h1]
        by_cases h2 : x = A
        · rw [h2, del_same, hn]
        · rw [del_ne h2, upd_ne h1, upd_ne h2, upd_ne h2]
    exact ⟨ry, mk_end T.raises I1 le kk un2 hok2 os2 bare2 ea upd_same hd (by rw [eH]; exact q d hd)⟩
end
end DL

/-! Readings of what may let an exception out: xe says what follows one (its class, its what, the slots, the store). -/
namespace DL
open PySem PySem.Spec PyProof.Rows L2

abbrev DX := Str → D → Env → Sto → Prop
abbrev DXC := Str → D → Sto → Prop
abbrev SpDX := List D → Sto → DK → DXC → Prop
/-- the dict of an exception with the what d -/
def ExD (K : PySem.W.Frag) (w : Wd) (H : Hp) (d : D) (dd : Addr) : Prop := ∃ v, H dd = some (.xd [("what", v)]) ∧ Rep K w d v
def FolC (K : PySem.W.Frag) (w : Wd) (xk : DXC) (E : XK) : Prop := ∀ c d st' w' H' dd, xk c d st' → Le w w' → Wld K w' st' H' → ExD K w' H' d dd → E (.ref (He.ga K c)) (some dd) H'
def FolX (K : PySem.W.Frag) (w : Wd) (xe : DX) (W : WX) : Prop := ∀ c d env' st' σ' w' H' dd, xe c d env' st' → Le w w' → Wld K w' st' H' → EnvR K w' env' σ' → ExD K w' H' d dd → W (.ref (He.ga K c)) (some dd) σ' H'
theorem FolX.le {K : PySem.W.Frag} {w w' : Wd} {xe : DX} {W : WX} (h : FolX K w xe W) (l : Le w w') : FolX K w' xe W := fun c d env' st' σ' w2 H' dd x l2 => h c d env' st' σ' w2 H' dd x (l.trans l2)
theorem FolC.le {K : PySem.W.Frag} {w w' : Wd} {xk : DXC} {E : XK} (h : FolC K w xk E) (l : Le w w') : FolC K w' xk E := fun c d st' w2 H' dd x l2 => h c d st' w2 H' dd x (l.trans l2)
theorem FolX.at {K : PySem.W.Frag} {w : Wd} {xe : DX} {W : WX} {env : Env} {σ : L2.St} (h : FolX K w xe W) (E : EnvR K w env σ) : FolC K w (fun c d s => xe c d env s) (fun cls d H' => W cls d σ H') :=
  fun c d st' w' H' dd x l W' e => h c d env st' σ w' H' dd x l W' (E.mono l) e
def tX (K : PySem.W.Frag) (W : WX) (xe : DX) (t : DE) : TE := fun σ H Q => ∃ w env st kk, FolX K w xe W ∧ Wld K w st H ∧ EnvR K w env σ ∧ t env st kk ∧ Fol K w kk Q
def tXA (K : PySem.W.Frag) (W : WX) (xe : DX) (t : DA) : TA := fun σ H Q => ∃ w env st kk, FolX K w xe W ∧ Wld K w st H ∧ EnvR K w env σ ∧ t env st kk ∧ FolA K w kk Q
def tXS (K : PySem.W.Frag) (W : WX) (xe : DX) (t : DS) : TS := fun E σ H => ∃ w env st D, FolX K w xe W ∧ Wld K w st H ∧ EnvR K w env σ ∧ t D env st ∧ FolN K w D.nx E.nx ∧ Fol K w D.rt E.rt
abbrev PX (X : Cx) (W : WX) (xe : DX) (e : Expr) (t : DE) : Prop := PE X e (tX X.K W xe t)
abbrev PXA (X : Cx) (W : WX) (xe : DX) (es : List Expr) (t : DA) : Prop := PA X es (tXA X.K W xe t)
abbrev PXS (X : Cx) (W : WX) (xe : DX) (s : Stmt) (t : DS) : Prop := PS X s (tXS X.K W xe t)
abbrev PXSs (X : Cx) (W : WX) (xe : DX) (s : List Stmt) (t : DS) : Prop := PSs X s (tXS X.K W xe t)
section
variable {X : Cx} {W : WX} {xe : DX} {e a b : Expr} {es : List Expr} {pos : Pos} {ta tb : DE} {t : DA}
/-! ### what lets none out -/
theorem px_lift {t : DE} (h : PD X e t) : PX X W xe e t := h.wk fun σ H Q ⟨w, env, st, kk, fx, Wl, E, h, fo⟩ => ⟨w, env, st, kk, Wl, E, h, fo⟩
theorem pxa_lift (h : PDA X es t) : PXA X W xe es t := h.wk fun σ H Q ⟨w, env, st, kk, fx, Wl, E, h, fo⟩ => ⟨w, env, st, kk, Wl, E, h, fo⟩
theorem pxs_lift {s : Stmt} {t : DS} (h : PDS X s t) : PXS X W xe s t := h.wk fun Ed σ H ⟨w, env, st, D, fx, Wl, E, h, fn, fr⟩ => ⟨w, env, st, D, Wl, E, h, fn, fr⟩
/-! ### statements -/
theorem pxss_nil : PXSs X W xe [] dPass := (pdss_nil (X := X)).wk fun Ed σ H ⟨w, env, st, D, fx, Wl, E, h, fn, fr⟩ => ⟨w, env, st, D, Wl, E, h, fn, fr⟩
theorem pxss_one {s : Stmt} {t : DS} (h : PXS X W xe s t) : PXSs X W xe [s] t := pss_one h
theorem pxss_cons {s : Stmt} {rest : List Stmt} {t u : DS} (h1 : PXS X W xe s t) (h2 : PXSs X W xe rest u) : PXSs X W xe (s :: rest) (dSeq t u) :=
  (pss_cons h1 h2).wk fun Ed σ H ⟨w, env, st, D, fx, Wl, E, h, fn, fr⟩ =>
    ⟨w, env, st, _, fx, Wl, E, h, fun env1 st1 σ1 w1 H1 h1 l1 W1 E1 => ⟨w1, env1, st1, D, fx.le l1, W1, E1, h1, fn.le l1, fr.le l1⟩, fr⟩
theorem pxs_if {c : Expr} {xs ys : List Stmt} {tc : DT} {t u : DS} (hc : PDT X c tc) (ha : PXSs X W xe xs t) (hb : PXSs X W xe ys u) : PXS X W xe (.If c xs ys pos) (dIfS tc t u) := by
  refine (ps_if hc ha hb).wk fun Ed σ H ⟨w, env, st, D, fx, Wl, E, h, fn, fr⟩ => ⟨w, env, st, _, Wl, E, h, fun c st1 w1 H1 h1 l1 W1 => ?_⟩
  cases c with
  | true =>
    rw [if_pos rfl] at h1 ⊢
    exact ⟨w1, env, st1, D, fx.le l1, W1, E.mono l1, h1, fn.le l1, fr.le l1⟩
  | false =>
    rw [if_neg Bool.false_ne_true] at h1 ⊢
    exact ⟨w1, env, st1, D, fx.le l1, W1, E.mono l1, h1, fn.le l1, fr.le l1⟩
theorem pxs_expr {t : DE} (he : PX X W xe e t) (hs : swapsWith e none pos.line X.env = pure false := by rfl) : PXS X W xe (.Expr e pos) (dDrop t) :=
  (ps_expr he hs).wk fun Ed σ H ⟨w, env, st, D, fx, Wl, E, h, fn, fr⟩ => ⟨w, env, st, _, fx, Wl, E, h, fun d st1 v w1 H1 h1 l1 W1 R1 => fn _ _ _ _ _ h1 l1 W1 (E.mono l1)⟩
/-! ### expressions -/
theorem pxa_cons {t : DE} {u : DA} (ha : PX X W xe e t) (hr : PXA X W xe es u) (hs : starEach (e :: es) X.env = (false, eval e X.env) :: starEach es X.env := by rfl) : PXA X W xe (e :: es) (dCons t u) :=
  (pa_cons ha hr hs).wk fun σ H Q ⟨w, env, st, kk, fx, Wl, E, h, fo⟩ =>
    ⟨w, env, st, _, fx, Wl, E, h, fun d st1 v w1 H1 h1 l1 W1 R1 => ⟨w1, env, st1, _, fx.le l1, W1, E.mono l1, h1, fun ds st2 vs w2 H2 h2 l2 W2 R2 => fo _ _ _ _ _ h2 (l1.trans l2) W2 (.cons (Rep.mono l2 _ _ R1) R2)⟩⟩
/-! ### calls -/
def spDX (K : PySem.W.Frag) (sp : SpDX) : Sp := fun vs H Q E => ∃ w st ds kk xk, Wld K w st H ∧ Reps K w ds vs ∧ sp ds st kk xk ∧ Fol K w kk Q ∧ FolC K w xk E
def dCallX (xe : DX) (sp : SpDX) (t : DA) : DE := fun env st k => t env st fun ds s1 => sp ds s1 k fun c d s2 => xe c d env s2
/-- where it lets none out -/
def silX (sp : SpDX) : SpD := fun ds st kk => sp ds st kk fun _ _ _ => False
variable {k : Nat} {f : Addr} {fd : FuncData} {ps : List Str} {sp : SpDX} {x : Str} {p : Pos}
/-- such a def run -/
theorem run_fnX {pins : List (Addr × Obj)} {σ : L2.St} {H : Hp} {s : Shared} {Q : VK} {E : XK} {us ws : List Value} {kw : List (Str × Value)} {vs : List V} (g : FnG X.prog X.w X.K X.mg X.base (CX X.prog X.w) k f fd ps (spDX X.K sp)) (hr : RoomG k X.A) (tk : Takes X W)
    (hE : ∀ cls d H', E cls d H' → W cls d σ H') (I : Inv X pins σ H s) (bi : BindsTo s fd ⟨us, kw⟩ (ps.zip ws)) (rv : Vals vs ws) (h : spDX X.K sp vs H Q E) : wpAny (model X.prog X.w) X.A (call (.ref f) us kw) (EP X pins σ Q) X.xe s := by
  refine wpAny_call (codeAny_mono (g.run X.A X.stack s H ⟨us, kw⟩ ws vs Q E hr I.env0 bi rv h) fun out s2 z => ?_)
  match out, z with
  | .error e, z => exact tk e s2 (XE.of_call I hE z)
  | .ok (.ret u), z => exact I.after z
  | .ok .next, z => exact z.elim
  | .ok .brk, z => exact z.elim
  | .ok .cont, z => exact z.elim
theorem px_call (tk : Takes X W) (F : FnG X.prog X.w X.K X.mg X.base (CX X.prog X.w) k f fd ps (spDX X.K sp)) (hr : RoomG k X.A) (hm : X.mg x = some (.ref f)) (hk : PySem.W.keepIn X.K (.ref f) = true) (hb : Binds X.K fd ps [])
    (ha : PXA X W xe (e :: es) t) (hg : Gl X x := by rfl) (hdb : (x == ("__debug__" : Str)) = false := by decide) (he : starEach (e :: es) X.env = (false, eval e X.env) :: starEach es X.env := by rfl) (hpl : (backTo pos (starEach es X.env)).any (·.1) = false := by rfl) :
    PX X W xe (.Call (.Name x p) (e :: es) [] pos) (dCallX xe sp t) := by
  refine ⟨fun pins s σ H Q I ⟨w, env, st, kk, fx, Wl, E, h, fo⟩ => ?_⟩
  refine wpAny_Call_Name_kw (ld_glob I hg hm ?_ hdb)
  refine PySem.W.callWith_K (h₀ := X.base) I.ok.mod.kin hk (thn (ha.run pos pins s σ H (fun vs H1 => spDX X.K sp vs H1 Q fun cls d H' => W cls d σ H') I ⟨w, env, st, _, fx, Wl, E, h, fun ds st1 vs w1 H1 h1 l1 W1 R1 => ⟨w1, st1, ds, kk, _, W1, R1, h1, fo.le l1, (fx.le l1).at (E.mono l1)⟩⟩) fun us s1 ⟨vs, H1, I1, r, q⟩ => ⟨I1.kIn, ?_⟩) he hpl
  have hl : us.length = ps.length := r.length.symm.trans (F.len _ _ _ _ q)
  have z := hb s1 us I1.kIn (by rw [List.append_nil]; exact hl)
  rw [List.append_nil] at z
  exact run_fnX F hr tk (fun _ _ _ h => h) I1 z r q
/-- where none is let out it is an ordinary def -/
theorem fn_sil {P : Program} {wo : World} {K : PySem.W.Frag} {mg : Str → Option Value} {base : Heap} (F : FnG P wo K mg base (CX P wo) k f fd ps (spDX K sp)) : FnG P wo K mg base CX0 k f fd ps (spD K (silX sp)) := by
  have up : ∀ {vs H Q E}, spD K (silX sp) vs H Q E → spDX K sp vs H Q (fun _ _ _ => False) := fun ⟨w, st, ds, kk, W, R, h, fo⟩ => ⟨w, st, ds, kk, _, W, R, h, fo, fun _ _ _ _ _ _ z => z.elim⟩
  refine ⟨fun vs H Q E h => F.len vs H Q _ (up h), fun A ou s H ar us vs Q E hr e0 bi rv h => codeAny_mono (F.run A ou s H ar us vs Q _ hr e0 bi rv (up h)) fun r s2 z => ?_⟩
  match r, z with
  | .error e, ⟨_, _, _, _, _, _, _, _, _, _, _, _, z⟩ => exact z.elim
  | .ok (.ret u), z => exact z
  | .ok .next, z => exact z.elim
  | .ok .brk, z => exact z.elim
  | .ok .cont, z => exact z.elim
/-! ### raise -/
theorem Wld.more {K : PySem.W.Frag} {w : Wd} {st : Sto} {H : Hp} (Wl : Wld K w st H) {p : Addr} {o : HO} (h : H p = none) : Wld K w st (upd H p o) := by
  have ne : ∀ {b : Addr} {u : HO}, H b = some u → b ≠ p := fun z e => by rw [e, h] at z; cases z
  refine ⟨fun b u z => ?_, Wl.len, Wl.nd, fun i a e => ?_, Wl.small, fun a vs m => ?_, Wl.hnd⟩
  · have z' := Wl.same b u z
    rw [upd_ne (ne z')]
    exact z'
  · obtain ⟨g, xs, u, h1, h2, h3⟩ := Wl.at_ i a e
    exact ⟨g, xs, u, h1, by rw [upd_ne (ne h2)]; exact h2, h3⟩
  · obtain ⟨g, n, h1⟩ := Wl.hidd a vs m
    exact ⟨g, n, by rw [upd_ne (ne h1)]; exact h1⟩
def dRaise (xe : DX) (c : Str) (t : DE) : DS := fun _ env st => t env st fun d s1 => xe c d env s1
/-- a class that is raised: its __init__, walked -/
def CalE (P : Program) (wo : World) (K : PySem.W.Frag) (mg : Str → Option Value) (base : Heap) (k : Nat) (c : Str) : Prop :=
  ∃ B newId initId bmB fd, ExB B newId initId bmB ∧ ExT K (He.ga K c) B newId initId bmB ∧ mg c = some (.ref (He.ga K c)) ∧ FnG P wo K mg base CX0 k (He.ma K (He.ga K c) "__init__") fd ["self", "what"] (spInitX (He.ga K c)) ∧ Binds K fd ["self", "what"] []
theorem pxs_raise {c : Str} {j : Nat} {t : DE} {p pos' : Pos} (q : CalE X.prog X.w X.K X.mg X.base k c) (hr : RoomG j X.A) (tk : Takes X W) (hc : X.calm = true) (he : PD X e t) (hkj : k + 1 ≤ j := by decide) (hg : Gl X c := by rfl)
    (hs : starEach [e] X.env = (false, eval e X.env) :: starEach [] X.env := by rfl) (hdb : (c == ("__debug__" : Str)) = false := by decide) : PXS X W xe (.Raise (some (.Call (.Name c p) [e] [] pos')) none pos) (dRaise xe c t) := by
  obtain ⟨B, newId, initId, bmB, fd, b, T, hm, F, bi⟩ := q
  refine (ps_raise hc tk (pmk_x b T F (hr.mono hkj) bi hg hm he hs hdb)).wk fun Ed σ H ⟨w, env, st, D, fx, Wl, E, h, fn, fr⟩ => ?_
  exact ⟨w, env, st, _, Wl, E, h, fun d st1 v w1 H1 h1 l1 W1 R1 => ⟨v, rfl, fun dd n => fx c d env st1 σ w1 _ dd h1 l1 (W1.more n) (E.mono l1) ⟨v, upd_same, R1⟩⟩⟩
/-! ### a def that may let exceptions out keeps its promise -/
end
section
variable {P : Program} {wo : World} {K : PySem.W.Frag} {mg : Str → Option Value} {base : Heap} {x qual : Str} {params : Arguments} {body : List Stmt} {scope : Scope} {kws : List (Str × V)} {f : Addr} {fd : FuncData} {N ps : List Str} {k : Nat} {sp : SpDX} {t : DX → DS}
def BodyX (fz : Bool) (N : List Str) (sp : SpDX) (t : DX → DS) : Prop := ∀ ds st kk xk, sp ds st kk xk →
  t (fun c d _ st' => if fz = true then Frz st d st' (xk c) else xk c d st') ⟨fun _ st' => if fz = true then Frz st .non st' kk else kk .non st', fun d st' => if fz = true then Frz st d st' kk else kk d st'⟩ (startD N ds) st
theorem folC_frz {w : Wd} {st : Sto} {H : Hp} {xk : DXC} {E : XK} (Wl : Wld K w st H) (fc : FolC K w xk E) : FolC K w (fun c d st' => Frz st d st' (xk c)) E := by
  intro c d st' w' H' dd h l W' e
  obtain ⟨v, e, R⟩ := e
  have fo : Fol K w (xk c) (fun v H' => ∀ dd, H' dd = some (.xd [("what", v)]) → E (.ref (He.ga K c)) (some dd) H') := fun d st' v w' H' h l W' R dd e => fc c d st' w' H' dd h l W' ⟨v, e, R⟩
  exact fol_frz Wl fo d st' v w' H' h l W' R dd e
theorem fnX (fz : Bool) (F : FunD K x qual params body scope [] kws f fd) (S : FnScope N ps scope) (len : ∀ ds st kk xk, sp ds st kk xk → ds.length = ps.length)
    (hd : ∀ (cdv : Value) (A : Around) (outer : List PySem.Env) (s : Shared) (H : Hp) (E : XK) (xe : DX), RoomG k (A.deeper (envOfC qual scope s.heap.objs.size f cdv)) → Takes (cxOf (CX P wo) P wo K mg base N qual scope f cdv A outer s H E) (fun cls d _ H' => E cls d H') →
      PassesOwn (model P wo) (cxOf (CX P wo) P wo K mg base N qual scope f cdv A outer s H E).A (cxOf (CX P wo) P wo K mg base N qual scope f cdv A outer s H E).env (cxOf (CX P wo) P wo K mg base N qual scope f cdv A outer s H E).xe →
      PXSs (cxOf (CX P wo) P wo K mg base N qual scope f cdv A outer s H E) (fun cls d _ H' => E cls d H') xe body (t xe))
    (hp : BodyX fz N sp t) : FnG P wo K mg base (CX P wo) (k + 1) f fd ps (spDX K sp) := by
  refine fnG_body F S (fun vs H Q E ⟨w, st, ds, kk, xk, W, R, q, fo, fc⟩ => R.length.trans (len ds st kk xk q)) fun cdv A outer s H vs Q E hr ⟨w, st, ds, kk, xk, W, R, q, fo, fc⟩ => ?_
  refine ⟨_, hd cdv A outer s H E _ hr (takes_of rfl rfl rfl rfl) (passes_of rfl), w, startD N ds, st, _, ?_, W, startD_rep R, hp ds st kk xk q, ?_, ?_⟩
  · intro c d env' st' σ' w' H' dd h l W' E' e
    cases fz with
    | true => exact folC_frz W fc c d st' w' H' dd h l W' e
    | false => exact fc c d st' w' H' dd h l W' e
  · intro env' st' σ' w' H' h l W' E'
    cases fz with
    | true => exact fol_frz W fo _ _ _ _ _ h l W' rep_non
    | false => exact fo _ _ _ _ _ h l W' rep_non
  · cases fz with
    | true => exact fol_frz W fo
    | false => exact fo
end
/-- a callee that may let exceptions out -/
def CalX (P : Program) (wo : World) (K : PySem.W.Frag) (mg : Str → Option Value) (base : Heap) (k : Nat) (nm : Str) (ps : List Str) (sp : SpDX) : Prop :=
  ∃ f fd, mg nm = some (.ref f) ∧ PySem.W.keepIn K (.ref f) = true ∧ FnG P wo K mg base (CX P wo) k f fd ps (spDX K sp) ∧ Binds K fd ps []
section
variable {X : Cx} {W : WX} {xe : DX} {e : Expr} {es : List Expr} {pos p : Pos} {t : DA} {j k : Nat} {nm : Str} {ps : List Str} {sp : SpDX}
theorem px_callC (tk : Takes X W) (c : CalX X.prog X.w X.K X.mg X.base k nm ps sp) (hr : RoomG j X.A) (ha : PXA X W xe (e :: es) t) (hkj : k ≤ j := by decide) (hg : Gl X nm := by rfl) (hdb : (nm == ("__debug__" : Str)) = false := by decide) (he : starEach (e :: es) X.env = (false, eval e X.env) :: starEach es X.env := by rfl) (hpl : (backTo pos (starEach es X.env)).any (·.1) = false := by rfl) :
    PX X W xe (.Call (.Name nm p) (e :: es) [] pos) (dCallX xe sp t) := by
  obtain ⟨f, fd, a, b, F, d⟩ := c
  exact px_call tk F (hr.mono hkj) a b d ha hg hdb he hpl
theorem e_callX {env : Env} {st : Sto} {k : DK} : dCallX xe sp t env st k = t env st fun ds s1 => sp ds s1 k fun c d s2 => xe c d env s2 := rfl
theorem e_raise {c : Str} {t : DE} {env : Env} {st : Sto} {D : DEnds} : dRaise xe c t D env st = t env st fun d s1 => xe c d env s1 := rfl
end
end DL

/-! try .. except: the exception caught is kept as a value. -/
namespace DL
open PySem PySem.Spec PyProof.Rows L2

theorem exh_ok {P : Program} {w : World} {H : Hp} {h : Heap} {a C d : Addr} {o : Obj} {vs : Array Value} (e : h.get? a = some o) (z : Zc (.ref C) (some d) o) (hv : o.data = .fields vs) : ObjOk P w H h a (exh a C d) :=
  ⟨⟨o, vs, e, z, hv⟩, ⟨o, e⟩, fun _ _ ⟨o2, v2, q1, q2, q3⟩ k => ⟨o2, v2, k _ q1, q2, q3⟩⟩
theorem exh_at {P : Program} {w : World} {H : Hp} {h : Heap} {a C d : Addr} (hok : HOk P w H h) (e : H a = some (exh a C d)) : ∃ o vs, h.get? a = some o ∧ Zc (.ref C) (some d) o ∧ o.data = .fields vs := by
  have x : ObjOk P w H h a (.ext fun h => ∃ o vs, h.get? a = some o ∧ Zc (.ref C) (some d) o ∧ o.data = .fields vs) := hok a _ e
  exact x.1
/-- a is nothing that the def has known -/
structure FarA (X : Cx) (pins : List (Addr × Obj)) (a : Addr) : Prop where
  old : ∀ b o, X.s_0.heap.get? b = some o → b ≠ a
  cell : ∀ x c, X.env.cells.lookup x = some c → c ≠ a
  pin : ∀ p ∈ X.pn ++ pins, p.1 ≠ a
  loc : X.env.locals ≠ a
  fs : a ∉ X.fs
section
variable {X : Cx} {pins : List (Addr × Obj)} {σ : L2.St} {H : Hp} {s : Shared}
/-- an object that stands there is tracked from now on -/
theorem track {a : Addr} {o : HO} (I : Inv X pins σ H s) (na : H a = none) (F : FarA X pins a) (new : ObjOk X.prog X.w (upd H a o) s.heap a o) : Inv X pins σ (upd H a o) s := by
  have ne : ∀ {b : Addr} {u : HO}, H b = some u → b ≠ a := fun z e => by rw [e, na] at z; cases z
  refine ⟨I.ok, I.os, I.bare, ⟨I.base.keep, I.base.slot, fun b u z n x => ?_, I.base.there, fun b xs z => ?_, fun b u v z => ?_, fun b ps z => ?_⟩, I.loc, I.cell, ?_, fun x c e => ?_, fun p hp => ?_, fun b u z => ?_, I.len⟩
  · rw [upd_ne (F.old b u z)]
    exact I.base.free b u z n x
  · have q := I.base.tups b xs z
    rw [upd_ne (ne q)]
    exact q
  · have q := I.base.frzs b u v z
    rw [upd_ne (ne q)]
    exact q
  · obtain ⟨m, q⟩ := I.base.tbls b ps z
    exact ⟨m, by rw [upd_ne (ne q)]; exact q⟩
  · rw [upd_ne F.loc]
    exact I.free
  · rw [upd_ne (F.cell x c e)]
    exact I.freeC x c e
  · obtain ⟨q1, q2, q3⟩ := I.pin p hp
    exact ⟨q1, by rw [upd_ne (F.pin p hp)]; exact q2, q3⟩
  · by_cases hb : b = a
    · subst hb
      rw [upd_same] at z
      cases z
      exact new
    · rw [upd_ne hb] at z
      exact (I.hok b u z).stay (fun _ _ _ q => q) (fun c q => by rw [upd_ne (ne q)]; exact q) fun c xs q => by rw [upd_ne (ne q)]; exact q
end
section
variable {X : Cx} {body : List Stmt} {hds : List ExceptHandler} {pos : Pos} {tb : WX → TS} {wh : Ends → WX}
/-- try .. except, the clauses by what they do with an exception in flight -/
theorem ps_try_core {h₀ : ExceptHandler} (hs : X.stack = X.env :: X.outer) (hf : X.env.frame = some X.env.locals) (hex : X.ex = [])
    (hb : ∀ (W : WX) (pn : List (Addr × Obj)) (xe : Value → Shared → Prop), Takes (X.tr pn xe) W → PassesOwn (model X.prog X.w) X.A X.env xe → PSs (X.tr pn xe) body (tb W))
    (hh : ∀ (pins : List (Addr × Obj)) (D : Ends) (a : Addr) (B : Heap) (σ : L2.St) (H : Hp) (s : Shared) (cls : Value) (d : Option Addr), (∀ h', B.StaysIn h' → s.heap.UpToSlots h' → Inv X pins σ H { s with heap := h' }) → HandSPX.FlyingZ B (X.env :: X.outer) a (Zc cls d) s.heap → H a = none → FarA X pins a → wh D cls d σ H →
      wpAny (model X.prog X.w) X.A (handleBy (.ref a) X.env (h₀ :: hds)) (SP X pins D) X.xe s) : PS X (.Try body (h₀ :: hds) [] [] pos) (fun D σ H => tb (wh D) D σ H) := by
  refine ⟨fun pins s σ H D I h => ?_⟩
  have ok := I.ok
  refine wpAny_Try_except (wpAny_mono ((hb (wh D) (X.pn ++ pins) _ (fun u s' xx => ?_) PassesOwn.looking).run [] s σ H D (I.toTry _) h) (fun f s1 q => ?_) fun e s1 z => z)
  · obtain ⟨a, B, sI, pins', σ', H', cls, d, rfl, J', nb, up, sky, na, os, ag, w⟩ := xx
    have J : Inv X pins σ' H' sI := J'.ofTry ok
    have fr : X.A.frames = some (X.env :: X.outer) := by rw [ok.frames, hs]
    rw [show (X.tr (X.pn ++ pins) _).stack = X.env :: X.outer from hs] at sky
    refine Sky.land Zc.steady fr hf sky fun h3 fl up3 => ?_
    have J3 : Inv X pins σ' H' { s' with heap := h3 } := J.landed nb fl.1 (up.trans up3) os ag
    obtain ⟨oe, vs, he, hz, hd⟩ := fl.there
    have nfr : a ∉ frs (X.env :: X.outer) := fun hm => by
      obtain ⟨_, o', e', hn⟩ := fl.2.2.1.mem hm
      have eo : oe = o' := Option.some.inj (he.symm.trans e')
      exact hn _ (eo ▸ hd)
    have far : ∀ b o, sI.heap.get? b = some o → b ≠ a := fun b o e z => by
      by_cases hb : b ∈ frs X.stack
      · rw [hs, z] at hb
        exact nfr hb
      · have q := nb b o e hb
        rw [z, fl.2.1] at q
        cases q
    refine hh pins D a B σ' H' _ cls d (fun h' q u => J.landed nb q ((up.trans up3).trans u) os ag) fl na ⟨fun b o e => ?_, fun x c e => ?_, fun p hp => far p.1 p.2 (J.pin p hp).1, fun z => nfr (List.mem_filterMap.mpr ⟨X.env, List.mem_cons_self, by rw [hf, z]⟩), fun hm => ?_⟩ w
    · obtain ⟨o', q⟩ := J.base.there b o e (by rw [hex]; exact nofun)
      exact far b o' q
    · obtain ⟨v, o, q, _⟩ := J.cell x c e
      exact far c o q
    · obtain ⟨e, he, q⟩ := List.mem_filterMap.mp hm
      exact nfr (List.mem_filterMap.mpr ⟨e, List.mem_cons_of_mem _ he, q⟩)
  · cases f with
    | next => exact wpAny_execs_nil (let ⟨σ', H', J', q⟩ := q; ⟨σ', H', J'.ofTry ok, q⟩)
    | brk => exact let ⟨σ', H', J', q⟩ := q; ⟨σ', H', J'.ofTry ok, q⟩
    | cont => exact let ⟨σ', H', J', q⟩ := q; ⟨σ', H', J'.ofTry ok, q⟩
    | ret u => exact let ⟨v, σ', H', J', r, q⟩ := q; ⟨v, σ', H', J'.ofTry ok, r, q⟩
end
section
variable {M : Model} {A : Around} {E : Value → Shared → Prop} {s : Shared}
theorem forIn_all {f : Value → PUnit → Sem (ForInStep PUnit)} : ∀ {l : List Value} {Q : PUnit → Shared → Prop}, (∀ c ∈ l, ∀ {R : ForInStep PUnit → Shared → Prop}, R (.yield ⟨⟩) s → wpAny M A (f c ⟨⟩) R E s) → Q ⟨⟩ s → wpAny M A (forIn l PUnit.unit f) Q E s
  | [], _, _, q => by
    rw [List.forIn_nil]
    exact wpAny_pure q
  | c :: r, _, h, q => by
    rw [List.forIn_cons]
    exact wpAny_bind (h c List.mem_cons_self (forIn_all (fun d hd => h d (List.mem_cons_of_mem _ hd)) q))
theorem forIn_first {K : PySem.W.Frag} {cls : Value} {g : Value → Option Bool × PUnit → Sem (ForInStep (Option Bool × PUnit))} (h : ∀ c v, PySem.W.exmOne K cls c = some v → ∀ {R : ForInStep (Option Bool × PUnit) → Shared → Prop}, R (if v = true then .done (some true, ⟨⟩) else .yield (none, ⟨⟩)) s → wpAny M A (g c (none, ⟨⟩)) R E s) :
    ∀ {l : List Value} {b : Bool} {Q : Option Bool × PUnit → Shared → Prop}, PySem.W.exmAny K cls l = some b → Q (if b = true then (some true, ⟨⟩) else (none, ⟨⟩)) s → wpAny M A (forIn l (none, PUnit.unit) g) Q E s
  | [], b, _, e, q => by
    cases e
    rw [List.forIn_nil]
    exact wpAny_pure q
  | c :: r, b, _, e, q => by
    obtain ⟨b1, d1, e1, e2, rfl⟩ := PySem.W.exmAny_cons e
    rw [List.forIn_cons]
    refine wpAny_bind (h c b1 e1 ?_)
    cases b1 with
    | true => exact wpAny_pure q
    | false =>
      rw [Bool.false_or] at q
      exact forIn_first h e2 q
end
theorem exmAny_at {K : PySem.W.Frag} {cls : Value} : ∀ {cs : List Value} {b : Bool}, PySem.W.exmAny K cls cs = some b → ∀ c ∈ cs, ∃ v, PySem.W.exmOne K cls c = some v
  | c :: r, b, e, d, hd => by
    obtain ⟨b1, d1, e1, e2, _⟩ := PySem.W.exmAny_cons e
    rcases List.mem_cons.mp hd with z | z
    · exact ⟨b1, by rw [z]; exact e1⟩
    · exact exmAny_at e2 d z
theorem exm_tupN {M : Model} {K : PySem.W.Frag} {cs : List Value} {cls : Value} {tp e : Addr} {b : Bool} {h : Heap} (X : K.In h) (LT : PySem.W.Looks M h (typeOf (.ref e)) cls) (hp : h.get? tp = some { cls := .type "tuple", data := .seq cs.toArray }) (hx : PySem.W.exmAny K cls cs = some b) :
    PySem.W.Looks M h (excMatches (.ref e) (.ref tp)) b := by
  intro A Q E s k₀ q
  obtain ⟨hh, g, d, tk, os⟩ := s
  have kk : ∀ b o, h.get? b = some o → hh.get? b = some o := k₀
  have tt : PySem.W.Looks M hh (isInstance (.ref tp) (.type "tuple")) true := (((PySem.W.Looks.ld hp).andThen .now).andThen (PySem.W.Looks.of_pure isSubtype_tuple_tuple)).keeps kk
  have lt := LT.keeps kk
  have hp2 := kk _ _ hp
  have X2 := X.keeps kk
  unfold excMatches
  refine wpAny_bind (tt.at ?_)
  dsimp only
  rw [if_pos rfl]
  first
    | refine wpAny_bind (wpAny_seqItems hp2 rfl ?_)
    | refine wpAny_bind (wpAny_bind (wpAny_seqItems hp2 rfl (wpAny_pure ?_)))
  dsimp only [Option.getD_some, Option.getD]
  refine wpAny_bind (wpAny_pure (wpAny_bind (forIn_all (fun c hc R r => ?_) (wpAny_bind (lt.at (wpAny_bind (forIn_first (K := K) (cls := cls) (fun c v ev R r => ?_) hx ?_)))))))
  · obtain ⟨v, ev⟩ := exmAny_at hx c hc
    refine wpAny_bind ((PySem.W.exm_cls (M := M) X2 ev).1.at ?_)
    exact wpAny_pure r
  · refine wpAny_bind ((PySem.W.exm_cls (M := M) X2 ev).2.at ?_)
    cases v <;> exact wpAny_pure r
  · cases b <;> exact wpAny_pure q
/-! ### the test of a clause -/
inductive TestN (X : Cx) : List Expr → List Value → Prop
  | nil : TestN X [] []
  | cons {x : Str} {c : Value} {p : Pos} {es : List Expr} {cs : List Value} (h : Names X x c) (r : TestN X es cs) : TestN X (.Name x p :: es) (c :: cs)
/-- one class, some in a tuple -/
inductive TestE (X : Cx) : Expr → List Value → Prop
  | one {x : Str} {c : Value} {p : Pos} (h : Names X x c) : TestE X (.Name x p) [c]
  | tup {es : List Expr} {cs : List Value} {x1} {p : Pos} (h : TestN X es cs) (n : cs.length ≤ 1000) : TestE X (.Tuple es x1 p) cs
section
variable {X : Cx} {σ : L2.St} {H : Hp} {s : Shared} {a : Addr} {pn : List (Addr × Obj)}
theorem ld_name {x : Str} {c : Value} {p : Pos} (S : Inv (X.suite a pn) [] σ H s) (h : Names X x c) {Q : Value → Shared → Prop} {E : Value → Shared → Prop} (q : Q c s) : wpAny (model X.prog X.w) (X.A.mark (some (.ref a))) (eval (.Name x p) X.env) Q E s := by
  obtain ⟨hg, hd, hm | ⟨hm, hv, hn⟩⟩ := h
  · exact ld_glob (X := X.suite a pn) S hg hm q hd
  · exact ld_blt (X := X.suite a pn) S hg hm hv q hn hd
theorem ld_names (S : Inv (X.suite a pn) [] σ H s) {E : Value → Shared → Prop} {pos : Pos} : ∀ {es : List Expr} {cs : List Value}, TestN X es cs → ∀ {Q : List Value → Shared → Prop}, Q cs s → wpAny (model X.prog X.w) (X.A.mark (some (.ref a))) (spliced (backTo pos (starEach es X.env))) Q E s
  | [], [], .nil, Q, q => Calls.spliced_nil q
  | .Name x p :: es, c :: cs, .cons h r, Q, q => Calls.spliced_cons (ld_name S h (ld_names S r (Q := fun us s1 => Q (c :: us) s1) q))
/-- the test, and whether it matches -/
theorem run_test {te : Expr} {cs : List Value} {cls : Value} {b : Bool} (ht : TestE X te cs) (S : Inv (X.suite a pn) [] σ H s) (LT : PySem.W.Looks (model X.prog X.w) s.heap (typeOf (.ref a)) cls) (hx : PySem.W.exmAny X.K cls cs = some b) {Q : Bool → Shared → Prop} {E E2 : Value → Shared → Prop}
    (q : ∀ G, (∀ b o, s.heap.get? b = some o → G.get? b = some o) → Q b { s with heap := G }) :
    wpAny (model X.prog X.w) (X.A.mark (some (.ref a))) (eval te X.env) (fun c s1 => wpAny (model X.prog X.w) (X.A.mark (some (.ref a))) (excMatches (.ref a) c) Q E s1) E2 s := by
  cases ht with
  | one h =>
    obtain ⟨b1, d1, e1, e2, eb⟩ := PySem.W.exmAny_cons hx
    have ed : d1 = false := (Option.some.inj e2).symm
    rw [ed, Bool.or_false] at eb
    refine ld_name S h ((PySem.W.exm_one (M := model X.prog X.w) S.kIn LT e1).here ?_)
    have := q s.heap fun _ _ z => z
    rw [← eb]
    exact this
  | tup h n =>
    refine wpAny_Tuple_spliced (ld_names S h ⟨by rw [sizeLine_eq]; omega, ?_⟩)
    have k : ∀ b o, s.heap.get? b = some o → (s.heap.push { cls := .type "tuple", data := .seq cs.toArray }).get? b = some o := fun _ _ z => Heap.get?_push_of_some _ z
    refine (exm_tupN (M := model X.prog X.w) (S.kIn.keeps k) (LT.keeps k) (Heap.get?_push_size _ rfl) hx).here ?_
    exact q _ k
end
theorem fl_keep {B h h' : Heap} {l : List PySem.Env} {a : Addr} {Z : Obj → Prop} (k : ∀ b o, h.get? b = some o → h'.get? b = some o) (fl : HandSPX.FlyingZ B l a Z h) : HandSPX.FlyingZ B l a Z h' := by
  obtain ⟨f1, f2, f3, oe, vs, T, oT, ts, he, hz, hd, h1, hnT, hTe, hT, hdT, h3⟩ := fl
  exact ⟨fun b o z => k b o (f1 b o z), f2, f3.of_keeps fun b o z _ => ⟨o, k b o z, rfl⟩, oe, vs, T, oT, ts, k _ _ he, hz, hd, h1, hnT, hTe, k _ _ hT, hdT, h3⟩
/-- except .. as n: x = n -/
def wGet (K : PySem.W.Frag) (cs : List Value) (i j : Nat) (D : Ends) : WX := fun cls d σ H => ∃ C dd, cls = .ref C ∧ d = some dd ∧ PySem.W.exmAny K cls cs = some true ∧ ∀ a, H a = none → D.nx (((σ.set i (some (.ref a))).set j (some (.ref a))).set i none) (upd H a (exh a C dd))
section
variable {X : Cx} {body : List Stmt} {pos pos' p1 p2 p3 : Pos} {tb : WX → TS} {te : Expr} {cs : List Value} {n x : Str}
theorem ps_try_get (i j : Nat) (hs : X.stack = X.env :: X.outer) (hf : X.env.frame = some X.env.locals) (hex : X.ex = []) (hN : X.N.Nodup) (hi : X.N[i]? = some n) (hj : X.N[j]? = some x) (hij : i ≠ j) (hln : X.env.kindOf n = some .local) (hlx : X.env.scope.names.lookup x = some .local) (hvn : Vis X.env.scope n)
    (hd : (n == ("__debug__" : Str)) = false) (hcd : (n == ("__classdict__" : Str)) = false) (ht : TestE X te cs) (hsw : swapsWith (.Name n p2) (some (.Name x p1)) p3.line X.env = pure false)
    (hb : ∀ (W : WX) (pn : List (Addr × Obj)) (xe : Value → Shared → Prop), Takes (X.tr pn xe) W → PassesOwn (model X.prog X.w) X.A X.env xe → PSs (X.tr pn xe) body (tb W)) :
    PS X (.Try body [.ExceptHandler (some te) (some n) [.Assign [.Name x p1] (.Name n p2) p3] pos'] [] [] pos) (fun D σ H => tb (wGet X.K cs i j D) D σ H) := by
  refine ps_try_core hs hf hex hb fun pins D a B σ H s cls d land fl na F w => ?_
  obtain ⟨C, dd, rfl, rfl, hx, w⟩ := w
  obtain ⟨oe, vs, he, hz, hv⟩ := fl.there
  have I : Inv X pins σ H s := land s.heap fl.1 (Heap.UpToSlots.refl _)
  have S := I.suite he hv na (Ne.symm F.loc) F.fs
  have LT : PySem.W.Looks (model X.prog X.w) s.heap (typeOf (.ref a)) (.ref C) := fun A Q E s k q => wpAny_typeOf_ref (k _ _ he) (by rw [hz.1]; exact q)
  refine wpAny_handleBy_cons (codeAny_handlers_test (run_test ht S LT hx fun G k => ?_)) (fun z => nomatch z)
  refine codeAny_handlers_suite_as (HandSPX.lands_againZ (fl_keep k fl) fun h4 fl4 up4 => ?_)
  have J4 := land h4 fl4.1 ((Heap.UpToSlots.of_keeps k).trans up4)
  obtain ⟨oe4, vs4, he4, hz4, hv4⟩ := fl4.there
  have S4 := J4.suite he4 hv4 na (Ne.symm F.loc) F.fs
  refine store_ok (X := X.suite a ((a, oe4) :: (X.pn ++ pins))) (v := .ref a) S4 hN hi (.inl hln) rfl (fun s5 S5 => ?_) (.inr hln)
  have ps : PSs (X.suite a ((a, oe4) :: (X.pn ++ pins))) [.Assign [.Name x p1] (.Name n p2) p3] _ := pss_one (ps_set hN hj (.inl hlx) (pe_var (i := i) hi hvn hd hcd) hsw (.inr hlx))
  refine wpAny_mono (ps.run [] s5 _ H { nx := fun σ6 H6 => σ6 = (σ.set i (some (.ref a))).set j (some (.ref a)) ∧ H6 = H, rt := fun _ _ => False } S5 ?_) (fun f s6 hsp => ?_) (fun _ _ z => z.elim)
  · have hl : i < σ.length := by
      have e := I.len
      have e2 := (List.getElem?_eq_some_iff.mp hi).1
      omega
    exact ⟨.ref a, List.getElem?_set_self hl, rfl, rfl⟩
  · cases f with
    | next =>
      obtain ⟨σ6, H6, S6, rfl, rfl⟩ := hsp
      have T6 := track (S6.unsuite I.ok) na F (exh_ok (S6.pin (a, oe4) (List.mem_append_left _ List.mem_cons_self)).1 hz4 hv4)
      exact gone_ok T6 hN hi hln fun s7 J7 => ⟨_, _, J7, w a na⟩
    | brk => exact let ⟨_, _, _, q⟩ := hsp; q.elim
    | cont => exact let ⟨_, _, _, q⟩ := hsp; q.elim
    | ret u => exact let ⟨_, _, _, _, _, q⟩ := hsp; q.elim
end
end DL

/-! Caught exceptions as data: try .. except .. as, isinstance, .what. -/
namespace DL
open PySem PySem.Spec PyProof.Rows L2

/-! ### an exception comes among what is known -/
theorem EntR.nxd {K : PySem.W.Frag} {w : Wd} {k : Option Kd} {L : Lk} {xs : List D} {o : HO} (h : EntR K w k L xs o) : ∀ fs, o ≠ .xd fs := by
  intro fs z
  subst z
  rcases h with ⟨_, h⟩ | ⟨_, _, _, _, _, _, e, _⟩ | ⟨_, _, _, _, _, _, _, _, e, _⟩
  · rcases k with _ | ((_ | _) | c | _ | c)
    · obtain ⟨_, e, _⟩ := h; cases e
    · obtain ⟨_, e, _⟩ := h; cases e
    · obtain ⟨_, e, _⟩ := h; cases e
    · obtain ⟨_, _, e, _⟩ := h; cases e
    · obtain ⟨b, ys, vs, e, _⟩ := h
      have e' : HO.xd fs = HO.ext _ := e
      cases e'
    · exact h
  · cases e
  · cases e
theorem Wld.adopt {K : PySem.W.Frag} {w : Wd} {st : Sto} {H : Hp} (W : Wld K w st H) {p : Addr} {fs : List (Str × V)} (h : H p = some (.xd fs)) : ∃ w', Le w w' ∧ Wld K w' st H ∧ w'.G p = some (.xd fs) := by
  cases hg : w.G p with
  | some u =>
    have e := W.same p u hg
    rw [h] at e
    cases e
    exact ⟨w, .refl w, W, hg⟩
  | none =>
    have l := Le.put (w := w) (o := .xd fs) hg
    refine ⟨w.put p (.xd fs), l, ⟨fun b u e => ?_, W.len, W.nd, fun i a e => ?_, fun a u e => ?_, fun a vs e => ?_, W.hnd⟩, upd_same⟩
    · have e' : upd w.G p (.xd fs) b = some u := e
      by_cases hb : b = p
      · subst hb
        rw [upd_same] at e'
        cases e'
        exact h
      · rw [upd_ne hb] at e'
        exact W.same b u e'
    · obtain ⟨g, xs, u, h1, h2, h3⟩ := W.at_ i a e
      have ne : a ≠ p := fun z => by rw [z, h] at h2; exact h3.nxd fs (Option.some.inj h2).symm
      refine ⟨?_, xs, u, h1, h2, h3.mono l⟩
      show upd w.G p (.xd fs) a = none
      rw [upd_ne ne]
      exact g
    · have e' : upd w.G p (.xd fs) a = some u := e
      by_cases ha : a = p
      · subst ha
        rw [upd_same] at e'
        cases e'
        trivial
      · rw [upd_ne ha] at e'
        exact W.small a u e'
    · obtain ⟨g, n, h1⟩ := W.hidd a vs e
      have ne : a ≠ p := fun z => by rw [z, h] at h1; cases h1
      refine ⟨?_, n, h1⟩
      show upd w.G p (.xd fs) a = none
      rw [upd_ne ne]
      exact g
/-- a caught exception -/
abbrev excD (c : Str) (d : D) : D := .fdic (.x c) [.tup [.str "what", d]]
theorem exc_in {K : PySem.W.Frag} {w : Wd} {st : Sto} {H : Hp} {c : Str} {d : D} {a dd : Addr} (W : Wld K w st H) (x : ExD K w H d dd) (n : ExcN K c) (na : H a = none) :
    ∃ w', Le w w' ∧ Wld K w' st (upd H a (exh a (He.ga K c) dd)) ∧ Rep K w' (excD c d) (.ref a) := by
  obtain ⟨v, hx, R⟩ := x
  obtain ⟨w1, l1, W1, g1⟩ := W.adopt hx
  have l2 := Le.put (w := w1) (o := exh a (He.ga K c) dd) (W1.free na)
  refine ⟨_, l1.trans l2, W1.put na trivial, ?_⟩
  have ne : dd ≠ a := fun z => by rw [z, na] at hx; cases hx
  show Rep K _ (.fdic (.x c) [.tup [.str "what", d]]) (.ref a)
  simp only [Rep]
  refine ⟨a, dd, [(.inr "what", v)], rfl, upd_same, ?_, n, ?_⟩
  · show upd w1.G a _ dd = _
    rw [upd_ne ne]
    exact g1
  · simp only [RowsK]
    exact ⟨.inr "what", v, [], rfl, rfl, Rep.mono (l1.trans l2) _ _ R, rfl⟩
/-! ### try .. except (C1, ..) as n: x = n -/
def dTryGet (good : List Str) (i j : Nat) (body : DX → DS) : DS := fun D env st =>
  body (fun c d env1 st1 => good.contains c = true ∧ D.nx (((env1.set i (some (excD c d))).set j (some (excD c d))).set i none) st1) D env st
/-- what is caught, and by which of the classes of the clause -/
structure Caught (K : PySem.W.Frag) (good : List Str) (cs : List Value) : Prop where
  n : ∀ c, good.contains c = true → ExcN K c
  m : ∀ c, good.contains c = true → PySem.W.exmAny K (.ref (He.ga K c)) cs = some true
section
variable {X : Cx} {body : List Stmt} {pos pos' p1 p2 p3 : Pos} {te : Expr} {cs : List Value} {good : List Str} {n x : Str} {t : DX → DS}
theorem pds_tryGet (i j : Nat) (cg : Caught X.K good cs) (hN : X.N.Nodup) (ht : TestE X te cs)
    (hb : ∀ (W : WX) (pn : List (Addr × Obj)) (ve : Value → Shared → Prop) (xe : DX), Takes (X.tr pn ve) W → PassesOwn (model X.prog X.w) X.A X.env ve → PXSs (X.tr pn ve) W xe body (t xe))
    (hi : X.N[i]? = some n := by rfl) (hj : X.N[j]? = some x := by rfl) (hij : i ≠ j := by decide) (hs : X.stack = X.env :: X.outer := by rfl) (hf : X.env.frame = some X.env.locals := by rfl) (hex : X.ex = [] := by rfl) (hln : X.env.kindOf n = some .local := by rfl) (hlx : X.env.scope.names.lookup x = some .local := by rfl) (hvn : Vis X.env.scope n := by first | exact Or.inl rfl | exact Or.inr (Or.inl rfl))
    (hd : (n == ("__debug__" : Str)) = false := by decide) (hcd : (n == ("__classdict__" : Str)) = false := by decide) (hsw : swapsWith (.Name n p2) (some (.Name x p1)) p3.line X.env = pure false := by rfl) :
    PDS X (.Try body [.ExceptHandler (some te) (some n) [.Assign [.Name x p1] (.Name n p2) p3] pos'] [] [] pos) (dTryGet good i j t) := by
  refine (ps_try_get (tb := fun W Ed σ H => ∃ xe, tXS X.K W xe (t xe) Ed σ H) i j hs hf hex hN hi hj hij hln hlx hvn hd hcd ht hsw fun W pn ve tk pa => ⟨fun pins s σ H Ed I ⟨xe, h⟩ => (hb W pn ve xe tk pa).run pins s σ H Ed I h⟩).wk fun Ed σ H ⟨w, env, st, D, Wl, E, h, fn, fr⟩ => ?_
  refine ⟨_, w, env, st, D, ?_, Wl, E, h, fn, fr⟩
  intro c d env' st' σ' w' H' dd ⟨hc, hx⟩ l W' E' xd
  refine ⟨_, dd, rfl, rfl, cg.m c hc, fun a na => ?_⟩
  obtain ⟨w2, l2, W2, R2⟩ := exc_in W' xd (cg.n c hc) na
  exact fn _ _ _ _ _ hx (l.trans l2) W2 ((((E'.mono l2).set i R2).set j R2).unset i)
end
/-! ### isinstance of a caught exception -/
def dIsC (tb : List (Str × Bool)) (t : DE) : DE := fun env st k => t env st fun d s1 => ∃ c rows b, d = .fdic (.x c) rows ∧ tb.lookup c = some b ∧ k (.bl b) s1
structure NmC (X : Cx) (x : Str) (v : V) (u : Value) : Prop where
  pe : ∀ q, PE X (.Name x q) (tC v)
  cl : ClsV v u
theorem nm_own {X : Cx} {c : Str} (hm : X.mg c = some (.ref (He.ga X.K c))) (hg : Gl X c := by rfl) (hd : (c == ("__debug__" : Str)) = false := by decide) : NmC X c (.ref (He.ga X.K c)) (.ref (He.ga X.K c)) :=
  ⟨fun q => pe_glob (v := .ref (He.ga X.K c)) hg hm rfl hd, .own _⟩
theorem nm_ty {X : Cx} {x : Str} {T : String} (hm : X.mg x = none) (hv : bootBuiltins x = some (.type T)) (hg : Gl X x := by rfl) (hn : x ≠ "__name__" := by decide) (hd : (x == ("__debug__" : Str)) = false := by decide) : NmC X x (.ty T) (.type T) :=
  ⟨fun q => pe_bltn (v := .ty T) hg hm hv rfl hn hd, .ty T⟩
inductive NmCs (X : Cx) : List Expr → List V → List Value → Prop
  | nil : NmCs X [] [] []
  | cons {x : Str} {v : V} {u : Value} {q : Pos} {es : List Expr} {vs : List V} {us : List Value} (h : NmC X x v u) (r : NmCs X es vs us) (hs : starEach (.Name x q :: es) X.env = (false, eval (.Name x q) X.env) :: starEach es X.env := by rfl) : NmCs X (.Name x q :: es) (v :: vs) (u :: us)
theorem NmCs.pa {X : Cx} {es : List Expr} {vs : List V} {us : List Value} (h : NmCs X es vs us) : PA X es (fun _ H Q => Q vs H) := by
  induction h with
  | nil => exact pa_nil.wk fun _ _ _ h => h
  | cons h r hs ih => exact (pa_cons (h.pe _) ih hs).wk fun _ _ _ h => h
theorem NmCs.cl {X : Cx} {es : List Expr} {vs : List V} {us : List Value} (h : NmCs X es vs us) : Paired ClsV vs us := by
  induction h with
  | nil => exact .nil
  | cons h r hs ih => exact .cons h.cl ih
theorem NmCs.len {X : Cx} {es : List Expr} {vs : List V} {us : List Value} (h : NmCs X es vs us) : vs.length = es.length := by
  induction h with
  | nil => rfl
  | cons h r hs ih => exact congrArg (· + 1) ih
section
variable {X : Cx} {e : Expr} {ta : DE} {pos : Pos} {tb : List (Str × Bool)} {v : V} {u : Value}
theorem pd_isC1 {x : Str} {q1 q2 : Pos} (hm : X.mg "isinstance" = none) (ha : PD X e ta) (nc : NmC X x v u) (ht : ∀ c b, tb.lookup c = some b → PySem.W.kitOne X.K (.ref (He.ga X.K c)) u = some b) (hg : Gl X "isinstance" := by rfl)
    (he : starEach [e, .Name x q1] X.env = (false, eval e X.env) :: starEach [.Name x q1] X.env := by rfl) (he2 : starEach [.Name x q1] X.env = [(false, eval (.Name x q1) X.env)] := by rfl) (hpl : (backTo pos (starEach [.Name x q1] X.env)).any (·.1) = false := by rfl) :
    PD X (.Call (.Name "isinstance" q2) [e, .Name x q1] [] pos) (dIsC tb ta) := by
  refine (pe_callB call_isiZ hg hm (by decide +kernel) (pa_cons ha (pa_cons (nc.pe q1) pa_nil he2) he) (by decide) (by decide) he hpl).wk fun σ H Q ⟨w, env, st, kk, W, E, h, fo⟩ => ?_
  refine ⟨w, env, st, _, W, E, h, fun d st1 y w1 H1 h1 l1 W1 R1 => ?_⟩
  obtain ⟨c, rows, b, rfl, hb, hk⟩ := h1
  simp only [Rep] at R1
  obtain ⟨a, dx, kvs, rfl, g1, g2, n, _⟩ := R1
  exact ⟨.ref a, v, _, u, b, rfl, nc.cl, .inr (.inr ⟨c, a, dx, _, rfl, rfl, W1.same _ _ g1, W1.same _ _ g2, n⟩), ht c b hb, fo _ _ _ _ _ hk l1 W1 rep_bl⟩
theorem pd_isCT {es : List Expr} {vs : List V} {us : List Value} {k0 : Nat} {q2 q4 : Pos} (hm : X.mg "isinstance" = none) (ha : PD X e ta) (nc : NmCs X es vs us) (ht : ∀ c b, tb.lookup c = some b → PySem.W.kitAny X.K (.ref (He.ga X.K c)) us = some b) (hl : es.length ≤ 1000 := by decide) (hg : Gl X "isinstance" := by rfl)
    (he : starEach [e, .Tuple es k0 q4] X.env = (false, eval e X.env) :: starEach [.Tuple es k0 q4] X.env := by rfl) (he2 : starEach [.Tuple es k0 q4] X.env = [(false, eval (.Tuple es k0 q4) X.env)] := by rfl) (hpl : (backTo pos (starEach [.Tuple es k0 q4] X.env)).any (·.1) = false := by rfl) :
    PD X (.Call (.Name "isinstance" q2) [e, .Tuple es k0 q4] [] pos) (dIsC tb ta) := by
  refine (pe_callB call_isiTZ hg hm (by decide +kernel) (pa_cons ha (pa_cons (pe_tup nc.pa) pa_nil he2) he) (by decide) (by decide) he hpl).wk fun σ H Q ⟨w, env, st, kk, W, E, h, fo⟩ => ?_
  refine ⟨w, env, st, _, W, E, h, fun d st1 y w1 H1 h1 l1 W1 R1 => ⟨by rw [nc.len, sizeLine_eq]; omega, fun t ht1 => ?_⟩⟩
  obtain ⟨c, rows, b, rfl, hb, hk⟩ := h1
  have W2 := W1.other (o := .tup vs) ht1
  simp only [Rep] at R1
  obtain ⟨a, dx, kvs, rfl, g1, g2, n, _⟩ := R1
  exact ⟨.ref a, t, vs, _, us, b, rfl, upd_same, nc.cl, .inr (.inr ⟨c, a, dx, _, rfl, rfl, W2.same _ _ g1, W2.same _ _ g2, n⟩), ht c b hb, fo _ _ _ _ _ hk l1 W2 rep_bl⟩
/-! ### its what -/
def dWhat (t : DE) : DE := fun env st k => t env st fun d s1 => ∃ c rows v, d = .fdic (.x c) rows ∧ fldR "what" rows = some v ∧ k v s1
theorem pd_what (he : PD X e ta) (hb : attributeBase e "what" X.env (eval e X.env) = eval e X.env := by rfl) : PD X (.Attribute e "what" pos) (dWhat ta) := by
  refine ⟨fun pins s σ H Q I ⟨w, env, st, kk, W, E, h, fo⟩ => attr_of hb (thn (he.run pins s σ H (fun x H1 => ∃ c a dx fs v, x = V.ref a ∧ H1 a = some (exh a (He.ga X.K c) dx) ∧ H1 dx = some (.xd fs) ∧ fs.lookup ("what" : Str) = some v ∧ ExcN X.K c ∧ Q v H1) I ⟨w, env, st, _, W, E, h, fun d st1 y w1 H1 h1 l1 W1 R1 => ?_⟩) fun u s1 ⟨x, H1, I1, rx, c, a, dx, fs, v, ex, h1, h2, hl, n, q⟩ => ?_)⟩
  · obtain ⟨c, rows, x, rfl, hr, hk⟩ := h1
    simp only [Rep] at R1
    obtain ⟨a, dx, kvs, rfl, g1, g2, n, rk⟩ := R1
    obtain ⟨z, hz, Rz⟩ := fld_some rk hr
    exact ⟨c, a, dx, _, z, rfl, W1.same _ _ g1, W1.same _ _ g2, hz, n, fo _ _ _ _ _ hk l1 W1 Rz⟩
  · subst ex
    obtain rfl : u = Value.ref a := rx
    obtain ⟨o, vs, q1, q2, q3⟩ := exh_at I1.hok h1
    have hx : ObjOk X.prog X.w H1 s1.heap dx (.xd fs) := I1.hok dx _ h2
    obtain ⟨mA, hns, hr⟩ := hx
    obtain ⟨od, ho, hlk⟩ := lookIn_ns hns
    obtain ⟨u, hu, ru⟩ := RelO.some_of (v := v) (o := mA "what") (by rw [← hl]; exact hr "what")
    have J : PySem.W.InstAt s1.heap a o (He.ga X.K c) (some od) := ⟨q1, q2.1, by unfold PySem.W.notCls; rw [q3] <;> rfl, by rw [q2.2]; exact ho⟩
    exact HandSPX.exc_get I1.kIn J n.hg n.hk n.hs (PySem.W.findObj_own n.hd n.wn rfl (by rw [hlk, hu])) (handed_of ru) ⟨v, H1, I1.tok _, ru, q⟩
end
/-! ### what the head must say -/
def excNB (c : Str) (K : PySem.W.Frag) : Bool :=
  (PySem.W.clsIn K (He.ga K c)).isSome && (decide (PySem.W.findIn K (.ref (He.ga K c)) "__getattribute__" = some (some (.builtin "BaseException.__getattribute__"))) && (decide (PySem.W.findIn K (.ref (He.ga K c)) "__getattr__" = some none) &&
  (decide (PySem.W.subIn K (.ref (He.ga K c)) (.type "BaseException") = some true) && (decide (PySem.W.findIn K (.ref (He.ga K c)) "__class__" = some (some (.builtin "object.__class__"))) && (decide (PySem.W.specialIn K (.builtin "object.__class__") "__get__" = some (some (.builtin "getset_descriptor.__get__"))) &&
  (decide (PySem.W.takesIn K (.builtin "object.__class__") = some true) && (decide (PySem.W.mroIn K (He.ga K c) (.type "object") = some true) && ((okTy.all fun b => decide (PySem.W.kitOne K (.ref (He.ga K c)) (.type b) = some false)) &&
  (PySem.W.hasDictIn K (He.ga K c) && decide (PySem.W.findIn K (.ref (He.ga K c)) "what" = some none))))))))))
theorem excNB_ok {c : Str} {K : PySem.W.Frag} (h : excNB c K = true) : ExcN K c := by
  obtain ⟨h1, h⟩ := He.ba h
  obtain ⟨h2, h⟩ := He.ba h
  obtain ⟨h3, h⟩ := He.ba h
  obtain ⟨h4, h⟩ := He.ba h
  obtain ⟨h5, h⟩ := He.ba h
  obtain ⟨h6, h⟩ := He.ba h
  obtain ⟨h7, h⟩ := He.ba h
  obtain ⟨h8, h⟩ := He.ba h
  obtain ⟨h9, h⟩ := He.ba h
  obtain ⟨h10, h11⟩ := He.ba h
  exact ⟨h1, of_decide_eq_true h2, of_decide_eq_true h3, of_decide_eq_true h4, of_decide_eq_true h5, of_decide_eq_true h6, of_decide_eq_true h7, of_decide_eq_true h8, fun b hb => of_decide_eq_true (List.all_eq_true.mp h9 b hb), h10, of_decide_eq_true h11⟩
/-- a class's name: one of the text's own, a built-in one -/
inductive CN | own (c : Str) | ty (t : String)
def CN.v (K : PySem.W.Frag) : CN → Value
  | .own c => .ref (He.ga K c)
  | .ty t => .type t
def caughtB (good : List Str) (xs : List CN) (K : PySem.W.Frag) : Bool := good.all fun c => excNB c K && decide (PySem.W.exmAny K (.ref (He.ga K c)) (xs.map (·.v K)) = some true)
theorem caughtB_ok {good : List Str} {xs : List CN} {K : PySem.W.Frag} (h : caughtB good xs K = true) : Caught K good (xs.map (·.v K)) := by
  have z : ∀ c, good.contains c = true → _ := fun c hc => He.ba (List.all_eq_true.mp h c (List.contains_iff_mem.mp hc))
  exact ⟨fun c hc => excNB_ok (z c hc).1, fun c hc => of_decide_eq_true (z c hc).2⟩
def isB (tb : List (Str × Bool)) (xs : List CN) (K : PySem.W.Frag) : Bool := tb.all fun r => decide (PySem.W.kitAny K (.ref (He.ga K r.1)) (xs.map (·.v K)) = some r.2)
def IsT (K : PySem.W.Frag) (tb : List (Str × Bool)) (us : List Value) : Prop := ∀ c b, tb.lookup c = some b → PySem.W.kitAny K (.ref (He.ga K c)) us = some b
theorem lookup_mem' {α : Type} {c : Str} {b : α} : ∀ {tb : List (Str × α)}, tb.lookup c = some b → (c, b) ∈ tb
  | (d, x) :: r, h => by
    rw [List.lookup_cons] at h
    split at h
    · rename_i e
      cases h
      rw [eq_of_beq e]
      exact List.mem_cons_self
    · exact List.mem_cons_of_mem _ (lookup_mem' h)
theorem isB_ok {tb : List (Str × Bool)} {xs : List CN} {K : PySem.W.Frag} (h : isB tb xs K = true) : IsT K tb (xs.map (·.v K)) :=
  fun c b hb => of_decide_eq_true (List.all_eq_true.mp h (c, b) (lookup_mem' hb))
theorem IsT.one {K : PySem.W.Frag} {tb : List (Str × Bool)} {u : Value} (h : IsT K tb [u]) (c : Str) (b : Bool) (hb : tb.lookup c = some b) : PySem.W.kitOne K (.ref (He.ga K c)) u = some b := by
  have z := h c b hb
  unfold PySem.W.kitAny at z
  cases hk : PySem.W.kitOne K (.ref (He.ga K c)) u with
  | none => rw [hk] at z; cases z
  | some y =>
    rw [hk] at z
    cases y with
    | true => exact z
    | false => exact z
/-! ### a def's own reading as its promise -/
/-! ### calls with keywords -/
section
variable {X : Cx} {W : WX} {xe : DX} {pos p : Pos} {tk : DA} {j k : Nat} {nm : Str} {ps : List Str} {sp : SpDX}
end
section
variable {env : Env} {st : Sto} {k : DK} {sp : SpDX}
theorem e_tryGet {good : List Str} {i j : Nat} {body : DX → DS} {E : DEnds} : dTryGet good i j body E env st = body (fun c d env1 st1 => good.contains c = true ∧ E.nx (((env1.set i (some (excD c d))).set j (some (excD c d))).set i none) st1) E env st := rfl
def isCK (tb : List (Str × Bool)) (k : DK) : DK := fun d s1 => ∃ c rows b, d = .fdic (.x c) rows ∧ tb.lookup c = some b ∧ k (.bl b) s1
theorem e_isC {tb : List (Str × Bool)} {t : DE} : dIsC tb t env st k = t env st (isCK tb k) := rfl
theorem e_isCK {tb : List (Str × Bool)} {c : Str} {rows : List D} {s : Sto} : isCK tb k (.fdic (.x c) rows) s = ∃ b, tb.lookup c = some b ∧ k (.bl b) s :=
  propext ⟨fun ⟨_, _, b, e, h⟩ => by cases e; exact ⟨b, h⟩, fun ⟨b, h⟩ => ⟨c, rows, b, rfl, h⟩⟩
def whatK (k : DK) : DK := fun d s1 => ∃ c rows v, d = .fdic (.x c) rows ∧ fldR "what" rows = some v ∧ k v s1
theorem e_what {t : DE} : dWhat t env st k = t env st (whatK k) := rfl
theorem e_whatK {c : Str} {d : D} {s : Sto} : whatK k (excD c d) s = k d s :=
  propext ⟨fun ⟨_, _, v, e, h, q⟩ => by cases e; cases h; exact q, fun h => ⟨c, _, d, rfl, rfl, h⟩⟩
theorem e_sil {ds : List DL.D} : silX sp ds st k = sp ds st k fun _ _ _ => False := rfl
end
end DL

namespace LW
open PySem PySem.Spec PyProof.Rows L2 DL
def top (i : Nat) : Stmt := PySem.Challenge.pw_panfalls_k60_needless_ones_taken_out.main.body.getD i (.Pass ⟨0, 0, 0, 0⟩)
abbrev s_Needed__init : Stmt := (clsBody (top 4)).getD 0 (.Pass ⟨0, 0, 0, 0⟩)
abbrev N_Needed__init : List Str := ["self", "what"]
theorem sc_Needed__init : FnScope N_Needed__init ["self", "what"] (defScope s_Needed__init) := ⟨rfl, rfl, rfl, by decide +kernel, rfl, by decide +kernel, by decide +kernel⟩
abbrev s_Lone__init : Stmt := (clsBody (top 5)).getD 0 (.Pass ⟨0, 0, 0, 0⟩)
abbrev N_Lone__init : List Str := ["self", "what"]
theorem sc_Lone__init : FnScope N_Lone__init ["self", "what"] (defScope s_Lone__init) := ⟨rfl, rfl, rfl, by decide +kernel, rfl, by decide +kernel, by decide +kernel⟩
abbrev s_is_number : Stmt := top 13
abbrev N_is_number : List Str := ["thing"]
theorem sc_is_number : FnScope N_is_number ["thing"] (defScope s_is_number) := ⟨rfl, rfl, rfl, by decide +kernel, rfl, by decide +kernel, by decide +kernel⟩
abbrev s_lighter : Stmt := top 14
abbrev N_lighter : List Str := ["standing"]
theorem sc_lighter : FnScope N_lighter ["standing"] (defScope s_lighter) := ⟨rfl, rfl, rfl, by decide +kernel, rfl, by decide +kernel, by decide +kernel⟩
abbrev s_laid_on : Stmt := top 15
abbrev N_laid_on : List Str := ["standing", "side", "weight"]
theorem sc_laid_on : FnScope N_laid_on ["standing", "side", "weight"] (defScope s_laid_on) := ⟨rfl, rfl, rfl, by decide +kernel, rfl, by decide +kernel, by decide +kernel⟩
abbrev s_fall : Stmt := top 16
abbrev N_fall : List Str := ["standing", "weight", "side"]
theorem sc_fall : FnScope N_fall ["standing", "weight"] (defScope s_fall) := ⟨rfl, rfl, rfl, by decide +kernel, rfl, by decide +kernel, by decide +kernel⟩
abbrev s_needless : Stmt := top 18
abbrev N_needless : List Str := ["net", "balance", "left", "right"]
theorem sc_needless : FnScope N_needless ["net"] (defScope s_needless) := ⟨rfl, rfl, rfl, by decide +kernel, rfl, by decide +kernel, by decide +kernel⟩
abbrev s_moved : Stmt := top 19
abbrev N_moved : List Str := ["lead", "balance", "own", "there"]
theorem sc_moved : FnScope N_moved ["lead", "balance", "own"] (defScope s_moved) := ⟨rfl, rfl, rfl, by decide +kernel, rfl, by decide +kernel, by decide +kernel⟩
abbrev s_without : Stmt := top 20
abbrev N_without : List Str := ["net", "standing", "balance", "left", "right", "rest", "leads", "lead", "pair"]
theorem sc_without : FnScope N_without ["net", "standing", "balance"] (defScope s_without) := ⟨rfl, rfl, rfl, by decide +kernel, rfl, by decide +kernel, by decide +kernel⟩
abbrev s_lead_of : Stmt := top 22
abbrev N_lead_of : List Str := ["net", "pan", "balance", "side"]
theorem sc_lead_of : FnScope N_lead_of ["net", "pan"] (defScope s_lead_of) := ⟨rfl, rfl, rfl, by decide +kernel, rfl, by decide +kernel, by decide +kernel⟩
abbrev s_way_of : Stmt := top 24
abbrev N_way_of : List Str := ["net", "standing", "weight", "pans", "here", "left", "side"]
theorem sc_way_of : FnScope N_way_of ["net", "standing", "weight"] (defScope s_way_of) := ⟨rfl, rfl, rfl, by decide +kernel, rfl, by decide +kernel, by decide +kernel⟩
abbrev s_falls_of : Stmt := top 25
abbrev N_falls_of : List Str := ["net", "standing", "word", "found", "weight", "pans", "name"]
theorem sc_falls_of : FnScope N_falls_of ["net", "standing", "word"] (defScope s_falls_of) := ⟨rfl, rfl, rfl, by decide +kernel, rfl, by decide +kernel, by decide +kernel⟩
abbrev s__law_tape : Stmt := top 27
abbrev N__law_tape : List Str := ["_law_script", "_law_k", "_law_cell"]
theorem sc__law_tape : FnScope N__law_tape ["_law_script", "_law_k"] (defScope s__law_tape) := ⟨rfl, rfl, rfl, by decide +kernel, rfl, by decide +kernel, by decide +kernel⟩
abbrev s__law_draw : Stmt := top 28
abbrev N__law_draw : List Str := ["_law_tape_here", "_law_many", "_law_found", "_law_once", "_law_twice", "_law_wide"]
theorem sc__law_draw : FnScope N__law_draw ["_law_tape_here", "_law_many"] (defScope s__law_draw) := ⟨rfl, rfl, rfl, by decide +kernel, rfl, by decide +kernel, by decide +kernel⟩
abbrev s__law_folded : Stmt := top 29
abbrev N__law_folded : List Str := ["_law_script", "_law_many", "_law_cells", "_law_k", "_law_cell"]
theorem sc__law_folded : FnScope N__law_folded ["_law_script", "_law_many"] (defScope s__law_folded) := ⟨rfl, rfl, rfl, by decide +kernel, rfl, by decide +kernel, by decide +kernel⟩
abbrev s__law_same : Stmt := top 30
abbrev N__law_same : List Str := ["_law_found", "_law_due", "_law_one", "_law_other"]
theorem sc__law_same : FnScope N__law_same ["_law_found", "_law_due"] (defScope s__law_same) := ⟨rfl, rfl, rfl, by decide +kernel, rfl, by decide +kernel, by decide +kernel⟩
abbrev s__law_names : Stmt := top 31
abbrev N__law_names : List Str := ["_law_tape_here", "_law_many", "_law_letters", "_law_shift", "_law_stem", "_law_k", "_law_at", "_law_step", "_law_found", "_law_head", "_law_tail", "_law_way", "_law_sign"]
theorem sc__law_names : FnScope N__law_names ["_law_tape_here", "_law_many"] (defScope s__law_names) := ⟨rfl, rfl, rfl, by decide +kernel, rfl, by decide +kernel, by decide +kernel⟩
abbrev s__law_standing : Stmt := top 32
abbrev N__law_standing : List Str := ["_law_tape_here", "_law_most"]
theorem sc__law_standing : FnScope N__law_standing ["_law_tape_here", "_law_most"] (defScope s__law_standing) := ⟨rfl, rfl, rfl, by decide +kernel, rfl, by decide +kernel, by decide +kernel⟩
abbrev s__law_net : Stmt := top 33
abbrev N__law_net : List Str := ["_law_tape_here", "_law_names_here", "_law_most", "_law_high", "_law_together", "_law_size", "_law_pans", "_law_high_of", "_law_leads", "_law_k", "_law_free", "_law_pan", "_law_there", "_law_later", "_law_number", "_law_at", "_law_side"]
theorem sc__law_net : FnScope N__law_net ["_law_tape_here", "_law_names_here", "_law_most", "_law_high", "_law_together"] (defScope s__law_net) := ⟨rfl, rfl, rfl, by decide +kernel, rfl, by decide +kernel, by decide +kernel⟩
abbrev s__law_standings : Stmt := top 34
abbrev N__law_standings : List Str := ["_law_tape_here", "_law_nets", "_law_most", "_law_fresh", "_law_leads"]
theorem sc__law_standings : FnScope N__law_standings ["_law_tape_here", "_law_nets", "_law_most"] (defScope s__law_standings) := ⟨rfl, rfl, rfl, by decide +kernel, rfl, by decide +kernel, by decide +kernel⟩
abbrev s__law_gone : Stmt := top 35
abbrev N__law_gone : List Str := ["_law_nets", "_law_standings_here", "_law_weight", "_law_here", "_law_row", "_law_way", "_law_side"]
theorem sc__law_gone : FnScope N__law_gone ["_law_nets", "_law_standings_here", "_law_weight"] (defScope s__law_gone) := ⟨rfl, rfl, rfl, by decide +kernel, rfl, by decide +kernel, by decide +kernel⟩
abbrev s__law_out : Stmt := top 36
abbrev N__law_out : List Str := ["_law_nets", "_law_standings_here", "_law_word", "_law_found", "_law_weight", "_law_way", "_law_out_here"]
theorem sc__law_out : FnScope N__law_out ["_law_nets", "_law_standings_here", "_law_word"] (defScope s__law_out) := ⟨rfl, rfl, rfl, by decide +kernel, rfl, by decide +kernel, by decide +kernel⟩
abbrev s__law_put_in : Stmt := top 37
abbrev N__law_put_in : List Str := ["_law_tape_here", "_law_nets", "_law_standings_here", "_law_most", "_law_k", "_law_side", "_law_leads", "_law_one", "_law_pair", "_law_there", "_law_row", "_law_made"]
theorem sc__law_put_in : FnScope N__law_put_in ["_law_tape_here", "_law_nets", "_law_standings_here", "_law_most"] (defScope s__law_put_in) := ⟨rfl, rfl, rfl, by decide +kernel, rfl, by decide +kernel, by decide +kernel⟩
abbrev s__law_rows : Stmt := top 38
abbrev N__law_rows : List Str := ["_law_tape_here", "_law_many", "_law_k"]
theorem sc__law_rows : FnScope N__law_rows ["_law_tape_here", "_law_many"] (defScope s__law_rows) := ⟨rfl, rfl, rfl, by decide +kernel, rfl, by decide +kernel, by decide +kernel⟩
abbrev s__law_refused : Stmt := top 39
abbrev N__law_refused : List Str := ["_law_nets", "_law_standings_here", "_law_k", "_law_caught", "error", "_law_both"]
theorem sc__law_refused : FnScope N__law_refused ["_law_nets", "_law_standings_here", "_law_k"] (defScope s__law_refused) := ⟨rfl, rfl, rfl, by decide +kernel, rfl, by decide +kernel, by decide +kernel⟩
abbrev s__law_all_right : Stmt := top 40
abbrev N__law_all_right : List Str := ["_law_tape_here", "_law_nets", "_law_standings_here", "_law_some", "_law_word", "_law_due", "_law_k", "_law_pair", "_law_outs", "_law_last", "_law_found"]
theorem sc__law_all_right : FnScope N__law_all_right ["_law_tape_here", "_law_nets", "_law_standings_here"] (defScope s__law_all_right) := ⟨rfl, rfl, rfl, by decide +kernel, rfl, by decide +kernel, by decide +kernel⟩
abbrev s__law_right : Stmt := top 41
abbrev N__law_right : List Str := ["_law_tape_here", "_law_turn", "_law_names_here", "_law_nets", "_law_standings_here", "_law_more", "_law_wide", "_law_k"]
theorem sc__law_right : FnScope N__law_right ["_law_tape_here"] (defScope s__law_right) := ⟨rfl, rfl, rfl, by decide +kernel, rfl, by decide +kernel, by decide +kernel⟩
abbrev s_law : Stmt := top 42
abbrev N_law : List Str := ["_law_script", "_law_cells", "_law_k"]
theorem sc_law : FnScope N_law ["_law_script"] (defScope s_law) := ⟨rfl, rfl, rfl, by decide +kernel, rfl, by decide +kernel, by decide +kernel⟩
def q_Needed__init : He.DefD := ⟨("Needed", some "__init__"), "__init__", "Needed.__init__", defArgs s_Needed__init, defBody s_Needed__init, defScope s_Needed__init, [], []⟩
def q_Lone__init : He.DefD := ⟨("Lone", some "__init__"), "__init__", "Lone.__init__", defArgs s_Lone__init, defBody s_Lone__init, defScope s_Lone__init, [], []⟩
def q_is_number : He.DefD := ⟨("is_number", none), "is_number", "is_number", defArgs s_is_number, defBody s_is_number, defScope s_is_number, [], []⟩
def q_lighter : He.DefD := ⟨("lighter", none), "lighter", "lighter", defArgs s_lighter, defBody s_lighter, defScope s_lighter, [], []⟩
def q_laid_on : He.DefD := ⟨("laid_on", none), "laid_on", "laid_on", defArgs s_laid_on, defBody s_laid_on, defScope s_laid_on, [], []⟩
def q_fall : He.DefD := ⟨("fall", none), "fall", "fall", defArgs s_fall, defBody s_fall, defScope s_fall, [], []⟩
def q_needless : He.DefD := ⟨("needless", none), "needless", "needless", defArgs s_needless, defBody s_needless, defScope s_needless, [], []⟩
def q_moved : He.DefD := ⟨("moved", none), "moved", "moved", defArgs s_moved, defBody s_moved, defScope s_moved, [], []⟩
def q_without : He.DefD := ⟨("without", none), "without", "without", defArgs s_without, defBody s_without, defScope s_without, [], []⟩
def q_lead_of : He.DefD := ⟨("lead_of", none), "lead_of", "lead_of", defArgs s_lead_of, defBody s_lead_of, defScope s_lead_of, [], []⟩
def q_way_of : He.DefD := ⟨("way_of", none), "way_of", "way_of", defArgs s_way_of, defBody s_way_of, defScope s_way_of, [], []⟩
def q_falls_of : He.DefD := ⟨("falls_of", none), "falls_of", "falls_of", defArgs s_falls_of, defBody s_falls_of, defScope s_falls_of, [], []⟩
def q__law_tape : He.DefD := ⟨("_law_tape", none), "_law_tape", "_law_tape", defArgs s__law_tape, defBody s__law_tape, defScope s__law_tape, [], []⟩
def q__law_draw : He.DefD := ⟨("_law_draw", none), "_law_draw", "_law_draw", defArgs s__law_draw, defBody s__law_draw, defScope s__law_draw, [], []⟩
def q__law_folded : He.DefD := ⟨("_law_folded", none), "_law_folded", "_law_folded", defArgs s__law_folded, defBody s__law_folded, defScope s__law_folded, [], []⟩
def q__law_same : He.DefD := ⟨("_law_same", none), "_law_same", "_law_same", defArgs s__law_same, defBody s__law_same, defScope s__law_same, [], []⟩
def q__law_names : He.DefD := ⟨("_law_names", none), "_law_names", "_law_names", defArgs s__law_names, defBody s__law_names, defScope s__law_names, [], []⟩
def q__law_standing : He.DefD := ⟨("_law_standing", none), "_law_standing", "_law_standing", defArgs s__law_standing, defBody s__law_standing, defScope s__law_standing, [], []⟩
def q__law_net : He.DefD := ⟨("_law_net", none), "_law_net", "_law_net", defArgs s__law_net, defBody s__law_net, defScope s__law_net, [], []⟩
def q__law_standings : He.DefD := ⟨("_law_standings", none), "_law_standings", "_law_standings", defArgs s__law_standings, defBody s__law_standings, defScope s__law_standings, [], []⟩
def q__law_gone : He.DefD := ⟨("_law_gone", none), "_law_gone", "_law_gone", defArgs s__law_gone, defBody s__law_gone, defScope s__law_gone, [], []⟩
def q__law_out : He.DefD := ⟨("_law_out", none), "_law_out", "_law_out", defArgs s__law_out, defBody s__law_out, defScope s__law_out, [], []⟩
def q__law_put_in : He.DefD := ⟨("_law_put_in", none), "_law_put_in", "_law_put_in", defArgs s__law_put_in, defBody s__law_put_in, defScope s__law_put_in, [], []⟩
def q__law_rows : He.DefD := ⟨("_law_rows", none), "_law_rows", "_law_rows", defArgs s__law_rows, defBody s__law_rows, defScope s__law_rows, [], []⟩
def q__law_refused : He.DefD := ⟨("_law_refused", none), "_law_refused", "_law_refused", defArgs s__law_refused, defBody s__law_refused, defScope s__law_refused, [], []⟩
def q__law_all_right : He.DefD := ⟨("_law_all_right", none), "_law_all_right", "_law_all_right", defArgs s__law_all_right, defBody s__law_all_right, defScope s__law_all_right, [], []⟩
def q__law_right : He.DefD := ⟨("_law_right", none), "_law_right", "_law_right", defArgs s__law_right, defBody s__law_right, defScope s__law_right, [], []⟩
def q_law : He.DefD := ⟨("law", none), "law", "law", defArgs s_law, defBody s_law, defScope s_law, [], []⟩
def fn : List He.DefD := [q_Needed__init, q_Lone__init, q_is_number, q_lighter, q_laid_on, q_fall, q_needless, q_moved, q_without, q_lead_of, q_way_of, q_falls_of, q__law_tape, q__law_draw, q__law_folded, q__law_same, q__law_names, q__law_standing, q__law_net, q__law_standings, q__law_gone, q__law_out, q__law_put_in, q__law_rows, q__law_refused, q__law_all_right, q__law_right, q_law]
def fa : List He.Fa := [.glo "Needed", .glo "Lone", .glo "is_number", .glo "lighter", .glo "laid_on", .glo "fall", .glo "needless", .glo "moved", .glo "without", .glo "lead_of", .glo "way_of", .glo "falls_of", .glo "_law_tape", .glo "_law_draw", .glo "_law_folded", .glo "_law_same", .glo "_law_names", .glo "_law_standing", .glo "_law_net", .glo "_law_standings", .glo "_law_gone", .glo "_law_out", .glo "_law_put_in", .glo "_law_rows", .glo "_law_refused", .glo "_law_all_right", .glo "_law_right", .glo "law", .free "RuntimeError", .glo "Needed", .glo "law", .glo "Lone", .glo "law", .free "isinstance", .free "int", .free "bool", .str "LEFT" "left", .str "RIGHT" "right", .free "enumerate", .free "tuple", .glo "SIDES", .free "list", .free "len", .free "abs", .free "all", .free "zip", .free "str", .free "range", .free "sorted", .free "dict", .glo "NoExit", .glo "NoDeed", .glo "NoBalance", .glo "Many", .glo "Deep", .glo "BadRow", .glo "law", .glo "law", .glo "law", .glo "law", .glo "law", .free "max"]
def ex : List (PySem.W.Frag → Bool) := [exTB "Needed" "RuntimeError" "RuntimeError.__new__" "RuntimeError.__init__" [.type "RuntimeError", .type "Exception", .type "BaseException", .type "object"], exTB "Lone" "RuntimeError" "RuntimeError.__new__" "RuntimeError.__init__" [.type "RuntimeError", .type "Exception", .type "BaseException", .type "object"], gtupB "SIDES" [.str "left", .str "right"], caughtB ["Needed", "Lone"] [.own "BadRow", .own "Deep", .own "Lone", .own "Many", .own "Needed", .own "NoBalance", .own "NoDeed", .own "NoExit"], isB [("Needed", false), ("Lone", false)] [.own "BadRow", .own "Deep", .own "Many", .own "NoBalance", .own "NoDeed", .own "NoExit"], isB [("Needed", true), ("Lone", false)] [.own "Needed"], isB [("Needed", false), ("Lone", true)] [.own "Lone"], isB [("Needed", true), ("Lone", true)] [.ty "RuntimeError"]]
abbrev R : PySem.W.OpenRow := PySem.W.OpenLaw.row PySem.Challenge.rw_panfalls_k60_needless_ones_taken_out
abbrev hk : PySem.W.Hook := hookX 6 ex fa fn
def ob (s : PySem.W.SharedT) : AlX := obsXG 6 ex fa fn (HandSHeadRun.getT s)
theorem ob_eq (s : PySem.W.SharedT) : ob s = hk.obs s.abs := obsXG_eq (HandSHeadRun.getT_eq s)
def lo0 : List Str := ["NoBalance", "NoExit", "NoDeed", "Needed", "Lone", "Deep", "Many", "BadRow", "LEFT", "RIGHT", "SIDES", "is_number", "lighter", "laid_on", "fall", "needless", "moved", "without", "lead_of", "way_of", "falls_of", "_law_tape", "_law_draw", "_law_folded", "_law_same", "_law_names", "_law_standing", "_law_net", "_law_standings", "_law_gone"]
def lo1 : List Str := ["_law_out", "_law_put_in", "_law_rows", "_law_refused", "_law_all_right", "_law_right"]
def loose : List Str := lo0 ++ lo1
theorem run (w : World) : HandSHeadRun.RunEq R (PySem.W.view R.prog [42]) hk ob 2980 loose w := by
  intro os
  kernel_rfl

local macro_rules | `(tactic| walk_at "lw_dd0") => `(tactic| try simp only [BEq.rfl, ↓e_v0, ↓e_vs, ↓e_c, ↓e_op, ↓e_un, ↓e_test, ↓e_testK, ↓e_tru, ↓e_truL, ↓e_truT, ↓e_truB, ↓e_truI, ↓e_truN, ↓e_truS, ↓e_not, ↓e_and, ↓e_or, ↓e_andv, ↓e_notv, ↓e_andK, ↓e_notK, ↓e_if, ↓e_nil, ↓e_cons, ↓e_tup, ↓e_lst, ↓e_new, ↓e_call, ↓e_callK, ↓e_drop, ↓e_ret, ↓e_pass, ↓e_ifS, ↓e_g0, ↓e_gs, ↓e_gnil, ↓e_gcons, ↓e_gtup, ↓e_asg, ↓e_par, ↓e_parK, ↓e_par3, ↓e_par3K, ↓e_no, ↓e_some, ↓e_someK, ↓e_cut, ↓e_b, ↓e_iter, ↓e_iterL, ↓e_iterT, ↓e_iterS, ↓e_rng1, ↓e_rng1K, ↓e_rng2, ↓e_rng2K, ↓e_enum, ↓e_enumL, ↓e_enumT, ↓e_zip, ↓e_zipL, ↓e_zipT, ↓e_for, ↓e_lc, ↓e_lcNew, ↓e_meth, ↓e_isL, ↓e_sub, ↓e_isi, ↓e_yes, ↓e_addI, ↓e_addB, ↓e_addS, ↓e_addT, ↓e_addL, ↓e_subI, ↓e_mulI, ↓e_mulT, ↓e_mulL, ↓e_divI, ↓e_modI, ↓e_powI, ↓e_negI, ↓e_cmpI, ↓e_eq, ↓e_ne, ↓e_isn, ↓e_isnn, ↓e_isb, ↓e_ixL, ↓e_ixKL, ↓e_ixT, ↓e_cutL, ↓e_cutKL, ↓e_cutT, ↓e_lenL, ↓e_lenKL, ↓e_lenT, ↓e_abs, ↓e_intI, ↓e_intB, ↓e_max2, ↓e_listNL, ↓e_listNT, ↓e_tupL, ↓e_tupT, ↓e_drI, ↓e_drB, ↓e_drS, ↓e_drN, ↓e_drL, ↓e_drT, ↓e_seq, ↓e_inL, ↓e_inKL, ↓e_inT, ↓e_inFlat, ↓e_drK, ↓e_addBI, ↓e_subBI, ↓e_subIB, ↓e_drG, ↓e_dnew, ↓e_dgetF, ↓e_dget2, ↓e_dgPut, ↓e_join, ↓e_joinL, ↓e_cutS, ↓e_mulS, ↓e_sortV, ↓e_tidx, ↓e_mulNewL, ↓e_sortedPL, ↓e_countL, ↓e_indexL, ↓e_tryGet, ↓e_isC, ↓e_isCK, ↓e_what, ↓e_whatK, ↓e_sil, ↓e_callX, ↓e_raise, e_kyI, e_kyS, Nat.reduceAdd, Nat.zero_add, List.length_cons, List.length_nil, List.length_map, Nat.reduceLeDiff, and_true, true_and, if_true, ite_true, decide_eq_true_eq, Bool.not_eq_true, Bool.false_eq_true, if_false, ite_false, ↓reduceIte, Int.reduceToNat, Int.reducePow, ne_eq, q_okI, q_okB, q_okN, q_okS, q_okL, q_okT, q_oks0, q_oks1, q_eqII, q_eqBB, q_eqSS, q_eqLL, q_eqTT, q_eqNN, q_eqNI, q_eqIN, q_eqs0, q_eqs1, Bool.true_and, Bool.and_true, beq_iff_eq, reduceCtorEq, wipeE, List.set_cons_zero, List.set_cons_succ, List.set_nil, Bool.not_true, Bool.not_false, List.getElem?_cons_zero, List.getElem?_cons_succ])
local macro_rules | `(tactic| walk_at "lw_dd") => `(tactic| try simp only [BEq.rfl, ↓e_v0, ↓e_vs, ↓e_c, ↓e_op, ↓e_un, ↓e_test, ↓e_testK, ↓e_tru, ↓e_truL, ↓e_truT, ↓e_truB, ↓e_truI, ↓e_truN, ↓e_truS, ↓e_not, ↓e_and, ↓e_or, ↓e_andv, ↓e_notv, ↓e_andK, ↓e_notK, ↓e_if, ↓e_nil, ↓e_cons, ↓e_tup, ↓e_lst, ↓e_new, ↓e_call, ↓e_callK, ↓e_drop, ↓e_ret, ↓e_pass, ↓e_ifS, ↓e_g0, ↓e_gs, ↓e_gnil, ↓e_gcons, ↓e_gtup, ↓e_asg, ↓e_par, ↓e_parK, ↓e_par3, ↓e_par3K, ↓e_no, ↓e_some, ↓e_someK, ↓e_cut, ↓e_b, ↓e_iter, ↓e_iterL, ↓e_iterT, ↓e_iterS, ↓e_rng1, ↓e_rng1K, ↓e_rng2, ↓e_rng2K, ↓e_enum, ↓e_enumL, ↓e_enumT, ↓e_zip, ↓e_zipL, ↓e_zipT, ↓e_for, ↓e_lc, ↓e_lcNew, ↓e_forN, ↓e_forC, ↓e_lcN, ↓e_lcC, ↓e_srcN, ↓e_srcC, ↓e_meth, ↓e_isL, ↓e_sub, ↓e_isi, ↓e_yes, ↓e_addI, ↓e_addB, ↓e_addS, ↓e_addT, ↓e_addL, ↓e_subI, ↓e_mulI, ↓e_mulT, ↓e_mulL, ↓e_divI, ↓e_modI, ↓e_powI, ↓e_negI, ↓e_cmpI, ↓e_eq, ↓e_ne, ↓e_isn, ↓e_isnn, ↓e_isb, ↓e_ixL, ↓e_ixKL, ↓e_ixT, ↓e_cutL, ↓e_cutKL, ↓e_cutT, ↓e_lenL, ↓e_lenKL, ↓e_lenT, ↓e_abs, ↓e_intI, ↓e_intB, ↓e_max2, ↓e_listNL, ↓e_listNT, ↓e_tupL, ↓e_tupT, ↓e_drI, ↓e_drB, ↓e_drS, ↓e_drN, ↓e_drL, ↓e_drT, ↓e_seq, ↓e_inL, ↓e_inKL, ↓e_inT, ↓e_inFlat, ↓e_drK, ↓e_addBI, ↓e_subBI, ↓e_subIB, ↓e_drG, ↓e_dnew, ↓e_dgetF, ↓e_dget2, ↓e_dgPut, ↓e_join, ↓e_joinL, ↓e_cutS, ↓e_mulS, ↓e_sortV, ↓e_tidx, ↓e_mulNewL, ↓e_sortedPL, ↓e_countL, ↓e_indexL, ↓e_tryGet, ↓e_isC, ↓e_isCK, ↓e_what, ↓e_whatK, ↓e_sil, ↓e_callX, ↓e_raise, e_kyI, e_kyS, Nat.reduceAdd, Nat.zero_add, List.length_cons, List.length_nil, List.length_map, Nat.reduceLeDiff, and_true, true_and, if_true, ite_true, decide_eq_true_eq, Bool.not_eq_true, Bool.false_eq_true, if_false, ite_false, ↓reduceIte, Int.reduceToNat, Int.reducePow, ne_eq, q_okI, q_okB, q_okN, q_okS, q_okL, q_okT, q_oks0, q_oks1, q_eqII, q_eqBB, q_eqSS, q_eqLL, q_eqTT, q_eqNN, q_eqNI, q_eqIN, q_eqs0, q_eqs1, Bool.true_and, Bool.and_true, beq_iff_eq, reduceCtorEq, wipeE, List.set_cons_zero, List.set_cons_succ, List.set_nil, Bool.not_true, Bool.not_false, List.getElem?_cons_zero, List.getElem?_cons_succ])
/-! the steps of a reading -/
theorem mul2 (w : Int) : MulOk 2 w := .inl ⟨by decide, by decide⟩
theorem in2 {r : Int} (h0 : 0 ≤ r) (h1 : r < 2) : r = 0 ∨ r = 1 := by omega
theorem app_get {st : Sto} {xs : List D} : (st ++ [xs])[st.length]? = some xs := List.getElem?_concat_length ..
theorem app_set {st : Sto} {xs ys : List D} : (st ++ [xs]).set st.length ys = st ++ [ys] := by simp
theorem belows_int (n : Nat) : ∀ xs : List Int, belows n (xs.map D.int) = true
  | [] => rfl
  | x :: r => by simp only [List.map_cons, belows, below, Bool.true_and]; exact belows_int n r
theorem atI_last {α : Type} (xs : List α) (x : α) : atI (xs ++ [x]) (-1) = some x := by
  unfold atI ixN
  rw [if_neg (by decide), if_pos (by rw [List.length_append, List.length_singleton]; omega)]
  show (xs ++ [x])[_]? = some x
  have : (-1 + ((xs ++ [x]).length : Int)).toNat = xs.length := by
    rw [List.length_append, List.length_singleton]
    omega
  rw [this]
  simp
theorem mulr (a b : Int) (h : -(2 ^ 64) < b) (h' : b < 2 ^ 64) : MulOk a b := .inr (.inl ⟨h, h'⟩)
theorem mulc (a b : Int) (h : -(2 ^ 64) < a) (h' : a < 2 ^ 64) : MulOk a b := .inl ⟨h, h'⟩
theorem mulb (a : Int) (b : Prop) [Decidable b] : MulOk a (if b then 1 else 0) := .inr (.inl (by split <;> exact ⟨by decide, by decide⟩))
theorem ixN_of {n : Nat} {i : Int} (h0 : 0 ≤ i) (h1 : i < n) : ixN n i = some i.toNat := by
  unfold ixN
  rw [if_pos h0, if_pos h1]
theorem atI_at {α : Type} {xs : List α} {i : Int} (h0 : 0 ≤ i) (h1 : i < xs.length) : atI xs i = some (xs[i.toNat]'(by omega)) := by
  unfold atI
  rw [ixN_of h0 h1]
  show xs[i.toNat]? = _
  rw [List.getElem?_eq_getElem]
theorem cutD_map {α β : Type} (f : α → β) (xs : List α) (lo hi : Option Int) : DL.cutD (xs.map f) lo hi = (DL.cutD xs lo hi).map f := by
  unfold DL.cutD
  rw [List.length_map, List.map_take, List.map_drop]
theorem cutD_to {α : Type} (xs : List α) (m : Nat) : DL.cutD xs none (some (m : Int)) = xs.take m := by
  unfold DL.cutD
  rw [HT.sIx_nat, HT.sIx_none, List.drop_zero, Nat.sub_zero]
  by_cases h : m ≤ xs.length
  · rw [Nat.min_eq_left h]
  · rw [Nat.min_eq_right (by omega), List.take_length, List.take_of_length_le (by omega)]
theorem cutD_from {α : Type} (xs : List α) (m k : Nat) : DL.cutD xs (some (m : Int)) (some (k : Int)) = (xs.drop m).take (k - m) := by
  unfold DL.cutD
  rw [HT.sIx_nat, HT.sIx_nat]
  by_cases h : m ≤ xs.length
  · rw [Nat.min_eq_left h]
    by_cases h2 : k ≤ xs.length
    · rw [Nat.min_eq_left h2]
    · rw [Nat.min_eq_right (by omega), List.take_of_length_le (by rw [List.length_drop]; omega), List.take_of_length_le (by rw [List.length_drop]; omega)]
  · rw [Nat.min_eq_right (show xs.length ≤ m by omega), List.drop_length, List.drop_eq_nil_of_le (show xs.length ≤ m by omega)]
    simp
theorem blsD_rep : ∀ n : Nat, blsD (List.replicate n (.bl true)) = some (List.replicate n true)
  | 0 => rfl
  | n + 1 => by
    show (blsD (List.replicate n (.bl true))).map (true :: ·) = _
    rw [blsD_rep n]
    rfl
theorem all_rep (n : Nat) : (List.replicate n true).all id = true := by simp
theorem set_last (st : Sto) (a b : List D) : (st ++ [a]).set st.length b = st ++ [b] := by simp
theorem map_set_int (cs : List Int) (j : Nat) (v : Int) : (cs.map D.int).set j (.int v) = (cs.set j v).map D.int := by
  rw [List.map_set]
theorem at0 (a b c : D) : atI [a, b, c] 0 = some a := rfl
theorem at1 (a b c : D) : atI [a, b, c] 1 = some b := rfl
theorem at2 (a b c : D) : atI [a, b, c] 2 = some c := rfl
theorem pow5 {x : Int} (h0 : 0 ≤ x) (h1 : x < 18446744073709551616) : PowOk x 5 := ⟨by decide, by decide, by omega⟩
theorem ok_left : PyData.strOk ("left" : Str) = true := by decide +kernel
theorem ok_right : PyData.strOk ("right" : Str) = true := by decide +kernel
theorem ok_side {x : Str} (h : x = "left" ∨ x = "right") : PyData.strOk x = true := by
  rcases h with rfl | rfl
  · exact ok_left
  · exact ok_right
def Big (m : Int) : Prop := 1 ≤ m ∧ m < 1000000000000000000000000
theorem Big.div {m : Int} (h : Big m) : DivOk m := ⟨by have := h.1; omega, by
  have h2 : m.natAbs < 2 ^ 80 := by have := h.1; have := h.2; omega
  exact Nat.lt_of_lt_of_le (PySem.Flt.log2_lt_of (by decide) h2) (by decide)⟩
theorem div_small {m : Int} (h : 0 < m) (h' : m < 4611686018427387904) : DivOk m := ⟨h, by
  have h2 : m.natAbs < 2 ^ 62 := by omega
  exact Nat.lt_of_lt_of_le (PySem.Flt.log2_lt_of (by decide) h2) (by decide)⟩
def isNumB : D → Bool
  | .int _ => true
  | _ => false
/-- a text by its codes -/
def S (cs : List Nat) : Str := ⟨cs.toArray⟩
theorem S_cps (cs : List Nat) : (S cs).cps.toList = cs := by unfold S; simp
theorem S_len (cs : List Nat) : (S cs).length = cs.length := by unfold S; show cs.toArray.size = _; simp
theorem S_app (a b : List Nat) : S a ++ S b = S (a ++ b) := by
  show Str.mk (a.toArray ++ b.toArray) = Str.mk (a ++ b).toArray
  rw [List.append_toArray]
theorem S_inj {a b : List Nat} (h : S a = S b) : a = b := by rw [← S_cps a, ← S_cps b, h]
theorem S_cut (cs : List Nat) (lo hi : Option Int) : L2.cutS (S cs) lo hi = S (DL.cutD cs lo hi) := by
  unfold L2.cutS DL.cutD
  rw [S_len, S_cps]
  rfl
theorem S_nil : Str.ofString "" = S [] := by decide +kernel
theorem S_join : ∀ cs : List Nat, PySem.Txt.join (Str.ofString "") (cs.map fun c => S [c]) = S cs := by
  intro cs
  show Builtin.Str.glued (Str.ofString "") (cs.map fun c => S [c]) = S cs
  rw [PySem.StrLaws.glued_eq_join, S_nil]
  induction cs with
  | nil => rfl
  | cons c r ih =>
    cases r with
    | nil => rfl
    | cons d r =>
      show S [c] ++ S [] ++ Str.join (S []) ((d :: r).map fun c => S [c]) = _
      rw [ih, S_app, S_app]
      rfl
theorem S_ok {cs : List Nat} (h : ∀ c ∈ cs, c < 1000) : PyData.strOk (S cs) = true := by
  unfold PyData.strOk S
  rw [← Array.all_toList]
  simp only [List.all_eq_true, decide_eq_true_eq]
  intro c hc
  have := h c (by simpa using hc)
  omega
theorem S_sum : ∀ cs : List Nat, ((cs.map fun c => S [c]).map (·.length)).sum = cs.length
  | [] => rfl
  | c :: r => by
    simp only [List.map_cons, List.sum_cons, S_sum r, S_len, List.length_cons, List.length_nil]
    omega
def abcL : List Nat := (List.range 26).map (97 + ·)
theorem abc_eq : Str.ofString "abcdefghijklmnopqrstuvwxyz" = S abcL := by decide +kernel
/-- a letter -/
def Lt (c : Nat) : Prop := 97 ≤ c ∧ c ≤ 122
theorem abc_at {i : Int} (h0 : 0 ≤ i) (h1 : i < 26) : atI abcL i = some (97 + i.toNat) := by
  obtain ⟨n, rfl⟩ := Int.eq_ofNat_of_zero_le h0
  have hn : n < 26 := by omega
  have : ∀ n : Fin 26, atI abcL (n.val : Int) = some (97 + n.val) := by decide
  exact this ⟨n, hn⟩
/-- a name: one to eight letters -/
structure NameL (cs : List Nat) : Prop where
  one : 1 ≤ cs.length
  eight : cs.length ≤ 8
  all : ∀ c ∈ cs, Lt c
/-! ### nets -/
inductive Ld where
  | bal (n : Nat) | out (cs : List Nat)
instance : DecidableEq Ld := fun a b => match a, b with
  | .bal n, .bal m => if h : n = m then isTrue (by rw [h]) else isFalse (fun e => h (by cases e; rfl))
  | .out n, .out m => if h : n = m then isTrue (by rw [h]) else isFalse (fun e => h (by cases e; rfl))
  | .bal _, .out _ => isFalse (fun e => by cases e)
  | .out _, .bal _ => isFalse (fun e => by cases e)
def Ld.d : Ld → D
  | .bal n => .int (n : Nat)
  | .out cs => .str (S cs)
abbrev Web := List (Ld × Ld)
def ldsD (p : Ld × Ld) : D := .tup [p.1.d, p.2.d]
def webD (w : Web) : D := .tup (w.map ldsD)
def Ld.of (p : Ld × Ld) (s : Bool) : Ld := if s = true then p.2 else p.1
/-- where the pan (k, s) leads -/
def leadW (w : Web) (k : Nat) (s : Bool) : Option Ld := (w[k]?).map fun p => Ld.of p s
structure WebOk (names : List (List Nat)) (most high : Nat) (tog : Bool) (w : Web) : Prop where
  one : 1 ≤ w.length
  len : w.length ≤ most
  nm : ∀ k s cs, leadW w k s = some (.out cs) → cs ∈ names
  bal : ∀ k s j, leadW w k s = some (.bal j) → k < j ∧ j < w.length
  led : ∀ j, 1 ≤ j → j < w.length → ∃ k s, leadW w k s = some (.bal j)
  hts : ∃ ht : Nat → Int, ht 0 = 0 ∧ (∀ k, k < w.length → 0 ≤ ht k ∧ ht k < high) ∧ ∀ k s j, leadW w k s = some (.bal j) → ht k < ht j
  tree : tog = false → ∀ k s k' s' j, leadW w k s = some (.bal j) → leadW w k' s' = some (.bal j) → k = k' ∧ s = s'
theorem keyL : KeyE false Ld.d := ⟨fun a => by cases a <;> rfl, fun a b h => by
  cases a <;> cases b
  · have h' : some [(Sum.inl ((_ : Nat) : Int) : Key)] = some [Sum.inl ((_ : Nat) : Int)] := h
    simp only [Option.some.injEq, List.cons.injEq, Sum.inl.injEq, and_true] at h'
    rw [Int.ofNat_inj.mp h']
  · have h' : some [(Sum.inl ((_ : Nat) : Int) : Key)] = some [Sum.inr (S _)] := h
    cases h'
  · have h' : some [(Sum.inr (S _) : Key)] = some [Sum.inl ((_ : Nat) : Int)] := h
    cases h'
  · have h' : some [(Sum.inr (S _) : Key)] = some [Sum.inr (S _)] := h
    simp only [Option.some.injEq, List.cons.injEq, Sum.inr.injEq, and_true] at h'
    rw [S_inj h']⟩
abbrev Pn := Nat × Bool
def sideI (b : Bool) : Int := if b = true then 1 else 0
theorem sideI_inj {a b : Bool} (h : sideI a = sideI b) : a = b := by cases a <;> cases b <;> first | rfl | cases h
def pnD (p : Pn) : D := .tup [.int (p.1 : Nat), .int (sideI p.2)]
theorem keyN : KeyE true pnD := ⟨fun _ => rfl, fun a b h => by
  have h' : some [(Sum.inl ((a.1 : Nat) : Int) : Key), Sum.inl (sideI a.2)] = some [Sum.inl ((b.1 : Nat) : Int), Sum.inl (sideI b.2)] := h
  simp only [Option.some.injEq, List.cons.injEq, Sum.inl.injEq, and_true] at h'
  exact Prod.ext (Int.ofNat_inj.mp h'.1) (sideI_inj h'.2)⟩
theorem pn_eq (p q : Pn) : eqD (pnD p) (pnD q) = decide (p = q) := by
  unfold pnD
  simp only [eqD, eqDs, Bool.and_true]
  by_cases h : p = q
  · rw [h]; simp
  · rw [decide_eq_false h, Bool.and_eq_false_iff]
    by_cases h1 : p.1 = q.1
    · right
      have h2 : p.2 ≠ q.2 := fun z => h (Prod.ext h1 z)
      simp only [beq_eq_false_iff_ne, ne_eq]
      exact fun z => h2 (sideI_inj z)
    · left
      simp only [beq_eq_false_iff_ne, ne_eq]
      omega
theorem pn_find {p : Pn} : ∀ {ps : List Pn}, p ∈ ps → ∃ m, findD (pnD p) (ps.map pnD) = some m ∧ ps.eraseIdx m = ps.erase p := by
  intro ps
  induction ps with
  | nil => intro h; cases h
  | cons q r ih =>
    intro h
    unfold findD
    rw [List.map_cons, List.findIdx?_cons, pn_eq]
    by_cases e : q = p
    · refine ⟨0, by simp [e], ?_⟩
      rw [e]
      simp
    · obtain ⟨m, h1, h2⟩ := ih ((List.mem_cons.mp h).resolve_left (fun z => e z.symm))
      unfold findD at h1
      refine ⟨m + 1, by simp [e, h1], ?_⟩
      rw [List.eraseIdx_cons_succ, h2, List.erase_cons_tail (by simpa using e)]
theorem erase_map {α : Type} {f : α → D} : ∀ (xs : List α) (m : Nat), (xs.eraseIdx m).map f = (xs.map f).eraseIdx m
  | [], m => by simp
  | x :: r, 0 => by simp
  | x :: r, m + 1 => by simp [erase_map r m]
theorem pn_ok (n : Nat) : ∀ ps : List Pn, okDs (n + 1) (ps.map pnD) = true
  | [] => by simp only [List.map_nil, okDs]
  | p :: r => by
    simp only [List.map_cons, okDs, pnD, okD, Bool.true_and]
    exact pn_ok n r
theorem pn_below (n : Nat) : ∀ ps : List Pn, belows n (ps.map pnD) = true
  | [] => rfl
  | p :: r => by
    simp only [List.map_cons, belows, below, pnD, Bool.true_and]
    exact pn_below n r
theorem pn_pair : ∀ ps : List Pn, (ps.map pnD).all isPairB = true
  | [] => rfl
  | p :: r => by
    simp only [List.map_cons, List.all_cons, Bool.and_eq_true]
    exact ⟨rfl, pn_pair r⟩
theorem perm_map {α : Type} {f : α → D} {ps : List α} : ∀ {es : List D}, es.Perm (ps.map f) → ∃ qs : List α, es = qs.map f ∧ qs.Perm ps := by
  intro es h
  obtain ⟨qs, h1, h2⟩ : ∃ qs : List α, qs.Perm ps ∧ es = qs.map f := by
    generalize hx : ps.map f = xs at h
    induction h generalizing ps with
    | nil =>
      have : ps = [] := List.map_eq_nil_iff.mp hx
      exact ⟨[], by rw [this], rfl⟩
    | cons x p ih =>
      cases ps with
      | nil => cases hx
      | cons a r =>
        cases hx
        obtain ⟨qs, q1, q2⟩ := ih rfl
        exact ⟨a :: qs, q1.cons a, by rw [q2, List.map_cons]⟩
    | swap x y l =>
      match ps, hx with
      | a :: b :: r, hx =>
        cases hx
        exact ⟨b :: a :: r, .swap _ _ _, rfl⟩
    | trans p q ih1 ih2 =>
      obtain ⟨qs, q1, q2⟩ := ih2 hx
      obtain ⟨rs, r1, r2⟩ := ih1 q2.symm
      exact ⟨rs, r1.trans q1, r2⟩
  exact ⟨qs, h2, h1⟩
/-! a def's own lists behind the caller's -/
theorem sa_get {A L : Sto} {l a : Nat} (e : A.length = l) : (A ++ L)[l + a]? = L[a]? := by
  rw [List.getElem?_append_right (by omega)]
  congr 1
  omega
theorem sa_set {A L : Sto} {l a : Nat} {x : List D} (e : A.length = l) : (A ++ L).set (l + a) x = A ++ L.set a x := by
  rw [List.set_append_right _ _ (by omega)]
  congr 2
  omega
theorem sa_seti {A L : Sto} {l i : Nat} {x : List D} (e : A.length = l) (h : i < l) : (A ++ L).set i x = A.set i x ++ L := List.set_append_left _ _ (by omega)
theorem go_from {src : List (Nat × List D)} {g : DG} {b : DS} {kk : DL.Env → Sto → Prop} {rt : DK} (a n : Nat) (I : Nat → DL.Env → Sto → Prop)
    (step : ∀ j env st (nx : DL.Env → Sto → Prop), j < n → I j env st → (∀ e s, I (j + 1) e s → nx e s) → SrcOk src st ∧ g (.int ((a + j : Nat) : Int)) env st fun e s => b ⟨nx, rt⟩ e s)
    (done : ∀ env st, I n env st → SrcOk src st ∧ kk env st) (env : DL.Env) (st : Sto) (h : I 0 env st) : goFor src g b ⟨kk, rt⟩ (rangeD (a : Int) n) env st := by
  have e : rangeD (a : Int) n = (List.range n).map fun i => D.int ((a + i : Nat) : Int) := by
    unfold rangeD
    refine List.map_congr_left fun x _ => ?_
    rw [Int.natCast_add]
  rw [e]
  refine go_for (fun i : Nat => D.int ((a + i : Nat) : Int)) (fun r env st => ∃ j, r = (List.range n).drop j ∧ j ≤ n ∧ I j env st) ?_ ?_ _ env st ⟨0, rfl, Nat.zero_le _, h⟩
  · rintro x r env st nx ⟨j, hr, hj, hI⟩ q
    have lt : j < n := by
      apply Nat.lt_of_not_le
      intro z
      rw [List.drop_eq_nil_of_le (by rw [List.length_range]; exact z)] at hr
      cases hr
    have hd := List.drop_eq_getElem_cons (l := List.range n) (i := j) (by rw [List.length_range]; exact lt)
    rw [hd] at hr
    injection hr with h1 h2
    rw [List.getElem_range] at h1
    subst h1
    exact step x env st nx lt hI fun e s hi => q e s ⟨x + 1, h2, lt, hi⟩
  · rintro env st ⟨j, hr, hj, hI⟩
    have : j = n := by
      have := congrArg List.length hr
      rw [List.length_nil, List.length_drop, List.length_range] at this
      omega
    subst this
    exact done env st hI
theorem tabL_below (n : Nat) {f : Ld → D} (hf : ∀ v, below n (f v) = true) : ∀ ls : List (Pn × Ld), belows n (tabR pnD f ls) = true
  | [] => rfl
  | p :: r => by
    have ih := tabL_below n hf r
    unfold tabR at ih ⊢
    simp only [List.map_cons, belows, below, pnD, Bool.true_and, Bool.and_true, hf]
    exact ih
theorem atI_int {hs : List Int} {k : Nat} (h : k < hs.length) : atI (hs.map D.int) (k : Int) = some (.int (hs.getD k 0)) := by
  unfold atI
  rw [ixN_of (by omega) (by rw [List.length_map]; omega)]
  show (hs.map D.int)[(k : Int).toNat]? = _
  rw [Int.toNat_natCast, List.getElem?_map, List.getElem?_eq_getElem h, List.getD_eq_getElem?_getD, List.getElem?_eq_getElem h]
  rfl
theorem atI_map {α : Type} {f : α → D} {xs : List α} {r : Int} (h0 : 0 ≤ r) (h1 : r < xs.length) : ∃ x ∈ xs, atI (xs.map f) r = some (f x) := by
  refine ⟨xs[r.toNat]'(by omega), List.getElem_mem _, ?_⟩
  unfold atI
  rw [ixN_of h0 (by rw [List.length_map]; exact h1)]
  show (xs.map f)[r.toNat]? = _
  rw [List.getElem?_map, List.getElem?_eq_getElem (by omega)]
  rfl
theorem ld_below (n : Nat) (v : Ld) : below n v.d = true := by cases v <;> rfl
theorem Tp.left {i n : Nat} {A L : Sto} (h : Tp i n (A ++ L)) (l : i < A.length) : Tp i n A := by
  obtain ⟨xs, e, t⟩ := h
  rw [List.getElem?_append_left l] at e
  exact ⟨xs, e, t⟩
theorem frz_tapeN {st st2 : Sto} {i n : Nat} {d : D} {loc : List (List D)} {ys : List D} {kk : DK} (e : st2 = st.set i ys) (ht : Tp i n st2) (hb : ∀ c ∈ loc, belows 0 c = true) (h : kk (frzs st.length loc d) st2) : Frz st d (st2 ++ loc) kk := by
  refine ⟨st2, loc, rfl, by rw [e, List.length_set], fun j xs hj => ?_, safe_closed _ _ hb, h⟩
  by_cases z : j = i
  · subst z
    obtain ⟨zs, e1, x, y, w, rfl, _⟩ := ht
    rw [e1] at hj
    cases hj
    exact .inr rfl
  · rw [e, List.getElem?_set_ne (fun y => z y.symm)] at hj
    exact .inl hj
theorem putL_len_in {κ α : Type} [DecidableEq κ] {ks : List (κ × α)} {k : κ} {a : α} (h : (look ks k).isSome = true) : (putL ks k a).length = ks.length := by
  unfold putL
  rw [if_pos h, List.length_map]
theorem enum_nat : ∀ (xs : List Nat) (j : Nat), enumD j (xs.map fun k => D.int (k : Nat)) = (xs.zipIdx j).map fun p => D.tup [.int (p.2 : Nat), .int (p.1 : Nat)]
  | [], j => rfl
  | x :: r, j => by simp only [List.map_cons, enumD, List.zipIdx_cons, enum_nat r (j + 1)]
theorem merge_tab {κ α : Type} [DecidableEq κ] {t : Bool} {e : κ → D} {f : α → D} (h : KeyE t e) : ∀ (kvs acc : List (κ × α)), mergeR t (tabR e f acc) (kvs.map fun p => (e p.1, f p.2)) = tabR e f (kvs.foldl (fun r p => putL r p.1 p.2) acc)
  | [], acc => rfl
  | p :: r, acc => by
    have ih := merge_tab (f := f) h r (putL acc p.1 p.2)
    unfold mergeR at ih ⊢
    rw [List.map_cons, List.foldl_cons, List.foldl_cons, putR_tab h]
    exact ih
theorem fold_new {κ α : Type} [DecidableEq κ] : ∀ (kvs acc : List (κ × α)), (acc.map (·.1) ++ kvs.map (·.1)).Nodup → kvs.foldl (fun r p => putL r p.1 p.2) acc = acc ++ kvs
  | [], acc, _ => by simp
  | p :: r, acc, nd => by
    have hn : look acc p.1 = none := look_none.mpr fun z => by
      rw [List.nodup_append] at nd
      exact nd.2.2 p.1 z p.1 (by simp) rfl
    rw [List.foldl_cons, putL_new hn, fold_new r (acc ++ [(p.1, p.2)]) (by rw [List.map_append]; simpa [List.append_assoc] using nd)]
    simp
def numT (xs : List Nat) : List (Ld × Nat) := (xs.zipIdx 0).map fun p => (Ld.bal p.1, p.2)
theorem numT_keys (xs : List Nat) : (numT xs).map (·.1) = xs.map Ld.bal := by
  unfold numT
  rw [List.map_map]
  have : ∀ (xs : List Nat) (j : Nat), (xs.zipIdx j).map (Prod.fst ∘ fun p => (Ld.bal p.1, p.2)) = xs.map Ld.bal := by
    intro xs
    induction xs with
    | nil => intro j; rfl
    | cons x r ih => intro j; rw [List.zipIdx_cons, List.map_cons, List.map_cons, ih]; rfl
  exact this xs 0
theorem numT_nd {xs : List Nat} (h : xs.Nodup) : ((numT xs).map (·.1)).Nodup := by
  rw [numT_keys]
  unfold List.Nodup
  rw [List.pairwise_map]
  exact h.imp fun z e => z (by cases e; rfl)
theorem numT_bal {xs : List Nat} (h : xs.Nodup) {k : Nat} (hk : k ∈ xs) : look (numT xs) (.bal k) = some (xs.idxOf k) := by
  refine look_of_mem (numT_nd h) (p := (Ld.bal k, xs.idxOf k)) ?_
  unfold numT
  refine List.mem_map.mpr ⟨(k, xs.idxOf k), ?_, rfl⟩
  rw [List.mem_zipIdx_iff_getElem?]
  exact (List.getElem?_eq_getElem (List.idxOf_lt_length_iff.mpr hk)).trans (by rw [List.getElem_idxOf])
theorem numT_out {xs : List Nat} {cs : List Nat} : look (numT xs) (.out cs) = none := by
  rw [look_none, numT_keys]
  intro z
  obtain ⟨_, _, e⟩ := List.mem_map.mp z
  cases e
theorem pairs_numT (xs : List Nat) (j : Nat) : DL.pairsOf ((xs.zipIdx j).map fun p => D.tup [.int (p.1 : Nat), .int (p.2 : Nat)]) = some ((xs.zipIdx j).map fun p => (D.int (p.1 : Nat), D.int (p.2 : Nat))) := by
  induction xs generalizing j with
  | nil => rfl
  | cons x r ih => rw [List.zipIdx_cons, List.map_cons, List.map_cons, DL.pairsOf, ih]; rfl
/-! how a net is made -/
structure G1 (high : Int) (size j : Nat) (ps : List Pn) (hs : List Int) (ls : List (Pn × Ld)) (ks : List Nat) : Prop where
  vals : ls.map (·.2) = ks.map Ld.bal
  inc : (0 :: ks).Pairwise (· < ·)
  lt : ∀ k ∈ 0 :: ks, k < j
  nd : ps.Nodup
  kd : (ls.map (·.1)).Nodup
  pan : ∀ p : Pn, p ∈ ps ↔ p.1 ∈ 0 :: ks ∧ p ∉ ls.map (·.1)
  ed : ∀ p k, (p, Ld.bal k) ∈ ls → p.1 ∈ 0 :: ks ∧ p.1 < k ∧ hs.getD k 0 = hs.getD p.1 0 + 1
  hl : hs.length = size
  hh : ∀ k ∈ 0 :: ks, 0 ≤ hs.getD k 0 ∧ hs.getD k 0 < high
  len : ks.length < j
  h0 : hs.getD 0 0 = 0
  js : j ≤ size
  pl : ps.length ≤ j + 1
theorem G1.start {high : Int} {size : Nat} (h1 : 1 ≤ high) (hs : 1 ≤ size) : G1 high size 1 [(0, false), (0, true)] (List.replicate size 0) [] [] where
  vals := rfl
  inc := by simp
  lt := by simp
  nd := by decide
  kd := by simp
  pan := fun p => by
    obtain ⟨k, b⟩ := p
    cases b <;> simp
  ed := fun p k h => by cases h
  hl := by simp
  hh := fun k hk => by
    have : k = 0 := by simpa using hk
    subst this
    rw [List.getD_eq_getElem?_getD, List.getElem?_replicate]
    split <;> exact ⟨Int.le_refl 0, by show (0 : Int) < high; omega⟩
  len := by simp
  h0 := by
    rw [List.getD_eq_getElem?_getD, List.getElem?_replicate]
    split <;> rfl
  js := hs
  pl := by decide
theorem G1.skip {high : Int} {size j : Nat} {ps : List Pn} {hs : List Int} {ls : List (Pn × Ld)} {ks : List Nat} (h : G1 high size j ps hs ls ks) (q : j < size) : G1 high size (j + 1) ps hs ls ks :=
  { h with lt := fun k hk => by have := h.lt k hk; omega, len := by have := h.len; omega, js := q, pl := by have := h.pl; omega }
theorem getD_set_ne {hs : List Int} {j k : Nat} {x : Int} (h : j ≠ k) : (hs.set j x).getD k 0 = hs.getD k 0 := by
  rw [List.getD_eq_getElem?_getD, List.getD_eq_getElem?_getD, List.getElem?_set_ne h]
theorem getD_set_eq {hs : List Int} {j : Nat} {x : Int} (h : j < hs.length) : (hs.set j x).getD j 0 = x := by
  rw [List.getD_eq_getElem?_getD, List.getElem?_set_self h]
  rfl
theorem G1.put {high : Int} {size j : Nat} {ps : List Pn} {hs : List Int} {ls : List (Pn × Ld)} {ks : List Nat} (h : G1 high size j ps hs ls ks) (q : j < size) {p : Pn} (hp : p ∈ ps) (hf : hs.getD p.1 0 + 1 < high) :
    G1 high size (j + 1) (ps.erase p ++ [(j, false), (j, true)]) (hs.set j (hs.getD p.1 0 + 1)) (ls ++ [(p, .bal j)]) (ks ++ [j]) ∧ look ls p = none := by
  have p0 := (h.pan p).mp hp
  have hpj := h.lt p.1 p0.1
  have jn : j ∉ 0 :: ks := fun z => by have := h.lt j z; omega
  have mem : ∀ k, k ∈ 0 :: (ks ++ [j]) ↔ k ∈ 0 :: ks ∨ k = j := fun k => by
    rw [← List.cons_append, List.mem_append, List.mem_singleton]
  have j1 : 1 ≤ j := by have := h.lt 0 List.mem_cons_self; omega
  have pl : (ps.erase p ++ [(j, false), (j, true)]).length ≤ j + 1 + 1 := by
    rw [List.length_append, List.length_erase_of_mem hp]
    have := h.pl
    have := List.length_pos_of_mem hp
    simp only [List.length_cons, List.length_nil]
    omega
  refine ⟨⟨?_, ?_, ?_, ?_, ?_, ?_, ?_, ?_, ?_, ?_, ?_, q, pl⟩, look_none.mpr p0.2⟩
  · rw [List.map_append, List.map_append, h.vals]; rfl
  · rw [← List.cons_append, List.pairwise_append]
    exact ⟨h.inc, by simp, fun a ha b hb => by rw [List.mem_singleton.mp hb]; exact h.lt a ha⟩
  · intro k hk
    rcases (mem k).mp hk with z | z
    · have := h.lt k z; omega
    · omega
  · have h1 : (ps.erase p).Nodup := h.nd.erase p
    rw [List.nodup_append]
    refine ⟨h1, by simp, fun a ha b hb e => ?_⟩
    have h2 := (h.pan a).mp (List.mem_of_mem_erase ha)
    have h3 : b.1 = j := by
      rcases List.mem_cons.mp hb with z | z
      · rw [z]
      · rw [List.mem_singleton.mp z]
    rw [e, h3] at h2
    exact jn h2.1
  · rw [List.map_append, List.nodup_append]
    refine ⟨h.kd, by simp, fun a ha b hb e => ?_⟩
    have : b = p := by simpa using hb
    rw [e, this] at ha
    exact p0.2 ha
  · intro x
    rw [List.mem_append, h.nd.mem_erase_iff, h.pan x, mem, List.map_append, List.mem_append]
    obtain ⟨a, b⟩ := x
    have hj : (a, b) ∈ [(j, false), (j, true)] ↔ a = j := by
      cases b <;> simp
    rw [hj]
    have h4 : (a, b) ∈ [(p, Ld.bal j)].map (·.1) ↔ (a, b) = p := by simp
    rw [h4]
    constructor
    · rintro (⟨h1, h2, h3⟩ | h1)
      · exact ⟨.inl h2, fun z => z.elim h3 h1⟩
      · refine ⟨.inr h1, fun z => ?_⟩
        rcases z with z | z
        · obtain ⟨⟨p', v⟩, m, e⟩ := List.mem_map.mp z
          have hv : v ∈ ls.map (·.2) := List.mem_map.mpr ⟨_, m, rfl⟩
          rw [h.vals] at hv
          obtain ⟨k, hk, rfl⟩ := List.mem_map.mp hv
          have := (h.ed p' k m).1
          have e' : p' = (a, b) := e
          rw [e'] at this
          exact jn (h1 ▸ this)
        · rw [← z] at hpj
          exact absurd hpj (by rw [h1]; omega)
    · rintro ⟨h1 | h1, h2⟩
      · exact .inl ⟨fun z => h2 (.inr z), h1, fun z => h2 (.inl z)⟩
      · exact .inr h1
  · intro x k hm
    rcases List.mem_append.mp hm with z | z
    · obtain ⟨h1, h2, h3⟩ := h.ed x k z
      have hv : Ld.bal k ∈ ls.map (·.2) := List.mem_map.mpr ⟨_, z, rfl⟩
      rw [h.vals] at hv
      obtain ⟨k', hk, e⟩ := List.mem_map.mp hv
      cases e
      have hk' := h.lt k (List.mem_cons_of_mem _ hk)
      have hx' := h.lt x.1 h1
      refine ⟨(mem _).mpr (.inl h1), h2, ?_⟩
      rw [getD_set_ne (by omega), getD_set_ne (by omega)]
      exact h3
    · have e := List.mem_singleton.mp z
      cases e
      refine ⟨(mem _).mpr (.inl p0.1), hpj, ?_⟩
      rw [getD_set_eq (by rw [h.hl]; exact q), getD_set_ne (by omega)]
  · rw [List.length_set]; exact h.hl
  · intro k hk
    rcases (mem k).mp hk with z | z
    · have := h.lt k z
      rw [getD_set_ne (by omega)]
      exact h.hh k z
    · rw [z, getD_set_eq (by rw [h.hl]; exact q)]
      have := (h.hh p.1 p0.1).1
      omega
  · rw [List.length_append, List.length_singleton]
    have := h.len
    omega
  · rw [getD_set_ne (by omega)]
    exact h.h0
/-- a lead that pan p may get in the end -/
def Good (names : List (List Nat)) (tog : Bool) (hs : List Int) (there : List Nat) (p : Pn) (v : Ld) : Prop :=
  (∃ cs ∈ names, v = .out cs) ∨ tog = true ∧ ∃ k ∈ there, v = .bal k ∧ p.1 < k ∧ hs.getD p.1 0 < hs.getD k 0
/-- what is told: each lead by the place of its balance -/
def numL (there : List Nat) : Ld → Ld
  | .bal k => .bal (there.idxOf k)
  | .out cs => .out cs
def webOf (there : List Nat) (look2 : Pn → Option Ld) : Web := there.map fun k => (numL there ((look2 (k, false)).getD (.bal 0)), numL there ((look2 (k, true)).getD (.bal 0)))
theorem idx_at {xs : List Nat} (h : xs.Pairwise (· < ·)) {i : Nat} (hi : i < xs.length) : xs.idxOf xs[i] = i := by
  have m := List.getElem_mem hi
  have l := List.idxOf_lt_length_iff.mpr m
  have e : xs[xs.idxOf xs[i]] = xs[i] := List.getElem_idxOf l
  rcases Nat.lt_trichotomy (xs.idxOf xs[i]) i with z | z | z
  · have := List.pairwise_iff_getElem.mp h _ _ l hi z
    omega
  · exact z
  · have := List.pairwise_iff_getElem.mp h _ _ hi l z
    omega
theorem web_ok {names : List (List Nat)} {most high : Nat} {tog : Bool} {size j : Nat} {ps : List Pn} {hs : List Int} {ls : List (Pn × Ld)} {ks : List Nat} (h : G1 (high : Int) size j ps hs ls ks) (hm : size ≤ most) {look2 : Pn → Option Ld}
    (g1 : ∀ p ∈ ps, ∃ v, look2 p = some v ∧ Good names tog hs (0 :: ks) p v) (g2 : ∀ p ∉ ps, look2 p = look ls p) : WebOk names most high tog (webOf (0 :: ks) look2) := by
  have nd : (0 :: ks).Nodup := h.inc.imp fun z => by omega
  have len : (webOf (0 :: ks) look2).length = (0 :: ks).length := List.length_map _
  -- each pan of a balance leads somewhere
  have every : ∀ k ∈ 0 :: ks, ∀ s, ∃ v, look2 (k, s) = some v ∧ ((Good names tog hs (0 :: ks) (k, s) v) ∨ ((k, s), v) ∈ ls) := by
    intro k hk s
    by_cases q : (k, s) ∈ ps
    · obtain ⟨v, e1, e2⟩ := g1 _ q
      exact ⟨v, e1, .inl e2⟩
    · have : (k, s) ∈ ls.map (·.1) := by
        apply Classical.byContradiction
        intro z
        exact q ((h.pan _).mpr ⟨hk, z⟩)
      obtain ⟨⟨p, v⟩, m, e⟩ := List.mem_map.mp this
      have e' : p = (k, s) := e
      subst e'
      exact ⟨v, (g2 _ q).trans (look_of_mem h.kd m), .inr m⟩
  have lead : ∀ k s v, leadW (webOf (0 :: ks) look2) k s = some v ↔ ∃ (hk : k < (0 :: ks).length), v = numL (0 :: ks) ((look2 ((0 :: ks)[k], s)).getD (.bal 0)) := by
    intro k s v
    unfold leadW webOf
    rw [List.getElem?_map]
    by_cases hk : k < (0 :: ks).length
    · rw [List.getElem?_eq_getElem hk]
      simp only [Option.map_some, Option.some.injEq]
      constructor
      · intro e
        refine ⟨hk, ?_⟩
        rw [← e]
        cases s <;> rfl
      · rintro ⟨_, e⟩
        rw [e]
        cases s <;> rfl
    · rw [List.getElem?_eq_none (by omega)]
      simp only [Option.map_none, reduceCtorEq, false_iff]
      rintro ⟨hk', _⟩
      exact hk hk'
  have kin : ∀ {p : Pn} {v : Ld}, (p, v) ∈ ls → ∃ k ∈ ks, v = .bal k := by
    intro p v m
    have hv : v ∈ ls.map (·.2) := List.mem_map.mpr ⟨_, m, rfl⟩
    rw [h.vals] at hv
    obtain ⟨k, hk, rfl⟩ := List.mem_map.mp hv
    exact ⟨k, hk, rfl⟩
  -- a lead to a balance
  have toB : ∀ k s j, leadW (webOf (0 :: ks) look2) k s = some (.bal j) → ∃ (hk : k < (0 :: ks).length) (hj : j < (0 :: ks).length), look2 ((0 :: ks)[k], s) = some (.bal (0 :: ks)[j]) ∧ (0 :: ks)[k] < (0 :: ks)[j] ∧ hs.getD (0 :: ks)[k] 0 < hs.getD (0 :: ks)[j] 0 ∧
      (tog = false → (((0 :: ks)[k], s), Ld.bal (0 :: ks)[j]) ∈ ls) := by
    intro k s j e
    obtain ⟨hk, e⟩ := (lead _ _ _).mp e
    obtain ⟨v, e1, e2⟩ := every _ (List.getElem_mem hk) s
    rw [e1, Option.getD_some] at e
    cases v with
    | out cs => cases e
    | bal b =>
      injection e with e
      have main : b ∈ 0 :: ks ∧ (0 :: ks)[k] < b ∧ hs.getD (0 :: ks)[k] 0 < hs.getD b 0 ∧ (tog = false → (((0 :: ks)[k], s), Ld.bal b) ∈ ls) := by
        rcases e2 with (⟨cs, _, z⟩ | ⟨ht, b', hb, z, l1, l2⟩) | m
        · cases z
        · cases z
          exact ⟨hb, l1, l2, fun f => by rw [ht] at f; cases f⟩
        · obtain ⟨b', hb, z⟩ := kin m
          cases z
          obtain ⟨_, l1, l2⟩ := h.ed _ _ m
          exact ⟨List.mem_cons_of_mem _ hb, l1, by rw [l2]; exact Int.lt_succ _, fun _ => m⟩
      have lj := List.idxOf_lt_length_iff.mpr main.1
      have ej : (0 :: ks)[(0 :: ks).idxOf b] = b := List.getElem_idxOf lj
      subst e
      refine ⟨hk, lj, ?_, ?_, ?_, ?_⟩
      · rw [ej]; exact e1
      · rw [ej]; exact main.2.1
      · rw [ej]; exact main.2.2.1
      · rw [ej]; exact main.2.2.2
  refine ⟨by rw [len]; simp, ?_, ?_, ?_, ?_, ?_, ?_⟩
  · rw [len, List.length_cons]
    have := h.len
    have := h.js
    omega
  · intro k s cs e
    obtain ⟨hk, e⟩ := (lead _ _ _).mp e
    obtain ⟨v, e1, e2⟩ := every _ (List.getElem_mem hk) s
    rw [e1, Option.getD_some] at e
    cases v with
    | bal b => cases e
    | out c =>
      cases e
      rcases e2 with (⟨cs, hc, z⟩ | ⟨ht, b', hb, z, l1, l2⟩) | m
      · cases z
        exact hc
      · cases z
      · obtain ⟨b', hb, z⟩ := kin m
        cases z
  · intro k s j e
    obtain ⟨hk, hj, _, l, _⟩ := toB k s j e
    refine ⟨?_, by rw [len]; exact hj⟩
    apply Nat.lt_of_not_le
    intro z
    rcases Nat.lt_or_eq_of_le z with z | z
    · have := List.pairwise_iff_getElem.mp h.inc _ _ hj hk z
      omega
    · subst z
      omega
  · intro j j1 jl
    rw [len] at jl
    have hb : (0 :: ks)[j] ∈ ks := by
      obtain ⟨i, rfl⟩ : ∃ i, j = i + 1 := ⟨j - 1, by omega⟩
      rw [List.getElem_cons_succ]
      exact List.getElem_mem _
    have hv : Ld.bal (0 :: ks)[j] ∈ ls.map (·.2) := by rw [h.vals]; exact List.mem_map.mpr ⟨_, hb, rfl⟩
    obtain ⟨⟨p, v⟩, m, e⟩ := List.mem_map.mp hv
    have e' : v = Ld.bal (0 :: ks)[j] := e
    subst e'
    obtain ⟨p1, _, _⟩ := h.ed _ _ m
    have pn : p ∉ ps := fun z => ((h.pan p).mp z).2 (List.mem_map.mpr ⟨_, m, rfl⟩)
    have lp := List.idxOf_lt_length_iff.mpr p1
    refine ⟨(0 :: ks).idxOf p.1, p.2, (lead _ _ _).mpr ⟨lp, ?_⟩⟩
    rw [show ((0 :: ks)[(0 :: ks).idxOf p.1], p.2) = p by rw [List.getElem_idxOf lp], g2 p pn, look_of_mem h.kd m, Option.getD_some]
    show Ld.bal j = .bal ((0 :: ks).idxOf (0 :: ks)[j])
    rw [idx_at h.inc jl]
  · refine ⟨fun k => hs.getD ((0 :: ks).getD k 0) 0, h.h0, fun k hk => ?_, fun k s j e => ?_⟩
    · rw [len] at hk
      have : (0 :: ks).getD k 0 = (0 :: ks)[k] := by rw [List.getD_eq_getElem?_getD, List.getElem?_eq_getElem hk]; rfl
      show 0 ≤ hs.getD ((0 :: ks).getD k 0) 0 ∧ hs.getD ((0 :: ks).getD k 0) 0 < _
      rw [this]
      exact h.hh _ (List.getElem_mem hk)
    · obtain ⟨hk, hj, _, _, l, _⟩ := toB k s j e
      have ek : (0 :: ks).getD k 0 = (0 :: ks)[k] := by rw [List.getD_eq_getElem?_getD, List.getElem?_eq_getElem hk]; rfl
      have ej : (0 :: ks).getD j 0 = (0 :: ks)[j] := by rw [List.getD_eq_getElem?_getD, List.getElem?_eq_getElem hj]; rfl
      show hs.getD ((0 :: ks).getD k 0) 0 < hs.getD ((0 :: ks).getD j 0) 0
      rw [ek, ej]
      exact l
  · intro ht k s k' s' j e e'
    obtain ⟨hk, hj, _, _, _, m⟩ := toB k s j e
    obtain ⟨hk', _, _, _, _, m'⟩ := toB k' s' j e'
    have m := m ht
    have m' := m' ht
    -- one value, one key
    have nv : (ls.map (·.2)).Nodup := by
      rw [h.vals]
      unfold List.Nodup
      rw [List.pairwise_map]
      exact h.inc.of_cons.imp fun z e => by injection e with e; omega
    have same : ∀ {xs : List (Pn × Ld)} {p q : Pn} {v : Ld}, (xs.map (·.2)).Nodup → (p, v) ∈ xs → (q, v) ∈ xs → p = q := by
      intro xs p q v
      induction xs with
      | nil => intro _ h; cases h
      | cons x r ih =>
        intro nd h1 h2
        rw [List.map_cons, List.nodup_cons] at nd
        rcases List.mem_cons.mp h1 with e1 | e1
        · rcases List.mem_cons.mp h2 with e2 | e2
          · rw [← e1] at e2
            cases e2
            rfl
          · subst e1
            exact absurd (List.mem_map.mpr ⟨_, e2, rfl⟩) nd.1
        · rcases List.mem_cons.mp h2 with e2 | e2
          · subst e2
            exact absurd (List.mem_map.mpr ⟨_, e1, rfl⟩) nd.1
          · exact ih nd.2 e1 e2
    have e := same nv m m'
    injection e with e1 e2
    refine ⟨?_, e2⟩
    have i1 := idx_at h.inc hk
    have i2 := idx_at h.inc hk'
    rw [← i1, ← i2, e1]
/-! ### grains through a net -/
def sideS (b : Bool) : Str := if b = true then "right" else "left"
theorem sd_side {s : Int} (h : s % 2 = 1) : sd s = sideS (decide (0 < s)) := by
  unfold sd sideS
  by_cases z : 0 < s
  · rw [decide_eq_true z]
    show (if s < 0 then _ else _) = _
    rw [if_neg (by omega)]
    rfl
  · rw [decide_eq_false z, if_neg Bool.false_ne_true, if_pos (by omega)]
def panS (p : Pn) : D := .tup [.int (p.1 : Nat), .str (sideS p.2)]
def leadN (w : Web) (k : Nat) (s : Bool) : Ld := (leadW w k s).getD (.out [])
/-- a grain's pans from balance k on, where it goes out, what it leaves -/
def wayF (w : Web) (g : Int) : Nat → Nat → List Int → List Pn × List Nat × List Int
  | 0, _, row => ([], [], row)
  | f + 1, k, row =>
    match leadN w k (decide (0 < row.getD k 0)) with
    | .bal j => let r := wayF w g f j (row.set k (fallI (row.getD k 0) g)); ((k, decide (0 < row.getD k 0)) :: r.1, r.2)
    | .out cs => ([(k, decide (0 < row.getD k 0))], cs, row.set k (fallI (row.getD k 0) g))
def way (w : Web) (g : Int) (k : Nat) (row : List Int) : List Pn × List Nat × List Int := wayF w g (w.length - k) k row
/-- leads of a net: further on, or out -/
def Fwd (w : Web) : Prop := ∀ k s j, leadW w k s = some (.bal j) → k < j ∧ j < w.length
structure Nt (w : Web) : Prop where
  fwd : Fwd w
  one : 1 ≤ w.length
  few : w.length ≤ 1000
theorem WebOk.nt {names : List (List Nat)} {most high : Nat} {tog : Bool} {w : Web} (h : WebOk names most high tog w) (hm : most ≤ 1000) : Nt w := ⟨h.bal, h.one, Nat.le_trans h.len hm⟩
theorem leadW_some {w : Web} {k : Nat} (h : k < w.length) (s : Bool) : leadW w k s = some (leadN w k s) := by
  unfold leadN leadW
  rw [List.getElem?_eq_getElem h]
  rfl
theorem wayF_fuel {w : Web} (hw : Fwd w) (g : Int) : ∀ (f f' k : Nat) (row : List Int), k < w.length → w.length - k ≤ f → w.length - k ≤ f' → wayF w g f k row = wayF w g f' k row
  | 0, _, k, row, h, l, _ => by omega
  | _, 0, k, row, h, _, l => by omega
  | f + 1, f' + 1, k, row, h, l, l' => by
    unfold wayF
    have e := leadW_some h (decide (0 < row.getD k 0))
    cases hl : leadN w k (decide (0 < row.getD k 0)) with
    | out cs => rfl
    | bal j =>
      rw [hl] at e
      obtain ⟨h1, h2⟩ := hw _ _ _ e
      simp only
      rw [wayF_fuel hw g f f' j _ h2 (by omega) (by omega)]
theorem way_bal {w : Web} (hw : Fwd w) {g : Int} {k j : Nat} {row : List Int} (h : k < w.length) (e : leadN w k (decide (0 < row.getD k 0)) = .bal j) :
    way w g k row = ((k, decide (0 < row.getD k 0)) :: (way w g j (row.set k (fallI (row.getD k 0) g))).1, (way w g j (row.set k (fallI (row.getD k 0) g))).2) := by
  have e' := leadW_some h (decide (0 < row.getD k 0))
  rw [e] at e'
  obtain ⟨h1, h2⟩ := hw _ _ _ e'
  unfold way
  obtain ⟨f, hf⟩ : ∃ f, w.length - k = f + 1 := ⟨w.length - k - 1, by omega⟩
  rw [hf]
  conv => lhs; unfold wayF
  rw [e]
  simp only
  rw [wayF_fuel hw g f (w.length - j) j _ h2 (by omega) (by omega)]
theorem way_out {w : Web} {g : Int} {k : Nat} {cs : List Nat} {row : List Int} (h : k < w.length) (e : leadN w k (decide (0 < row.getD k 0)) = .out cs) :
    way w g k row = ([(k, decide (0 < row.getD k 0))], cs, row.set k (fallI (row.getD k 0) g)) := by
  unfold way
  obtain ⟨f, hf⟩ : ∃ f, w.length - k = f + 1 := ⟨w.length - k - 1, by omega⟩
  rw [hf]
  conv => lhs; unfold wayF
  rw [e]
/-- a standing of a net -/
structure Lies (w : Web) (row : List Int) : Prop where
  len : row.length = w.length
  odd : ∀ x ∈ row, x % 2 = 1
theorem Lies.at {w : Web} {row : List Int} (h : Lies w row) {k : Nat} (hk : k < w.length) : row.getD k 0 % 2 = 1 := by
  have : k < row.length := by rw [h.len]; exact hk
  rw [List.getD_eq_getElem?_getD, List.getElem?_eq_getElem this]
  exact h.odd _ (List.getElem_mem this)
theorem Lies.set {w : Web} {row : List Int} (h : Lies w row) {k : Nat} {x : Int} (hx : x % 2 = 1) : Lies w (row.set k x) where
  len := by rw [List.length_set]; exact h.len
  odd := fun y hy => by
    rcases List.mem_or_eq_of_mem_set hy with z | z
    · exact h.odd y z
    · rw [z]; exact hx
theorem odd_fall2 {s g : Int} (h : s % 2 = 1) : fallI s g % 2 = 1 := by unfold fallI; split <;> omega
theorem Lies.fall {w : Web} {row : List Int} (h : Lies w row) {k : Nat} (hk : k < w.length) (g : Int) : Lies w (row.set k (fallI (row.getD k 0) g)) := h.set (odd_fall2 (h.at hk))
/-- what holds behind a way: the standing stays one, the exit is an exit's name, the pans rise -/
theorem way_ok {w : Web} (hw : Fwd w) (g : Int) : ∀ (m k : Nat) (row : List Int), w.length - k = m → k < w.length → Lies w row →
    Lies w (way w g k row).2.2 ∧ (∃ j s, leadW w j s = some (.out (way w g k row).2.1)) ∧ (∀ p ∈ (way w g k row).1, k ≤ p.1 ∧ p.1 < w.length) ∧ ((way w g k row).1.map (·.1)).Pairwise (· < ·) := by
  intro m
  induction m using Nat.strongRecOn with
  | _ m ih =>
    intro k row hm hk hl
    have e := leadW_some hk (decide (0 < row.getD k 0))
    cases hd : leadN w k (decide (0 < row.getD k 0)) with
    | out cs =>
      rw [way_out hk hd]
      rw [hd] at e
      refine ⟨hl.fall hk g, ⟨k, _, e⟩, fun p hp => ?_, by simp⟩
      rw [List.mem_singleton.mp hp]
      exact ⟨Nat.le_refl _, hk⟩
    | bal j =>
      rw [hd] at e
      obtain ⟨h1, h2⟩ := hw _ _ _ e
      obtain ⟨i1, i2, i3, i4⟩ := ih (w.length - j) (by omega) j _ rfl h2 (hl.fall hk g)
      rw [way_bal hw hk hd]
      refine ⟨i1, i2, fun p hp => ?_, ?_⟩
      · rcases List.mem_cons.mp hp with z | z
        · rw [z]
          exact ⟨Nat.le_refl _, hk⟩
        · have := i3 p z
          exact ⟨by omega, this.2⟩
      · rw [List.map_cons, List.pairwise_cons]
        refine ⟨fun a ha => ?_, i4⟩
        obtain ⟨p, hp, rfl⟩ := List.mem_map.mp ha
        have := (i3 p hp).1
        show k < p.1
        omega
theorem atI_some {α : Type} {f : α → D} {xs : List α} {k : Nat} {x : α} (h : xs[k]? = some x) : atI (xs.map f) (k : Int) = some (f x) := by
  unfold atI
  have hk := (List.getElem?_eq_some_iff.mp h).1
  rw [ixN_of (by omega) (by rw [List.length_map]; omega)]
  show (xs.map f)[(k : Int).toNat]? = _
  rw [Int.toNat_natCast, List.getElem?_map, h]
  rfl
theorem NameL.ok {cs : List Nat} (h : NameL cs) : PyData.strOk (S cs) = true := S_ok fun c hc => by have := h.all c hc; unfold Lt at this; omega
/-- a lead that repr may be asked of -/
def LdFine : Ld → Prop
  | .bal j => j < 1000
  | .out cs => NameL cs
def WebFine (w : Web) : Prop := ∀ p ∈ w, LdFine p.1 ∧ LdFine p.2
theorem WebOk.fine {names : List (List Nat)} {most high : Nat} {tog : Bool} {w : Web} (h : WebOk names most high tog w) (hn : ∀ z ∈ names, NameL z) (hm : most ≤ 1000) : WebFine w := by
  intro p hp
  obtain ⟨k, hk, e⟩ := List.mem_iff_getElem.mp hp
  have one : ∀ s, LdFine (Ld.of p s) := fun s => by
    have e2 : leadW w k s = some (Ld.of p s) := by
      unfold leadW
      rw [List.getElem?_eq_getElem hk, e]
      rfl
    cases hl : Ld.of p s with
    | out cs => rw [hl] at e2; exact hn cs (h.nm _ _ _ e2)
    | bal j =>
      rw [hl] at e2
      have := (h.bal _ _ _ e2).2
      have := h.len
      show j < 1000
      omega
  exact ⟨one false, one true⟩
theorem ld_okD (n : Nat) {v : Ld} (h : LdFine v) : okD n v.d = true := by
  cases v with
  | bal j => simp [Ld.d, okD]
  | out cs => simp only [Ld.d, okD]; exact NameL.ok h
theorem web_okD (n : Nat) : ∀ {w : Web}, WebFine w → okDs (n + 1) (w.map ldsD) = true
  | [], _ => by simp only [List.map_nil, okDs]
  | p :: r, h => by
    have := h p List.mem_cons_self
    simp only [List.map_cons, okDs, ldsD, okD, ld_okD _ this.1, ld_okD _ this.2, Bool.true_and, Bool.and_true]
    exact web_okD n fun q hq => h q (List.mem_cons_of_mem _ hq)
theorem e_lenW {w : Web} {st : Sto} {k : DK} : bLen [webD w] st k = k (.int (w.length : Nat)) st := by
  show k (.int ((w.map ldsD).length : Nat)) st = _
  rw [List.length_map]
theorem lds_below (n : Nat) : ∀ w : Web, belows n (w.map ldsD) = true
  | [] => rfl
  | p :: r => by simp only [List.map_cons, belows, below, ldsD, ld_below, Bool.true_and, lds_below n r]
theorem ite_go {c a b : Prop} {i : Decidable c} (h : ¬ c) (q : b) : @ite Prop c i a b := by rw [if_neg h]; exact q
theorem ite_yes {c a b : Prop} {i : Decidable c} (h : c) (q : a) : @ite Prop c i a b := by rw [if_pos h]; exact q
theorem e_iterW {w : Web} {st : Sto} {kk : DIk} : iterK kk (webD w) st = (w.length ≤ 16777216 → kk (w.map ldsD) [] st) := by
  show ((w.map ldsD).length ≤ 16777216 → kk (w.map ldsD) [] st) = _
  rw [List.length_map]
/-- a row of grains: where each goes out, what they leave -/
def fallsN (w : Web) : List Int → List Int → List (List Nat) × List Int
  | [], row => ([], row)
  | g :: gs, row => ((way w g 0 row).2.1 :: (fallsN w gs (way w g 0 row).2.2).1, (fallsN w gs (way w g 0 row).2.2).2)
def txD (cs : List Nat) : D := .str (S cs)
theorem txD_below (n : Nat) : ∀ xs : List (List Nat), belows n (xs.map txD) = true
  | [] => rfl
  | x :: r => by
    simp only [List.map_cons, belows, below, txD, Bool.true_and]
    exact txD_below n r
theorem Nt.way {w : Web} (nt : Nt w) {row : List Int} (hl : Lies w row) (g : Int) : Lies w (LW.way w g 0 row).2.2 := (way_ok nt.fwd g _ 0 row rfl (by have := nt.one; omega) hl).1
theorem fallsN_lies {w : Web} (nt : Nt w) : ∀ (gs row : List Int), Lies w row → Lies w (fallsN w gs row).2
  | [], _, h => h
  | g :: gs, row, h => fallsN_lies nt gs _ (nt.way h g)
theorem panS_below (n : Nat) : ∀ ps : List Pn, belows n (ps.map panS) = true
  | [] => rfl
  | p :: r => by
    simp only [List.map_cons, belows, below, panS, Bool.true_and]
    exact panS_below n r
theorem leadW_lt {w : Web} {k : Nat} {s : Bool} {v : Ld} (h : leadW w k s = some v) : k < w.length := by
  unfold leadW at h
  obtain ⟨p, hp, _⟩ := Option.map_eq_some_iff.mp h
  exact (List.getElem?_eq_some_iff.mp hp).1
theorem lead_fineN {w : Web} (fine : WebFine w) {k : Nat} (hk : k < w.length) (s : Bool) : LdFine (leadN w k s) := by
  have e := leadW_some hk s
  unfold leadW at e
  obtain ⟨p, hp, e⟩ := Option.map_eq_some_iff.mp e
  have := fine p (List.mem_of_getElem? hp)
  rw [← e]
  cases s with
  | false => exact this.1
  | true => exact this.2
theorem ldD_ok (n : Nat) (w : Web) (fine : WebFine w) {k : Nat} (hk : k < w.length) (s : Bool) : okD n (leadN w k s).d = true := ld_okD n (lead_fineN fine hk s)
theorem at_web {w : Web} {k : Nat} (hk : k < w.length) : atI (w.map ldsD) (k : Int) = some (.tup [(leadN w k false).d, (leadN w k true).d]) := atI_nat (by
  rw [List.getElem?_map, List.getElem?_eq_getElem hk]
  unfold leadN leadW
  rw [List.getElem?_eq_getElem hk]
  rfl)
theorem lds_at {w : Web} {k : Nat} (hk : k < w.length) : w[k] = (leadN w k false, leadN w k true) := by
  unfold leadN leadW
  rw [List.getElem?_eq_getElem hk]
  rfl
theorem cutW_from {α : Type} (xs : List α) (m : Nat) : DL.cutD xs (some (m : Int)) none = xs.drop m := by
  unfold DL.cutD
  rw [HT.sIx_nat, HT.sIx_none]
  by_cases h : m ≤ xs.length
  · rw [Nat.min_eq_left h, List.take_of_length_le (by rw [List.length_drop]; omega)]
  · rw [Nat.min_eq_right (show xs.length ≤ m by omega), List.drop_length, List.drop_eq_nil_of_le (show xs.length ≤ m by omega)]
    simp
theorem cut_erase {xs : List D} (j : Nat) : DL.cutD xs none (some (j : Int)) ++ DL.cutD xs (some ((j : Int) + 1)) none = xs.eraseIdx j := by
  rw [cutD_to, show (j : Int) + 1 = ((j + 1 : Nat) : Int) by omega, cutW_from, List.eraseIdx_eq_take_drop_succ]
theorem deref_ldA (st : Sto) (u : Ld) : deref st u.d = u.d := by cases u <;> rfl
def needL (w : Web) : List Nat := (List.range w.length).filter fun k => decide (leadN w k false = leadN w k true)
theorem needL_mem {w : Web} {k : Nat} : k ∈ needL w ↔ k < w.length ∧ leadN w k false = leadN w k true := by
  unfold needL
  rw [List.mem_filter, List.mem_range, decide_eq_true_eq]
theorem ld_eqD (u v : Ld) : eqD u.d v.d = decide (u = v) := by
  cases u with
  | out c =>
    cases v with
    | out d =>
      show eqD (.str (S c)) (.str (S d)) = _
      rw [q_eqSS]
      by_cases e : c = d
      · subst e
        simp
      · rw [decide_eq_false fun q => e (by injection q)]
        simp only [beq_eq_false_iff_ne, ne_eq]
        exact fun q => e (S_inj q)
    | bal j => rfl
  | bal i =>
    cases v with
    | out d => rfl
    | bal j =>
      show eqD (.int (i : Nat)) (.int (j : Nat)) = _
      rw [q_eqII]
      by_cases e : i = j
      · subst e
        simp
      · rw [decide_eq_false fun q => e (by injection q)]
        simp only [beq_eq_false_iff_ne, ne_eq]
        omega
theorem lds_lead (w : Web) : w.map ldsD = (List.range w.length).map fun k => D.tup [(leadN w k false).d, (leadN w k true).d] := by
  refine List.ext_getElem (by simp) fun k h1 h2 => ?_
  rw [List.length_map] at h1
  rw [List.getElem_map, List.getElem_map, List.getElem_range, lds_at h1]
  rfl
theorem enum_leads (w : Web) : enumD 0 (w.map ldsD) = (List.range w.length).map fun k : Nat => D.tup [.int (k : Nat), .tup [(leadN w k false).d, (leadN w k true).d]] := by
  rw [lds_lead]
  have key : ∀ (m a : Nat) (f : Nat → D), enumD a ((List.range' a m).map f) = (List.range' a m).map fun k : Nat => D.tup [.int (k : Nat), f k] := by
    intro m
    induction m with
    | zero => intro a f; rfl
    | succ m ih =>
      intro a f
      rw [List.range'_succ, List.map_cons, List.map_cons, enumD, ih]
  rw [List.range_eq_range']
  exact key w.length 0 _
theorem erase_mapD {α β : Type} (f : α → β) (xs : List α) (j : Nat) : (xs.map f).eraseIdx j = (xs.eraseIdx j).map f := by
  rw [List.eraseIdx_eq_take_drop_succ, List.eraseIdx_eq_take_drop_succ, List.map_append, List.map_take, List.map_drop]
/-! ### a balance both of whose pans have one lead, taken out -/
def mvL (u : Ld) (j : Nat) (v : Ld) : Ld := match (if u = .bal j then v else u) with
  | .bal i => if j < i then .bal (i - 1) else .bal i
  | .out c => .out c
def woW (w : Web) (j : Nat) (v : Ld) : Web := (w.eraseIdx j).map fun p => (mvL p.1 j v, mvL p.2 j v)
def upN (j k : Nat) : Nat := if k < j then k else k + 1
def dnN (j k : Nat) : Nat := if k < j then k else k - 1
theorem wo_len {w : Web} {j : Nat} {v : Ld} (h : j < w.length) : (woW w j v).length = w.length - 1 := by
  unfold woW
  rw [List.length_map, List.length_eraseIdx, if_pos h]
theorem wo_lead {w : Web} {j k : Nat} {v : Ld} {s : Bool} : leadW (woW w j v) k s = (leadW w (upN j k) s).map fun u => mvL u j v := by
  unfold leadW woW upN
  rw [List.getElem?_map, List.getElem?_eraseIdx]
  split
  · cases w[k]? <;> first | rfl | (cases s <;> rfl)
  · cases w[k + 1]? <;> first | rfl | (cases s <;> rfl)
theorem wo_row {row : List Int} {j k : Nat} : (row.eraseIdx j).getD k 0 = row.getD (upN j k) 0 := by
  unfold upN
  rw [List.getD_eq_getElem?_getD, List.getD_eq_getElem?_getD, List.getElem?_eraseIdx]
  split <;> rfl
theorem up_dn {j k : Nat} (h : k ≠ j) : upN j (dnN j k) = k := by
  unfold upN dnN
  split <;> (try split) <;> omega
def bmL (k : Nat) : Ld → Ld
  | .out c => .out c
  | .bal j => .bal (upN (k + 1) j)
def bmP (k : Nat) (p : Ld × Ld) : Ld × Ld := (bmL k p.1, bmL k p.2)
def setS2 (p : Ld × Ld) (s : Bool) (v : Ld) : Ld × Ld := if s = true then (p.1, v) else (v, p.2)
def piR (row : List Int) (k : Nat) (x : Int) : List Int := row.take (k + 1) ++ [x] ++ row.drop (k + 1)
theorem up_or (k i : Nat) : i = k ∨ ∃ j, i = upN k j := by
  by_cases z : i < k
  · exact .inr ⟨i, by unfold upN; rw [if_pos z]⟩
  · by_cases y : i = k
    · exact .inl y
    · exact .inr ⟨i - 1, by unfold upN; rw [if_neg (by omega)]; omega⟩
theorem erase_set_ne {row : List Int} {j k : Nat} {y : Int} (h : k ≠ j) : (row.eraseIdx j).set (dnN j k) y = (row.set k y).eraseIdx j := by
  apply List.ext_getElem?
  intro i
  rw [List.getElem?_set, List.getElem?_eraseIdx, List.getElem?_eraseIdx]
  unfold dnN
  by_cases a : k < j <;> by_cases b : i < j
  · simp only [if_pos a, if_pos b]
    rw [List.getElem?_set]
    by_cases c : k = i
    · simp only [if_pos c, List.length_eraseIdx]
      split <;> split <;> (try split) <;> first | rfl | omega
    · simp only [if_neg c]
  · simp only [if_pos a, if_neg b]
    rw [List.getElem?_set, if_neg (by omega), if_neg (by omega)]
  · simp only [if_neg a, if_pos b]
    rw [List.getElem?_set, if_neg (by omega), if_neg (by omega)]
  · simp only [if_neg a, if_neg b]
    rw [List.getElem?_set]
    by_cases c : k = i + 1
    · rw [if_pos (by omega), if_pos c, List.length_eraseIdx]
      split <;> split <;> split <;> first | rfl | omega
    · rw [if_neg (by omega), if_neg c]
theorem erase_set_self {row : List Int} {j : Nat} {y : Int} : (row.set j y).eraseIdx j = row.eraseIdx j := by
  apply List.ext_getElem?
  intro i
  rw [List.getElem?_eraseIdx, List.getElem?_eraseIdx]
  split <;> rw [List.getElem?_set, if_neg (by omega)]
/-- nets of this law -/
structure Net (w : Web) : Prop where
  nt : Nt w
  fine : WebFine w
  led : ∀ j, 1 ≤ j → j < w.length → ∃ k s, leadW w k s = some (.bal j)
  few : w.length ≤ 8
/-- both pans of balance j lead to v; it is not the last -/
structure Idle (w : Web) (j : Nat) (v : Ld) : Prop where
  lt : j < w.length
  lead : ∀ s, leadN w j s = v
  not : ∀ c, ¬ (j = 0 ∧ v = .out c)
def dnL (j : Nat) : Ld → Ld
  | .bal i => .bal (dnN j i)
  | .out c => .out c
section
variable {w : Web} {j : Nat} {v : Ld}
theorem Idle.up (I : Idle w j v) (fw : Fwd w) {i : Nat} (h : v = .bal i) : j < i ∧ i < w.length := fw j false i (by rw [leadW_some I.lt, I.lead, h])
theorem mv_own (I : Idle w j v) (fw : Fwd w) : mvL (.bal j) j v = dnL j v := by
  unfold mvL
  rw [if_pos rfl]
  have u := fun i => I.up fw (i := i)
  clear I
  cases v with
  | out c => rfl
  | bal i =>
    have := u i rfl
    simp only [dnL, dnN, if_pos this.1]
    rw [if_neg (by omega)]
theorem mv_other {i : Nat} (h : i ≠ j) : mvL (.bal i) j v = .bal (dnN j i) := by
  unfold mvL dnN
  rw [if_neg (by intro e; injection e with e; exact h e)]
  by_cases z : j < i
  · simp only [if_pos z]
    rw [if_neg (by omega)]
  · simp only [if_neg z]
    rw [if_pos (by omega)]
theorem mv_out {c : List Nat} : mvL (.out c) j v = .out c := by
  unfold mvL
  rw [if_neg (by intro e; cases e)]
theorem Idle.two (I : Idle w j v) (fw : Fwd w) : 2 ≤ w.length := by
  have := I.lt
  cases hv : v with
  | out c => have := I.not c; simp only [hv, and_true] at this; omega
  | bal i => have := I.up fw hv; omega
theorem wo_nt (I : Idle w j v) (nt : Nt w) : Nt (woW w j v) := by
  have two := I.two nt.fwd
  have jl := I.lt
  have hl := wo_len (v := v) I.lt
  refine ⟨fun k s i h => ?_, by omega, by have := nt.few; omega⟩
  rw [wo_lead] at h
  cases hu : leadW w (upN j k) s with
  | none => rw [hu] at h; cases h
  | some u =>
    rw [hu] at h
    have h : mvL u j v = .bal i := Option.some.inj h
    cases u with
    | out c => rw [mv_out] at h; cases h
    | bal i0 =>
      obtain ⟨f1, f2⟩ := nt.fwd _ _ _ hu
      rw [hl]
      by_cases e : i0 = j
      · subst e
        rw [mv_own I nt.fwd] at h
        cases hv : v with
        | out c => rw [hv] at h; cases h
        | bal i' =>
          rw [hv] at h
          have := I.up nt.fwd hv
          have h : dnN i0 i' = i := by injection h
          unfold upN at f1
          unfold dnN at h
          split at f1 <;> split at h <;> omega
      · rw [mv_other e] at h
        injection h with h
        unfold upN at f1
        unfold dnN at h
        split at f1 <;> split at h <;> omega
theorem way_wo (I : Idle w j v) (nt : Nt w) (g : Int) : ∀ (m k : Nat) (row : List Int), w.length - k = m → k < w.length → k ≠ j →
    (way (woW w j v) g (dnN j k) (row.eraseIdx j)).2 = ((way w g k row).2.1, (way w g k row).2.2.eraseIdx j) := by
  have fw' := (wo_nt I nt).fwd
  have hl := wo_len (v := v) I.lt
  have jl := I.lt
  intro m
  induction m using Nat.strongRecOn with
  | _ m ih =>
    intro k row hm hk hn
    have ex : (row.eraseIdx j).getD (dnN j k) 0 = row.getD k 0 := by rw [wo_row, up_dn hn]
    have kl : dnN j k < (woW w j v).length := by rw [hl]; unfold dnN; split <;> omega
    have ld : ∀ s, leadN (woW w j v) (dnN j k) s = mvL (leadN w k s) j v := fun s => by
      have e := wo_lead (w := w) (j := j) (k := dnN j k) (v := v) (s := s)
      rw [leadW_some kl, up_dn hn, leadW_some hk] at e
      exact Option.some.inj e
    cases hd : leadN w k (decide (0 < row.getD k 0)) with
    | out c =>
      rw [way_out hk hd, way_out kl (cs := c) (by rw [ex, ld, hd, mv_out]), ex, erase_set_ne hn]
    | bal i =>
      obtain ⟨i1, i2⟩ := nt.fwd _ _ _ (by rw [leadW_some hk, hd])
      rw [way_bal nt.fwd hk hd]
      by_cases e : i = j
      · subst e
        cases hv : v with
        | out c =>
          subst hv
          rw [way_out kl (cs := c) (by rw [ex, ld, hd, mv_own I nt.fwd]; rfl), way_out i2 (I.lead _), ex, erase_set_ne hn]
          simp only [erase_set_self]
        | bal i' =>
          subst hv
          obtain ⟨u1, u2⟩ := I.up nt.fwd rfl
          rw [way_bal fw' kl (j := dnN i i') (by rw [ex, ld, hd, mv_own I nt.fwd]; rfl), way_bal nt.fwd i2 (I.lead _), ex, erase_set_ne hn]
          have z := ih (w.length - i') (by omega) i' ((row.set k (fallI (row.getD k 0) g)).set i (fallI ((row.set k (fallI (row.getD k 0) g)).getD i 0) g)) rfl u2 (by omega)
          rw [erase_set_self] at z
          exact z
      · rw [way_bal fw' kl (j := dnN j i) (by rw [ex, ld, hd, mv_other e]), ex, erase_set_ne hn]
        exact ih (w.length - i) (by omega) i _ rfl i2 e
theorem way0_wo (I : Idle w j v) (N : Net w) (g : Int) (row : List Int) : (way (woW w j v) g 0 (row.eraseIdx j)).2 = ((way w g 0 row).2.1, (way w g 0 row).2.2.eraseIdx j) := by
  have one := N.nt.one
  by_cases j0 : j = 0
  · subst j0
    have two := I.two N.nt.fwd
    obtain ⟨k, s, hk⟩ := N.led 1 (Nat.le_refl _) (by omega)
    have k0 := (N.nt.fwd _ _ _ hk).1
    obtain rfl : k = 0 := by omega
    have hv : v = .bal 1 := by
      rw [leadW_some I.lt, I.lead] at hk
      exact Option.some.inj hk
    subst hv
    rw [way_bal N.nt.fwd I.lt (I.lead _)]
    have z := way_wo I N.nt g _ 1 (row.set 0 (fallI (row.getD 0 0) g)) rfl (by omega) (by decide)
    rw [erase_set_self] at z
    exact z
  · have z := way_wo I N.nt g _ 0 row rfl (by omega) (Ne.symm j0)
    rw [show dnN j 0 = 0 by unfold dnN; split <;> omega] at z
    exact z
theorem falls_wo (I : Idle w j v) (N : Net w) : ∀ (gs row : List Int), fallsN (woW w j v) gs (row.eraseIdx j) = ((fallsN w gs row).1, (fallsN w gs row).2.eraseIdx j)
  | [], row => rfl
  | g :: gs, row => by
    have z := way0_wo I N g row
    unfold fallsN
    rw [z]
    simp only
    rw [falls_wo I N gs _]
end
/-! ### one put in -/
def piV (w : Web) (k : Nat) (s : Bool) : Web := (w.map (bmP k)).take k ++ [setS2 (bmP k (leadN w k false, leadN w k true)) s (.bal (k + 1)), (bmL k (leadN w k s), bmL k (leadN w k s))] ++ (w.map (bmP k)).drop (k + 1)
section
variable {w : Web} {k : Nat}
theorem pv_len (hk : k < w.length) (s : Bool) : (piV w k s).length = w.length + 1 := by
  unfold piV
  simp only [List.length_append, List.length_take, List.length_drop, List.length_map, List.length_cons, List.length_nil]
  omega
theorem pv_new (hk : k < w.length) (s s' : Bool) : leadN (piV w k s) (k + 1) s' = bmL k (leadN w k s) := by
  have e : leadW (piV w k s) (k + 1) s' = some (bmL k (leadN w k s)) := by
    unfold leadW piV
    rw [List.append_assoc, List.getElem?_append_right (by rw [List.length_take, List.length_map]; omega), List.length_take, List.length_map, show k + 1 - min k w.length = 1 by omega]
    cases s' <;> rfl
  rw [leadW_some (by rw [pv_len hk]; omega)] at e
  exact Option.some.inj e
theorem pv_old (hk : k < w.length) (s : Bool) (j : Nat) (s' : Bool) : leadW (piV w k s) (upN (k + 1) j) s' = if j = k ∧ s' = s then some (.bal (k + 1)) else (leadW w j s').map (bmL k) := by
  have ge : ∀ i, (w.map (bmP k))[i]? = (w[i]?).map (bmP k) := fun i => List.getElem?_map ..
  have of_ : ∀ i, ((w[i]?).map (bmP k)).map (fun p => Ld.of p s') = (leadW w i s').map (bmL k) := fun i => by
    unfold leadW
    cases w[i]? with
    | none => rfl
    | some p => cases s' <;> rfl
  unfold upN
  by_cases z : j < k + 1
  · rw [if_pos z]
    by_cases y : j = k
    · subst y
      unfold leadW piV
      rw [List.append_assoc, List.getElem?_append_right (by rw [List.length_take, List.length_map]; omega), List.length_take, List.length_map, show j - min j w.length = 0 by omega]
      rw [List.cons_append, List.getElem?_cons_zero]
      have e : w[j]? = some (leadN w j false, leadN w j true) := by rw [List.getElem?_eq_getElem hk, lds_at hk]
      rw [e]
      cases s <;> cases s' <;> first | rfl | simp [setS2, Ld.of, bmP]
    · rw [if_neg fun q => y q.1]
      rw [← of_]
      unfold leadW piV
      rw [List.append_assoc, List.getElem?_append_left (by rw [List.length_take, List.length_map]; omega), List.getElem?_take, if_pos (by omega), ge]
  · rw [if_neg z, if_neg (by omega), ← of_]
    unfold leadW piV
    have l2 : ((w.map (bmP k)).take k ++ [setS2 (bmP k (leadN w k false, leadN w k true)) s (.bal (k + 1)), (bmL k (leadN w k s), bmL k (leadN w k s))]).length = k + 2 := by
      rw [List.length_append, List.length_take, List.length_map]
      simp only [List.length_cons, List.length_nil]
      omega
    rw [List.getElem?_append_right (by rw [l2]; omega), l2, List.getElem?_drop, ge]
    congr 3
    omega
theorem web_ext {w w' : Web} (hl : w.length = w'.length) (h : ∀ k s, k < w.length → leadW w k s = leadW w' k s) : w = w' := by
  refine List.ext_getElem hl fun k h1 h2 => ?_
  have z := fun s => h k s h1
  simp only [leadW_some h1, leadW_some h2] at z
  rw [lds_at h1, lds_at h2, Option.some.inj (z false), Option.some.inj (z true)]
theorem mv_bm {u v : Ld} : mvL (bmL k u) (k + 1) v = u := by
  cases u with
  | out c => exact mv_out
  | bal i =>
    show mvL (.bal (upN (k + 1) i)) (k + 1) v = _
    rw [mv_other (by unfold upN; split <;> omega)]
    unfold dnN upN
    congr 1
    split <;> (try split) <;> omega
theorem wo_pv (hk : k < w.length) (s : Bool) : woW (piV w k s) (k + 1) (bmL k (leadN w k s)) = w := by
  have hl : (woW (piV w k s) (k + 1) (bmL k (leadN w k s))).length = w.length := by
    rw [wo_len (by rw [pv_len hk]; omega), pv_len hk]
    omega
  refine web_ext hl fun j s' hj => ?_
  rw [wo_lead, pv_old hk]
  rw [hl] at hj
  by_cases e : j = k ∧ s' = s
  · obtain ⟨rfl, rfl⟩ := e
    rw [if_pos ⟨rfl, rfl⟩, leadW_some hk]
    show some (mvL (.bal (j + 1)) (j + 1) (bmL j (leadN w j s'))) = _
    congr 1
    cases hv : leadN w j s' with
    | out c => unfold mvL bmL; rw [if_pos rfl]
    | bal i =>
      show mvL (.bal (j + 1)) (j + 1) (.bal (upN (j + 1) i)) = .bal i
      unfold mvL upN
      rw [if_pos rfl]
      by_cases z : i < j + 1
      · rw [if_pos z]
        show (if j + 1 < i then _ else _) = _
        rw [if_neg (by omega)]
      · rw [if_neg z]
        show (if j + 1 < i + 1 then Ld.bal (i + 1 - 1) else _) = _
        rw [if_pos (by omega)]
        rfl
  · rw [if_neg e, leadW_some hj]
    show some (mvL (bmL k (leadN w j s')) _ _) = _
    rw [mv_bm]
theorem pr_erase {row : List Int} (hk : k < row.length) (x : Int) : (piR row k x).eraseIdx (k + 1) = row := by
  unfold piR
  have l1 : (row.take (k + 1)).length = k + 1 := by rw [List.length_take]; omega
  rw [List.append_assoc, List.eraseIdx_append_of_length_le (by omega), l1, Nat.sub_self]
  show row.take (k + 1) ++ row.drop (k + 1) = row
  rw [List.take_append_drop]
theorem pv_net (N : Net w) (hk : k < w.length) (s : Bool) (few : w.length ≤ 7) : Net (piV w k s) := by
  have hl := pv_len hk s
  have fw := N.nt.fwd
  have one := N.nt.one
  have low : ∀ i s', i < w.length → ∀ j, bmL k (leadN w i s') = .bal j → upN (k + 1) i < j ∧ j < w.length + 1 := fun i s' hi j e => by
    cases hv : leadN w i s' with
    | out c => rw [hv] at e; cases e
    | bal i' =>
      rw [hv] at e
      have e : upN (k + 1) i' = j := by injection e
      obtain ⟨f1, f2⟩ := fw _ _ _ (show leadW w i s' = some (.bal i') by rw [leadW_some hi, hv])
      unfold upN at *
      split at e <;> split <;> omega
  have lk : ∀ j, bmL k (leadN w k s) = .bal j → k + 1 < j ∧ j < w.length + 1 := fun j e => by
    cases hv : leadN w k s with
    | out c => rw [hv] at e; cases e
    | bal i' =>
      rw [hv] at e
      have e : upN (k + 1) i' = j := by injection e
      obtain ⟨f1, f2⟩ := fw _ _ _ (show leadW w k s = some (.bal i') by rw [leadW_some hk, hv])
      unfold upN at e
      split at e <;> omega
  refine ⟨⟨fun i s' j h => ?_, by omega, by omega⟩, ?_, fun j j1 j2 => ?_, by omega⟩
  · have hi := leadW_lt h
    rw [hl] at hi ⊢
    rcases up_or (k + 1) i with rfl | ⟨i0, rfl⟩
    · rw [leadW_some (by omega), pv_new hk] at h
      exact lk j (Option.some.inj h)
    · rw [pv_old hk] at h
      split at h
      · rename_i e
        obtain ⟨rfl, rfl⟩ := e
        have h : i0 + 1 = j := by injection (Option.some.inj h)
        unfold upN
        split <;> omega
      · have hi0 : i0 < w.length := by unfold upN at hi; split at hi <;> omega
        rw [leadW_some hi0] at h
        exact low i0 s' hi0 j (Option.some.inj h)
  · have fb : ∀ i s', i < w.length → LdFine (bmL k (leadN w i s')) := fun i s' hi => by
      cases hv : leadN w i s' with
      | out c => have := lead_fineN N.fine hi s'; rw [hv] at this; exact this
      | bal j =>
        have := low i s' hi (upN (k + 1) j) (by rw [hv]; rfl)
        show upN (k + 1) j < 1000
        omega
    have mp : ∀ p ∈ w.map (bmP k), LdFine p.1 ∧ LdFine p.2 := fun p hp => by
      obtain ⟨q, hq, rfl⟩ := List.mem_map.mp hp
      obtain ⟨i, hi, rfl⟩ := List.mem_iff_getElem.mp hq
      rw [lds_at hi]
      exact ⟨fb i false hi, fb i true hi⟩
    intro p hp
    unfold piV at hp
    rcases List.mem_append.mp hp with z | z
    · rcases List.mem_append.mp z with z | z
      · exact mp p (List.mem_of_mem_take z)
      · rcases List.mem_cons.mp z with z | z
        · rw [z]
          have kb : LdFine (.bal (k + 1)) := by show k + 1 < 1000; omega
          cases s
          · exact ⟨kb, fb k true hk⟩
          · exact ⟨fb k false hk, kb⟩
        · rw [List.mem_singleton.mp z]
          exact ⟨fb k s hk, fb k s hk⟩
    · exact mp p (List.mem_of_mem_drop z)
  · rw [hl] at j2
    rcases up_or (k + 1) j with rfl | ⟨j0, rfl⟩
    · refine ⟨upN (k + 1) k, s, ?_⟩
      rw [pv_old hk, if_pos ⟨rfl, rfl⟩]
    · have h0 : j0 < w.length := by unfold upN at j2; split at j2 <;> omega
      have h1 : 1 ≤ j0 := by unfold upN at j1; split at j1 <;> omega
      obtain ⟨i, s', e⟩ := N.led j0 h1 h0
      by_cases z : i = k ∧ s' = s
      · obtain ⟨rfl, rfl⟩ := z
        refine ⟨i + 1, s', ?_⟩
        rw [leadW_some (by omega), pv_new hk]
        rw [leadW_some hk] at e
        rw [Option.some.inj e]
        rfl
      · refine ⟨upN (k + 1) i, s', ?_⟩
        rw [pv_old hk, if_neg z, e]
        rfl
theorem Net.of {names : List (List Nat)} {most high : Nat} {tog : Bool} (h : WebOk names most high tog w) (hn : ∀ z ∈ names, NameL z) (hm : most ≤ 8) : Net w :=
  ⟨h.nt (by omega), h.fine hn (by omega), h.led, Nat.le_trans h.len hm⟩
end
theorem lc_true {g : DG} {e : DE} {own : List Nat} {env : DL.Env} {k : List D → Sto → Prop} : ∀ (xs acc : List D) (st : Sto), (∀ x ∈ xs, ∀ s (kd : DK), (∀ s', kd (.bl true) s') → g x (wipeE env own) s fun e1 s1 => e e1 s1 kd) → (∀ s, k (acc ++ xs.map fun _ => D.bl true) s) → goLc [] g dYes e own env k xs acc st
  | [], acc, st, _, q => ⟨trivial, by simpa using q st⟩
  | x :: xs, acc, st, f, q => by
    refine ⟨trivial, ?_⟩
    refine f x List.mem_cons_self st _ fun s' => ?_
    exact lc_true xs (acc ++ [.bl true]) s' (fun y hy => f y (List.mem_cons_of_mem _ hy)) fun s => by
      have := q s
      simpa only [List.map_cons, List.append_assoc, List.cons_append, List.nil_append] using this
theorem rangeD_nat (n : Nat) : rangeD 0 n = (List.range n).map fun (j : Nat) => D.int (j : Int) := by
  unfold rangeD
  exact List.map_congr_left fun x _ => by rw [Int.zero_add]
theorem rangeD_len (n : Nat) : (rangeD 0 n).length = n := by rw [rangeD_nat, List.length_map, List.length_range]






def t_is_number : DS :=
    (dRet (dAndV (dIsi (dVar 0) ["int"]) (dNotV (dIsi (dVar 0) ["bool"]))))
theorem st_is_number (a0 : D) : startD N_is_number [a0] = [some a0] := rfl
def sp_is_number : SpD := fun ds st kk => ∃ d, ds = [d] ∧ kk (.bl (isNumB d)) st
theorem len_is_number (ds : List D) (st : Sto) (kk : DK) (h : sp_is_number ds st kk) : ds.length = 1 := by
  obtain ⟨_, rfl, _⟩ := h
  rfl
theorem p_is_number : BodyD false N_is_number sp_is_number t_is_number := by
  rintro ds st kk ⟨d, rfl, h⟩
  rw [st_is_number]
  simp only [t_is_number]
  cases d <;> ((try simp only [BEq.rfl, ↓e_v0, ↓e_vs, ↓e_c, ↓e_op, ↓e_un, ↓e_test, ↓e_testK, ↓e_tru, ↓e_truL, ↓e_truT, ↓e_truB, ↓e_truI, ↓e_truN, ↓e_truS, ↓e_not, ↓e_and, ↓e_or, ↓e_andv, ↓e_notv, ↓e_andK, ↓e_notK, ↓e_if, ↓e_nil, ↓e_cons, ↓e_tup, ↓e_lst, ↓e_new, ↓e_call, ↓e_callK, ↓e_drop, ↓e_ret, ↓e_pass, ↓e_ifS, ↓e_g0, ↓e_gs, ↓e_gnil, ↓e_gcons, ↓e_gtup, ↓e_asg, ↓e_par, ↓e_parK, ↓e_par3, ↓e_par3K, ↓e_no, ↓e_some, ↓e_someK, ↓e_cut, ↓e_b, ↓e_iter, ↓e_iterL, ↓e_iterT, ↓e_iterS, ↓e_rng1, ↓e_rng1K, ↓e_rng2, ↓e_rng2K, ↓e_enum, ↓e_enumL, ↓e_enumT, ↓e_zip, ↓e_zipL, ↓e_zipT, ↓e_for, ↓e_lc, ↓e_lcNew, ↓e_forN, ↓e_forC, ↓e_lcN, ↓e_lcC, ↓e_srcN, ↓e_srcC, ↓e_meth, ↓e_isL, ↓e_sub, ↓e_isi, ↓e_yes, ↓e_addI, ↓e_addB, ↓e_addS, ↓e_addT, ↓e_addL, ↓e_subI, ↓e_mulI, ↓e_mulT, ↓e_mulL, ↓e_divI, ↓e_modI, ↓e_powI, ↓e_negI, ↓e_cmpI, ↓e_eq, ↓e_ne, ↓e_isn, ↓e_isnn, ↓e_isb, ↓e_ixL, ↓e_ixKL, ↓e_ixT, ↓e_cutL, ↓e_cutKL, ↓e_cutT, ↓e_lenL, ↓e_lenKL, ↓e_lenT, ↓e_abs, ↓e_intI, ↓e_intB, ↓e_max2, ↓e_listNL, ↓e_listNT, ↓e_tupL, ↓e_tupT, ↓e_drI, ↓e_drB, ↓e_drS, ↓e_drN, ↓e_drL, ↓e_drT, ↓e_seq, ↓e_inL, ↓e_inKL, ↓e_inT, ↓e_inFlat, ↓e_drK, ↓e_addBI, ↓e_subBI, ↓e_subIB, ↓e_drG, ↓e_dnew, ↓e_dgetF, ↓e_dget2, ↓e_dgPut, ↓e_join, ↓e_joinL, ↓e_cutS, ↓e_mulS, ↓e_sortV, ↓e_tidx, ↓e_mulNewL, ↓e_sortedPL, ↓e_countL, ↓e_indexL, ↓e_tryGet, ↓e_isC, ↓e_isCK, ↓e_what, ↓e_whatK, ↓e_sil, ↓e_callX, ↓e_raise, e_kyI, e_kyS, Nat.reduceAdd, Nat.zero_add, List.length_cons, List.length_nil, List.length_map, Nat.reduceLeDiff, and_true, true_and, if_true, ite_true, decide_eq_true_eq, Bool.not_eq_true, Bool.false_eq_true, if_false, ite_false, ↓reduceIte, Int.reduceToNat, Int.reducePow, ne_eq, q_okI, q_okB, q_okN, q_okS, q_okL, q_okT, q_oks0, q_oks1, q_eqII, q_eqBB, q_eqSS, q_eqLL, q_eqTT, q_eqNN, q_eqNI, q_eqIN, q_eqs0, q_eqs1, Bool.true_and, Bool.and_true, beq_iff_eq, reduceCtorEq, wipeE, List.set_cons_zero, List.set_cons_succ, List.set_nil, Bool.not_true, Bool.not_false, List.getElem?_cons_zero, List.getElem?_cons_succ, tyD, subTy, List.any_cons, List.any_nil]); simp [isNumB] at h ⊢; exact h)
def t_lighter : DS :=
    (dRet (dIf (dTest (dOp (cmpI fun i j => decide (i < j)) (dVar 0) (dC (.int 0)))) (dC (.str "left")) (dC (.str "right"))))
theorem st_lighter (a0 : D) : startD N_lighter [a0] = [some a0] := rfl
def sp_lighter : SpD := fun ds st kk => ∃ s : Int, ds = [.int s] ∧ kk (.str (sd s)) st
theorem len_lighter (ds : List D) (st : Sto) (kk : DK) (h : sp_lighter ds st kk) : ds.length = 1 := by
  obtain ⟨s, rfl, _⟩ := h
  rfl
theorem p_lighter : BodyD false N_lighter sp_lighter t_lighter := by
  rintro ds st kk ⟨s, rfl, h⟩
  rw [st_lighter]
  simp only [t_lighter]
  (walk_at "lw_dd")
  unfold sd at h
  split <;> simp_all
def t_laid_on : DS :=
    (dRet (dIf (dTest (dOp (eqOp false) (dVar 1) (dC (.str "left")))) (dOp addD (dVar 0) (dOp mulD (dC (.int 2)) (dVar 2))) (dOp subD (dVar 0) (dOp mulD (dC (.int 2)) (dVar 2)))))
theorem st_laid_on (a0 a1 a2 : D) : startD N_laid_on [a0, a1, a2] = [some a0, some a1, some a2] := rfl
def sp_laid_on : SpD := fun ds st kk => ∃ (s w : Int) (x : Str), ds = [.int s, .str x, .int w] ∧ (x = "left" ∨ x = "right") ∧ kk (.int (if x = "left" then s + 2 * w else s - 2 * w)) st
theorem len_laid_on (ds : List D) (st : Sto) (kk : DK) (h : sp_laid_on ds st kk) : ds.length = 3 := by
  obtain ⟨s, w, x, rfl, _⟩ := h
  rfl
theorem p_laid_on : BodyD false N_laid_on sp_laid_on t_laid_on := by
  rintro ds st kk ⟨s, w, x, rfl, hx, h⟩
  rw [st_laid_on]
  simp only [t_laid_on]
  (walk_at "lw_dd")
  simp only [okD, ok_side hx, ok_left, eqD, true_and, beq_iff_eq, mul2]
  split at h <;> simp_all
def t_fall : DS :=
    (dSeq (dAsg (dCall sp_lighter (dCons (dVar 0) dNil)) (dgName 2))
    (dRet (dTup (dCons (dVar 2) (dCons (dCall sp_laid_on (dCons (dVar 0) (dCons (dVar 2) (dCons (dVar 1) dNil)))) dNil)))))
theorem st_fall (a0 a1 : D) : startD N_fall [a0, a1] = [some a0, some a1, none] := rfl
def sp_fall : SpD := fun ds st kk => ∃ s w : Int, ds = [.int s, .int w] ∧ kk (.tup [.str (sd s), .int (fallI s w)]) st
theorem len_fall (ds : List D) (st : Sto) (kk : DK) (h : sp_fall ds st kk) : ds.length = 2 := by
  obtain ⟨s, w, rfl, _⟩ := h
  rfl
theorem p_fall : BodyD false N_fall sp_fall t_fall := by
  rintro ds st kk ⟨s, w, rfl, h⟩
  rw [st_fall]
  simp only [t_fall]
  (walk_at "lw_dd")
  refine ⟨s, rfl, s, w, sd s, rfl, sd_lr s, ?_⟩
  rw [sd_fall]
  exact h
def e1_needless : DE :=
    (dVar 1)
def t_needless : DS :=
    (dRet (dLcNew (dEnum (dVar 0)) (dgTup 2 (dgCons (dgName 1) (dgCons (dgTup 2 (dgCons (dgName 2) (dgCons (dgName 3) dgNil))) dgNil))) (dTest (dOp (eqOp false) (dVar 2) (dVar 3))) (e1_needless) [1, 2, 3]))
theorem st_needless (a0 : D) : startD N_needless [a0] = [some a0, none, none, none] := rfl
def needZ (w : Web) : List Int := (needL w).map fun k : Nat => (k : Int)
theorem needZ_d (w : Web) : (needL w).map (fun k : Nat => D.int (k : Nat)) = (needZ w).map D.int := by
  unfold needZ
  rw [List.map_map]
  rfl
theorem needZ_mem {w : Web} {k : Nat} : (k : Int) ∈ needZ w ↔ k < w.length ∧ leadN w k false = leadN w k true := by
  unfold needZ
  rw [List.mem_map, ← needL_mem]
  exact ⟨fun ⟨a, h, e⟩ => by rw [← Int.ofNat_inj.mp e]; exact h, fun h => ⟨k, h, rfl⟩⟩
theorem needL_len (w : Web) : (needL w).length ≤ w.length := by
  unfold needL
  exact Nat.le_trans (List.length_filter_le _ _) (by rw [List.length_range]; exact Nat.le_refl _)
def sp_needless : SpD := fun ds st kk => ∃ w : Web, ds = [webD w] ∧ WebFine w ∧ w.length ≤ 1000 ∧ kk (.obj st.length) (st ++ [(needZ w).map D.int])
theorem len_needless (ds : List D) (st : Sto) (kk : DK) (h : sp_needless ds st kk) : ds.length = 1 := by
  obtain ⟨_, rfl, _⟩ := h
  rfl
theorem p_needless : BodyD false N_needless sp_needless t_needless := by
  rintro ds st kk ⟨w, rfl, fine, hn, h⟩
  rw [st_needless]
  simp only [t_needless, webD]
  (walk_at "lw_dd0")
  refine fun _ => ⟨by rw [enumD_length, List.length_map]; omega, ?_⟩
  rw [enum_leads]
  refine lc_filter (src := []) (fun k : Nat => D.tup [.int (k : Nat), .tup [(leadN w k false).d, (leadN w k true).d]]) (fun k : Nat => D.int (k : Nat)) (fun k => decide (leadN w k false = leadN w k true)) st trivial (List.range w.length) [] (fun k hk k1 k2 g1 g2 => ?_) ?_
  · have hk := List.mem_range.mp hk
    (walk_at "lw_dd0")
    rw [deref_ldA, deref_ldA]
    refine ⟨ldD_ok _ w fine hk _, ldD_ok _ w fine hk _, ?_⟩
    rw [ld_eqD]
    by_cases e : leadN w k false = leadN w k true
    · rw [if_pos (decide_eq_true e)]
      simp only [e1_needless]
      (walk_at "lw_dd0")
      exact g1 (decide_eq_true e)
    · rw [if_neg (by rw [decide_eq_false e]; decide)]
      exact g2 (decide_eq_false e)
  · rw [List.nil_append]
    rw [show (List.range w.length).filter (fun k => decide (leadN w k false = leadN w k true)) = needL w from rfl, needZ_d]
    exact h
def t_moved : DS :=
    (dSeq (dAsg (dIf (dTest (dOp (eqOp false) (dVar 0) (dVar 1))) (dVar 2) (dVar 0)) (dgName 3))
    (dRet (dIf (dAnd (dTru (dCall sp_is_number (dCons (dVar 3) dNil))) (dTest (dOp (cmpI fun i j => decide (j < i)) (dVar 3) (dVar 1)))) (dOp subD (dVar 3) (dC (.int 1))) (dVar 3))))
theorem st_moved (a0 a1 a2 : D) : startD N_moved [a0, a1, a2] = [some a0, some a1, some a2, none] := rfl
def sp_moved : SpD := fun ds st kk => ∃ (u v : Ld) (j : Nat), ds = [u.d, .int (j : Nat), v.d] ∧ LdFine u ∧ LdFine v ∧ kk (mvL u j v).d st
theorem len_moved (ds : List D) (st : Sto) (kk : DK) (h : sp_moved ds st kk) : ds.length = 3 := by
  obtain ⟨_, _, _, rfl, _⟩ := h
  rfl
theorem p_moved : BodyD false N_moved sp_moved t_moved := by
  rintro ds st kk ⟨u, v, j, rfl, fu, fv, h⟩
  rw [st_moved]
  simp only [t_moved]
  (walk_at "lw_dd0")
  rw [deref_ldA]
  refine ⟨ld_okD _ fu, ?_⟩
  rw [show D.int (j : Nat) = (Ld.bal j).d from rfl, ld_eqD]
  have tail : ∀ x : Ld, kk (match x with | .bal i => if j < i then Ld.bal (i - 1) else .bal i | .out c => .out c).d st → sp_is_number [x.d] st
      (truK fun b s1 =>
        if b = true then
          cmpI (fun i j => decide (j < i)) x.d (Ld.bal j).d s1
            (testK fun b s1 => if b = true then subD x.d (D.int 1) s1 fun d st' => kk d st' else kk x.d s1)
        else kk x.d s1) := by
    intro x hx
    cases x with
    | out c =>
      refine ⟨_, rfl, ?_⟩
      rw [show isNumB (Ld.out c).d = false from rfl]
      (walk_at "lw_dd0")
      exact hx
    | bal i =>
      refine ⟨_, rfl, ?_⟩
      rw [show isNumB (Ld.bal i).d = true from rfl]
      simp only [Ld.d]
      (walk_at "lw_dd0")
      by_cases z : j < i
      · rw [if_pos (by omega)]
        simp only [if_pos z] at hx
        have hx : kk (.int ((i - 1 : Nat) : Int)) st := hx
        rw [show ((i - 1 : Nat) : Int) = (i : Int) - 1 by omega] at hx
        exact hx
      · rw [if_neg (by omega)]
        simp only [if_neg z] at hx
        exact hx
  unfold mvL at h
  by_cases e : u = .bal j
  · rw [if_pos (decide_eq_true e)]
    rw [if_pos e] at h
    exact tail v h
  · rw [if_neg (by rw [decide_eq_false e]; decide)]
    rw [if_neg e] at h
    exact tail u h
def e1_without : DE :=
    (dCall sp_moved (dCons (dVar 7) (dCons (dVar 2) (dCons (dVar 3) dNil))))
def e2_without : DE :=
    (dB bTuple (dCons (dLc (dIter (dVar 8)) (dgName 7) dYes (e1_without) [7]) dNil))
def t_without (xe : DX) : DS :=
    (dSeq (dAsg (dOp ixD (dVar 0) (dVar 2)) (dgTup 2 (dgCons (dgName 3) (dgCons (dgName 4) dgNil))))
    (dSeq (dIfS (dTest (dOp (eqOp true) (dVar 3) (dVar 4))) (dRaise xe "Needed" (dVar 2)) dPass)
    (dSeq (dIfS (dAnd (dTest (dOp (eqOp false) (dVar 2) (dC (.int 0)))) (dNot (dTru (dCall sp_is_number (dCons (dVar 3) dNil))))) (dRaise xe "Lone" (dVar 2)) dPass)
    (dSeq (dAsg (dOp addD (dCut cutOp (dVar 0) dNo (dSome (dVar 2))) (dCut cutOp (dVar 0) (dSome (dOp addD (dVar 2) (dC (.int 1)))) dNo)) (dgName 5))
    (dSeq (dAsg (dLc (dIter (dVar 5)) (dgName 8) dYes (e2_without) [8]) (dgName 6))
    (dRet (dTup (dCons (dB bTuple (dCons (dVar 6) dNil)) (dCons (dB bTuple (dCons (dOp addD (dCut cutOp (dVar 1) dNo (dSome (dVar 2))) (dCut cutOp (dVar 1) (dSome (dOp addD (dVar 2) (dC (.int 1)))) dNo)) dNil)) dNil)))))))))
theorem st_without (a0 a1 a2 : D) : startD N_without [a0, a1, a2] = [some a0, some a1, some a2, none, none, none, none, none, none] := rfl
def sp_without : SpDX := fun ds st kk xk => ∃ (w : Web) (row : List Int) (j : Nat), ds = [webD w, .tup (row.map D.int), .int (j : Nat)] ∧ j < w.length ∧ row.length = w.length ∧ w.length ≤ 1000 ∧ WebFine w ∧
  (leadN w j false ≠ leadN w j true → xk "Needed" (.int (j : Nat)) st) ∧ (leadN w j false = leadN w j true → j = 0 → (∃ c, leadN w 0 false = .out c) → xk "Lone" (.int 0) st) ∧
  (∀ v, Idle w j v → kk (.tup [webD (woW w j v), .tup ((row.eraseIdx j).map D.int)]) st)
theorem len_without (ds : List D) (st : Sto) (kk : DK) (xk : DXC) (h : sp_without ds st kk xk) : ds.length = 3 := by
  obtain ⟨_, _, _, rfl, _⟩ := h
  rfl
theorem p_without : BodyX false N_without sp_without t_without := by
  rintro ds st kk xk ⟨w, row, j, rfl, hj, hr, hn, fine, h1, h2, h3⟩
  rw [st_without]
  simp only [t_without, webD]
  (walk_at "lw_dd0")
  refine ⟨_, at_web hj, ?_⟩
  (walk_at "lw_dd0")
  rw [deref_ldA, deref_ldA]
  refine ⟨ldD_ok _ w fine hj _, ldD_ok _ w fine hj _, ?_⟩
  rw [ld_eqD]
  have h1 := fun ne => h1 ne
  by_cases e : leadN w j false = leadN w j true
  rotate_left
  · rw [decide_eq_false e, if_pos (by decide)]
    exact h1 e
  rw [decide_eq_true e, if_neg (by decide)]
  have lead : ∀ s, leadN w j s = leadN w j false := fun s => match s with | false => rfl | true => e.symm
  have l1 : ∀ (xs : List D) (k : Nat), xs.length ≤ 1000 → (DL.cutD xs none (some (k : Int))).length + (DL.cutD xs (some ((k : Int) + 1)) none).length ≤ 16777216 := fun xs k hx => by
    rw [cutD_to, show (k : Int) + 1 = ((k + 1 : Nat) : Int) by omega, cutW_from, List.length_take, List.length_drop]
    omega
  have l2 : ((w.map ldsD).eraseIdx j).length ≤ 1000 := by rw [List.length_eraseIdx]; split <;> (try rw [List.length_map]) <;> omega
  have fv : LdFine (leadN w j false) := lead_fineN fine hj false
  have h3 := h3 (leadN w j false)
  generalize hv : leadN w j false = v at *
  have tail : Idle w j v → _ := fun I => h3 I
  clear h3
  rw [cut_erase, cut_erase]
  have go : Idle w j v → ((DL.cutD (List.map ldsD w) none (some (j : Int))).length + (DL.cutD (List.map ldsD w) (some ((j : Int) + 1)) none).length ≤ 16777216 ∧
      (((w.map ldsD).eraseIdx j).length ≤ 16777216 → ((w.map ldsD).eraseIdx j).length ≤ 16777216 ∧
        goLc [] (dgName 8) dYes e2_without [8] [some (D.tup (List.map ldsD w)), some (D.tup (List.map D.int row)), some (D.int (j : Int)), some v.d, some (leadN w j true).d, some (D.tup ((w.map ldsD).eraseIdx j)), none, none, none]
          (fun acc s2 => (DL.cutD (List.map D.int row) none (some (j : Int))).length + (DL.cutD (List.map D.int row) (some ((j : Int) + 1)) none).length ≤ 16777216 ∧ kk (D.tup [D.tup acc, D.tup ((row.map D.int).eraseIdx j)]) s2)
          ((w.map ldsD).eraseIdx j) [] st)) := fun I => by
    refine ⟨l1 _ _ (by rw [List.length_map]; exact hn), fun _ => ⟨by omega, ?_⟩⟩
    rw [erase_mapD]
    refine lc_map (src := []) ldsD (fun p => ldsD (mvL p.1 j v, mvL p.2 j v)) (w.eraseIdx j) st trivial [] (fun p hp kd hkd => ?_) ?_
    · have fp := fine p (List.mem_of_mem_eraseIdx hp)
      simp only [ldsD]
      (walk_at "lw_dd0")
      simp only [e2_without]
      (walk_at "lw_dd0")
      intro _
      refine lc_map (src := []) Ld.d (fun u => (mvL u j v).d) [p.1, p.2] st trivial [] (fun u hu kd hk2 => ?_) ?_
      · (walk_at "lw_dd0")
        simp only [e1_without]
        (walk_at "lw_dd0")
        refine ⟨u, v, j, rfl, ?_, fv, hk2⟩
        rcases List.mem_cons.mp hu with e | e
        · rw [e]; exact fp.1
        · rw [List.mem_singleton.mp e]; exact fp.2
      · (walk_at "lw_dd0")
        exact hkd
    · rw [List.nil_append]
      refine ⟨l1 _ _ (by rw [List.length_map]; omega), ?_⟩
      have e9 : (w.eraseIdx j).map (fun p => ldsD (mvL p.1 j v, mvL p.2 j v)) = (woW w j v).map ldsD := by
        unfold woW
        rw [List.map_map]
        rfl
      rw [e9, erase_mapD]
      exact tail I
  by_cases j0 : j = 0
  · subst j0
    rw [if_pos (by decide)]
    refine ⟨_, rfl, ?_⟩
    cases v with
    | out c =>
      rw [show isNumB (Ld.out c).d = false from rfl]
      (walk_at "lw_dd0")
      exact h2 e rfl ⟨c, hv⟩
    | bal i =>
      rw [show isNumB (Ld.bal i).d = true from rfl]
      (walk_at "lw_dd0")
      exact go ⟨hj, lead, fun c z => by cases z.2⟩
  · rw [if_neg (by omega)]
    exact go ⟨hj, lead, fun c z => j0 z.1⟩
def t_lead_of : DS :=
    (dSeq (dAsg (dVar 1) (dgTup 2 (dgCons (dgName 2) (dgCons (dgName 3) dgNil))))
    (dRet (dOp ixD (dOp ixD (dVar 0) (dVar 2)) (dTIdx [.str "left", .str "right"] (dVar 3)))))
theorem st_lead_of (a0 a1 : D) : startD N_lead_of [a0, a1] = [some a0, some a1, none, none] := rfl
def sp_lead_of : SpD := fun ds st kk => ∃ (w : Web) (k : Nat) (s : Bool) (v : Ld), ds = [webD w, panS (k, s)] ∧ leadW w k s = some v ∧ kk v.d st
theorem len_lead_of (ds : List D) (st : Sto) (kk : DK) (h : sp_lead_of ds st kk) : ds.length = 2 := by
  obtain ⟨_, _, _, _, rfl, _⟩ := h
  rfl
theorem p_lead_of : BodyD false N_lead_of sp_lead_of t_lead_of := by
  rintro ds st kk ⟨w, k, s, v, rfl, hl, h⟩
  rw [st_lead_of]
  simp only [t_lead_of, webD, panS]
  (walk_at "lw_dd")
  unfold leadW at hl
  cases hk : w[k]? with
  | none => rw [hk] at hl; cases hl
  | some p =>
    rw [hk] at hl
    refine ⟨_, atI_some hk, ?_⟩
    rw [e_tidxK (ys := ["left", "right"]) rfl]
    have e : Ld.of p s = v := by simpa using hl
    subst e
    cases s with
    | false => exact ⟨0, rfl, fun m hm => by omega, p.1.d, rfl, h⟩
    | true =>
      refine ⟨1, rfl, fun m hm => ?_, p.2.d, rfl, h⟩
      have : m = 0 := by omega
      subst this
      decide +kernel
def b1_way_of : DS :=
    (dSeq (dAsg (dCall sp_fall (dCons (dOp ixD (dVar 5) (dVar 4)) (dCons (dVar 2) dNil))) (dgTup 2 (dgCons (dgName 6) (dgCons (dgSub (dVar 5) (dVar 4)) dgNil))))
    (dSeq (dDrop (dMeth mAppend (dVar 3) (dCons (dTup (dCons (dVar 4) (dCons (dVar 6) dNil))) dNil)))
    (dAsg (dCall sp_lead_of (dCons (dVar 0) (dCons (dOp ixD (dVar 3) (dUn negD (dC (.int 1)))) dNil))) (dgName 4))))
def t_way_of : DS :=
    (dSeq (dPar3 3 4 5 (dCons (dNew dNil) (dCons (dC (.int 0)) (dCons (dB bListNew (dCons (dVar 1) dNil)) dNil))))
    (dSeq (dWhile (dTru (dCall sp_is_number (dCons (dVar 4) dNil))) (b1_way_of))
    (dRet (dTup (dCons (dVar 3) (dCons (dVar 4) (dCons (dB bTuple (dCons (dVar 5) dNil)) dNil)))))))
theorem st_way_of (a0 a1 a2 : D) : startD N_way_of [a0, a1, a2] = [some a0, some a1, some a2, none, none, none, none] := rfl
theorem way_run (w : Web) (g : Int) (row0 : List Int) (nt : Nt w) (hl : Lies w row0) (D0 : DEnds) (st : Sto) (sd0 : D) (hsd : sd0 = .tup (row0.map D.int) ∨ sd0 = .lst (row0.map D.int))
    (h : D0.rt (.tup [.obj st.length, .str (S (way w g 0 row0).2.1), .tup ((way w g 0 row0).2.2.map D.int)]) (st ++ [(way w g 0 row0).1.map panS, (way w g 0 row0).2.2.map D.int])) :
    t_way_of D0 [some (webD w), some sd0, some (.int g), none, none, none, none] st := by
  simp only [t_way_of]
  have hw := nt.fwd
  have h1 := nt.one
  have hn := nt.few
  (walk_at "lw_dd")
  have hst : bListNew [sd0] (st ++ [[]]) = fun k => k (.obj (st.length + 1)) (st ++ [[], row0.map D.int]) := by
    funext k
    rcases hsd with rfl | rfl
    · rw [e_listNT, List.length_append, List.append_assoc]; rfl
    · rw [e_listNL, List.length_append, List.append_assoc]; rfl
  rw [hst]
  refine ⟨fun m env s => ∃ (done : List Pn) (row : List Int) (here : Ld) (v6 : Option D), env = [some (webD w), some sd0, some (.int g), some (.obj st.length), some here.d, some (.obj (st.length + 1)), v6] ∧ s = st ++ [done.map panS, row.map D.int] ∧ done.length + m = w.length ∧ match here with
      | .bal k => k < w.length ∧ w.length - k ≤ m ∧ Lies w row ∧ way w g 0 row0 = (done ++ (way w g k row).1, (way w g k row).2)
      | .out cs => way w g 0 row0 = (done, cs, row), ⟨w.length, [], row0, .bal 0, none, rfl, rfl, by simp, by omega, by omega, hl, by simp⟩, ?_⟩
  rintro m env s ⟨done, row, here, v6, rfl, rfl, hm, hh⟩
  (walk_at "lw_dd")
  cases here with
  | out cs =>
    have hh : way w g 0 row0 = (done, cs, row) := hh
    rw [hh] at h
    refine ⟨_, rfl, ?_⟩
    (walk_at "lw_dd")
    rw [show isNumB (Ld.d (.out cs)) = false from rfl, if_neg Bool.false_ne_true, e_tupO (sa_get rfl)]
    exact h
  | bal k =>
    obtain ⟨hk, hkm, hr, hh⟩ := hh
    refine ⟨_, rfl, ?_⟩
    (walk_at "lw_dd")
    rw [show isNumB (Ld.d (.bal k)) = true from rfl, if_pos rfl]
    simp only [b1_way_of]
    have kr : k < row.length := by rw [hr.len]; exact hk
    have g0 : (st ++ [done.map panS, row.map D.int])[st.length + 1]? = some (row.map D.int) := sa_get rfl
    (walk_at "lw_dd")
    rw [show Ld.d (.bal k) = D.int (k : Nat) from rfl, e_ixO g0]
    refine ⟨_, atI_int kr, ?_⟩
    (walk_at "lw_dd")
    refine ⟨_, _, rfl, ?_⟩
    (try simp only [BEq.rfl, ↓e_v0, ↓e_vs, ↓e_c, ↓e_op, ↓e_un, ↓e_test, ↓e_testK, ↓e_tru, ↓e_truL, ↓e_truT, ↓e_truB, ↓e_truI, ↓e_truN, ↓e_truS, ↓e_not, ↓e_and, ↓e_or, ↓e_andv, ↓e_notv, ↓e_andK, ↓e_notK, ↓e_if, ↓e_nil, ↓e_cons, ↓e_tup, ↓e_lst, ↓e_new, ↓e_call, ↓e_callK, ↓e_drop, ↓e_ret, ↓e_pass, ↓e_ifS, ↓e_g0, ↓e_gs, ↓e_gnil, ↓e_gcons, ↓e_gtup, ↓e_asg, ↓e_par, ↓e_parK, ↓e_par3, ↓e_par3K, ↓e_no, ↓e_some, ↓e_someK, ↓e_cut, ↓e_b, ↓e_iter, ↓e_iterL, ↓e_iterT, ↓e_iterS, ↓e_rng1, ↓e_rng1K, ↓e_rng2, ↓e_rng2K, ↓e_enum, ↓e_enumL, ↓e_enumT, ↓e_zip, ↓e_zipL, ↓e_zipT, ↓e_for, ↓e_lc, ↓e_lcNew, ↓e_forN, ↓e_forC, ↓e_lcN, ↓e_lcC, ↓e_srcN, ↓e_srcC, ↓e_meth, ↓e_isL, ↓e_sub, ↓e_isi, ↓e_yes, ↓e_addI, ↓e_addB, ↓e_addS, ↓e_addT, ↓e_addL, ↓e_subI, ↓e_mulI, ↓e_mulT, ↓e_mulL, ↓e_divI, ↓e_modI, ↓e_powI, ↓e_negI, ↓e_cmpI, ↓e_eq, ↓e_ne, ↓e_isn, ↓e_isnn, ↓e_isb, ↓e_ixL, ↓e_ixKL, ↓e_ixT, ↓e_cutL, ↓e_cutKL, ↓e_cutT, ↓e_lenL, ↓e_lenKL, ↓e_lenT, ↓e_abs, ↓e_intI, ↓e_intB, ↓e_max2, ↓e_listNL, ↓e_listNT, ↓e_tupL, ↓e_tupT, ↓e_drI, ↓e_drB, ↓e_drS, ↓e_drN, ↓e_drL, ↓e_drT, ↓e_seq, ↓e_inL, ↓e_inKL, ↓e_inT, ↓e_inFlat, ↓e_drK, ↓e_addBI, ↓e_subBI, ↓e_subIB, ↓e_drG, ↓e_dnew, ↓e_dgetF, ↓e_dget2, ↓e_dgPut, ↓e_join, ↓e_joinL, ↓e_cutS, ↓e_mulS, ↓e_sortV, ↓e_tidx, ↓e_mulNewL, ↓e_sortedPL, ↓e_countL, ↓e_indexL, ↓e_tryGet, ↓e_isC, ↓e_isCK, ↓e_what, ↓e_whatK, ↓e_sil, ↓e_callX, ↓e_raise, e_kyI, e_kyS, Nat.reduceAdd, Nat.zero_add, List.length_cons, List.length_nil, List.length_map, Nat.reduceLeDiff, and_true, true_and, if_true, ite_true, decide_eq_true_eq, Bool.not_eq_true, Bool.false_eq_true, if_false, ite_false, ↓reduceIte, Int.reduceToNat, Int.reducePow, ne_eq, q_okI, q_okB, q_okN, q_okS, q_okL, q_okT, q_oks0, q_oks1, q_eqII, q_eqBB, q_eqSS, q_eqLL, q_eqTT, q_eqNN, q_eqNI, q_eqIN, q_eqs0, q_eqs1, Bool.true_and, Bool.and_true, beq_iff_eq, reduceCtorEq, wipeE, List.set_cons_zero, List.set_cons_succ, List.set_nil, Bool.not_true, Bool.not_false, List.getElem?_cons_zero, List.getElem?_cons_succ, e_sub])
    have sdk : D.str (sd (row.getD k 0)) = .str (sideS (decide (0 < row.getD k 0))) := by rw [sd_side (hr.at hk)]
    rw [e_setO g0]
    refine ⟨k, by rw [List.length_map, ixN_of (by omega) (by omega), Int.toNat_natCast], ?_⟩
    rw [sa_set rfl]
    have g1 : (st ++ [done.map panS, row.map D.int].set 1 ((row.map D.int).set k (.int (fallI (row.getD k 0) g))))[st.length]? = some (done.map panS) := by
      rw [List.getElem?_append_right (Nat.le_refl _), Nat.sub_self]; rfl
    refine ⟨by simp [isLst, deref, g1], ?_⟩
    rw [e_app g1]
    have dl : done.length < 16777216 := by omega
    refine ⟨by rw [List.length_map]; exact dl, ?_⟩
    rw [sdk, show D.tup [D.int (k : Nat), D.str (sideS (decide (0 < row.getD k 0)))] = panS (k, decide (0 < row.getD k 0)) from rfl]
    rw [show (st ++ [done.map panS, row.map D.int].set 1 ((row.map D.int).set k (.int (fallI (row.getD k 0) g)))).set st.length (done.map panS ++ [panS (k, decide (0 < row.getD k 0))]) = st ++ [(done ++ [(k, decide (0 < row.getD k 0))]).map panS, (row.set k (fallI (row.getD k 0) g)).map D.int] by
      rw [List.set_append_right _ _ (Nat.le_refl _), Nat.sub_self, List.map_append, List.map_set]
      rfl]
    have g2 : (st ++ [(done ++ [(k, decide (0 < row.getD k 0))]).map panS, (row.set k (fallI (row.getD k 0) g)).map D.int])[st.length]? = some ((done ++ [(k, decide (0 < row.getD k 0))]).map panS) := by
      rw [List.getElem?_append_right (Nat.le_refl _), Nat.sub_self]; rfl
    rw [e_ixO g2]
    refine ⟨_, by rw [List.map_append]; exact atI_last _ _, ?_⟩
    have e := leadW_some hk (decide (0 < row.getD k 0))
    refine ⟨w, k, _, _, rfl, e, m - 1, by omega, done ++ [(k, decide (0 < row.getD k 0))], row.set k (fallI (row.getD k 0) g), leadN w k (decide (0 < row.getD k 0)), _, rfl, rfl, by rw [List.length_append, List.length_singleton]; omega, ?_⟩
    cases hd : leadN w k (decide (0 < row.getD k 0)) with
    | out cs =>
      rw [hh, way_out hk hd]
    | bal j =>
      rw [hd] at e
      obtain ⟨h3, h4⟩ := hw _ _ _ e
      refine ⟨h4, by omega, hr.fall hk g, ?_⟩
      rw [hh, way_bal hw hk hd, List.append_assoc]
      rfl
def sp_way_of : SpD := fun ds st kk => ∃ (w : Web) (g : Int) (row : List Int), ds = [webD w, .tup (row.map D.int), .int g] ∧ Nt w ∧ Lies w row ∧
  kk (.tup [.lst ((way w g 0 row).1.map panS), .str (S (way w g 0 row).2.1), .tup ((way w g 0 row).2.2.map D.int)]) st
theorem len_way_of (ds : List D) (st : Sto) (kk : DK) (h : sp_way_of ds st kk) : ds.length = 3 := by
  obtain ⟨_, _, _, rfl, _⟩ := h
  rfl
theorem p_way_of : BodyD true N_way_of sp_way_of t_way_of := by
  rintro ds st kk ⟨w, g, row, rfl, hw, hl, h⟩
  rw [st_way_of]
  refine way_run w g row hw hl _ st _ (.inl rfl) ?_
  refine ⟨st, _, rfl, rfl, fun _ _ e => .inl e, safe_closed _ _ ?_, ?_⟩
  · intro c hc
    rcases List.mem_cons.mp hc with z | z
    · rw [z]; exact panS_below 0 _
    · rw [List.mem_singleton.mp z]; exact belows_int 0 _
  · rw [frzs_tup]
    have e : frzs st.length [(way w g 0 row).1.map panS, (way w g 0 row).2.2.map D.int] (.obj st.length) = .lst ((way w g 0 row).1.map panS) := by
      refine frzs_obj _ _ _ _ (fun c hc => ?_) (Nat.le_refl _) (by rw [Nat.sub_self]; rfl)
      rcases List.mem_cons.mp hc with z | z
      · rw [z]; exact panS_below 0 _
      · rw [List.mem_singleton.mp z]; exact belows_int 0 _
    simp only [List.map_cons, List.map_nil, e]
    rw [frzs_closed (by rfl), frzs_closed (by simp only [below]; exact belows_int 0 _)]
    exact h
def b1_falls_of : DS :=
    (dSeq (dAsg (dCall sp_way_of (dCons (dVar 0) (dCons (dVar 1) (dCons (dVar 4) dNil)))) (dgTup 3 (dgCons (dgName 5) (dgCons (dgName 6) (dgCons (dgName 1) dgNil)))))
    (dDrop (dMeth mAppend (dVar 3) (dCons (dVar 6) dNil))))
def t_falls_of : DS :=
    (dSeq (dAsg (dNew dNil) (dgName 3))
    (dSeq (dFor (dIter (dVar 2)) (dgName 4) (b1_falls_of))
    (dRet (dTup (dCons (dVar 3) (dCons (dB bTuple (dCons (dVar 1) dNil)) dNil))))))
theorem st_falls_of (a0 a1 a2 : D) : startD N_falls_of [a0, a1, a2] = [some a0, some a1, some a2, none, none, none, none] := rfl
theorem falls_of_loop (w : Web) (nt : Nt w) (rt : DK) (a2 : D) (st : Sto) (kk : DL.Env → Sto → Prop) : ∀ (gs row : List Int) (dn : List (List Nat)) (v4 v5 v6 : Option D), Lies w row → dn.length + gs.length ≤ 16777216 →
    (∀ u4 u5 u6, kk [some (webD w), some (.tup ((fallsN w gs row).2.map D.int)), some a2, some (.obj st.length), u4, u5, u6] (st ++ [(dn ++ (fallsN w gs row).1).map txD])) →
    goFor [] (dgName 4) b1_falls_of ⟨kk, rt⟩ (gs.map D.int) [some (webD w), some (.tup (row.map D.int)), some a2, some (.obj st.length), v4, v5, v6] (st ++ [dn.map txD])
  | [], row, dn, v4, v5, v6, hl, _, h => by
    refine ⟨trivial, ?_⟩
    have := h v4 v5 v6
    simp only [fallsN, List.append_nil] at this
    exact this
  | g :: gs, row, dn, v4, v5, v6, hl, hn, h => by
    refine ⟨trivial, ?_⟩
    rw [List.length_cons] at hn
    (walk_at "lw_dd0")
    simp only [b1_falls_of]
    (walk_at "lw_dd0")
    refine ⟨w, g, row, rfl, nt, hl, ?_⟩
    (walk_at "lw_dd0")
    refine ⟨e_isO (List.getElem?_concat_length ..), ?_⟩
    rw [e_app (List.getElem?_concat_length ..), set_last]
    refine ⟨by rw [List.length_map]; omega, ?_⟩
    rw [show dn.map txD ++ [D.str (S (way w g 0 row).2.1)] = (dn ++ [(way w g 0 row).2.1]).map txD by rw [List.map_append]; rfl]
    refine falls_of_loop w nt rt a2 st kk gs _ _ _ _ _ (nt.way hl g) (by rw [List.length_append, List.length_singleton]; omega) fun u4 u5 u6 => ?_
    have := h u4 u5 u6
    unfold fallsN at this
    rw [List.append_assoc]
    exact this
theorem falls_of_run (w : Web) (gs row : List Int) (nt : Nt w) (hl : Lies w row) (hg : gs.length ≤ 100000) (D0 : DEnds) (st : Sto)
    (h : D0.rt (.tup [.obj st.length, .tup ((fallsN w gs row).2.map D.int)]) (st ++ [(fallsN w gs row).1.map txD])) :
    t_falls_of D0 [some (webD w), some (.tup (row.map D.int)), some (.tup (gs.map D.int)), none, none, none, none] st := by
  simp only [t_falls_of]
  (walk_at "lw_dd0")
  refine fun _ => ?_
  refine falls_of_loop w nt _ _ st _ gs row [] _ _ _ hl (by simp; omega) fun u4 u5 u6 => ?_
  (walk_at "lw_dd0")
  exact h
def sp_falls_of : SpD := fun ds st kk => ∃ (w : Web) (gs row : List Int), ds = [webD w, .tup (row.map D.int), .tup (gs.map D.int)] ∧ Nt w ∧ Lies w row ∧ gs.length ≤ 100000 ∧
  kk (.tup [.lst ((fallsN w gs row).1.map txD), .tup ((fallsN w gs row).2.map D.int)]) st
theorem len_falls_of (ds : List D) (st : Sto) (kk : DK) (h : sp_falls_of ds st kk) : ds.length = 3 := by
  obtain ⟨_, _, _, rfl, _⟩ := h
  rfl
theorem p_falls_of : BodyD true N_falls_of sp_falls_of t_falls_of := by
  rintro ds st kk ⟨w, gs, row, rfl, nt, hl, hg, h⟩
  rw [st_falls_of]
  refine falls_of_run w gs row nt hl hg _ st ?_
  refine .one (txD_below _ _) ?_
  simp only [sub, subs, if_true]
  rw [subs_below _ (belows_int _ _)]
  exact h
def t__law_tape : DS :=
    (dSeq (dAsg (dIf (dTest (dOp (cmpI fun i j => decide (i < j)) (dVar 1) (dB bLen (dCons (dVar 0) dNil)))) (dOp ixD (dVar 0) (dVar 1)) (dC (.int 0))) (dgName 2))
    (dRet (dNew (dCons (dOp mulD (dB bAbs (dCons (dVar 2) dNil)) (dB bInt (dCons (dOp (cmpI fun i j => decide (j ≤ i)) (dB bAbs (dCons (dVar 2) dNil)) (dOp powD (dC (.int 10)) (dC (.int 18)))) dNil))) (dCons (dOp addD (dOp addD (dOp modD (dVar 2) (dC (.int 2305843009213693951))) (dOp mulD (dC (.int 39373)) (dVar 1))) (dC (.int 17))) (dCons (dC (.int 0)) dNil))))))
theorem st__law_tape (a0 a1 : D) : startD N__law_tape [a0, a1] = [some a0, some a1, none] := rfl
/-- a tape: n draws at most so far -/
def sp__law_tape : SpD := fun ds st kk => ∃ (cs : List Int) (k : Nat), ds = [.lst (cs.map D.int), .int k] ∧ k ≤ 1000 ∧ ∀ xs, Tape 0 xs → kk (.obj st.length) (st ++ [xs])
theorem len__law_tape (ds : List D) (st : Sto) (kk : DK) (h : sp__law_tape ds st kk) : ds.length = 2 := by
  obtain ⟨cs, k, rfl, _⟩ := h
  rfl
theorem atI_ints {cs : List Int} {k : Nat} (h : k < cs.length) : atI (cs.map D.int) (k : Int) = some (.int cs[k]) := by
  refine atI_nat ?_
  rw [List.getElem?_map, List.getElem?_eq_getElem h]
  rfl
theorem p__law_tape : BodyD false N__law_tape sp__law_tape t__law_tape := by
  rintro ds st kk ⟨cs, k, rfl, hk, h⟩
  rw [st__law_tape]
  simp only [t__law_tape]
  (walk_at "lw_dd")
  have fin : ∀ c : Int, PowOk 10 18 → kk (.obj st.length) (st ++ [[.int ((if c < 0 then -c else c) * (if (10 : Int) ^ 18 ≤ (if c < 0 then -c else c) then 1 else 0)), .int (c % 2305843009213693951 + 39373 * (k : Int) + 17), .int 0]]) := fun c _ => by
    refine h _ ⟨_, _, _, rfl, ?_, ?_, Int.le_refl _, by omega⟩
    · have := Int.emod_nonneg c (b := 2305843009213693951) (by decide)
      omega
    · have := Int.emod_lt_of_pos c (b := 2305843009213693951) (by decide)
      omega
  have pw : PowOk 10 18 := ⟨by decide, by decide, by decide⟩
  have m1 : MulOk 39373 (k : Int) := mulc _ _ (by decide) (by decide)
  split
  · rename_i hlt
    have hlt' : k < cs.length := by omega
    refine ⟨_, atI_ints hlt', ?_⟩
    (walk_at "lw_dd")
    exact ⟨pw, mulb _ _, by decide, m1, fin _ pw⟩
  · exact ⟨pw, mulb _ _, by decide, m1, fin 0 pw⟩
def t__law_draw : DS :=
    (dSeq (dIfS (dTest (dOp (cmpI fun i j => decide (j < i)) (dOp ixD (dVar 0) (dC (.int 0))) (dC (.int 0)))) (dSeq (dAsg (dOp modD (dOp ixD (dVar 0) (dC (.int 0))) (dVar 1)) (dgName 2))
    (dSeq (dAsg (dOp divD (dOp ixD (dVar 0) (dC (.int 0))) (dVar 1)) (dgSub (dVar 0) (dC (.int 0))))
    (dRet (dVar 2)))) dPass)
    (dSeq (dAsg (dOp addD (dOp ixD (dVar 0) (dC (.int 2))) (dC (.int 1))) (dgSub (dVar 0) (dC (.int 2))))
    (dSeq (dAsg (dOp modD (dOp powD (dOp addD (dOp ixD (dVar 0) (dC (.int 1))) (dOp mulD (dC (.int 39373)) (dOp ixD (dVar 0) (dC (.int 2))))) (dC (.int 5))) (dC (.int 2147483647))) (dgName 3))
    (dSeq (dAsg (dOp modD (dOp mulD (dOp addD (dVar 3) (dOp ixD (dVar 0) (dC (.int 2)))) (dOp addD (dOp addD (dOp modD (dVar 3) (dC (.int 40009))) (dC (.int 7))) (dOp ixD (dVar 0) (dC (.int 2))))) (dC (.int 2147483629))) (dgName 4))
    (dSeq (dAsg (dOp modD (dOp addD (dOp addD (dOp divD (dOp ixD (dVar 0) (dC (.int 1))) (dC (.int 2147483647))) (dOp mulD (dVar 4) (dC (.int 40009)))) (dOp ixD (dVar 0) (dC (.int 2)))) (dC (.int 2305843009213693951))) (dgName 5))
    (dRet (dOp modD (dOp divD (dOp modD (dOp addD (dOp addD (dOp mulD (dVar 4) (dC (.int 48271))) (dOp mulD (dVar 5) (dC (.int 39373)))) (dVar 3)) (dC (.int 2305843009213693921))) (dC (.int 64))) (dVar 1))))))))
theorem st__law_draw (a0 a1 : D) : startD N__law_draw [a0, a1] = [some a0, some a1, none, none, none, none] := rfl
def sp__law_draw : SpD := fun ds st kk => ∃ (i n : Nat) (m : Int), ds = [.obj i, .int m] ∧ Tp i n st ∧ n < 1000000000000 ∧ Big m ∧ ∀ (r : Int) xs, 0 ≤ r → r < m → Tp i (n + 1) (st.set i xs) → kk (.int r) (st.set i xs)
theorem len__law_draw (ds : List D) (st : Sto) (kk : DK) (h : sp__law_draw ds st kk) : ds.length = 2 := by
  obtain ⟨i, n, m, rfl, _⟩ := h
  rfl
theorem p__law_draw : BodyD false N__law_draw sp__law_draw t__law_draw := by
  rintro ds st kk ⟨i, n, m, rfl, ⟨xs, hx, a, b, c, rfl, h1, h2, h3, h4⟩, hn, hm, h⟩
  have hi : i < st.length := (List.getElem?_eq_some_iff.mp hx).1
  have hs : ∀ ys : List D, (st.set i ys)[i]? = some ys := fun ys => List.getElem?_set_self hi
  have p5 : PowOk (b + 39373 * (c + 1)) 5 := pow5 (by omega) (by omega)
  rw [st__law_draw]
  simp only [t__law_draw]
  (try simp only [BEq.rfl, ↓e_v0, ↓e_vs, ↓e_c, ↓e_op, ↓e_un, ↓e_test, ↓e_testK, ↓e_tru, ↓e_truL, ↓e_truT, ↓e_truB, ↓e_truI, ↓e_truN, ↓e_truS, ↓e_not, ↓e_and, ↓e_or, ↓e_andv, ↓e_notv, ↓e_andK, ↓e_notK, ↓e_if, ↓e_nil, ↓e_cons, ↓e_tup, ↓e_lst, ↓e_new, ↓e_call, ↓e_callK, ↓e_drop, ↓e_ret, ↓e_pass, ↓e_ifS, ↓e_g0, ↓e_gs, ↓e_gnil, ↓e_gcons, ↓e_gtup, ↓e_asg, ↓e_par, ↓e_parK, ↓e_par3, ↓e_par3K, ↓e_no, ↓e_some, ↓e_someK, ↓e_cut, ↓e_b, ↓e_iter, ↓e_iterL, ↓e_iterT, ↓e_iterS, ↓e_rng1, ↓e_rng1K, ↓e_rng2, ↓e_rng2K, ↓e_enum, ↓e_enumL, ↓e_enumT, ↓e_zip, ↓e_zipL, ↓e_zipT, ↓e_for, ↓e_lc, ↓e_lcNew, ↓e_forN, ↓e_forC, ↓e_lcN, ↓e_lcC, ↓e_srcN, ↓e_srcC, ↓e_meth, ↓e_isL, ↓e_sub, ↓e_isi, ↓e_yes, ↓e_addI, ↓e_addB, ↓e_addS, ↓e_addT, ↓e_addL, ↓e_subI, ↓e_mulI, ↓e_mulT, ↓e_mulL, ↓e_divI, ↓e_modI, ↓e_powI, ↓e_negI, ↓e_cmpI, ↓e_eq, ↓e_ne, ↓e_isn, ↓e_isnn, ↓e_isb, ↓e_ixL, ↓e_ixKL, ↓e_ixT, ↓e_cutL, ↓e_cutKL, ↓e_cutT, ↓e_lenL, ↓e_lenKL, ↓e_lenT, ↓e_abs, ↓e_intI, ↓e_intB, ↓e_max2, ↓e_listNL, ↓e_listNT, ↓e_tupL, ↓e_tupT, ↓e_drI, ↓e_drB, ↓e_drS, ↓e_drN, ↓e_drL, ↓e_drT, ↓e_seq, ↓e_inL, ↓e_inKL, ↓e_inT, ↓e_inFlat, ↓e_drK, ↓e_addBI, ↓e_subBI, ↓e_subIB, ↓e_drG, ↓e_dnew, ↓e_dgetF, ↓e_dget2, ↓e_dgPut, ↓e_join, ↓e_joinL, ↓e_cutS, ↓e_mulS, ↓e_sortV, ↓e_tidx, ↓e_mulNewL, ↓e_sortedPL, ↓e_countL, ↓e_indexL, ↓e_tryGet, ↓e_isC, ↓e_isCK, ↓e_what, ↓e_whatK, ↓e_sil, ↓e_callX, ↓e_raise, e_kyI, e_kyS, Nat.reduceAdd, Nat.zero_add, List.length_cons, List.length_nil, List.length_map, Nat.reduceLeDiff, and_true, true_and, if_true, ite_true, decide_eq_true_eq, Bool.not_eq_true, Bool.false_eq_true, if_false, ite_false, ↓reduceIte, Int.reduceToNat, Int.reducePow, ne_eq, q_okI, q_okB, q_okN, q_okS, q_okL, q_okT, q_oks0, q_oks1, q_eqII, q_eqBB, q_eqSS, q_eqLL, q_eqTT, q_eqNN, q_eqNI, q_eqIN, q_eqs0, q_eqs1, Bool.true_and, Bool.and_true, beq_iff_eq, reduceCtorEq, wipeE, List.set_cons_zero, List.set_cons_succ, List.set_nil, Bool.not_true, Bool.not_false, List.getElem?_cons_zero, List.getElem?_cons_succ, e_ixO hx, at0, at1, at2, Option.some.injEq, exists_eq_left', e_setO hx])
  have tp : ∀ a' : Int, Tp i (n + 1) (st.set i [.int a', .int b, .int c]) := fun a' => ⟨_, hs _, _, _, _, rfl, h1, h2, h3, by omega⟩
  have tp2 : Tp i (n + 1) (st.set i [.int a, .int b, .int (c + 1)]) := ⟨_, hs _, _, _, _, rfl, h1, h2, by omega, by omega⟩
  split
  · exact ⟨by have := hm.1; omega, hm.div, 0, rfl, h _ _ (Int.emod_nonneg _ (by have := hm.1; omega)) (Int.emod_lt_of_pos _ (by have := hm.1; omega)) (tp _)⟩
  · refine ⟨2, rfl, ?_⟩
    (try simp only [BEq.rfl, ↓e_v0, ↓e_vs, ↓e_c, ↓e_op, ↓e_un, ↓e_test, ↓e_testK, ↓e_tru, ↓e_truL, ↓e_truT, ↓e_truB, ↓e_truI, ↓e_truN, ↓e_truS, ↓e_not, ↓e_and, ↓e_or, ↓e_andv, ↓e_notv, ↓e_andK, ↓e_notK, ↓e_if, ↓e_nil, ↓e_cons, ↓e_tup, ↓e_lst, ↓e_new, ↓e_call, ↓e_callK, ↓e_drop, ↓e_ret, ↓e_pass, ↓e_ifS, ↓e_g0, ↓e_gs, ↓e_gnil, ↓e_gcons, ↓e_gtup, ↓e_asg, ↓e_par, ↓e_parK, ↓e_par3, ↓e_par3K, ↓e_no, ↓e_some, ↓e_someK, ↓e_cut, ↓e_b, ↓e_iter, ↓e_iterL, ↓e_iterT, ↓e_iterS, ↓e_rng1, ↓e_rng1K, ↓e_rng2, ↓e_rng2K, ↓e_enum, ↓e_enumL, ↓e_enumT, ↓e_zip, ↓e_zipL, ↓e_zipT, ↓e_for, ↓e_lc, ↓e_lcNew, ↓e_forN, ↓e_forC, ↓e_lcN, ↓e_lcC, ↓e_srcN, ↓e_srcC, ↓e_meth, ↓e_isL, ↓e_sub, ↓e_isi, ↓e_yes, ↓e_addI, ↓e_addB, ↓e_addS, ↓e_addT, ↓e_addL, ↓e_subI, ↓e_mulI, ↓e_mulT, ↓e_mulL, ↓e_divI, ↓e_modI, ↓e_powI, ↓e_negI, ↓e_cmpI, ↓e_eq, ↓e_ne, ↓e_isn, ↓e_isnn, ↓e_isb, ↓e_ixL, ↓e_ixKL, ↓e_ixT, ↓e_cutL, ↓e_cutKL, ↓e_cutT, ↓e_lenL, ↓e_lenKL, ↓e_lenT, ↓e_abs, ↓e_intI, ↓e_intB, ↓e_max2, ↓e_listNL, ↓e_listNT, ↓e_tupL, ↓e_tupT, ↓e_drI, ↓e_drB, ↓e_drS, ↓e_drN, ↓e_drL, ↓e_drT, ↓e_seq, ↓e_inL, ↓e_inKL, ↓e_inT, ↓e_inFlat, ↓e_drK, ↓e_addBI, ↓e_subBI, ↓e_subIB, ↓e_drG, ↓e_dnew, ↓e_dgetF, ↓e_dget2, ↓e_dgPut, ↓e_join, ↓e_joinL, ↓e_cutS, ↓e_mulS, ↓e_sortV, ↓e_tidx, ↓e_mulNewL, ↓e_sortedPL, ↓e_countL, ↓e_indexL, ↓e_tryGet, ↓e_isC, ↓e_isCK, ↓e_what, ↓e_whatK, ↓e_sil, ↓e_callX, ↓e_raise, e_kyI, e_kyS, Nat.reduceAdd, Nat.zero_add, List.length_cons, List.length_nil, List.length_map, Nat.reduceLeDiff, and_true, true_and, if_true, ite_true, decide_eq_true_eq, Bool.not_eq_true, Bool.false_eq_true, if_false, ite_false, ↓reduceIte, Int.reduceToNat, Int.reducePow, ne_eq, q_okI, q_okB, q_okN, q_okS, q_okL, q_okT, q_oks0, q_oks1, q_eqII, q_eqBB, q_eqSS, q_eqLL, q_eqTT, q_eqNN, q_eqNI, q_eqIN, q_eqs0, q_eqs1, Bool.true_and, Bool.and_true, beq_iff_eq, reduceCtorEq, wipeE, List.set_cons_zero, List.set_cons_succ, List.set_nil, Bool.not_true, Bool.not_false, List.getElem?_cons_zero, List.getElem?_cons_succ, List.set_cons_succ, List.set_cons_zero, e_ixO (hs _), at0, at1, at2, Option.some.injEq, exists_eq_left'])
    refine ⟨mulc _ _ (by decide) (by decide), p5, by decide, ?_⟩
    generalize hA : (b + 39373 * (c + 1)) ^ 5 % 2147483647 = A
    have hA0 : 0 ≤ A := by rw [← hA]; exact Int.emod_nonneg _ (by decide)
    have hA1 : A < 2147483647 := by rw [← hA]; exact Int.emod_lt_of_pos _ (by decide)
    (try simp only [BEq.rfl, ↓e_v0, ↓e_vs, ↓e_c, ↓e_op, ↓e_un, ↓e_test, ↓e_testK, ↓e_tru, ↓e_truL, ↓e_truT, ↓e_truB, ↓e_truI, ↓e_truN, ↓e_truS, ↓e_not, ↓e_and, ↓e_or, ↓e_andv, ↓e_notv, ↓e_andK, ↓e_notK, ↓e_if, ↓e_nil, ↓e_cons, ↓e_tup, ↓e_lst, ↓e_new, ↓e_call, ↓e_callK, ↓e_drop, ↓e_ret, ↓e_pass, ↓e_ifS, ↓e_g0, ↓e_gs, ↓e_gnil, ↓e_gcons, ↓e_gtup, ↓e_asg, ↓e_par, ↓e_parK, ↓e_par3, ↓e_par3K, ↓e_no, ↓e_some, ↓e_someK, ↓e_cut, ↓e_b, ↓e_iter, ↓e_iterL, ↓e_iterT, ↓e_iterS, ↓e_rng1, ↓e_rng1K, ↓e_rng2, ↓e_rng2K, ↓e_enum, ↓e_enumL, ↓e_enumT, ↓e_zip, ↓e_zipL, ↓e_zipT, ↓e_for, ↓e_lc, ↓e_lcNew, ↓e_forN, ↓e_forC, ↓e_lcN, ↓e_lcC, ↓e_srcN, ↓e_srcC, ↓e_meth, ↓e_isL, ↓e_sub, ↓e_isi, ↓e_yes, ↓e_addI, ↓e_addB, ↓e_addS, ↓e_addT, ↓e_addL, ↓e_subI, ↓e_mulI, ↓e_mulT, ↓e_mulL, ↓e_divI, ↓e_modI, ↓e_powI, ↓e_negI, ↓e_cmpI, ↓e_eq, ↓e_ne, ↓e_isn, ↓e_isnn, ↓e_isb, ↓e_ixL, ↓e_ixKL, ↓e_ixT, ↓e_cutL, ↓e_cutKL, ↓e_cutT, ↓e_lenL, ↓e_lenKL, ↓e_lenT, ↓e_abs, ↓e_intI, ↓e_intB, ↓e_max2, ↓e_listNL, ↓e_listNT, ↓e_tupL, ↓e_tupT, ↓e_drI, ↓e_drB, ↓e_drS, ↓e_drN, ↓e_drL, ↓e_drT, ↓e_seq, ↓e_inL, ↓e_inKL, ↓e_inT, ↓e_inFlat, ↓e_drK, ↓e_addBI, ↓e_subBI, ↓e_subIB, ↓e_drG, ↓e_dnew, ↓e_dgetF, ↓e_dget2, ↓e_dgPut, ↓e_join, ↓e_joinL, ↓e_cutS, ↓e_mulS, ↓e_sortV, ↓e_tidx, ↓e_mulNewL, ↓e_sortedPL, ↓e_countL, ↓e_indexL, ↓e_tryGet, ↓e_isC, ↓e_isCK, ↓e_what, ↓e_whatK, ↓e_sil, ↓e_callX, ↓e_raise, e_kyI, e_kyS, Nat.reduceAdd, Nat.zero_add, List.length_cons, List.length_nil, List.length_map, Nat.reduceLeDiff, and_true, true_and, if_true, ite_true, decide_eq_true_eq, Bool.not_eq_true, Bool.false_eq_true, if_false, ite_false, ↓reduceIte, Int.reduceToNat, Int.reducePow, ne_eq, q_okI, q_okB, q_okN, q_okS, q_okL, q_okT, q_oks0, q_oks1, q_eqII, q_eqBB, q_eqSS, q_eqLL, q_eqTT, q_eqNN, q_eqNI, q_eqIN, q_eqs0, q_eqs1, Bool.true_and, Bool.and_true, beq_iff_eq, reduceCtorEq, wipeE, List.set_cons_zero, List.set_cons_succ, List.set_nil, Bool.not_true, Bool.not_false, List.getElem?_cons_zero, List.getElem?_cons_succ, e_ixO (hs _), at0, at1, at2, Option.some.injEq, exists_eq_left'])
    refine ⟨by decide, mulc _ _ (by omega) (by omega), by decide, ?_⟩
    generalize hB : (A + (c + 1)) * (A % 40009 + 7 + (c + 1)) % 2147483629 = B
    have hB0 : 0 ≤ B := by rw [← hB]; exact Int.emod_nonneg _ (by decide)
    have hB1 : B < 2147483629 := by rw [← hB]; exact Int.emod_lt_of_pos _ (by decide)
    (try simp only [BEq.rfl, ↓e_v0, ↓e_vs, ↓e_c, ↓e_op, ↓e_un, ↓e_test, ↓e_testK, ↓e_tru, ↓e_truL, ↓e_truT, ↓e_truB, ↓e_truI, ↓e_truN, ↓e_truS, ↓e_not, ↓e_and, ↓e_or, ↓e_andv, ↓e_notv, ↓e_andK, ↓e_notK, ↓e_if, ↓e_nil, ↓e_cons, ↓e_tup, ↓e_lst, ↓e_new, ↓e_call, ↓e_callK, ↓e_drop, ↓e_ret, ↓e_pass, ↓e_ifS, ↓e_g0, ↓e_gs, ↓e_gnil, ↓e_gcons, ↓e_gtup, ↓e_asg, ↓e_par, ↓e_parK, ↓e_par3, ↓e_par3K, ↓e_no, ↓e_some, ↓e_someK, ↓e_cut, ↓e_b, ↓e_iter, ↓e_iterL, ↓e_iterT, ↓e_iterS, ↓e_rng1, ↓e_rng1K, ↓e_rng2, ↓e_rng2K, ↓e_enum, ↓e_enumL, ↓e_enumT, ↓e_zip, ↓e_zipL, ↓e_zipT, ↓e_for, ↓e_lc, ↓e_lcNew, ↓e_forN, ↓e_forC, ↓e_lcN, ↓e_lcC, ↓e_srcN, ↓e_srcC, ↓e_meth, ↓e_isL, ↓e_sub, ↓e_isi, ↓e_yes, ↓e_addI, ↓e_addB, ↓e_addS, ↓e_addT, ↓e_addL, ↓e_subI, ↓e_mulI, ↓e_mulT, ↓e_mulL, ↓e_divI, ↓e_modI, ↓e_powI, ↓e_negI, ↓e_cmpI, ↓e_eq, ↓e_ne, ↓e_isn, ↓e_isnn, ↓e_isb, ↓e_ixL, ↓e_ixKL, ↓e_ixT, ↓e_cutL, ↓e_cutKL, ↓e_cutT, ↓e_lenL, ↓e_lenKL, ↓e_lenT, ↓e_abs, ↓e_intI, ↓e_intB, ↓e_max2, ↓e_listNL, ↓e_listNT, ↓e_tupL, ↓e_tupT, ↓e_drI, ↓e_drB, ↓e_drS, ↓e_drN, ↓e_drL, ↓e_drT, ↓e_seq, ↓e_inL, ↓e_inKL, ↓e_inT, ↓e_inFlat, ↓e_drK, ↓e_addBI, ↓e_subBI, ↓e_subIB, ↓e_drG, ↓e_dnew, ↓e_dgetF, ↓e_dget2, ↓e_dgPut, ↓e_join, ↓e_joinL, ↓e_cutS, ↓e_mulS, ↓e_sortV, ↓e_tidx, ↓e_mulNewL, ↓e_sortedPL, ↓e_countL, ↓e_indexL, ↓e_tryGet, ↓e_isC, ↓e_isCK, ↓e_what, ↓e_whatK, ↓e_sil, ↓e_callX, ↓e_raise, e_kyI, e_kyS, Nat.reduceAdd, Nat.zero_add, List.length_cons, List.length_nil, List.length_map, Nat.reduceLeDiff, and_true, true_and, if_true, ite_true, decide_eq_true_eq, Bool.not_eq_true, Bool.false_eq_true, if_false, ite_false, ↓reduceIte, Int.reduceToNat, Int.reducePow, ne_eq, q_okI, q_okB, q_okN, q_okS, q_okL, q_okT, q_oks0, q_oks1, q_eqII, q_eqBB, q_eqSS, q_eqLL, q_eqTT, q_eqNN, q_eqNI, q_eqIN, q_eqs0, q_eqs1, Bool.true_and, Bool.and_true, beq_iff_eq, reduceCtorEq, wipeE, List.set_cons_zero, List.set_cons_succ, List.set_nil, Bool.not_true, Bool.not_false, List.getElem?_cons_zero, List.getElem?_cons_succ, e_ixO (hs _), at0, at1, at2, Option.some.injEq, exists_eq_left'])
    refine ⟨div_small (by decide) (by decide), mulc _ _ (by omega) (by omega), by decide, ?_⟩
    generalize hC : (b / 2147483647 + B * 40009 + (c + 1)) % 2305843009213693951 = C
    have hC0 : 0 ≤ C := by rw [← hC]; exact Int.emod_nonneg _ (by decide)
    have hC1 : C < 2305843009213693951 := by rw [← hC]; exact Int.emod_lt_of_pos _ (by decide)
    (try simp only [BEq.rfl, ↓e_v0, ↓e_vs, ↓e_c, ↓e_op, ↓e_un, ↓e_test, ↓e_testK, ↓e_tru, ↓e_truL, ↓e_truT, ↓e_truB, ↓e_truI, ↓e_truN, ↓e_truS, ↓e_not, ↓e_and, ↓e_or, ↓e_andv, ↓e_notv, ↓e_andK, ↓e_notK, ↓e_if, ↓e_nil, ↓e_cons, ↓e_tup, ↓e_lst, ↓e_new, ↓e_call, ↓e_callK, ↓e_drop, ↓e_ret, ↓e_pass, ↓e_ifS, ↓e_g0, ↓e_gs, ↓e_gnil, ↓e_gcons, ↓e_gtup, ↓e_asg, ↓e_par, ↓e_parK, ↓e_par3, ↓e_par3K, ↓e_no, ↓e_some, ↓e_someK, ↓e_cut, ↓e_b, ↓e_iter, ↓e_iterL, ↓e_iterT, ↓e_iterS, ↓e_rng1, ↓e_rng1K, ↓e_rng2, ↓e_rng2K, ↓e_enum, ↓e_enumL, ↓e_enumT, ↓e_zip, ↓e_zipL, ↓e_zipT, ↓e_for, ↓e_lc, ↓e_lcNew, ↓e_forN, ↓e_forC, ↓e_lcN, ↓e_lcC, ↓e_srcN, ↓e_srcC, ↓e_meth, ↓e_isL, ↓e_sub, ↓e_isi, ↓e_yes, ↓e_addI, ↓e_addB, ↓e_addS, ↓e_addT, ↓e_addL, ↓e_subI, ↓e_mulI, ↓e_mulT, ↓e_mulL, ↓e_divI, ↓e_modI, ↓e_powI, ↓e_negI, ↓e_cmpI, ↓e_eq, ↓e_ne, ↓e_isn, ↓e_isnn, ↓e_isb, ↓e_ixL, ↓e_ixKL, ↓e_ixT, ↓e_cutL, ↓e_cutKL, ↓e_cutT, ↓e_lenL, ↓e_lenKL, ↓e_lenT, ↓e_abs, ↓e_intI, ↓e_intB, ↓e_max2, ↓e_listNL, ↓e_listNT, ↓e_tupL, ↓e_tupT, ↓e_drI, ↓e_drB, ↓e_drS, ↓e_drN, ↓e_drL, ↓e_drT, ↓e_seq, ↓e_inL, ↓e_inKL, ↓e_inT, ↓e_inFlat, ↓e_drK, ↓e_addBI, ↓e_subBI, ↓e_subIB, ↓e_drG, ↓e_dnew, ↓e_dgetF, ↓e_dget2, ↓e_dgPut, ↓e_join, ↓e_joinL, ↓e_cutS, ↓e_mulS, ↓e_sortV, ↓e_tidx, ↓e_mulNewL, ↓e_sortedPL, ↓e_countL, ↓e_indexL, ↓e_tryGet, ↓e_isC, ↓e_isCK, ↓e_what, ↓e_whatK, ↓e_sil, ↓e_callX, ↓e_raise, e_kyI, e_kyS, Nat.reduceAdd, Nat.zero_add, List.length_cons, List.length_nil, List.length_map, Nat.reduceLeDiff, and_true, true_and, if_true, ite_true, decide_eq_true_eq, Bool.not_eq_true, Bool.false_eq_true, if_false, ite_false, ↓reduceIte, Int.reduceToNat, Int.reducePow, ne_eq, q_okI, q_okB, q_okN, q_okS, q_okL, q_okT, q_oks0, q_oks1, q_eqII, q_eqBB, q_eqSS, q_eqLL, q_eqTT, q_eqNN, q_eqNI, q_eqIN, q_eqs0, q_eqs1, Bool.true_and, Bool.and_true, beq_iff_eq, reduceCtorEq, wipeE, List.set_cons_zero, List.set_cons_succ, List.set_nil, Bool.not_true, Bool.not_false, List.getElem?_cons_zero, List.getElem?_cons_succ, e_ixO (hs _), at0, at1, at2, Option.some.injEq, exists_eq_left'])
    refine ⟨mulc _ _ (by omega) (by omega), mulc _ _ (by omega) (by omega), by decide, div_small (by decide) (by decide), by have := hm.1; omega, ?_⟩
    exact h _ _ (Int.emod_nonneg _ (by have := hm.1; omega)) (Int.emod_lt_of_pos _ (by have := hm.1; omega)) tp2
def b1__law_folded : DS :=
    (dAsg (dOp addD (dOp ixD (dVar 2) (dOp modD (dVar 3) (dVar 1))) (dOp mulD (dVar 4) (dOp addD (dVar 3) (dC (.int 2))))) (dgSub (dVar 2) (dOp modD (dVar 3) (dVar 1))))
def t__law_folded : DS :=
    (dSeq (dAsg (dB bListNew (dCons (dCut cutOp (dVar 0) dNo (dSome (dVar 1))) dNil)) (dgName 2))
    (dSeq (dFor (dEnum (dCut cutOp (dVar 0) (dSome (dVar 1)) (dSome (dC (.int 63))))) (dgTup 2 (dgCons (dgName 3) (dgCons (dgName 4) dgNil))) (b1__law_folded))
    (dRet (dVar 2))))
theorem st__law_folded (a0 a1 : D) : startD N__law_folded [a0, a1] = [some a0, some a1, none, none, none] := rfl
theorem folded_loop (rt : DK) (a0 : D) (m : Nat) (hm : 1 ≤ m) (st : Sto) (kk : DL.Env → Sto → Prop) : ∀ (rs : List Int) (k : Nat) (cs : List Int) (v3 v4 : Option D), (rs ≠ [] → cs.length = m) → k + rs.length ≤ 1000 →
    (∀ (cs' : List Int) u3 u4, cs'.length = cs.length → kk [some a0, some (.int m), some (.obj st.length), u3, u4] (st ++ [cs'.map D.int])) →
    goFor [] (dgTup 2 (dgCons (dgName 3) (dgCons (dgName 4) dgNil))) b1__law_folded ⟨kk, rt⟩ (enumD k (rs.map D.int)) [some a0, some (.int m), some (.obj st.length), v3, v4] (st ++ [cs.map D.int])
  | [], k, cs, v3, v4, _, _, h => ⟨trivial, h cs v3 v4 rfl⟩
  | r :: rs, k, cs, v3, v4, hl, hk, h => by
    simp only [List.map_cons, enumD]
    rw [e_forC]
    refine ⟨trivial, ?_⟩
    have hc : cs.length = m := hl (by simp)
    have i0 : 0 ≤ (k : Int) % (m : Int) := Int.emod_nonneg _ (by omega)
    have i1 : (k : Int) % (m : Int) < (m : Int) := Int.emod_lt_of_pos _ (by omega)
    have ea : atI (cs.map D.int) ((k : Int) % (m : Int)) = some (.int (cs[((k : Int) % (m : Int)).toNat]'(by omega))) := by
      rw [atI_at i0 (by rw [List.length_map]; omega), List.getElem_map]
    have ei : ixN (cs.map D.int).length ((k : Int) % (m : Int)) = some ((k : Int) % (m : Int)).toNat := ixN_of i0 (by rw [List.length_map]; omega)
    simp only [b1__law_folded]
    (try simp only [BEq.rfl, ↓e_v0, ↓e_vs, ↓e_c, ↓e_op, ↓e_un, ↓e_test, ↓e_testK, ↓e_tru, ↓e_truL, ↓e_truT, ↓e_truB, ↓e_truI, ↓e_truN, ↓e_truS, ↓e_not, ↓e_and, ↓e_or, ↓e_andv, ↓e_notv, ↓e_andK, ↓e_notK, ↓e_if, ↓e_nil, ↓e_cons, ↓e_tup, ↓e_lst, ↓e_new, ↓e_call, ↓e_callK, ↓e_drop, ↓e_ret, ↓e_pass, ↓e_ifS, ↓e_g0, ↓e_gs, ↓e_gnil, ↓e_gcons, ↓e_gtup, ↓e_asg, ↓e_par, ↓e_parK, ↓e_par3, ↓e_par3K, ↓e_no, ↓e_some, ↓e_someK, ↓e_cut, ↓e_b, ↓e_iter, ↓e_iterL, ↓e_iterT, ↓e_iterS, ↓e_rng1, ↓e_rng1K, ↓e_rng2, ↓e_rng2K, ↓e_enum, ↓e_enumL, ↓e_enumT, ↓e_zip, ↓e_zipL, ↓e_zipT, ↓e_for, ↓e_lc, ↓e_lcNew, ↓e_forN, ↓e_forC, ↓e_lcN, ↓e_lcC, ↓e_srcN, ↓e_srcC, ↓e_meth, ↓e_isL, ↓e_sub, ↓e_isi, ↓e_yes, ↓e_addI, ↓e_addB, ↓e_addS, ↓e_addT, ↓e_addL, ↓e_subI, ↓e_mulI, ↓e_mulT, ↓e_mulL, ↓e_divI, ↓e_modI, ↓e_powI, ↓e_negI, ↓e_cmpI, ↓e_eq, ↓e_ne, ↓e_isn, ↓e_isnn, ↓e_isb, ↓e_ixL, ↓e_ixKL, ↓e_ixT, ↓e_cutL, ↓e_cutKL, ↓e_cutT, ↓e_lenL, ↓e_lenKL, ↓e_lenT, ↓e_abs, ↓e_intI, ↓e_intB, ↓e_max2, ↓e_listNL, ↓e_listNT, ↓e_tupL, ↓e_tupT, ↓e_drI, ↓e_drB, ↓e_drS, ↓e_drN, ↓e_drL, ↓e_drT, ↓e_seq, ↓e_inL, ↓e_inKL, ↓e_inT, ↓e_inFlat, ↓e_drK, ↓e_addBI, ↓e_subBI, ↓e_subIB, ↓e_drG, ↓e_dnew, ↓e_dgetF, ↓e_dget2, ↓e_dgPut, ↓e_join, ↓e_joinL, ↓e_cutS, ↓e_mulS, ↓e_sortV, ↓e_tidx, ↓e_mulNewL, ↓e_sortedPL, ↓e_countL, ↓e_indexL, ↓e_tryGet, ↓e_isC, ↓e_isCK, ↓e_what, ↓e_whatK, ↓e_sil, ↓e_callX, ↓e_raise, e_kyI, e_kyS, Nat.reduceAdd, Nat.zero_add, List.length_cons, List.length_nil, List.length_map, Nat.reduceLeDiff, and_true, true_and, if_true, ite_true, decide_eq_true_eq, Bool.not_eq_true, Bool.false_eq_true, if_false, ite_false, ↓reduceIte, Int.reduceToNat, Int.reducePow, ne_eq, q_okI, q_okB, q_okN, q_okS, q_okL, q_okT, q_oks0, q_oks1, q_eqII, q_eqBB, q_eqSS, q_eqLL, q_eqTT, q_eqNN, q_eqNI, q_eqIN, q_eqs0, q_eqs1, Bool.true_and, Bool.and_true, beq_iff_eq, reduceCtorEq, wipeE, List.set_cons_zero, List.set_cons_succ, List.set_nil, Bool.not_true, Bool.not_false, List.getElem?_cons_zero, List.getElem?_cons_succ, e_ixO (List.getElem?_concat_length ..), e_setO (List.getElem?_concat_length ..)])
    refine ⟨by omega, _, ea, ?_⟩
    (try simp only [BEq.rfl, ↓e_v0, ↓e_vs, ↓e_c, ↓e_op, ↓e_un, ↓e_test, ↓e_testK, ↓e_tru, ↓e_truL, ↓e_truT, ↓e_truB, ↓e_truI, ↓e_truN, ↓e_truS, ↓e_not, ↓e_and, ↓e_or, ↓e_andv, ↓e_notv, ↓e_andK, ↓e_notK, ↓e_if, ↓e_nil, ↓e_cons, ↓e_tup, ↓e_lst, ↓e_new, ↓e_call, ↓e_callK, ↓e_drop, ↓e_ret, ↓e_pass, ↓e_ifS, ↓e_g0, ↓e_gs, ↓e_gnil, ↓e_gcons, ↓e_gtup, ↓e_asg, ↓e_par, ↓e_parK, ↓e_par3, ↓e_par3K, ↓e_no, ↓e_some, ↓e_someK, ↓e_cut, ↓e_b, ↓e_iter, ↓e_iterL, ↓e_iterT, ↓e_iterS, ↓e_rng1, ↓e_rng1K, ↓e_rng2, ↓e_rng2K, ↓e_enum, ↓e_enumL, ↓e_enumT, ↓e_zip, ↓e_zipL, ↓e_zipT, ↓e_for, ↓e_lc, ↓e_lcNew, ↓e_forN, ↓e_forC, ↓e_lcN, ↓e_lcC, ↓e_srcN, ↓e_srcC, ↓e_meth, ↓e_isL, ↓e_sub, ↓e_isi, ↓e_yes, ↓e_addI, ↓e_addB, ↓e_addS, ↓e_addT, ↓e_addL, ↓e_subI, ↓e_mulI, ↓e_mulT, ↓e_mulL, ↓e_divI, ↓e_modI, ↓e_powI, ↓e_negI, ↓e_cmpI, ↓e_eq, ↓e_ne, ↓e_isn, ↓e_isnn, ↓e_isb, ↓e_ixL, ↓e_ixKL, ↓e_ixT, ↓e_cutL, ↓e_cutKL, ↓e_cutT, ↓e_lenL, ↓e_lenKL, ↓e_lenT, ↓e_abs, ↓e_intI, ↓e_intB, ↓e_max2, ↓e_listNL, ↓e_listNT, ↓e_tupL, ↓e_tupT, ↓e_drI, ↓e_drB, ↓e_drS, ↓e_drN, ↓e_drL, ↓e_drT, ↓e_seq, ↓e_inL, ↓e_inKL, ↓e_inT, ↓e_inFlat, ↓e_drK, ↓e_addBI, ↓e_subBI, ↓e_subIB, ↓e_drG, ↓e_dnew, ↓e_dgetF, ↓e_dget2, ↓e_dgPut, ↓e_join, ↓e_joinL, ↓e_cutS, ↓e_mulS, ↓e_sortV, ↓e_tidx, ↓e_mulNewL, ↓e_sortedPL, ↓e_countL, ↓e_indexL, ↓e_tryGet, ↓e_isC, ↓e_isCK, ↓e_what, ↓e_whatK, ↓e_sil, ↓e_callX, ↓e_raise, e_kyI, e_kyS, Nat.reduceAdd, Nat.zero_add, List.length_cons, List.length_nil, List.length_map, Nat.reduceLeDiff, and_true, true_and, if_true, ite_true, decide_eq_true_eq, Bool.not_eq_true, Bool.false_eq_true, if_false, ite_false, ↓reduceIte, Int.reduceToNat, Int.reducePow, ne_eq, q_okI, q_okB, q_okN, q_okS, q_okL, q_okT, q_oks0, q_oks1, q_eqII, q_eqBB, q_eqSS, q_eqLL, q_eqTT, q_eqNN, q_eqNI, q_eqIN, q_eqs0, q_eqs1, Bool.true_and, Bool.and_true, beq_iff_eq, reduceCtorEq, wipeE, List.set_cons_zero, List.set_cons_succ, List.set_nil, Bool.not_true, Bool.not_false, List.getElem?_cons_zero, List.getElem?_cons_succ, e_ixO (List.getElem?_concat_length ..), e_setO (List.getElem?_concat_length ..)])
    refine ⟨mulr _ _ (by omega) (by simp only [List.length_cons] at hk; omega), by omega, _, by rw [List.length_map] at ei; exact ei, ?_⟩
    rw [set_last, map_set_int]
    refine folded_loop rt a0 m hm st kk rs (k + 1) _ _ _ (fun _ => by rw [List.length_set]; exact hc) (by simp only [List.length_cons] at hk; omega) fun cs' u3 u4 e => h cs' u3 u4 (by rw [e, List.length_set])
def sp__law_folded : SpD := fun ds st kk => ∃ (ns : List Int) (m : Nat), ds = [.klst (ns.map D.int), .int m] ∧ 1 ≤ m ∧ m ≤ 60 ∧ ns.length ≤ 63 ∧ ∀ cs : List Int, cs.length = min m ns.length → kk (.lst (cs.map D.int)) st
theorem len__law_folded (ds : List D) (st : Sto) (kk : DK) (h : sp__law_folded ds st kk) : ds.length = 2 := by
  obtain ⟨ns, m, rfl, _⟩ := h
  rfl
theorem p__law_folded : BodyD true N__law_folded sp__law_folded t__law_folded := by
  rintro ds st kk ⟨ns, m, rfl, h1, h2, h3, h⟩
  rw [st__law_folded]
  simp only [t__law_folded]
  (try simp only [BEq.rfl, ↓e_v0, ↓e_vs, ↓e_c, ↓e_op, ↓e_un, ↓e_test, ↓e_testK, ↓e_tru, ↓e_truL, ↓e_truT, ↓e_truB, ↓e_truI, ↓e_truN, ↓e_truS, ↓e_not, ↓e_and, ↓e_or, ↓e_andv, ↓e_notv, ↓e_andK, ↓e_notK, ↓e_if, ↓e_nil, ↓e_cons, ↓e_tup, ↓e_lst, ↓e_new, ↓e_call, ↓e_callK, ↓e_drop, ↓e_ret, ↓e_pass, ↓e_ifS, ↓e_g0, ↓e_gs, ↓e_gnil, ↓e_gcons, ↓e_gtup, ↓e_asg, ↓e_par, ↓e_parK, ↓e_par3, ↓e_par3K, ↓e_no, ↓e_some, ↓e_someK, ↓e_cut, ↓e_b, ↓e_iter, ↓e_iterL, ↓e_iterT, ↓e_iterS, ↓e_rng1, ↓e_rng1K, ↓e_rng2, ↓e_rng2K, ↓e_enum, ↓e_enumL, ↓e_enumT, ↓e_zip, ↓e_zipL, ↓e_zipT, ↓e_for, ↓e_lc, ↓e_lcNew, ↓e_forN, ↓e_forC, ↓e_lcN, ↓e_lcC, ↓e_srcN, ↓e_srcC, ↓e_meth, ↓e_isL, ↓e_sub, ↓e_isi, ↓e_yes, ↓e_addI, ↓e_addB, ↓e_addS, ↓e_addT, ↓e_addL, ↓e_subI, ↓e_mulI, ↓e_mulT, ↓e_mulL, ↓e_divI, ↓e_modI, ↓e_powI, ↓e_negI, ↓e_cmpI, ↓e_eq, ↓e_ne, ↓e_isn, ↓e_isnn, ↓e_isb, ↓e_ixL, ↓e_ixKL, ↓e_ixT, ↓e_cutL, ↓e_cutKL, ↓e_cutT, ↓e_lenL, ↓e_lenKL, ↓e_lenT, ↓e_abs, ↓e_intI, ↓e_intB, ↓e_max2, ↓e_listNL, ↓e_listNT, ↓e_tupL, ↓e_tupT, ↓e_drI, ↓e_drB, ↓e_drS, ↓e_drN, ↓e_drL, ↓e_drT, ↓e_seq, ↓e_inL, ↓e_inKL, ↓e_inT, ↓e_inFlat, ↓e_drK, ↓e_addBI, ↓e_subBI, ↓e_subIB, ↓e_drG, ↓e_dnew, ↓e_dgetF, ↓e_dget2, ↓e_dgPut, ↓e_join, ↓e_joinL, ↓e_cutS, ↓e_mulS, ↓e_sortV, ↓e_tidx, ↓e_mulNewL, ↓e_sortedPL, ↓e_countL, ↓e_indexL, ↓e_tryGet, ↓e_isC, ↓e_isCK, ↓e_what, ↓e_whatK, ↓e_sil, ↓e_callX, ↓e_raise, e_kyI, e_kyS, Nat.reduceAdd, Nat.zero_add, List.length_cons, List.length_nil, List.length_map, Nat.reduceLeDiff, and_true, true_and, if_true, ite_true, decide_eq_true_eq, Bool.not_eq_true, Bool.false_eq_true, if_false, ite_false, ↓reduceIte, Int.reduceToNat, Int.reducePow, ne_eq, q_okI, q_okB, q_okN, q_okS, q_okL, q_okT, q_oks0, q_oks1, q_eqII, q_eqBB, q_eqSS, q_eqLL, q_eqTT, q_eqNN, q_eqNI, q_eqIN, q_eqs0, q_eqs1, Bool.true_and, Bool.and_true, beq_iff_eq, reduceCtorEq, wipeE, List.set_cons_zero, List.set_cons_succ, List.set_nil, Bool.not_true, Bool.not_false, List.getElem?_cons_zero, List.getElem?_cons_succ, cutD_map])
  rw [cutD_to, show (63 : Int) = ((63 : Nat) : Int) from rfl, cutD_from]
  intro _
  refine folded_loop _ _ m h1 st _ _ 0 _ _ _ (fun ne => ?_) (by simp; omega) fun cs' u3 u4 e => ?_
  · rw [List.length_take]
    have : m < ns.length := by
      apply Nat.lt_of_not_le
      intro z
      exact ne (by rw [List.drop_eq_nil_of_le z]; simp)
    omega
  · (walk_at "lw_dd")
    refine .one (belows_int _ _) ?_
    simp only [sub, if_true]
    exact h cs' (by rw [e, List.length_take])
def e1__law_same (spr : SpD) : DE :=
    (dCall spr (dCons (dVar 2) (dCons (dVar 3) dNil)))
def t__law_same (spr : SpD) : DS :=
    (dSeq (dIfS (dTru (dIsi (dVar 1) ["list", "tuple"])) (dSeq (dIfS (dOr (dTest (dOp (eqOp true) (dIsi (dVar 0) ["list"]) (dIsi (dVar 1) ["list"]))) (dTest (dOp (eqOp true) (dIsi (dVar 0) ["tuple"]) (dIsi (dVar 1) ["tuple"])))) (dRet (dC (.bl false))) dPass)
    (dRet (dAndV (dOp (eqOp false) (dB bLen (dCons (dVar 0) dNil)) (dB bLen (dCons (dVar 1) dNil))) (dB bAll (dCons (dLc (dZip (dVar 0) (dVar 1)) (dgTup 2 (dgCons (dgName 2) (dgCons (dgName 3) dgNil))) dYes (e1__law_same spr) [2, 3]) dNil))))) dPass)
    (dSeq (dIfS (dOr (dTest (dOp (isOp false) (dVar 1) (dC .non))) (dTru (dIsi (dVar 1) ["str", "bool"]))) (dRet (dAndV (dOp (eqOp false) (dIsi (dVar 0) ["bool"]) (dIsi (dVar 1) ["bool"])) (dOp (eqOp false) (dVar 0) (dVar 1)))) dPass)
    (dRet (dAndV (dIsi (dVar 0) ["int"]) (dAndV (dNotV (dIsi (dVar 0) ["bool"])) (dOp (eqOp false) (dVar 0) (dVar 1)))))))
theorem st__law_same (a0 a1 : D) : startD N__law_same [a0, a1] = [some a0, some a1, none, none] := rfl
/-- alike, through the store's lists -/
def sm (st : Sto) : Nat → D → D → Bool
  | 0, _, _ => false
  | n + 1, d, e => match e with
    | .lst ys => match deref st d with
      | .lst xs => xs.length == ys.length && (xs.zip ys).all fun p => sm st n p.1 p.2
      | _ => false
    | .tup ys => match d with
      | .tup xs => xs.length == ys.length && (xs.zip ys).all fun p => sm st n p.1 p.2
      | _ => false
    | .non => match d with
      | .non => true
      | _ => false
    | .bl b => match d with
      | .bl a => a == b
      | _ => false
    | .int b => match d with
      | .int a => a == b
      | _ => false
    | .str b => match d with
      | .str a => a == b && PyData.strOk b
      | _ => false
    | .obj j => match st[j]? with
      | some ys => match deref st d with
        | .lst xs => xs.length == ys.length && (xs.zip ys).all fun p => sm st n p.1 p.2
        | _ => false
      | none => false
    | _ => false
theorem sm_ints (st : Sto) (n : Nat) : ∀ xs : List Int, ((xs.map D.int).zip (xs.map D.int)).all (fun p => sm st (n + 1) p.1 p.2) = true
  | [] => rfl
  | x :: r => by
    simp only [List.map_cons, List.zip_cons_cons, List.all_cons, Bool.and_eq_true]
    exact ⟨by simp [sm], sm_ints st n r⟩
theorem sm_int (st : Sto) (n : Nat) (a : Int) : sm st (n + 1) (.int a) (.int a) = true := by simp [sm]
theorem sm_str (st : Sto) (n : Nat) {a : Str} (h : PyData.strOk a = true) : sm st (n + 1) (.str a) (.str a) = true := by simp [sm, h]
theorem sm_lst {st : Sto} {n : Nat} {d : D} {xs ys : List D} (h : deref st d = .lst xs) (hl : xs.length = ys.length) (ha : (xs.zip ys).all (fun p => sm st n p.1 p.2) = true) : sm st (n + 1) d (.lst ys) = true := by
  simp only [sm, h, hl, beq_self_eq_true, Bool.true_and]
  exact ha
theorem sm_tup {st : Sto} {n : Nat} {xs ys : List D} (hl : xs.length = ys.length) (ha : (xs.zip ys).all (fun p => sm st n p.1 p.2) = true) : sm st (n + 1) (.tup xs) (.tup ys) = true := by
  simp only [sm, deref, hl, beq_self_eq_true, Bool.true_and]
  exact ha
theorem sm_nil {st : Sto} {n : Nat} : (([] : List D).zip ([] : List D)).all (fun p => sm st n p.1 p.2) = true := rfl
theorem sm_cons {st : Sto} {n : Nat} {x y : D} {xs ys : List D} (h : sm st n x y = true) (hr : (xs.zip ys).all (fun p => sm st n p.1 p.2) = true) : ((x :: xs).zip (y :: ys)).all (fun p => sm st n p.1 p.2) = true := by
  simp only [List.zip_cons_cons, List.all_cons, h, hr, Bool.and_true]
theorem sm_two {st : Sto} {n : Nat} {x y z w : D} (h : sm st n x z = true) (h2 : sm st n y w = true) : sm st (n + 1) (.lst [x, y]) (.lst [z, w]) = true := sm_lst rfl rfl (sm_cons h (sm_cons h2 sm_nil))
theorem sm_pair {st : Sto} {n : Nat} {x y z w : D} (h : sm st n x z = true) (h2 : sm st n y w = true) : sm st (n + 1) (.tup [x, y]) (.tup [z, w]) = true := sm_tup rfl (sm_cons h (sm_cons h2 sm_nil))
def sp__law_same : Nat → SpD := fun n ds st kk => ∃ d e, ds = [d, e] ∧ sm st n d e = true ∧ kk (.bl true) st
theorem len__law_same (n : Nat) (ds : List D) (st : Sto) (kk : DK) (h : sp__law_same n ds st kk) : ds.length = 2 := by
  obtain ⟨d, e, rfl, _⟩ := h
  rfl
theorem no__law_same (ds : List D) (st : Sto) (kk : DK) (h : sp__law_same 0 ds st kk) : False := by
  obtain ⟨d, e, rfl, h, _⟩ := h
  cases h
theorem srcOk_of {st : Sto} {d : D} {xs : List D} (h : deref st d = .lst xs) : SrcOk (srcOf d xs) st := by
  cases d with
  | obj i =>
    cases e : st[i]? with
    | none => simp [deref, e] at h
    | some ys =>
      simp [deref, e] at h
      subst h
      exact ⟨e, trivial⟩
  | _ => trivial
theorem srcOk_app {st : Sto} {j : Nat} {ys : List D} (h2 : st[j]? = some ys) : ∀ {a : List (Nat × List D)}, SrcOk a st → SrcOk (a ++ [(j, ys)]) st
  | [], _ => ⟨h2, trivial⟩
  | _ :: _, h => ⟨h.1, srcOk_app h2 h.2⟩
theorem e_zipGO {st : Sto} {kk : DIk} {d : D} {j : Nat} {xs es : List D} (h : deref st d = .lst xs) (h2 : st[j]? = some es) : zipK kk d (.obj j) st = (xs.length ≤ 16777216 → kk (zipD xs es) (srcOf d xs ++ [(j, es)]) st) := by
  have h2 : deref st (.obj j) = .lst es := by simp [deref, h2]
  unfold zipK
  rw [h, h2]
  rfl
theorem same_loop (n : Nat) (src : List (Nat × List D)) (env : DL.Env) (a b : D) (he : wipeE env [2, 3] = [some a, some b, none, none]) (k : List D → Sto → Prop) (st : Sto) (hs : SrcOk src st) : ∀ (xs ys acc : List D), (xs.length == ys.length && (xs.zip ys).all fun p => sm st n p.1 p.2) = true → k (acc ++ List.replicate xs.length (.bl true)) st →
    goLc src (dgTup 2 (dgCons (dgName 2) (dgCons (dgName 3) dgNil))) dYes (e1__law_same (sp__law_same n)) [2, 3] env k (zipD xs ys) acc st
  | [], [], acc, _, h => ⟨hs, by simpa using h⟩
  | [], _ :: _, _, e, _ => by simp at e
  | _ :: _, [], _, e, _ => by simp at e
  | x :: xs, y :: ys, acc, e, h => by
    simp only [zipD]
    rw [e_lcC, he]
    simp only [List.length_cons, List.zip_cons_cons, List.all_cons, Bool.and_eq_true, beq_iff_eq] at e
    refine ⟨hs, ?_⟩
    simp only [e1__law_same]
    (walk_at "lw_dd")
    refine ⟨x, y, rfl, e.2.1, ?_⟩
    refine same_loop n src env a b he k st hs xs ys _ ?_ ?_
    · simp only [Bool.and_eq_true, beq_iff_eq]
      exact ⟨by omega, e.2.2⟩
    · rw [List.append_assoc]
      exact h
theorem y_lt_NoneType : (["list", "tuple"].any (subTy "NoneType")) = false := by decide +kernel
theorem y_lt_bool : (["list", "tuple"].any (subTy "bool")) = false := by decide +kernel
theorem y_lt_int : (["list", "tuple"].any (subTy "int")) = false := by decide +kernel
theorem y_lt_str : (["list", "tuple"].any (subTy "str")) = false := by decide +kernel
theorem y_lt_list : (["list", "tuple"].any (subTy "list")) = true := by decide +kernel
theorem y_lt_tuple : (["list", "tuple"].any (subTy "tuple")) = true := by decide +kernel
theorem y_l_NoneType : (["list"].any (subTy "NoneType")) = false := by decide +kernel
theorem y_l_bool : (["list"].any (subTy "bool")) = false := by decide +kernel
theorem y_l_int : (["list"].any (subTy "int")) = false := by decide +kernel
theorem y_l_str : (["list"].any (subTy "str")) = false := by decide +kernel
theorem y_l_list : (["list"].any (subTy "list")) = true := by decide +kernel
theorem y_l_tuple : (["list"].any (subTy "tuple")) = false := by decide +kernel
theorem y_t_NoneType : (["tuple"].any (subTy "NoneType")) = false := by decide +kernel
theorem y_t_bool : (["tuple"].any (subTy "bool")) = false := by decide +kernel
theorem y_t_int : (["tuple"].any (subTy "int")) = false := by decide +kernel
theorem y_t_str : (["tuple"].any (subTy "str")) = false := by decide +kernel
theorem y_t_list : (["tuple"].any (subTy "list")) = false := by decide +kernel
theorem y_t_tuple : (["tuple"].any (subTy "tuple")) = true := by decide +kernel
theorem y_sb_NoneType : (["str", "bool"].any (subTy "NoneType")) = false := by decide +kernel
theorem y_sb_bool : (["str", "bool"].any (subTy "bool")) = true := by decide +kernel
theorem y_sb_int : (["str", "bool"].any (subTy "int")) = false := by decide +kernel
theorem y_sb_str : (["str", "bool"].any (subTy "str")) = true := by decide +kernel
theorem y_sb_list : (["str", "bool"].any (subTy "list")) = false := by decide +kernel
theorem y_sb_tuple : (["str", "bool"].any (subTy "tuple")) = false := by decide +kernel
theorem y_b_NoneType : (["bool"].any (subTy "NoneType")) = false := by decide +kernel
theorem y_b_bool : (["bool"].any (subTy "bool")) = true := by decide +kernel
theorem y_b_int : (["bool"].any (subTy "int")) = false := by decide +kernel
theorem y_b_str : (["bool"].any (subTy "str")) = false := by decide +kernel
theorem y_b_list : (["bool"].any (subTy "list")) = false := by decide +kernel
theorem y_b_tuple : (["bool"].any (subTy "tuple")) = false := by decide +kernel
theorem y_i_NoneType : (["int"].any (subTy "NoneType")) = false := by decide +kernel
theorem y_i_bool : (["int"].any (subTy "bool")) = true := by decide +kernel
theorem y_i_int : (["int"].any (subTy "int")) = true := by decide +kernel
theorem y_i_str : (["int"].any (subTy "str")) = false := by decide +kernel
theorem y_i_list : (["int"].any (subTy "list")) = false := by decide +kernel
theorem y_i_tuple : (["int"].any (subTy "tuple")) = false := by decide +kernel
theorem ty_non : tyD .non = "NoneType" := rfl
theorem ty_bl {b : Bool} : tyD (.bl b) = "bool" := rfl
theorem ty_int {i : Int} : tyD (.int i) = "int" := rfl
theorem ty_str {x : Str} : tyD (.str x) = "str" := rfl
theorem ty_obj {j : Nat} : tyD (.obj j) = "list" := rfl
theorem ty_lst {ds : List D} : tyD (.lst ds) = "list" := rfl
theorem ty_tup {ds : List D} : tyD (.tup ds) = "tuple" := rfl
theorem e_zipG {st : Sto} {kk : DIk} {d : D} {xs es : List D} (h : deref st d = .lst xs) : zipK kk d (.lst es) st = (xs.length ≤ 16777216 → kk (zipD xs es) (srcOf d xs ++ []) st) := by
  have h2 : deref st (.lst es) = .lst es := rfl
  unfold zipK
  rw [h, h2]
  rfl
theorem e_lenG {st : Sto} {k : DK} {d : D} {xs : List D} (h : deref st d = .lst xs) : bLen [d] st k = k (.int xs.length) st := by
  unfold bLen
  simp only [h]
theorem ty_of {st : Sto} {d : D} {xs : List D} (h : deref st d = .lst xs) : tyD d = "list" := by
  cases d <;> first | rfl | cases h
theorem p__law_same (n : Nat) : BodyD false N__law_same (sp__law_same (n + 1)) (t__law_same (sp__law_same n)) := by
  rintro ds st kk ⟨d, e, rfl, hsm, h⟩
  rw [st__law_same]
  simp only [t__law_same]
  cases e with
  | lst ys =>
    simp only [sm] at hsm
    split at hsm
    · rename_i xs hd
      have hl : xs.length = ys.length := by
        simp only [Bool.and_eq_true, beq_iff_eq] at hsm
        exact hsm.1
      (try simp only [BEq.rfl, ↓e_v0, ↓e_vs, ↓e_c, ↓e_op, ↓e_un, ↓e_test, ↓e_testK, ↓e_tru, ↓e_truL, ↓e_truT, ↓e_truB, ↓e_truI, ↓e_truN, ↓e_truS, ↓e_not, ↓e_and, ↓e_or, ↓e_andv, ↓e_notv, ↓e_andK, ↓e_notK, ↓e_if, ↓e_nil, ↓e_cons, ↓e_tup, ↓e_lst, ↓e_new, ↓e_call, ↓e_callK, ↓e_drop, ↓e_ret, ↓e_pass, ↓e_ifS, ↓e_g0, ↓e_gs, ↓e_gnil, ↓e_gcons, ↓e_gtup, ↓e_asg, ↓e_par, ↓e_parK, ↓e_par3, ↓e_par3K, ↓e_no, ↓e_some, ↓e_someK, ↓e_cut, ↓e_b, ↓e_iter, ↓e_iterL, ↓e_iterT, ↓e_iterS, ↓e_rng1, ↓e_rng1K, ↓e_rng2, ↓e_rng2K, ↓e_enum, ↓e_enumL, ↓e_enumT, ↓e_zip, ↓e_zipL, ↓e_zipT, ↓e_for, ↓e_lc, ↓e_lcNew, ↓e_forN, ↓e_forC, ↓e_lcN, ↓e_lcC, ↓e_srcN, ↓e_srcC, ↓e_meth, ↓e_isL, ↓e_sub, ↓e_isi, ↓e_yes, ↓e_addI, ↓e_addB, ↓e_addS, ↓e_addT, ↓e_addL, ↓e_subI, ↓e_mulI, ↓e_mulT, ↓e_mulL, ↓e_divI, ↓e_modI, ↓e_powI, ↓e_negI, ↓e_cmpI, ↓e_eq, ↓e_ne, ↓e_isn, ↓e_isnn, ↓e_isb, ↓e_ixL, ↓e_ixKL, ↓e_ixT, ↓e_cutL, ↓e_cutKL, ↓e_cutT, ↓e_lenL, ↓e_lenKL, ↓e_lenT, ↓e_abs, ↓e_intI, ↓e_intB, ↓e_max2, ↓e_listNL, ↓e_listNT, ↓e_tupL, ↓e_tupT, ↓e_drI, ↓e_drB, ↓e_drS, ↓e_drN, ↓e_drL, ↓e_drT, ↓e_seq, ↓e_inL, ↓e_inKL, ↓e_inT, ↓e_inFlat, ↓e_drK, ↓e_addBI, ↓e_subBI, ↓e_subIB, ↓e_drG, ↓e_dnew, ↓e_dgetF, ↓e_dget2, ↓e_dgPut, ↓e_join, ↓e_joinL, ↓e_cutS, ↓e_mulS, ↓e_sortV, ↓e_tidx, ↓e_mulNewL, ↓e_sortedPL, ↓e_countL, ↓e_indexL, ↓e_tryGet, ↓e_isC, ↓e_isCK, ↓e_what, ↓e_whatK, ↓e_sil, ↓e_callX, ↓e_raise, e_kyI, e_kyS, Nat.reduceAdd, Nat.zero_add, List.length_cons, List.length_nil, List.length_map, Nat.reduceLeDiff, and_true, true_and, if_true, ite_true, decide_eq_true_eq, Bool.not_eq_true, Bool.false_eq_true, if_false, ite_false, ↓reduceIte, Int.reduceToNat, Int.reducePow, ne_eq, q_okI, q_okB, q_okN, q_okS, q_okL, q_okT, q_oks0, q_oks1, q_eqII, q_eqBB, q_eqSS, q_eqLL, q_eqTT, q_eqNN, q_eqNI, q_eqIN, q_eqs0, q_eqs1, Bool.true_and, Bool.and_true, beq_iff_eq, reduceCtorEq, wipeE, List.set_cons_zero, List.set_cons_succ, List.set_nil, Bool.not_true, Bool.not_false, List.getElem?_cons_zero, List.getElem?_cons_succ, ty_of hd, y_lt_NoneType, y_lt_bool, y_lt_int, y_lt_str, y_lt_list, y_lt_tuple, y_l_NoneType, y_l_bool, y_l_int, y_l_str, y_l_list, y_l_tuple, y_t_NoneType, y_t_bool, y_t_int, y_t_str, y_t_list, y_t_tuple, y_sb_NoneType, y_sb_bool, y_sb_int, y_sb_str, y_sb_list, y_sb_tuple, y_b_NoneType, y_b_bool, y_b_int, y_b_str, y_b_list, y_b_tuple, y_i_NoneType, y_i_bool, y_i_int, y_i_str, y_i_list, y_i_tuple, ty_non, ty_bl, ty_int, ty_str, ty_lst, ty_tup, e_lenG hd, e_zipG hd, hl])
      intro hc
      refine ⟨by rw [zipD_length]; omega, ?_⟩
      refine same_loop n _ _ _ _ rfl _ st (by rw [List.append_nil]; exact srcOk_of hd) xs ys [] hsm ?_
      (try simp only [BEq.rfl, ↓e_v0, ↓e_vs, ↓e_c, ↓e_op, ↓e_un, ↓e_test, ↓e_testK, ↓e_tru, ↓e_truL, ↓e_truT, ↓e_truB, ↓e_truI, ↓e_truN, ↓e_truS, ↓e_not, ↓e_and, ↓e_or, ↓e_andv, ↓e_notv, ↓e_andK, ↓e_notK, ↓e_if, ↓e_nil, ↓e_cons, ↓e_tup, ↓e_lst, ↓e_new, ↓e_call, ↓e_callK, ↓e_drop, ↓e_ret, ↓e_pass, ↓e_ifS, ↓e_g0, ↓e_gs, ↓e_gnil, ↓e_gcons, ↓e_gtup, ↓e_asg, ↓e_par, ↓e_parK, ↓e_par3, ↓e_par3K, ↓e_no, ↓e_some, ↓e_someK, ↓e_cut, ↓e_b, ↓e_iter, ↓e_iterL, ↓e_iterT, ↓e_iterS, ↓e_rng1, ↓e_rng1K, ↓e_rng2, ↓e_rng2K, ↓e_enum, ↓e_enumL, ↓e_enumT, ↓e_zip, ↓e_zipL, ↓e_zipT, ↓e_for, ↓e_lc, ↓e_lcNew, ↓e_forN, ↓e_forC, ↓e_lcN, ↓e_lcC, ↓e_srcN, ↓e_srcC, ↓e_meth, ↓e_isL, ↓e_sub, ↓e_isi, ↓e_yes, ↓e_addI, ↓e_addB, ↓e_addS, ↓e_addT, ↓e_addL, ↓e_subI, ↓e_mulI, ↓e_mulT, ↓e_mulL, ↓e_divI, ↓e_modI, ↓e_powI, ↓e_negI, ↓e_cmpI, ↓e_eq, ↓e_ne, ↓e_isn, ↓e_isnn, ↓e_isb, ↓e_ixL, ↓e_ixKL, ↓e_ixT, ↓e_cutL, ↓e_cutKL, ↓e_cutT, ↓e_lenL, ↓e_lenKL, ↓e_lenT, ↓e_abs, ↓e_intI, ↓e_intB, ↓e_max2, ↓e_listNL, ↓e_listNT, ↓e_tupL, ↓e_tupT, ↓e_drI, ↓e_drB, ↓e_drS, ↓e_drN, ↓e_drL, ↓e_drT, ↓e_seq, ↓e_inL, ↓e_inKL, ↓e_inT, ↓e_inFlat, ↓e_drK, ↓e_addBI, ↓e_subBI, ↓e_subIB, ↓e_drG, ↓e_dnew, ↓e_dgetF, ↓e_dget2, ↓e_dgPut, ↓e_join, ↓e_joinL, ↓e_cutS, ↓e_mulS, ↓e_sortV, ↓e_tidx, ↓e_mulNewL, ↓e_sortedPL, ↓e_countL, ↓e_indexL, ↓e_tryGet, ↓e_isC, ↓e_isCK, ↓e_what, ↓e_whatK, ↓e_sil, ↓e_callX, ↓e_raise, e_kyI, e_kyS, Nat.reduceAdd, Nat.zero_add, List.length_cons, List.length_nil, List.length_map, Nat.reduceLeDiff, and_true, true_and, if_true, ite_true, decide_eq_true_eq, Bool.not_eq_true, Bool.false_eq_true, if_false, ite_false, ↓reduceIte, Int.reduceToNat, Int.reducePow, ne_eq, q_okI, q_okB, q_okN, q_okS, q_okL, q_okT, q_oks0, q_oks1, q_eqII, q_eqBB, q_eqSS, q_eqLL, q_eqTT, q_eqNN, q_eqNI, q_eqIN, q_eqs0, q_eqs1, Bool.true_and, Bool.and_true, beq_iff_eq, reduceCtorEq, wipeE, List.set_cons_zero, List.set_cons_succ, List.set_nil, Bool.not_true, Bool.not_false, List.getElem?_cons_zero, List.getElem?_cons_succ, e_all (blsD_rep _), all_rep, List.nil_append])
      exact h
    · cases hsm
  | obj j =>
    simp only [sm] at hsm
    split at hsm
    case h_2 => cases hsm
    rename_i ys hj
    split at hsm
    · rename_i xs hd
      have hl : xs.length = ys.length := by
        simp only [Bool.and_eq_true, beq_iff_eq] at hsm
        exact hsm.1
      (try simp only [BEq.rfl, ↓e_v0, ↓e_vs, ↓e_c, ↓e_op, ↓e_un, ↓e_test, ↓e_testK, ↓e_tru, ↓e_truL, ↓e_truT, ↓e_truB, ↓e_truI, ↓e_truN, ↓e_truS, ↓e_not, ↓e_and, ↓e_or, ↓e_andv, ↓e_notv, ↓e_andK, ↓e_notK, ↓e_if, ↓e_nil, ↓e_cons, ↓e_tup, ↓e_lst, ↓e_new, ↓e_call, ↓e_callK, ↓e_drop, ↓e_ret, ↓e_pass, ↓e_ifS, ↓e_g0, ↓e_gs, ↓e_gnil, ↓e_gcons, ↓e_gtup, ↓e_asg, ↓e_par, ↓e_parK, ↓e_par3, ↓e_par3K, ↓e_no, ↓e_some, ↓e_someK, ↓e_cut, ↓e_b, ↓e_iter, ↓e_iterL, ↓e_iterT, ↓e_iterS, ↓e_rng1, ↓e_rng1K, ↓e_rng2, ↓e_rng2K, ↓e_enum, ↓e_enumL, ↓e_enumT, ↓e_zip, ↓e_zipL, ↓e_zipT, ↓e_for, ↓e_lc, ↓e_lcNew, ↓e_forN, ↓e_forC, ↓e_lcN, ↓e_lcC, ↓e_srcN, ↓e_srcC, ↓e_meth, ↓e_isL, ↓e_sub, ↓e_isi, ↓e_yes, ↓e_addI, ↓e_addB, ↓e_addS, ↓e_addT, ↓e_addL, ↓e_subI, ↓e_mulI, ↓e_mulT, ↓e_mulL, ↓e_divI, ↓e_modI, ↓e_powI, ↓e_negI, ↓e_cmpI, ↓e_eq, ↓e_ne, ↓e_isn, ↓e_isnn, ↓e_isb, ↓e_ixL, ↓e_ixKL, ↓e_ixT, ↓e_cutL, ↓e_cutKL, ↓e_cutT, ↓e_lenL, ↓e_lenKL, ↓e_lenT, ↓e_abs, ↓e_intI, ↓e_intB, ↓e_max2, ↓e_listNL, ↓e_listNT, ↓e_tupL, ↓e_tupT, ↓e_drI, ↓e_drB, ↓e_drS, ↓e_drN, ↓e_drL, ↓e_drT, ↓e_seq, ↓e_inL, ↓e_inKL, ↓e_inT, ↓e_inFlat, ↓e_drK, ↓e_addBI, ↓e_subBI, ↓e_subIB, ↓e_drG, ↓e_dnew, ↓e_dgetF, ↓e_dget2, ↓e_dgPut, ↓e_join, ↓e_joinL, ↓e_cutS, ↓e_mulS, ↓e_sortV, ↓e_tidx, ↓e_mulNewL, ↓e_sortedPL, ↓e_countL, ↓e_indexL, ↓e_tryGet, ↓e_isC, ↓e_isCK, ↓e_what, ↓e_whatK, ↓e_sil, ↓e_callX, ↓e_raise, e_kyI, e_kyS, Nat.reduceAdd, Nat.zero_add, List.length_cons, List.length_nil, List.length_map, Nat.reduceLeDiff, and_true, true_and, if_true, ite_true, decide_eq_true_eq, Bool.not_eq_true, Bool.false_eq_true, if_false, ite_false, ↓reduceIte, Int.reduceToNat, Int.reducePow, ne_eq, q_okI, q_okB, q_okN, q_okS, q_okL, q_okT, q_oks0, q_oks1, q_eqII, q_eqBB, q_eqSS, q_eqLL, q_eqTT, q_eqNN, q_eqNI, q_eqIN, q_eqs0, q_eqs1, Bool.true_and, Bool.and_true, beq_iff_eq, reduceCtorEq, wipeE, List.set_cons_zero, List.set_cons_succ, List.set_nil, Bool.not_true, Bool.not_false, List.getElem?_cons_zero, List.getElem?_cons_succ, ty_of hd, ty_obj, y_lt_NoneType, y_lt_bool, y_lt_int, y_lt_str, y_lt_list, y_lt_tuple, y_l_NoneType, y_l_bool, y_l_int, y_l_str, y_l_list, y_l_tuple, y_t_NoneType, y_t_bool, y_t_int, y_t_str, y_t_list, y_t_tuple, y_sb_NoneType, y_sb_bool, y_sb_int, y_sb_str, y_sb_list, y_sb_tuple, y_b_NoneType, y_b_bool, y_b_int, y_b_str, y_b_list, y_b_tuple, y_i_NoneType, y_i_bool, y_i_int, y_i_str, y_i_list, y_i_tuple, ty_non, ty_bl, ty_int, ty_str, ty_lst, ty_tup, e_lenG hd, e_lenO hj, e_zipGO hd hj, hl])
      intro hc
      refine ⟨by rw [zipD_length]; omega, ?_⟩
      refine same_loop n _ _ _ _ rfl _ st (srcOk_app hj (srcOk_of hd)) xs ys [] hsm ?_
      (try simp only [BEq.rfl, ↓e_v0, ↓e_vs, ↓e_c, ↓e_op, ↓e_un, ↓e_test, ↓e_testK, ↓e_tru, ↓e_truL, ↓e_truT, ↓e_truB, ↓e_truI, ↓e_truN, ↓e_truS, ↓e_not, ↓e_and, ↓e_or, ↓e_andv, ↓e_notv, ↓e_andK, ↓e_notK, ↓e_if, ↓e_nil, ↓e_cons, ↓e_tup, ↓e_lst, ↓e_new, ↓e_call, ↓e_callK, ↓e_drop, ↓e_ret, ↓e_pass, ↓e_ifS, ↓e_g0, ↓e_gs, ↓e_gnil, ↓e_gcons, ↓e_gtup, ↓e_asg, ↓e_par, ↓e_parK, ↓e_par3, ↓e_par3K, ↓e_no, ↓e_some, ↓e_someK, ↓e_cut, ↓e_b, ↓e_iter, ↓e_iterL, ↓e_iterT, ↓e_iterS, ↓e_rng1, ↓e_rng1K, ↓e_rng2, ↓e_rng2K, ↓e_enum, ↓e_enumL, ↓e_enumT, ↓e_zip, ↓e_zipL, ↓e_zipT, ↓e_for, ↓e_lc, ↓e_lcNew, ↓e_forN, ↓e_forC, ↓e_lcN, ↓e_lcC, ↓e_srcN, ↓e_srcC, ↓e_meth, ↓e_isL, ↓e_sub, ↓e_isi, ↓e_yes, ↓e_addI, ↓e_addB, ↓e_addS, ↓e_addT, ↓e_addL, ↓e_subI, ↓e_mulI, ↓e_mulT, ↓e_mulL, ↓e_divI, ↓e_modI, ↓e_powI, ↓e_negI, ↓e_cmpI, ↓e_eq, ↓e_ne, ↓e_isn, ↓e_isnn, ↓e_isb, ↓e_ixL, ↓e_ixKL, ↓e_ixT, ↓e_cutL, ↓e_cutKL, ↓e_cutT, ↓e_lenL, ↓e_lenKL, ↓e_lenT, ↓e_abs, ↓e_intI, ↓e_intB, ↓e_max2, ↓e_listNL, ↓e_listNT, ↓e_tupL, ↓e_tupT, ↓e_drI, ↓e_drB, ↓e_drS, ↓e_drN, ↓e_drL, ↓e_drT, ↓e_seq, ↓e_inL, ↓e_inKL, ↓e_inT, ↓e_inFlat, ↓e_drK, ↓e_addBI, ↓e_subBI, ↓e_subIB, ↓e_drG, ↓e_dnew, ↓e_dgetF, ↓e_dget2, ↓e_dgPut, ↓e_join, ↓e_joinL, ↓e_cutS, ↓e_mulS, ↓e_sortV, ↓e_tidx, ↓e_mulNewL, ↓e_sortedPL, ↓e_countL, ↓e_indexL, ↓e_tryGet, ↓e_isC, ↓e_isCK, ↓e_what, ↓e_whatK, ↓e_sil, ↓e_callX, ↓e_raise, e_kyI, e_kyS, Nat.reduceAdd, Nat.zero_add, List.length_cons, List.length_nil, List.length_map, Nat.reduceLeDiff, and_true, true_and, if_true, ite_true, decide_eq_true_eq, Bool.not_eq_true, Bool.false_eq_true, if_false, ite_false, ↓reduceIte, Int.reduceToNat, Int.reducePow, ne_eq, q_okI, q_okB, q_okN, q_okS, q_okL, q_okT, q_oks0, q_oks1, q_eqII, q_eqBB, q_eqSS, q_eqLL, q_eqTT, q_eqNN, q_eqNI, q_eqIN, q_eqs0, q_eqs1, Bool.true_and, Bool.and_true, beq_iff_eq, reduceCtorEq, wipeE, List.set_cons_zero, List.set_cons_succ, List.set_nil, Bool.not_true, Bool.not_false, List.getElem?_cons_zero, List.getElem?_cons_succ, e_all (blsD_rep _), all_rep, List.nil_append])
      exact h
    · cases hsm
  | tup ys =>
    simp only [sm] at hsm
    cases d
    case tup xs =>
      simp only at hsm
      have hl : xs.length = ys.length := by
        simp only [Bool.and_eq_true, beq_iff_eq] at hsm
        exact hsm.1
      (try simp only [BEq.rfl, ↓e_v0, ↓e_vs, ↓e_c, ↓e_op, ↓e_un, ↓e_test, ↓e_testK, ↓e_tru, ↓e_truL, ↓e_truT, ↓e_truB, ↓e_truI, ↓e_truN, ↓e_truS, ↓e_not, ↓e_and, ↓e_or, ↓e_andv, ↓e_notv, ↓e_andK, ↓e_notK, ↓e_if, ↓e_nil, ↓e_cons, ↓e_tup, ↓e_lst, ↓e_new, ↓e_call, ↓e_callK, ↓e_drop, ↓e_ret, ↓e_pass, ↓e_ifS, ↓e_g0, ↓e_gs, ↓e_gnil, ↓e_gcons, ↓e_gtup, ↓e_asg, ↓e_par, ↓e_parK, ↓e_par3, ↓e_par3K, ↓e_no, ↓e_some, ↓e_someK, ↓e_cut, ↓e_b, ↓e_iter, ↓e_iterL, ↓e_iterT, ↓e_iterS, ↓e_rng1, ↓e_rng1K, ↓e_rng2, ↓e_rng2K, ↓e_enum, ↓e_enumL, ↓e_enumT, ↓e_zip, ↓e_zipL, ↓e_zipT, ↓e_for, ↓e_lc, ↓e_lcNew, ↓e_forN, ↓e_forC, ↓e_lcN, ↓e_lcC, ↓e_srcN, ↓e_srcC, ↓e_meth, ↓e_isL, ↓e_sub, ↓e_isi, ↓e_yes, ↓e_addI, ↓e_addB, ↓e_addS, ↓e_addT, ↓e_addL, ↓e_subI, ↓e_mulI, ↓e_mulT, ↓e_mulL, ↓e_divI, ↓e_modI, ↓e_powI, ↓e_negI, ↓e_cmpI, ↓e_eq, ↓e_ne, ↓e_isn, ↓e_isnn, ↓e_isb, ↓e_ixL, ↓e_ixKL, ↓e_ixT, ↓e_cutL, ↓e_cutKL, ↓e_cutT, ↓e_lenL, ↓e_lenKL, ↓e_lenT, ↓e_abs, ↓e_intI, ↓e_intB, ↓e_max2, ↓e_listNL, ↓e_listNT, ↓e_tupL, ↓e_tupT, ↓e_drI, ↓e_drB, ↓e_drS, ↓e_drN, ↓e_drL, ↓e_drT, ↓e_seq, ↓e_inL, ↓e_inKL, ↓e_inT, ↓e_inFlat, ↓e_drK, ↓e_addBI, ↓e_subBI, ↓e_subIB, ↓e_drG, ↓e_dnew, ↓e_dgetF, ↓e_dget2, ↓e_dgPut, ↓e_join, ↓e_joinL, ↓e_cutS, ↓e_mulS, ↓e_sortV, ↓e_tidx, ↓e_mulNewL, ↓e_sortedPL, ↓e_countL, ↓e_indexL, ↓e_tryGet, ↓e_isC, ↓e_isCK, ↓e_what, ↓e_whatK, ↓e_sil, ↓e_callX, ↓e_raise, e_kyI, e_kyS, Nat.reduceAdd, Nat.zero_add, List.length_cons, List.length_nil, List.length_map, Nat.reduceLeDiff, and_true, true_and, if_true, ite_true, decide_eq_true_eq, Bool.not_eq_true, Bool.false_eq_true, if_false, ite_false, ↓reduceIte, Int.reduceToNat, Int.reducePow, ne_eq, q_okI, q_okB, q_okN, q_okS, q_okL, q_okT, q_oks0, q_oks1, q_eqII, q_eqBB, q_eqSS, q_eqLL, q_eqTT, q_eqNN, q_eqNI, q_eqIN, q_eqs0, q_eqs1, Bool.true_and, Bool.and_true, beq_iff_eq, reduceCtorEq, wipeE, List.set_cons_zero, List.set_cons_succ, List.set_nil, Bool.not_true, Bool.not_false, List.getElem?_cons_zero, List.getElem?_cons_succ, y_lt_NoneType, y_lt_bool, y_lt_int, y_lt_str, y_lt_list, y_lt_tuple, y_l_NoneType, y_l_bool, y_l_int, y_l_str, y_l_list, y_l_tuple, y_t_NoneType, y_t_bool, y_t_int, y_t_str, y_t_list, y_t_tuple, y_sb_NoneType, y_sb_bool, y_sb_int, y_sb_str, y_sb_list, y_sb_tuple, y_b_NoneType, y_b_bool, y_b_int, y_b_str, y_b_list, y_b_tuple, y_i_NoneType, y_i_bool, y_i_int, y_i_str, y_i_list, y_i_tuple, ty_non, ty_bl, ty_int, ty_str, ty_lst, ty_tup, hl])
      intro hc
      refine ⟨by rw [zipD_length]; omega, ?_⟩
      refine same_loop n [] _ _ _ rfl _ st trivial xs ys [] hsm ?_
      (try simp only [BEq.rfl, ↓e_v0, ↓e_vs, ↓e_c, ↓e_op, ↓e_un, ↓e_test, ↓e_testK, ↓e_tru, ↓e_truL, ↓e_truT, ↓e_truB, ↓e_truI, ↓e_truN, ↓e_truS, ↓e_not, ↓e_and, ↓e_or, ↓e_andv, ↓e_notv, ↓e_andK, ↓e_notK, ↓e_if, ↓e_nil, ↓e_cons, ↓e_tup, ↓e_lst, ↓e_new, ↓e_call, ↓e_callK, ↓e_drop, ↓e_ret, ↓e_pass, ↓e_ifS, ↓e_g0, ↓e_gs, ↓e_gnil, ↓e_gcons, ↓e_gtup, ↓e_asg, ↓e_par, ↓e_parK, ↓e_par3, ↓e_par3K, ↓e_no, ↓e_some, ↓e_someK, ↓e_cut, ↓e_b, ↓e_iter, ↓e_iterL, ↓e_iterT, ↓e_iterS, ↓e_rng1, ↓e_rng1K, ↓e_rng2, ↓e_rng2K, ↓e_enum, ↓e_enumL, ↓e_enumT, ↓e_zip, ↓e_zipL, ↓e_zipT, ↓e_for, ↓e_lc, ↓e_lcNew, ↓e_forN, ↓e_forC, ↓e_lcN, ↓e_lcC, ↓e_srcN, ↓e_srcC, ↓e_meth, ↓e_isL, ↓e_sub, ↓e_isi, ↓e_yes, ↓e_addI, ↓e_addB, ↓e_addS, ↓e_addT, ↓e_addL, ↓e_subI, ↓e_mulI, ↓e_mulT, ↓e_mulL, ↓e_divI, ↓e_modI, ↓e_powI, ↓e_negI, ↓e_cmpI, ↓e_eq, ↓e_ne, ↓e_isn, ↓e_isnn, ↓e_isb, ↓e_ixL, ↓e_ixKL, ↓e_ixT, ↓e_cutL, ↓e_cutKL, ↓e_cutT, ↓e_lenL, ↓e_lenKL, ↓e_lenT, ↓e_abs, ↓e_intI, ↓e_intB, ↓e_max2, ↓e_listNL, ↓e_listNT, ↓e_tupL, ↓e_tupT, ↓e_drI, ↓e_drB, ↓e_drS, ↓e_drN, ↓e_drL, ↓e_drT, ↓e_seq, ↓e_inL, ↓e_inKL, ↓e_inT, ↓e_inFlat, ↓e_drK, ↓e_addBI, ↓e_subBI, ↓e_subIB, ↓e_drG, ↓e_dnew, ↓e_dgetF, ↓e_dget2, ↓e_dgPut, ↓e_join, ↓e_joinL, ↓e_cutS, ↓e_mulS, ↓e_sortV, ↓e_tidx, ↓e_mulNewL, ↓e_sortedPL, ↓e_countL, ↓e_indexL, ↓e_tryGet, ↓e_isC, ↓e_isCK, ↓e_what, ↓e_whatK, ↓e_sil, ↓e_callX, ↓e_raise, e_kyI, e_kyS, Nat.reduceAdd, Nat.zero_add, List.length_cons, List.length_nil, List.length_map, Nat.reduceLeDiff, and_true, true_and, if_true, ite_true, decide_eq_true_eq, Bool.not_eq_true, Bool.false_eq_true, if_false, ite_false, ↓reduceIte, Int.reduceToNat, Int.reducePow, ne_eq, q_okI, q_okB, q_okN, q_okS, q_okL, q_okT, q_oks0, q_oks1, q_eqII, q_eqBB, q_eqSS, q_eqLL, q_eqTT, q_eqNN, q_eqNI, q_eqIN, q_eqs0, q_eqs1, Bool.true_and, Bool.and_true, beq_iff_eq, reduceCtorEq, wipeE, List.set_cons_zero, List.set_cons_succ, List.set_nil, Bool.not_true, Bool.not_false, List.getElem?_cons_zero, List.getElem?_cons_succ, e_all (blsD_rep _), all_rep, List.nil_append])
      exact h
    all_goals cases hsm
  | non =>
    cases d <;> simp only [sm, Bool.false_eq_true] at hsm
    (try simp only [BEq.rfl, ↓e_v0, ↓e_vs, ↓e_c, ↓e_op, ↓e_un, ↓e_test, ↓e_testK, ↓e_tru, ↓e_truL, ↓e_truT, ↓e_truB, ↓e_truI, ↓e_truN, ↓e_truS, ↓e_not, ↓e_and, ↓e_or, ↓e_andv, ↓e_notv, ↓e_andK, ↓e_notK, ↓e_if, ↓e_nil, ↓e_cons, ↓e_tup, ↓e_lst, ↓e_new, ↓e_call, ↓e_callK, ↓e_drop, ↓e_ret, ↓e_pass, ↓e_ifS, ↓e_g0, ↓e_gs, ↓e_gnil, ↓e_gcons, ↓e_gtup, ↓e_asg, ↓e_par, ↓e_parK, ↓e_par3, ↓e_par3K, ↓e_no, ↓e_some, ↓e_someK, ↓e_cut, ↓e_b, ↓e_iter, ↓e_iterL, ↓e_iterT, ↓e_iterS, ↓e_rng1, ↓e_rng1K, ↓e_rng2, ↓e_rng2K, ↓e_enum, ↓e_enumL, ↓e_enumT, ↓e_zip, ↓e_zipL, ↓e_zipT, ↓e_for, ↓e_lc, ↓e_lcNew, ↓e_forN, ↓e_forC, ↓e_lcN, ↓e_lcC, ↓e_srcN, ↓e_srcC, ↓e_meth, ↓e_isL, ↓e_sub, ↓e_isi, ↓e_yes, ↓e_addI, ↓e_addB, ↓e_addS, ↓e_addT, ↓e_addL, ↓e_subI, ↓e_mulI, ↓e_mulT, ↓e_mulL, ↓e_divI, ↓e_modI, ↓e_powI, ↓e_negI, ↓e_cmpI, ↓e_eq, ↓e_ne, ↓e_isn, ↓e_isnn, ↓e_isb, ↓e_ixL, ↓e_ixKL, ↓e_ixT, ↓e_cutL, ↓e_cutKL, ↓e_cutT, ↓e_lenL, ↓e_lenKL, ↓e_lenT, ↓e_abs, ↓e_intI, ↓e_intB, ↓e_max2, ↓e_listNL, ↓e_listNT, ↓e_tupL, ↓e_tupT, ↓e_drI, ↓e_drB, ↓e_drS, ↓e_drN, ↓e_drL, ↓e_drT, ↓e_seq, ↓e_inL, ↓e_inKL, ↓e_inT, ↓e_inFlat, ↓e_drK, ↓e_addBI, ↓e_subBI, ↓e_subIB, ↓e_drG, ↓e_dnew, ↓e_dgetF, ↓e_dget2, ↓e_dgPut, ↓e_join, ↓e_joinL, ↓e_cutS, ↓e_mulS, ↓e_sortV, ↓e_tidx, ↓e_mulNewL, ↓e_sortedPL, ↓e_countL, ↓e_indexL, ↓e_tryGet, ↓e_isC, ↓e_isCK, ↓e_what, ↓e_whatK, ↓e_sil, ↓e_callX, ↓e_raise, e_kyI, e_kyS, Nat.reduceAdd, Nat.zero_add, List.length_cons, List.length_nil, List.length_map, Nat.reduceLeDiff, and_true, true_and, if_true, ite_true, decide_eq_true_eq, Bool.not_eq_true, Bool.false_eq_true, if_false, ite_false, ↓reduceIte, Int.reduceToNat, Int.reducePow, ne_eq, q_okI, q_okB, q_okN, q_okS, q_okL, q_okT, q_oks0, q_oks1, q_eqII, q_eqBB, q_eqSS, q_eqLL, q_eqTT, q_eqNN, q_eqNI, q_eqIN, q_eqs0, q_eqs1, Bool.true_and, Bool.and_true, beq_iff_eq, reduceCtorEq, wipeE, List.set_cons_zero, List.set_cons_succ, List.set_nil, Bool.not_true, Bool.not_false, List.getElem?_cons_zero, List.getElem?_cons_succ, y_lt_NoneType, y_lt_bool, y_lt_int, y_lt_str, y_lt_list, y_lt_tuple, y_l_NoneType, y_l_bool, y_l_int, y_l_str, y_l_list, y_l_tuple, y_t_NoneType, y_t_bool, y_t_int, y_t_str, y_t_list, y_t_tuple, y_sb_NoneType, y_sb_bool, y_sb_int, y_sb_str, y_sb_list, y_sb_tuple, y_b_NoneType, y_b_bool, y_b_int, y_b_str, y_b_list, y_b_tuple, y_i_NoneType, y_i_bool, y_i_int, y_i_str, y_i_list, y_i_tuple, ty_non, ty_bl, ty_int, ty_str, ty_lst, ty_tup])
    exact h
  | bl b =>
    cases d <;> simp only [sm, Bool.false_eq_true] at hsm
    (try simp only [BEq.rfl, ↓e_v0, ↓e_vs, ↓e_c, ↓e_op, ↓e_un, ↓e_test, ↓e_testK, ↓e_tru, ↓e_truL, ↓e_truT, ↓e_truB, ↓e_truI, ↓e_truN, ↓e_truS, ↓e_not, ↓e_and, ↓e_or, ↓e_andv, ↓e_notv, ↓e_andK, ↓e_notK, ↓e_if, ↓e_nil, ↓e_cons, ↓e_tup, ↓e_lst, ↓e_new, ↓e_call, ↓e_callK, ↓e_drop, ↓e_ret, ↓e_pass, ↓e_ifS, ↓e_g0, ↓e_gs, ↓e_gnil, ↓e_gcons, ↓e_gtup, ↓e_asg, ↓e_par, ↓e_parK, ↓e_par3, ↓e_par3K, ↓e_no, ↓e_some, ↓e_someK, ↓e_cut, ↓e_b, ↓e_iter, ↓e_iterL, ↓e_iterT, ↓e_iterS, ↓e_rng1, ↓e_rng1K, ↓e_rng2, ↓e_rng2K, ↓e_enum, ↓e_enumL, ↓e_enumT, ↓e_zip, ↓e_zipL, ↓e_zipT, ↓e_for, ↓e_lc, ↓e_lcNew, ↓e_forN, ↓e_forC, ↓e_lcN, ↓e_lcC, ↓e_srcN, ↓e_srcC, ↓e_meth, ↓e_isL, ↓e_sub, ↓e_isi, ↓e_yes, ↓e_addI, ↓e_addB, ↓e_addS, ↓e_addT, ↓e_addL, ↓e_subI, ↓e_mulI, ↓e_mulT, ↓e_mulL, ↓e_divI, ↓e_modI, ↓e_powI, ↓e_negI, ↓e_cmpI, ↓e_eq, ↓e_ne, ↓e_isn, ↓e_isnn, ↓e_isb, ↓e_ixL, ↓e_ixKL, ↓e_ixT, ↓e_cutL, ↓e_cutKL, ↓e_cutT, ↓e_lenL, ↓e_lenKL, ↓e_lenT, ↓e_abs, ↓e_intI, ↓e_intB, ↓e_max2, ↓e_listNL, ↓e_listNT, ↓e_tupL, ↓e_tupT, ↓e_drI, ↓e_drB, ↓e_drS, ↓e_drN, ↓e_drL, ↓e_drT, ↓e_seq, ↓e_inL, ↓e_inKL, ↓e_inT, ↓e_inFlat, ↓e_drK, ↓e_addBI, ↓e_subBI, ↓e_subIB, ↓e_drG, ↓e_dnew, ↓e_dgetF, ↓e_dget2, ↓e_dgPut, ↓e_join, ↓e_joinL, ↓e_cutS, ↓e_mulS, ↓e_sortV, ↓e_tidx, ↓e_mulNewL, ↓e_sortedPL, ↓e_countL, ↓e_indexL, ↓e_tryGet, ↓e_isC, ↓e_isCK, ↓e_what, ↓e_whatK, ↓e_sil, ↓e_callX, ↓e_raise, e_kyI, e_kyS, Nat.reduceAdd, Nat.zero_add, List.length_cons, List.length_nil, List.length_map, Nat.reduceLeDiff, and_true, true_and, if_true, ite_true, decide_eq_true_eq, Bool.not_eq_true, Bool.false_eq_true, if_false, ite_false, ↓reduceIte, Int.reduceToNat, Int.reducePow, ne_eq, q_okI, q_okB, q_okN, q_okS, q_okL, q_okT, q_oks0, q_oks1, q_eqII, q_eqBB, q_eqSS, q_eqLL, q_eqTT, q_eqNN, q_eqNI, q_eqIN, q_eqs0, q_eqs1, Bool.true_and, Bool.and_true, beq_iff_eq, reduceCtorEq, wipeE, List.set_cons_zero, List.set_cons_succ, List.set_nil, Bool.not_true, Bool.not_false, List.getElem?_cons_zero, List.getElem?_cons_succ, y_lt_NoneType, y_lt_bool, y_lt_int, y_lt_str, y_lt_list, y_lt_tuple, y_l_NoneType, y_l_bool, y_l_int, y_l_str, y_l_list, y_l_tuple, y_t_NoneType, y_t_bool, y_t_int, y_t_str, y_t_list, y_t_tuple, y_sb_NoneType, y_sb_bool, y_sb_int, y_sb_str, y_sb_list, y_sb_tuple, y_b_NoneType, y_b_bool, y_b_int, y_b_str, y_b_list, y_b_tuple, y_i_NoneType, y_i_bool, y_i_int, y_i_str, y_i_list, y_i_tuple, ty_non, ty_bl, ty_int, ty_str, ty_lst, ty_tup])
    rw [hsm]
    simpa [DL.isNon] using h
  | int b =>
    cases d <;> simp only [sm, Bool.false_eq_true] at hsm
    (try simp only [BEq.rfl, ↓e_v0, ↓e_vs, ↓e_c, ↓e_op, ↓e_un, ↓e_test, ↓e_testK, ↓e_tru, ↓e_truL, ↓e_truT, ↓e_truB, ↓e_truI, ↓e_truN, ↓e_truS, ↓e_not, ↓e_and, ↓e_or, ↓e_andv, ↓e_notv, ↓e_andK, ↓e_notK, ↓e_if, ↓e_nil, ↓e_cons, ↓e_tup, ↓e_lst, ↓e_new, ↓e_call, ↓e_callK, ↓e_drop, ↓e_ret, ↓e_pass, ↓e_ifS, ↓e_g0, ↓e_gs, ↓e_gnil, ↓e_gcons, ↓e_gtup, ↓e_asg, ↓e_par, ↓e_parK, ↓e_par3, ↓e_par3K, ↓e_no, ↓e_some, ↓e_someK, ↓e_cut, ↓e_b, ↓e_iter, ↓e_iterL, ↓e_iterT, ↓e_iterS, ↓e_rng1, ↓e_rng1K, ↓e_rng2, ↓e_rng2K, ↓e_enum, ↓e_enumL, ↓e_enumT, ↓e_zip, ↓e_zipL, ↓e_zipT, ↓e_for, ↓e_lc, ↓e_lcNew, ↓e_forN, ↓e_forC, ↓e_lcN, ↓e_lcC, ↓e_srcN, ↓e_srcC, ↓e_meth, ↓e_isL, ↓e_sub, ↓e_isi, ↓e_yes, ↓e_addI, ↓e_addB, ↓e_addS, ↓e_addT, ↓e_addL, ↓e_subI, ↓e_mulI, ↓e_mulT, ↓e_mulL, ↓e_divI, ↓e_modI, ↓e_powI, ↓e_negI, ↓e_cmpI, ↓e_eq, ↓e_ne, ↓e_isn, ↓e_isnn, ↓e_isb, ↓e_ixL, ↓e_ixKL, ↓e_ixT, ↓e_cutL, ↓e_cutKL, ↓e_cutT, ↓e_lenL, ↓e_lenKL, ↓e_lenT, ↓e_abs, ↓e_intI, ↓e_intB, ↓e_max2, ↓e_listNL, ↓e_listNT, ↓e_tupL, ↓e_tupT, ↓e_drI, ↓e_drB, ↓e_drS, ↓e_drN, ↓e_drL, ↓e_drT, ↓e_seq, ↓e_inL, ↓e_inKL, ↓e_inT, ↓e_inFlat, ↓e_drK, ↓e_addBI, ↓e_subBI, ↓e_subIB, ↓e_drG, ↓e_dnew, ↓e_dgetF, ↓e_dget2, ↓e_dgPut, ↓e_join, ↓e_joinL, ↓e_cutS, ↓e_mulS, ↓e_sortV, ↓e_tidx, ↓e_mulNewL, ↓e_sortedPL, ↓e_countL, ↓e_indexL, ↓e_tryGet, ↓e_isC, ↓e_isCK, ↓e_what, ↓e_whatK, ↓e_sil, ↓e_callX, ↓e_raise, e_kyI, e_kyS, Nat.reduceAdd, Nat.zero_add, List.length_cons, List.length_nil, List.length_map, Nat.reduceLeDiff, and_true, true_and, if_true, ite_true, decide_eq_true_eq, Bool.not_eq_true, Bool.false_eq_true, if_false, ite_false, ↓reduceIte, Int.reduceToNat, Int.reducePow, ne_eq, q_okI, q_okB, q_okN, q_okS, q_okL, q_okT, q_oks0, q_oks1, q_eqII, q_eqBB, q_eqSS, q_eqLL, q_eqTT, q_eqNN, q_eqNI, q_eqIN, q_eqs0, q_eqs1, Bool.true_and, Bool.and_true, beq_iff_eq, reduceCtorEq, wipeE, List.set_cons_zero, List.set_cons_succ, List.set_nil, Bool.not_true, Bool.not_false, List.getElem?_cons_zero, List.getElem?_cons_succ, y_lt_NoneType, y_lt_bool, y_lt_int, y_lt_str, y_lt_list, y_lt_tuple, y_l_NoneType, y_l_bool, y_l_int, y_l_str, y_l_list, y_l_tuple, y_t_NoneType, y_t_bool, y_t_int, y_t_str, y_t_list, y_t_tuple, y_sb_NoneType, y_sb_bool, y_sb_int, y_sb_str, y_sb_list, y_sb_tuple, y_b_NoneType, y_b_bool, y_b_int, y_b_str, y_b_list, y_b_tuple, y_i_NoneType, y_i_bool, y_i_int, y_i_str, y_i_list, y_i_tuple, ty_non, ty_bl, ty_int, ty_str, ty_lst, ty_tup])
    rw [hsm]
    simpa [DL.isNon] using h
  | str b =>
    cases d <;> simp only [sm, Bool.false_eq_true] at hsm
    (try simp only [BEq.rfl, ↓e_v0, ↓e_vs, ↓e_c, ↓e_op, ↓e_un, ↓e_test, ↓e_testK, ↓e_tru, ↓e_truL, ↓e_truT, ↓e_truB, ↓e_truI, ↓e_truN, ↓e_truS, ↓e_not, ↓e_and, ↓e_or, ↓e_andv, ↓e_notv, ↓e_andK, ↓e_notK, ↓e_if, ↓e_nil, ↓e_cons, ↓e_tup, ↓e_lst, ↓e_new, ↓e_call, ↓e_callK, ↓e_drop, ↓e_ret, ↓e_pass, ↓e_ifS, ↓e_g0, ↓e_gs, ↓e_gnil, ↓e_gcons, ↓e_gtup, ↓e_asg, ↓e_par, ↓e_parK, ↓e_par3, ↓e_par3K, ↓e_no, ↓e_some, ↓e_someK, ↓e_cut, ↓e_b, ↓e_iter, ↓e_iterL, ↓e_iterT, ↓e_iterS, ↓e_rng1, ↓e_rng1K, ↓e_rng2, ↓e_rng2K, ↓e_enum, ↓e_enumL, ↓e_enumT, ↓e_zip, ↓e_zipL, ↓e_zipT, ↓e_for, ↓e_lc, ↓e_lcNew, ↓e_forN, ↓e_forC, ↓e_lcN, ↓e_lcC, ↓e_srcN, ↓e_srcC, ↓e_meth, ↓e_isL, ↓e_sub, ↓e_isi, ↓e_yes, ↓e_addI, ↓e_addB, ↓e_addS, ↓e_addT, ↓e_addL, ↓e_subI, ↓e_mulI, ↓e_mulT, ↓e_mulL, ↓e_divI, ↓e_modI, ↓e_powI, ↓e_negI, ↓e_cmpI, ↓e_eq, ↓e_ne, ↓e_isn, ↓e_isnn, ↓e_isb, ↓e_ixL, ↓e_ixKL, ↓e_ixT, ↓e_cutL, ↓e_cutKL, ↓e_cutT, ↓e_lenL, ↓e_lenKL, ↓e_lenT, ↓e_abs, ↓e_intI, ↓e_intB, ↓e_max2, ↓e_listNL, ↓e_listNT, ↓e_tupL, ↓e_tupT, ↓e_drI, ↓e_drB, ↓e_drS, ↓e_drN, ↓e_drL, ↓e_drT, ↓e_seq, ↓e_inL, ↓e_inKL, ↓e_inT, ↓e_inFlat, ↓e_drK, ↓e_addBI, ↓e_subBI, ↓e_subIB, ↓e_drG, ↓e_dnew, ↓e_dgetF, ↓e_dget2, ↓e_dgPut, ↓e_join, ↓e_joinL, ↓e_cutS, ↓e_mulS, ↓e_sortV, ↓e_tidx, ↓e_mulNewL, ↓e_sortedPL, ↓e_countL, ↓e_indexL, ↓e_tryGet, ↓e_isC, ↓e_isCK, ↓e_what, ↓e_whatK, ↓e_sil, ↓e_callX, ↓e_raise, e_kyI, e_kyS, Nat.reduceAdd, Nat.zero_add, List.length_cons, List.length_nil, List.length_map, Nat.reduceLeDiff, and_true, true_and, if_true, ite_true, decide_eq_true_eq, Bool.not_eq_true, Bool.false_eq_true, if_false, ite_false, ↓reduceIte, Int.reduceToNat, Int.reducePow, ne_eq, q_okI, q_okB, q_okN, q_okS, q_okL, q_okT, q_oks0, q_oks1, q_eqII, q_eqBB, q_eqSS, q_eqLL, q_eqTT, q_eqNN, q_eqNI, q_eqIN, q_eqs0, q_eqs1, Bool.true_and, Bool.and_true, beq_iff_eq, reduceCtorEq, wipeE, List.set_cons_zero, List.set_cons_succ, List.set_nil, Bool.not_true, Bool.not_false, List.getElem?_cons_zero, List.getElem?_cons_succ, y_lt_NoneType, y_lt_bool, y_lt_int, y_lt_str, y_lt_list, y_lt_tuple, y_l_NoneType, y_l_bool, y_l_int, y_l_str, y_l_list, y_l_tuple, y_t_NoneType, y_t_bool, y_t_int, y_t_str, y_t_list, y_t_tuple, y_sb_NoneType, y_sb_bool, y_sb_int, y_sb_str, y_sb_list, y_sb_tuple, y_b_NoneType, y_b_bool, y_b_int, y_b_str, y_b_list, y_b_tuple, y_i_NoneType, y_i_bool, y_i_int, y_i_str, y_i_list, y_i_tuple, ty_non, ty_bl, ty_int, ty_str, ty_lst, ty_tup])
    simp only [Bool.and_eq_true, beq_iff_eq] at hsm
    obtain ⟨rfl, ok⟩ := hsm
    simpa [DL.isNon, ok] using h
  | _ => cases hsm
mutual
theorem sm_self (st : Sto) : ∀ (n : Nat) (d : D), okD n d = true → sm st (n + 1) d d = true
  | n, .non, _ => by simp [sm]
  | n, .bl b, _ => by simp [sm]
  | n, .int i, _ => by simp [sm]
  | n, .str x, h => sm_str st n (by cases n <;> simpa only [okD] using h)
  | n, .klst xs, h => by cases n <;> simp [okD] at h
  | n, .obj xs, h => by cases n <;> simp [okD] at h
  | n, .dic _ _, h => by cases n <;> simp [okD] at h
  | n, .fdic _ _, h => by cases n <;> simp [okD] at h
  | n, .gtup _, h => by cases n <;> simp [okD] at h
  | 0, .lst xs, h => by simp [okD] at h
  | n + 1, .lst xs, h => sm_lst rfl rfl (sm_selfs st n xs (by simpa only [okD] using h))
  | 0, .tup xs, h => by simp [okD] at h
  | n + 1, .tup xs, h => sm_tup rfl (sm_selfs st n xs (by simpa only [okD] using h))
theorem sm_selfs (st : Sto) : ∀ (n : Nat) (ds : List D), okDs n ds = true → (ds.zip ds).all (fun p => sm st (n + 1) p.1 p.2) = true
  | n, [], _ => rfl
  | n, x :: xs, h => by
    simp only [okDs, Bool.and_eq_true] at h
    exact sm_cons (sm_self st n x h.1) (sm_selfs st n xs h.2)
end
def e1__law_names : DE :=
    (dOp ixD (dVar 2) (dCall sp__law_draw (dCons (dVar 0) (dCons (dC (.int 26)) dNil))))
def z8__law_names : DS :=
    (dDrop (dMeth mAppend (dVar 8) (dCons (dOp addD (dOp addD (dVar 9) (dVar 12)) (dOp ixD (dLst (dCons (dVar 10) (dCons (dOp mulD (dVar 10) (dOp modD (dVar 5) (dC (.int 2)))) (dCons (dCut cutOp (dVar 10) dNo (dSome (dOp modD (dVar 5) (dOp addD (dB bLen (dCons (dVar 10) dNil)) (dC (.int 1)))))) dNil)))) (dVar 11))) dNil)))
def z7__law_names : DS :=
    (dSeq (dAsg (dOp ixD (dVar 2) (dOp modD (dOp addD (dVar 3) (dOp mulD (dVar 7) (dOp ixD (dLst (dCons (dVar 5) (dCons (dOp divD (dVar 5) (dC (.int 2))) (dCons (dVar 5) dNil)))) (dVar 11)))) (dC (.int 26)))) (dgName 12))
    (z8__law_names))
def b1__law_names : DS :=
    (dSeq (dAsg (dOp mulD (dOp modD (dOp addD (dOp addD (dVar 3) (dVar 6)) (dB bLen (dCons (dVar 4) dNil))) (dC (.int 3))) (dB bInt (dCons (dOp (eqOp true) (dVar 10) (dC (.str ""))) dNil))) (dgName 11))
    (z7__law_names))
def z9__law_names : DS :=
    (dRet (dVar 8))
def z5__law_names : DS :=
    (dSeq (dFor (dRng1 (dVar 1)) (dgName 5) (b1__law_names))
    (z9__law_names))
def z4__law_names : DS :=
    (dSeq (dPar 9 10 (dCons (dCut cutOp (dVar 4) dNo (dSome (dVar 6))) (dCons (dCut cutOp (dVar 4) (dSome (dVar 6)) dNo) dNil)))
    (z5__law_names))
def z3__law_names : DS :=
    (dSeq (dPar3 6 7 8 (dCons (dCall sp__law_draw (dCons (dVar 0) (dCons (dOp addD (dB bLen (dCons (dVar 4) dNil)) (dC (.int 1))) dNil))) (dCons (dOp ixD (dLst (dCons (dC (.int 1)) (dCons (dC (.int 7)) (dCons (dC (.int 25)) dNil)))) (dCall sp__law_draw (dCons (dVar 0) (dCons (dC (.int 3)) dNil)))) (dCons (dNew dNil) dNil))))
    (z4__law_names))
def z2__law_names : DS :=
    (dSeq (dAsg (dJoin (dC (.str "")) (dLc (dRng1 (dCall sp__law_draw (dCons (dVar 0) (dCons (dC (.int 8)) dNil)))) (dgName 5) dYes (e1__law_names) [5])) (dgName 4))
    (z3__law_names))
def t__law_names : DS :=
    (dSeq (dAsg (dTup (dCons (dC (.str "abcdefghijklmnopqrstuvwxyz")) (dCons (dCall sp__law_draw (dCons (dVar 0) (dCons (dC (.int 26)) dNil))) dNil))) (dgTup 2 (dgCons (dgName 2) (dgCons (dgName 3) dgNil))))
    (z2__law_names))
theorem st__law_names (a0 a1 : D) : startD N__law_names [a0, a1] = [some a0, some a1, none, none, none, none, none, none, none, none, none, none, none] := rfl
theorem cutN_drop {α : Type} (xs : List α) (m : Nat) : DL.cutD xs (some (m : Int)) none = xs.drop m := by
  unfold DL.cutD
  rw [HT.sIx_nat, HT.sIx_none]
  by_cases h : m ≤ xs.length
  · rw [Nat.min_eq_left h, List.take_of_length_le (by rw [List.length_drop]; omega)]
  · rw [Nat.min_eq_right (show xs.length ≤ m by omega), List.drop_length, List.drop_eq_nil_of_le (show xs.length ≤ m by omega)]
    simp
/-- the name of number k -/
def nameK (sh st : Int) (hd tl : List Nat) (W k : Nat) : List Nat := hd ++ (97 + ((sh + st * (if W = 1 then (k / 2 : Nat) else (k : Nat) : Nat)) % 26).toNat) :: (if W = 0 then tl else if W = 1 then (if k % 2 = 0 then [] else tl) else tl.take (k % (tl.length + 1)))
theorem nameK_inj {sh st : Int} {hd tl : List Nat} {W : Nat} (hst : st = 1 ∨ st = 7 ∨ st = 25) (hW : W = 1 → tl ≠ []) {j k : Nat} (hj : j < 26) (hk : k < 26) (h : nameK sh st hd tl W j = nameK sh st hd tl W k) : j = k := by
  unfold nameK at h
  have h2 := List.append_cancel_left h
  injection h2 with h3 h4
  have key : ∀ x y : Nat, x < 26 → y < 26 → 97 + ((sh + st * (x : Int)) % 26).toNat = 97 + ((sh + st * (y : Int)) % 26).toNat → x = y := by
    intro x y hx hy e
    rcases hst with rfl | rfl | rfl <;> omega
  by_cases z : W = 1
  · have ne := hW z
    subst z
    simp only [if_true, Nat.one_ne_zero, if_false] at h3 h4
    have e := key (j / 2) (k / 2) (by omega) (by omega) h3
    have p : j % 2 = k % 2 := by
      by_cases a : j % 2 = 0
      · rw [if_pos a] at h4
        by_cases b : k % 2 = 0
        · omega
        · rw [if_neg b] at h4
          exact absurd h4.symm ne
      · rw [if_neg a] at h4
        by_cases b : k % 2 = 0
        · rw [if_pos b] at h4
          exact absurd h4 ne
        · omega
    omega
  · simp only [z, if_false] at h3
    exact key j k hj hk h3
theorem nameK_ok {sh st : Int} {hd tl : List Nat} {W k : Nat} (hl : hd.length + tl.length ≤ 7) (h1 : ∀ c ∈ hd, Lt c) (h2 : ∀ c ∈ tl, Lt c) : NameL (nameK sh st hd tl W k) := by
  have rest : ∀ r : List Nat, r.length ≤ tl.length → (∀ c ∈ r, c ∈ tl) → ∀ x : Nat, x < 26 → NameL (hd ++ (97 + x) :: r) := by
    intro r hr hm x hx
    refine ⟨by rw [List.length_append, List.length_cons]; omega, by rw [List.length_append, List.length_cons]; omega, fun c hc => ?_⟩
    rcases List.mem_append.mp hc with q | q
    · exact h1 c q
    · rcases List.mem_cons.mp q with q | q
      · rw [q]
        unfold Lt
        omega
      · exact h2 c (hm c q)
  unfold nameK
  refine rest _ ?_ ?_ _ (by omega)
  · split
    · exact Nat.le_refl _
    · split
      · split
        · exact Nat.zero_le _
        · exact Nat.le_refl _
      · rw [List.length_take]; omega
  · intro c hc
    split at hc
    · exact hc
    · split at hc
      · split at hc
        · cases hc
        · exact hc
      · exact List.mem_of_mem_take hc
theorem frz_tape1 {st st2 : Sto} {i n : Nat} {d : D} {a ys : List D} {kk : DK} (e : st2 = st.set i ys) (ht : Tp i n st2) (hb : belows st.length a = true) (h : kk (sub st.length a d) st2) : Frz st d (st2 ++ [a]) kk := by
  have ea : a.map (frzs (st.length + 1) []) = a := by
    show a.map (fun d => d) = a
    simp
  refine ⟨st2, [a], rfl, by rw [e, List.length_set], fun j xs hj => ?_, ⟨by rw [ea]; exact hb, trivial⟩, ?_⟩
  · by_cases z : j = i
    · subst z
      obtain ⟨zs, e1, x, y, w, rfl, _⟩ := ht
      rw [e1] at hj
      cases hj
      exact .inr rfl
    · rw [e, List.getElem?_set_ne (fun y => z y.symm)] at hj
      exact .inl hj
  · show kk (sub st.length (a.map (frzs (st.length + 1) [])) d) st2
    rw [ea]
    exact h
theorem belows_txt (n : Nat) : ∀ zs : List (List Nat), belows n (zs.map fun z => D.str (S z)) = true
  | [] => rfl
  | z :: r => by
    show (below n (.str (S z)) && belows n (r.map fun z => D.str (S z))) = true
    rw [belows_txt n r]
    rfl
theorem e_lenTx {cs : List Nat} {st : Sto} {k : DK} : bLen [.str (S cs)] st k = (cs.length ≤ 16777216 ∧ k (.int (cs.length : Nat)) st) := by
  show ((S cs).length ≤ 16777216 ∧ k (.int ((S cs).length : Nat)) st) = _
  rw [S_len]
def sp__law_names : SpD := fun ds st kk => ∃ (i n m : Nat), ds = [.obj i, .int (m : Nat)] ∧ Tp i n st ∧ n < 100000000 ∧ 1 ≤ m ∧ m ≤ 26 ∧ ∀ (ns : List (List Nat)) xs, ns.length = m → (∀ z ∈ ns, NameL z) → ns.Nodup → Tp i (n + 40) (st.set i xs) → kk (.lst (ns.map fun z => D.str (S z))) (st.set i xs)
theorem len__law_names (ds : List D) (st : Sto) (kk : DK) (h : sp__law_names ds st kk) : ds.length = 2 := by
  obtain ⟨_, _, _, rfl, _⟩ := h
  rfl
theorem p__law_names : BodyD true N__law_names sp__law_names t__law_names := by
  rintro ds st kk ⟨i, n, m, rfl, ht, hn, m0, m1, h⟩
  rw [st__law_names]
  simp only [t__law_names]
  (walk_at "lw_dd0")
  refine ⟨i, n, 26, rfl, ht, by omega, by (first | exact mulc _ _ (by decide) (by decide) | exact mulr _ _ (by decide) (by decide) | exact ⟨by decide, by decide, by decide⟩ | exact ⟨by decide, by decide⟩ | exact mulb _ _ | exact ⟨by omega, by omega⟩ | exact mulc _ _ (by omega) (by omega) | exact mulr _ _ (by omega) (by omega) | exact div_small (by omega) (by omega) | exact ⟨by omega, by omega, by omega⟩ | omega | decide), fun sh x1 s0 s1 t1 => ?_⟩
  (walk_at "lw_dd0")
  have hltr : ∀ r : Int, 0 ≤ r → r < 26 → ∀ (st : Sto) (kd : DK), kd (.str (S [97 + r.toNat])) st → ixD (.str (Str.ofString "abcdefghijklmnopqrstuvwxyz")) (.int r) st kd := by
    intro r r0 r1 st kd hk
    rw [abc_eq, e_ixS, S_len, S_cps]
    exact ⟨by decide, _, abc_at r0 r1, hk⟩
  simp only [z2__law_names]
  (walk_at "lw_dd0")
  refine ⟨⟨_, rfl⟩, i, _, 8, rfl, t1, by omega, by (first | exact mulc _ _ (by decide) (by decide) | exact mulr _ _ (by decide) (by decide) | exact ⟨by decide, by decide, by decide⟩ | exact ⟨by decide, by decide⟩ | exact mulb _ _ | exact ⟨by omega, by omega⟩ | exact mulc _ _ (by omega) (by omega) | exact mulr _ _ (by omega) (by omega) | exact div_small (by omega) (by omega) | exact ⟨by omega, by omega, by omega⟩ | omega | decide), fun q x2 q0 q1 t2 => ?_⟩
  rw [List.set_set] at t2 ⊢
  (walk_at "lw_dd0")
  refine ⟨by omega, by rw [rangeD_length]; omega, ?_⟩
  refine lc_draws (fun c : Nat => D.str (S [c])) Lt i 1 900000000 (fun x n2 s2 kd2 t2 hn2 hk2 => ?_) _ _ _ [] t2 (by rw [rangeD_length]; omega) fun cs ys hcl hcs t3 => ?_
  · simp only [e1__law_names]
    (walk_at "lw_dd0")
    refine ⟨i, _, 26, rfl, t2, by omega, by (first | exact mulc _ _ (by decide) (by decide) | exact mulr _ _ (by decide) (by decide) | exact ⟨by decide, by decide, by decide⟩ | exact ⟨by decide, by decide⟩ | exact mulb _ _ | exact ⟨by omega, by omega⟩ | exact mulc _ _ (by omega) (by omega) | exact mulr _ _ (by omega) (by omega) | exact div_small (by omega) (by omega) | exact ⟨by omega, by omega, by omega⟩ | omega | decide), fun r x5 r0 r1 t5 => ?_⟩
    refine hltr r r0 r1 _ _ (hk2 (97 + r.toNat) x5 ?_ t5)
    unfold Lt
    omega
  rw [rangeD_length] at hcl t3
  rw [List.nil_append, List.set_set]
  rw [List.set_set] at t3
  have hq : cs.length ≤ 7 := by omega
  rw [show (cs.map fun c => D.str (S [c])) = (cs.map fun c => S [c]).map D.str by rw [List.map_map]; rfl, e_joinL, S_join, S_sum, List.length_map, show (Str.ofString "").length = 0 from rfl]
  refine ⟨by omega, ?_⟩
  simp only [z3__law_names]
  (walk_at "lw_dd0")
  rw [show ∀ (st : Sto) (k : DK), bLen [.str (S cs)] st k = ((S cs).length ≤ 16777216 ∧ k (.int ((S cs).length : Nat)) st) from fun _ _ => rfl, S_len]
  refine ⟨by omega, ?_⟩
  (walk_at "lw_dd0")
  refine ⟨i, _, _, rfl, t3, by omega, ⟨by omega, by omega⟩, fun at_ x4 a0 a1 t4 => ?_⟩
  rw [List.set_set] at t4 ⊢
  refine ⟨i, _, 3, rfl, t4, by omega, by (first | exact mulc _ _ (by decide) (by decide) | exact mulr _ _ (by decide) (by decide) | exact ⟨by decide, by decide, by decide⟩ | exact ⟨by decide, by decide⟩ | exact mulb _ _ | exact ⟨by omega, by omega⟩ | exact mulc _ _ (by omega) (by omega) | exact mulr _ _ (by omega) (by omega) | exact div_small (by omega) (by omega) | exact ⟨by omega, by omega, by omega⟩ | omega | decide), fun w x5 w0 w1 t5 => ?_⟩
  rw [List.set_set] at t5 ⊢
  obtain ⟨a, rfl⟩ := Int.eq_ofNat_of_zero_le a0
  obtain ⟨stp, hstp, hix⟩ : ∃ stp : Int, (stp = 1 ∨ stp = 7 ∨ stp = 25) ∧ atI [D.int 1, D.int 7, D.int 25] w = some (.int stp) := by
    rcases (show w = 0 ∨ w = 1 ∨ w = 2 by omega) with rfl | rfl | rfl
    · exact ⟨1, .inl rfl, rfl⟩
    · exact ⟨7, .inr (.inl rfl), rfl⟩
    · exact ⟨25, .inr (.inr rfl), rfl⟩
  refine ⟨_, hix, ?_⟩
  have ln : (st.set i x5).length = st.length := List.length_set
  simp only [z4__law_names]
  (walk_at "lw_dd0")
  rw [S_len, S_cut, S_cut, cutD_to, cutN_drop]
  refine ⟨by omega, by omega, ?_⟩
  have hall : ∀ c ∈ cs.take a, Lt c := fun c hc => hcs c (List.mem_of_mem_take hc)
  have tall : ∀ c ∈ cs.drop a, Lt c := fun c hc => hcs c (List.mem_of_mem_drop hc)
  have hlen : (cs.take a).length + (cs.drop a).length ≤ 7 := by rw [List.length_take, List.length_drop]; omega
  generalize cs.take a = hd at hall hlen ⊢
  generalize cs.drop a = tl at tall hlen ⊢
  have ln' : (st.set i x5).length = st.length := ln
  generalize hs4 : st.set i x5 = s4 at t5 ln ⊢
  obtain ⟨W, hW, hW1, hW3⟩ : ∃ W : Nat, ((sh + a + cs.length) % 3 * (if tl = [] then 0 else 1) = (W : Int)) ∧ (1 ≤ W → tl ≠ []) ∧ W < 3 := by
    by_cases z : tl = []
    · exact ⟨0, by rw [if_pos z]; simp, fun h => by omega, by omega⟩
    · refine ⟨((sh + a + cs.length) % 3).toNat, by rw [if_neg z]; omega, fun _ => z, by omega⟩
  simp only [z5__law_names]
  (walk_at "lw_dd0")
  refine ⟨by omega, ?_⟩
  rw [Int.toNat_natCast]
  refine go_range m (fun j env s => s = s4 ++ [(List.range j).map fun k => D.str (S (nameK sh stp hd tl W k))] ∧ ∃ v5 v11 v12 : Option D, env = [some (.obj i), some (.int (m : Nat)), some (.str (Str.ofString "abcdefghijklmnopqrstuvwxyz")), some (.int sh), some (.str (S cs)), v5, some (.int (a : Nat)), some (.int stp), some (.obj s4.length), some (.str (S hd)), some (.str (S tl)), v11, v12]) ?_ ?_ _ _ ⟨rfl, none, none, none, rfl⟩
  · rintro j _ _ nx hj ⟨rfl, v5, v11, v12, rfl⟩ q2
    refine ⟨trivial, ?_⟩
    (walk_at "lw_dd0")
    simp only [b1__law_names]
    rw [S_nil]
    (try simp only [BEq.rfl, ↓e_v0, ↓e_vs, ↓e_c, ↓e_op, ↓e_un, ↓e_test, ↓e_testK, ↓e_tru, ↓e_truL, ↓e_truT, ↓e_truB, ↓e_truI, ↓e_truN, ↓e_truS, ↓e_not, ↓e_and, ↓e_or, ↓e_andv, ↓e_notv, ↓e_andK, ↓e_notK, ↓e_if, ↓e_nil, ↓e_cons, ↓e_tup, ↓e_lst, ↓e_new, ↓e_call, ↓e_callK, ↓e_drop, ↓e_ret, ↓e_pass, ↓e_ifS, ↓e_g0, ↓e_gs, ↓e_gnil, ↓e_gcons, ↓e_gtup, ↓e_asg, ↓e_par, ↓e_parK, ↓e_par3, ↓e_par3K, ↓e_no, ↓e_some, ↓e_someK, ↓e_cut, ↓e_b, ↓e_iter, ↓e_iterL, ↓e_iterT, ↓e_iterS, ↓e_rng1, ↓e_rng1K, ↓e_rng2, ↓e_rng2K, ↓e_enum, ↓e_enumL, ↓e_enumT, ↓e_zip, ↓e_zipL, ↓e_zipT, ↓e_for, ↓e_lc, ↓e_lcNew, ↓e_meth, ↓e_isL, ↓e_sub, ↓e_isi, ↓e_yes, ↓e_addI, ↓e_addB, ↓e_addS, ↓e_addT, ↓e_addL, ↓e_subI, ↓e_mulI, ↓e_mulT, ↓e_mulL, ↓e_divI, ↓e_modI, ↓e_powI, ↓e_negI, ↓e_cmpI, ↓e_eq, ↓e_ne, ↓e_isn, ↓e_isnn, ↓e_isb, ↓e_ixL, ↓e_ixKL, ↓e_ixT, ↓e_cutL, ↓e_cutKL, ↓e_cutT, ↓e_lenL, ↓e_lenKL, ↓e_lenT, ↓e_abs, ↓e_intI, ↓e_intB, ↓e_max2, ↓e_listNL, ↓e_listNT, ↓e_tupL, ↓e_tupT, ↓e_drI, ↓e_drB, ↓e_drS, ↓e_drN, ↓e_drL, ↓e_drT, ↓e_seq, ↓e_inL, ↓e_inKL, ↓e_inT, ↓e_inFlat, ↓e_drK, ↓e_addBI, ↓e_subBI, ↓e_subIB, ↓e_drG, ↓e_dnew, ↓e_dgetF, ↓e_dget2, ↓e_dgPut, ↓e_join, ↓e_joinL, ↓e_cutS, ↓e_mulS, ↓e_sortV, ↓e_tidx, ↓e_mulNewL, ↓e_sortedPL, ↓e_countL, ↓e_indexL, ↓e_tryGet, ↓e_isC, ↓e_isCK, ↓e_what, ↓e_whatK, ↓e_sil, ↓e_callX, ↓e_raise, e_kyI, e_kyS, Nat.reduceAdd, Nat.zero_add, List.length_cons, List.length_nil, List.length_map, Nat.reduceLeDiff, and_true, true_and, if_true, ite_true, decide_eq_true_eq, Bool.not_eq_true, Bool.false_eq_true, if_false, ite_false, ↓reduceIte, Int.reduceToNat, Int.reducePow, ne_eq, q_okI, q_okB, q_okN, q_okS, q_okL, q_okT, q_oks0, q_oks1, q_eqII, q_eqBB, q_eqSS, q_eqLL, q_eqTT, q_eqNN, q_eqNI, q_eqIN, q_eqs0, q_eqs1, Bool.true_and, Bool.and_true, beq_iff_eq, reduceCtorEq, wipeE, List.set_cons_zero, List.set_cons_succ, List.set_nil, Bool.not_true, Bool.not_false, List.getElem?_cons_zero, List.getElem?_cons_succ, e_lenTx])
    have hb : (if (!S tl == S []) = true then (1 : Int) else 0) = if tl = [] then 0 else 1 := by
      by_cases z : tl = []
      · rw [if_pos z, z]
        rfl
      · rw [if_neg z, if_pos]
        rw [Bool.not_eq_true', beq_eq_false_iff_ne]
        exact fun e => z (S_inj e)
    rw [hb, hW]
    refine ⟨by omega, by omega, S_ok fun c hc => by (have := tall c hc; unfold Lt at this; omega), S_ok (cs := []) (fun c hc => absurd hc List.not_mem_nil), mulr _ _ (by split <;> omega) (by split <;> omega), ?_⟩
    simp only [z7__law_names]
    (walk_at "lw_dd0")
    have hx : atI [D.int (j : Nat), D.int ((j : Int) / 2), D.int (j : Nat)] (W : Int) = some (.int ((if W = 1 then (j / 2 : Nat) else (j : Nat) : Nat) : Int)) := by
      rcases (show W = 0 ∨ W = 1 ∨ W = 2 by omega) with rfl | rfl | rfl <;> rfl
    refine ⟨by (first | exact mulc _ _ (by decide) (by decide) | exact mulr _ _ (by decide) (by decide) | exact ⟨by decide, by decide, by decide⟩ | exact ⟨by decide, by decide⟩ | exact mulb _ _ | exact ⟨by omega, by omega⟩ | exact mulc _ _ (by omega) (by omega) | exact mulr _ _ (by omega) (by omega) | exact div_small (by omega) (by omega) | exact ⟨by omega, by omega, by omega⟩ | omega | decide), _, hx, ?_⟩
    have hidx : (if W = 1 then (j / 2 : Nat) else (j : Nat) : Nat) ≤ 26 := by split <;> omega
    have hname : nameK sh stp hd tl W j = hd ++ (97 + ((sh + stp * (((if W = 1 then (j / 2 : Nat) else (j : Nat) : Nat)) : Int)) % 26).toNat) :: (if W = 0 then tl else if W = 1 then (if j % 2 = 0 then [] else tl) else tl.take (j % (tl.length + 1))) := rfl
    generalize (if W = 1 then (j / 2 : Nat) else (j : Nat) : Nat) = idx at hidx hname ⊢
    (walk_at "lw_dd0")
    refine ⟨mulr _ _ (by rcases hstp with rfl | rfl | rfl <;> omega) (by omega), by decide, ?_⟩
    refine hltr _ (Int.emod_nonneg _ (by omega)) (Int.emod_lt_of_pos _ (by omega)) _ _ ?_
    generalize 97 + ((sh + stp * (idx : Int)) % 26).toNat = lt at hname ⊢
    simp only [z8__law_names]
    (walk_at "lw_dd0")
    refine ⟨by simp [isLst, deref], by rw [S_len, S_len, List.length_cons, List.length_nil]; omega, by decide, by omega, by omega, ?_⟩
    rw [e_lenTx]
    refine ⟨by omega, ?_⟩
    (walk_at "lw_dd0")
    refine ⟨by omega, ?_⟩
    rw [show ((j : Int) % ((tl.length : Int) + 1)) = ((j % (tl.length + 1) : Nat) : Int) from rfl]
    (walk_at "lw_dd0")
    rw [S_len, S_cut, cutD_to]
    refine ⟨by omega, ?_⟩
    obtain ⟨rest, hrest, hr2, hx2⟩ : ∃ rest : List Nat, rest = (if W = 0 then tl else if W = 1 then (if j % 2 = 0 then [] else tl) else tl.take (j % (tl.length + 1))) ∧ rest.length ≤ 7 ∧ atI [D.str (S tl), D.str (if (j : Int) % 2 < 1 then Str.empty else S tl), D.str (S (tl.take (j % (tl.length + 1))))] (W : Int) = some (.str (S rest)) := by
      rcases (show W = 0 ∨ W = 1 ∨ W = 2 by omega) with rfl | rfl | rfl
      · exact ⟨tl, rfl, by omega, rfl⟩
      · by_cases z : j % 2 = 0
        · exact ⟨[], by rw [if_neg (by decide), if_pos rfl, if_pos z], by simp, by rw [if_pos (by omega)]; rfl⟩
        · exact ⟨tl, by rw [if_neg (by decide), if_pos rfl, if_neg z], by omega, by rw [if_neg (by omega)]; rfl⟩
      · exact ⟨tl.take (j % (tl.length + 1)), rfl, by rw [List.length_take]; omega, rfl⟩
    refine ⟨_, hx2, ?_⟩
    rw [← hrest] at hname
    (walk_at "lw_dd0")
    rw [S_app, S_app, S_len, S_len, e_app (List.getElem?_concat_length ..), set_last]
    refine ⟨by rw [List.length_append, List.length_cons, List.length_nil]; omega, by rw [List.length_map, List.length_range]; omega, ?_⟩
    refine q2 _ _ ⟨?_, _, _, _, rfl⟩
    rw [List.range_succ, List.map_append, List.map_cons, List.map_nil, hname, List.append_assoc]
    rfl
  · rintro _ _ ⟨rfl, v5, v11, v12, rfl⟩
    refine ⟨trivial, ?_⟩
    simp only [z9__law_names]
    (walk_at "lw_dd0")
    rw [← hs4] at t5 ⊢
    refine frz_tape1 rfl t5 ?_ ?_
    · have := belows_txt st.length ((List.range m).map fun k => nameK sh stp hd tl W k)
      rw [List.map_map] at this
      exact this
    · rw [ln', show sub st.length ((List.range m).map fun k => D.str (S (nameK sh stp hd tl W k))) (.obj st.length) = .lst ((List.range m).map fun k => D.str (S (nameK sh stp hd tl W k))) by simp only [sub, if_true]]
      have := h ((List.range m).map fun k => nameK sh stp hd tl W k) x5 (by rw [List.length_map, List.length_range]) (fun z hz => by
        obtain ⟨k, _, rfl⟩ := List.mem_map.mp hz
        exact nameK_ok hlen hall tall) (by
        unfold List.Nodup
        rw [List.pairwise_map]
        refine List.Pairwise.imp_of_mem (fun {x y} hx hy ne e => ?_) (List.nodup_range (n := m))
        have h1 := List.mem_range.mp hx
        have h2 := List.mem_range.mp hy
        exact ne (nameK_inj hstp (fun w => hW1 (by omega)) (by omega) (by omega) e)) (t5.mono (by omega))
      rw [List.map_map] at this
      exact this
def t__law_standing : DS :=
    (dRet (dOp mulD (dOp addD (dOp mulD (dC (.int 2)) (dCall sp__law_draw (dCons (dVar 0) (dCons (dVar 1) dNil)))) (dC (.int 1))) (dOp ixD (dLst (dCons (dC (.int 1)) (dCons (dUn negD (dC (.int 1))) dNil))) (dCall sp__law_draw (dCons (dVar 0) (dCons (dC (.int 2)) dNil))))))
theorem st__law_standing (a0 a1 : D) : startD N__law_standing [a0, a1] = [some a0, some a1] := rfl
def sp__law_standing : SpD := fun ds st kk => ∃ (i n : Nat) (m : Int), ds = [.obj i, .int m] ∧ Tp i n st ∧ n < 900000000000 ∧ 1 ≤ m ∧ m < 1000000000000 ∧ ∀ (s : Int) xs, s % 2 = 1 → -(2 * m) < s → s < 2 * m → Tp i (n + 2) (st.set i xs) → kk (.int s) (st.set i xs)
theorem len__law_standing (ds : List D) (st : Sto) (kk : DK) (h : sp__law_standing ds st kk) : ds.length = 2 := by
  obtain ⟨i, n, m, rfl, _⟩ := h
  rfl
theorem p__law_standing : BodyD false N__law_standing sp__law_standing t__law_standing := by
  rintro ds st kk ⟨i, n, m, rfl, ht, hn, h1, h2, h⟩
  rw [st__law_standing]
  simp only [t__law_standing]
  (walk_at "lw_dd")
  refine ⟨i, n, m, rfl, ht, by omega, ⟨h1, by omega⟩, fun r1 x1 a1 b1 t1 => ?_⟩
  (walk_at "lw_dd")
  refine ⟨mul2 _, i, n + 1, 2, rfl, t1, by omega, ⟨by decide, by decide⟩, fun r2 x2 a2 b2 t2 => ?_⟩
  rw [List.set_set] at t2 ⊢
  (walk_at "lw_dd")
  rcases in2 a2 b2 with rfl | rfl
  · refine ⟨_, rfl, ?_⟩
    (walk_at "lw_dd")
    exact ⟨mulr _ _ (by decide) (by decide), h _ _ (by omega) (by omega) (by omega) t2⟩
  · refine ⟨_, rfl, ?_⟩
    (walk_at "lw_dd")
    exact ⟨mulr _ _ (by decide) (by decide), h _ _ (by omega) (by omega) (by omega) t2⟩
def e1__law_net : DE :=
    (dVar 11)
def z10__law_net : DS :=
    (dAsg (dOp addNewD (dVar 6) (dLst (dCons (dTup (dCons (dVar 9) (dCons (dC (.int 0)) dNil))) (dCons (dTup (dCons (dVar 9) (dCons (dC (.int 1)) dNil))) dNil)))) (dgName 6))
def z9__law_net : DS :=
    (dSeq (dAsg (dOp addD (dOp ixD (dVar 7) (dOp ixD (dVar 11) (dC (.int 0)))) (dC (.int 1))) (dgSub (dVar 7) (dVar 9)))
    (z10__law_net))
def z8__law_net : DS :=
    (dSeq (dAsg (dVar 9) (dgPut (dVar 8) (dVar 11)))
    (z9__law_net))
def z7__law_net : DS :=
    (dSeq (dDrop (dMeth mRemove (dVar 6) (dCons (dVar 11) dNil)))
    (z8__law_net))
def z5__law_net : DS :=
    (dIfS (dTest (dOp (eqOp true) (dVar 10) (dLst dNil))) (dSeq (dAsg (dOp ixD (dVar 10) (dCall sp__law_draw (dCons (dVar 0) (dCons (dB bLen (dCons (dVar 10) dNil)) dNil)))) (dgName 11))
    (z7__law_net)) dPass)
def b1__law_net : DS :=
    (dSeq (dAsg (dLc (dIter (dVar 6)) (dgName 11) (dTest (dOp (cmpI fun i j => decide (i < j)) (dOp addD (dOp ixD (dVar 7) (dOp ixD (dVar 11) (dC (.int 0)))) (dC (.int 1))) (dVar 3))) (e1__law_net) [11]) (dgName 10))
    (z5__law_net))
def e2__law_net : DE :=
    (dVar 9)
def z15__law_net : DS :=
    (dIfS (dAnd (dTru (dVar 4)) (dAnd (dTest (dOp (eqOp true) (dVar 13) (dLst dNil))) (dTest (dOp (eqOp false) (dCall sp__law_draw (dCons (dVar 0) (dCons (dC (.int 2)) dNil))) (dC (.int 0)))))) (dAsg (dOp ixD (dVar 13) (dCall sp__law_draw (dCons (dVar 0) (dCons (dB bLen (dCons (dVar 13) dNil)) dNil)))) (dgPut (dVar 8) (dVar 11))) dPass)
def z14__law_net : DS :=
    (dSeq (dAsg (dOp ixD (dVar 1) (dCall sp__law_draw (dCons (dVar 0) (dCons (dB bLen (dCons (dVar 1) dNil)) dNil)))) (dgPut (dVar 8) (dVar 11)))
    (z15__law_net))
def b2__law_net : DS :=
    (dSeq (dAsg (dLc (dIter (dVar 12)) (dgName 9) (dAnd (dTest (dOp (cmpI fun i j => decide (j < i)) (dVar 9) (dOp ixD (dVar 11) (dC (.int 0))))) (dTest (dOp (cmpI fun i j => decide (j < i)) (dOp ixD (dVar 7) (dVar 9)) (dOp ixD (dVar 7) (dOp ixD (dVar 11) (dC (.int 0))))))) (e2__law_net) [9]) (dgName 13))
    (z14__law_net))
def e3__law_net : DE :=
    (dTup (dCons (dVar 9) (dCons (dVar 15) dNil)))
def e4__law_net : DE :=
    (dGet2 (dVar 14) (dOp getD (dVar 8) (dTup (dCons (dVar 9) (dCons (dVar 16) dNil)))) (dOp getD (dVar 8) (dTup (dCons (dVar 9) (dCons (dVar 16) dNil)))))
def e5__law_net : DE :=
    (dB bTuple (dCons (dLc (dIter (dTup (dCons (dC (.int 0)) (dCons (dC (.int 1)) dNil)))) (dgName 16) dYes (e4__law_net) [16]) dNil))
def z18__law_net : DS :=
    (dRet (dB bTuple (dCons (dLc (dIter (dVar 12)) (dgName 9) dYes (e5__law_net) [9]) dNil)))
def z17__law_net : DS :=
    (dSeq (dAsg (dB bDictNew (dCons (dLc (dEnum (dVar 12)) (dgTup 2 (dgCons (dgName 15) (dgCons (dgName 9) dgNil))) dYes (e3__law_net) [15, 9]) dNil)) (dgName 14))
    (z18__law_net))
def z12__law_net : DS :=
    (dSeq (dFor (dIter (dB bSortedP (dCons (dVar 6) dNil))) (dgName 11) (b2__law_net))
    (z17__law_net))
def z11__law_net : DS :=
    (dSeq (dAsg (dOp addD (dLst (dCons (dC (.int 0)) dNil)) (dSortV (dVar 8))) (dgName 12))
    (z12__law_net))
def z3__law_net : DS :=
    (dSeq (dFor (dRng2 (dC (.int 1)) (dVar 5)) (dgName 9) (b1__law_net))
    (z11__law_net))
def z2__law_net : DS :=
    (dSeq (dAsg (dTup (dCons (dNew (dCons (dTup (dCons (dC (.int 0)) (dCons (dC (.int 0)) dNil))) (dCons (dTup (dCons (dC (.int 0)) (dCons (dC (.int 1)) dNil))) dNil))) (dCons (dOp mulNewD (dLst (dCons (dC (.int 0)) dNil)) (dVar 5)) (dCons (dNewD true) dNil)))) (dgTup 3 (dgCons (dgName 6) (dgCons (dgName 7) (dgCons (dgName 8) dgNil)))))
    (z3__law_net))
def t__law_net : DS :=
    (dSeq (dAsg (dOp addD (dC (.int 1)) (dCall sp__law_draw (dCons (dVar 0) (dCons (dVar 2) dNil)))) (dgName 5))
    (z2__law_net))
theorem st__law_net (a0 a1 a2 a3 a4 : D) : startD N__law_net [a0, a1, a2, a3, a4] = [some a0, some a1, some a2, some a3, some a4, none, none, none, none, none, none, none, none, none, none, none, none] := rfl
def sp__law_net : SpD := fun ds st kk => ∃ (i n : Nat) (names : List (List Nat)) (most high : Nat) (tog : Bool), ds = [.obj i, .lst (names.map fun z => .str (S z)), .int (most : Nat), .int (high : Nat), .bl tog] ∧ Tp i n st ∧ n < 100000000 ∧ 1 ≤ names.length ∧ names.length ≤ 100 ∧ (∀ z ∈ names, NameL z) ∧ 1 ≤ most ∧ most ≤ 20 ∧ 1 ≤ high ∧
  ∀ (w : Web) xs, WebOk names most high tog w → Tp i (n + 100) (st.set i xs) → kk (webD w) (st.set i xs)
theorem len__law_net (ds : List D) (st : Sto) (kk : DK) (h : sp__law_net ds st kk) : ds.length = 5 := by
  obtain ⟨_, _, _, _, _, _, rfl, _⟩ := h
  rfl
theorem p__law_net : BodyD true N__law_net sp__law_net t__law_net := by
  rintro ds st kk ⟨i, n, names, most, high, tog, rfl, ht, hn, n1, n100, hnm, m1, m20, g1, h⟩
  rw [st__law_net]
  simp only [t__law_net]
  (walk_at "lw_dd0")
  refine ⟨i, n, most, rfl, ht, by omega, ⟨by omega, by omega⟩, fun sz x1 s0 s1 t1 => ?_⟩
  (walk_at "lw_dd0")
  obtain ⟨z, rfl⟩ := Int.eq_ofNat_of_zero_le s0
  simp only [z2__law_net]
  (walk_at "lw_dd0")
  refine ⟨by omega, by omega, by omega, ?_⟩
  have si : i < st.length := ht.lt
  have l1 : (st.set i x1).length = st.length := List.length_set
  generalize hst : st.set i x1 = s1 at t1 l1 ⊢
  rw [show (List.replicate (1 + (z : Int)).toNat [D.int 0]).flatten = (List.replicate (z + 1) (0 : Int)).map D.int by
    rw [show (1 + (z : Int)).toNat = z + 1 by omega]
    generalize z + 1 = m
    induction m with
    | zero => rfl
    | succ m ih => rw [List.replicate_succ, List.flatten_cons, ih, List.replicate_succ, List.map_cons]; rfl]
  simp only [z3__law_net]
  (walk_at "lw_dd0")
  refine ⟨by omega, ?_⟩
  rw [show (1 + (z : Int) - 1).toNat = z by omega]
  have lA : ∀ ys : List D, (st.set i ys).length = st.length := fun ys => List.length_set
  rw [l1]
  simp only [List.length_append, List.length_cons, List.length_nil, l1, Nat.zero_add]
  refine go_from 1 z (fun j env s => ∃ (pi : Nat) (v9 v10 v11 : Option D) (ys : List D) (L : Sto) (ps : List Pn) (hs : List Int) (ls : List (Pn × Ld)) (ks : List Nat),
    env = [some (.obj i), some (.lst (names.map fun z => .str (S z))), some (.int (most : Nat)), some (.int (high : Nat)), some (.bl tog), some (.int (1 + (z : Int))), some (.obj (st.length + pi)), some (.obj (st.length + 1)), some (.dic true (st.length + 1 + 1)), v9, v10, v11, none, none, none, none, none] ∧
    s = st.set i ys ++ L ∧ Tp i (n + 1 + j) (st.set i ys) ∧ (∀ c ∈ L, belows 0 c = true) ∧ L[pi]? = some (ps.map pnD) ∧ pi ≠ 1 ∧ pi ≠ 2 ∧ L[1]? = some (hs.map D.int) ∧ L[2]? = some (tabR pnD Ld.d ls) ∧ G1 high (z + 1) (1 + j) ps hs ls ks) ?_ ?_ _ _ ?_
  · rintro j _ _ nx hj ⟨pi, v9, v10, v11, ys, L, ps, hs, ls, ks, rfl, rfl, tp, hb, hp, p1, p2, hh, hl, g⟩ q
    refine ⟨trivial, ?_⟩
    (walk_at "lw_dd0")
    simp only [b1__law_net]
    have gp : (st.set i ys ++ L)[st.length + pi]? = some (ps.map pnD) := by rw [sa_get (lA ys)]; exact hp
    (try simp only [BEq.rfl, ↓e_v0, ↓e_vs, ↓e_c, ↓e_op, ↓e_un, ↓e_test, ↓e_testK, ↓e_tru, ↓e_truL, ↓e_truT, ↓e_truB, ↓e_truI, ↓e_truN, ↓e_truS, ↓e_not, ↓e_and, ↓e_or, ↓e_andv, ↓e_notv, ↓e_andK, ↓e_notK, ↓e_if, ↓e_nil, ↓e_cons, ↓e_tup, ↓e_lst, ↓e_new, ↓e_call, ↓e_callK, ↓e_drop, ↓e_ret, ↓e_pass, ↓e_ifS, ↓e_g0, ↓e_gs, ↓e_gnil, ↓e_gcons, ↓e_gtup, ↓e_asg, ↓e_par, ↓e_parK, ↓e_par3, ↓e_par3K, ↓e_no, ↓e_some, ↓e_someK, ↓e_cut, ↓e_b, ↓e_iter, ↓e_iterL, ↓e_iterT, ↓e_iterS, ↓e_rng1, ↓e_rng1K, ↓e_rng2, ↓e_rng2K, ↓e_enum, ↓e_enumL, ↓e_enumT, ↓e_zip, ↓e_zipL, ↓e_zipT, ↓e_for, ↓e_lc, ↓e_lcNew, ↓e_meth, ↓e_isL, ↓e_sub, ↓e_isi, ↓e_yes, ↓e_addI, ↓e_addB, ↓e_addS, ↓e_addT, ↓e_addL, ↓e_subI, ↓e_mulI, ↓e_mulT, ↓e_mulL, ↓e_divI, ↓e_modI, ↓e_powI, ↓e_negI, ↓e_cmpI, ↓e_eq, ↓e_ne, ↓e_isn, ↓e_isnn, ↓e_isb, ↓e_ixL, ↓e_ixKL, ↓e_ixT, ↓e_cutL, ↓e_cutKL, ↓e_cutT, ↓e_lenL, ↓e_lenKL, ↓e_lenT, ↓e_abs, ↓e_intI, ↓e_intB, ↓e_max2, ↓e_listNL, ↓e_listNT, ↓e_tupL, ↓e_tupT, ↓e_drI, ↓e_drB, ↓e_drS, ↓e_drN, ↓e_drL, ↓e_drT, ↓e_seq, ↓e_inL, ↓e_inKL, ↓e_inT, ↓e_inFlat, ↓e_drK, ↓e_addBI, ↓e_subBI, ↓e_subIB, ↓e_drG, ↓e_dnew, ↓e_dgetF, ↓e_dget2, ↓e_dgPut, ↓e_join, ↓e_joinL, ↓e_cutS, ↓e_mulS, ↓e_sortV, ↓e_tidx, ↓e_mulNewL, ↓e_sortedPL, ↓e_countL, ↓e_indexL, ↓e_tryGet, ↓e_isC, ↓e_isCK, ↓e_what, ↓e_whatK, ↓e_sil, ↓e_callX, ↓e_raise, e_kyI, e_kyS, Nat.reduceAdd, Nat.zero_add, List.length_cons, List.length_nil, List.length_map, Nat.reduceLeDiff, and_true, true_and, if_true, ite_true, decide_eq_true_eq, Bool.not_eq_true, Bool.false_eq_true, if_false, ite_false, ↓reduceIte, Int.reduceToNat, Int.reducePow, ne_eq, q_okI, q_okB, q_okN, q_okS, q_okL, q_okT, q_oks0, q_oks1, q_eqII, q_eqBB, q_eqSS, q_eqLL, q_eqTT, q_eqNN, q_eqNI, q_eqIN, q_eqs0, q_eqs1, Bool.true_and, Bool.and_true, beq_iff_eq, reduceCtorEq, wipeE, List.set_cons_zero, List.set_cons_succ, List.set_nil, Bool.not_true, Bool.not_false, List.getElem?_cons_zero, List.getElem?_cons_succ, e_iterO gp])
    have gh : (st.set i ys ++ L)[st.length + 1]? = some (hs.map D.int) := by rw [sa_get (lA ys)]; exact hh
    have inl : ∀ p ∈ ps, p.1 < hs.length := fun p hp => by
      have := g.lt p.1 ((g.pan p).mp hp).1
      rw [g.hl]
      omega
    refine fun hlen => ⟨hlen, ?_⟩
    have so : SrcOk [(st.length + pi, ps.map pnD)] (st.set i ys ++ L) := ⟨gp, trivial⟩
    refine lc_filter pnD pnD (fun p => decide (hs.getD p.1 0 + 1 < high)) _ so _ _ (fun p hp k1 k2 g1 g2 => ?_) ?_
    · simp only [e1__law_net]
      (walk_at "lw_dd0")
      simp only [pnD, e_ixT]
      refine ⟨_, rfl, ?_⟩
      rw [e_ixO gh]
      refine ⟨_, atI_int (inl p hp), ?_⟩
      (walk_at "lw_dd0")
      by_cases z : hs.getD p.1 0 + 1 < high
      · rw [if_pos z]
        exact g1 (decide_eq_true z)
      · rw [if_neg z]
        exact g2 (decide_eq_false z)
    rw [List.nil_append]
    simp only [z5__law_net]
    (walk_at "lw_dd0")
    have fm : ∀ p ∈ ps.filter (fun p => decide (hs.getD p.1 0 + 1 < high)), p ∈ ps ∧ hs.getD p.1 0 + 1 < high := fun p hp => by
      have := List.mem_filter.mp hp
      exact ⟨this.1, of_decide_eq_true this.2⟩
    have fl : (ps.filter (fun p => decide (hs.getD p.1 0 + 1 < high))).length ≤ ps.length := List.length_filter_le ..
    generalize ps.filter (fun p => decide (hs.getD p.1 0 + 1 < high)) = fr at fm fl ⊢
    refine ⟨pn_ok _ _, ?_⟩
    by_cases fe : fr = []
    · subst fe
      rw [if_neg (by simp [eqDs])]
      exact q _ _ ⟨pi, _, _, _, ys, L, ps, hs, ls, ks, rfl, rfl, tp.mono (by omega), hb, hp, p1, p2, hh, hl, g.skip (by omega)⟩
    rw [if_pos (by cases fr with | nil => exact absurd rfl fe | cons a r => simp [eqDs])]
    refine ⟨i, _, fr.length, rfl, Tp.app tp L, by omega, ⟨by have := List.length_pos_iff.mpr fe; omega, by omega⟩, fun r x2 r0 r1 t2 => ?_⟩
    obtain ⟨pn, hpn, hat⟩ := atI_map (f := pnD) r0 r1
    (walk_at "lw_dd0")
    refine ⟨_, hat, ?_⟩
    obtain ⟨hps, hlt⟩ := fm pn hpn
    have si2 : i < (st.set i ys).length := by rw [lA]; exact si
    rw [sa_seti (lA ys) si, List.set_set] at t2 ⊢
    have t2' := Tp.left t2 (by rw [lA]; exact si)
    obtain ⟨m, fm1, fm2⟩ := pn_find hps
    have gp : (st.set i x2 ++ L)[st.length + pi]? = some (ps.map pnD) := by rw [sa_get (lA x2)]; exact hp
    simp only [z7__law_net]
    (walk_at "lw_dd0")
    refine ⟨by simp [isLst, deref, gp], ?_⟩
    rw [e_remO gp]
    refine ⟨pn_ok _ _, by simp [deref, pnD, okD, okDs], m, fm1, ?_⟩
    rw [← erase_map, fm2, sa_set (lA x2)]
    have pl := (List.getElem?_eq_some_iff.mp hp).1
    have ll := (List.getElem?_eq_some_iff.mp hl).1
    simp only [z8__law_net]
    (walk_at "lw_dd0")
    have gl : (st.set i x2 ++ L.set pi ((ps.erase pn).map pnD))[st.length + 1 + 1]? = some (tabR pnD Ld.d ls) := by
      rw [show st.length + 1 + 1 = st.length + 2 from rfl, sa_get (lA x2), List.getElem?_set_ne p2]; exact hl
    have hj1 : some (D.int ((1 + j : Nat) : Int)) = some (Ld.d (.bal (1 + j))) := rfl
    rw [e_dput gl]
    refine ⟨rfl, ?_, okRows_tab, ?_⟩
    · have e := congrArg List.length g.vals
      have := g.len
      rw [List.length_map, List.length_map] at e
      rw [tabR_length]
      omega
    rw [show D.int ((1 + j : Nat) : Int) = Ld.d (.bal (1 + j)) from rfl, putR_tab keyN]
    rw [show st.length + 1 + 1 = st.length + 2 from rfl, sa_set (lA x2)]
    simp only [z9__law_net]
    (walk_at "lw_dd0")
    rw [show ∀ (s : Sto) (k : DK), ixD (pnD pn) (.int 0) s k = ∃ x, atI [D.int (pn.1 : Nat), D.int (sideI pn.2)] 0 = some x ∧ k x s from fun _ _ => rfl]
    refine ⟨_, rfl, ?_⟩
    obtain ⟨g', ln⟩ := g.put (by omega) hps hlt
    rw [putL_new ln]
    have gh : (st.set i x2 ++ (L.set pi ((ps.erase pn).map pnD)).set 2 (tabR pnD Ld.d (ls ++ [(pn, .bal (1 + j))])))[st.length + 1]? = some (hs.map D.int) := by
      rw [sa_get (lA x2), List.getElem?_set_ne (by decide), List.getElem?_set_ne p1]; exact hh
    rw [e_ixO gh]
    refine ⟨_, atI_int (inl pn hps), ?_⟩
    (walk_at "lw_dd0")
    rw [show (Ld.bal (1 + j)).d = D.int ((1 + j : Nat) : Int) from rfl, e_setO gh]
    refine ⟨1 + j, by rw [List.length_map, ixN_of (by omega) (by rw [g.hl]; omega), Int.toNat_natCast], ?_⟩
    rw [sa_set (lA x2)]
    simp only [z10__law_net]
    (walk_at "lw_dd0")
    have gp : (st.set i x2 ++ ((L.set pi ((ps.erase pn).map pnD)).set 2 (tabR pnD Ld.d (ls ++ [(pn, .bal (1 + j))]))).set 1 ((hs.map D.int).set (1 + j) (.int (hs.getD pn.1 0 + 1))))[st.length + pi]? = some ((ps.erase pn).map pnD) := by
      rw [sa_get (lA x2), List.getElem?_set_ne p1.symm, List.getElem?_set_ne p2.symm, List.getElem?_set_self pl]
    rw [e_addNewOL gp]
    refine ⟨?_, ?_⟩
    · have := g'.pl
      rw [List.length_append] at this
      rw [List.length_map]
      simp only [List.length_cons, List.length_nil] at this ⊢
      omega
    rw [List.append_assoc]
    refine q _ _ ⟨L.length, some (.int ((1 + j : Nat) : Int)), some (.lst (fr.map pnD)), some (pnD pn), x2, _, ps.erase pn ++ [(1 + j, false), (1 + j, true)], hs.set (1 + j) (hs.getD pn.1 0 + 1), ls ++ [(pn, .bal (1 + j))], ks ++ [1 + j], ?_, rfl, t2'.mono (by omega), ?_, ?_, ?_, ?_, ?_, ?_, g'⟩
    · simp only [List.length_append, List.length_set]
    · intro c hc
      rcases List.mem_append.mp hc with hc | hc
      · have key : ∀ {M : Sto} {a : Nat} {x : List D}, (∀ c ∈ M, belows 0 c = true) → belows 0 x = true → ∀ c ∈ M.set a x, belows 0 c = true := by
          intro M a x h1 h2 c hc
          rcases List.mem_or_eq_of_mem_set hc with z | z
          · exact h1 c z
          · rw [z]; exact h2
        refine key (key (key hb (pn_below 0 _)) (tabL_below 0 (ld_below 0) _)) ?_ c hc
        rw [← List.map_set]
        exact belows_int 0 _
      · rw [List.mem_singleton.mp hc]
        have := pn_below 0 (ps.erase pn ++ [(1 + j, false), (1 + j, true)])
        rw [List.map_append] at this
        exact this
    · rw [List.getElem?_append_right (by simp), show L.length - _ = 0 by simp, List.map_append]
      rfl
    · omega
    · omega
    · rw [List.getElem?_append_left (by simp; omega), List.getElem?_set_self (by simp; omega), List.map_set]
    · rw [List.getElem?_append_left (by simp; omega), List.getElem?_set_ne (by decide), List.getElem?_set_self (by simp; omega)]
  · rintro _ _ ⟨pi, v9, v10, v11, ys, L, ps, hs, ls, ks, rfl, rfl, tp, hb, hp, p1, p2, hh, hl, g⟩
    refine ⟨trivial, ?_⟩
    simp only [z11__law_net]
    (walk_at "lw_dd0")
    have gl : (st.set i ys ++ L)[st.length + 1 + 1]? = some (tabR pnD Ld.d ls) := by
      rw [show st.length + 1 + 1 = st.length + 2 from rfl, sa_get (lA ys)]; exact hl
    have hks : ks.length < 64 := by have := g.len; omega
    have hvals : intsD (valsR (tabR pnD Ld.d ls)) = some (ks.map fun k => ((k : Nat) : Int)) := by
      rw [valsR_tab, show (ls.map fun p => p.2.d) = (ls.map (·.2)).map Ld.d by rw [List.map_map]; rfl, g.vals, List.map_map]
      rw [show (ks.map (Ld.d ∘ Ld.bal)) = (ks.map fun k => ((k : Nat) : Int)).map D.int by rw [List.map_map]; rfl, intsD_map]
    rw [e_sortVK gl hvals, List.length_map]
    refine ⟨hks, ?_⟩
    have hsrt : sortZ (ks.map fun k => ((k : Nat) : Int)) = ks.map fun k => ((k : Nat) : Int) := by
      refine (sortZ_of (.refl _) ?_).symm
      rw [List.pairwise_map]
      exact g.inc.of_cons.imp fun h => by omega
    rw [hsrt, e_addL]
    refine ⟨by simp; omega, ?_⟩
    rw [show [D.int 0] ++ (ks.map fun k => ((k : Nat) : Int)).map D.int = (0 :: ks).map fun k => D.int ((k : Nat) : Int) by rw [List.map_map]; rfl]
    simp only [z12__law_net]
    (walk_at "lw_dd0")
    have gp : (st.set i ys ++ L)[st.length + pi]? = some (ps.map pnD) := by rw [sa_get (lA ys)]; exact hp
    rw [e_sortedPO gp]
    refine ⟨pn_pair _, fun es pe => ?_⟩
    obtain ⟨qs, rfl, pq⟩ := perm_map pe
    clear pe
    have qlen : qs.length ≤ z + 2 := by
      rw [pq.length_eq]
      have := g.pl
      omega
    (walk_at "lw_dd0")
    refine fun _ => ?_
    have hls : ls.length ≤ z := by
      have e := congrArg List.length g.vals
      have := g.len
      rw [List.length_map, List.length_map] at e
      omega
    have hnd : qs.Nodup := pq.nodup_iff.mpr g.nd
    refine go_for pnD (fun r env s => ∃ (v9 v11 v13 : Option D) (ys : List D) (ds : List Pn) (l2 : List (Pn × Ld)),
      env = [some (.obj i), some (.lst (names.map fun z => .str (S z))), some (.int (most : Nat)), some (.int (high : Nat)), some (.bl tog), some (.int (1 + (z : Int))), some (.obj (st.length + pi)), some (.obj (st.length + 1)), some (.dic true (st.length + 1 + 1)), v9, v10, v11, some (.lst ((0 :: ks).map fun k => .int ((k : Nat) : Int))), v13, none, none, none] ∧
      s = st.set i ys ++ L.set 2 (tabR pnD Ld.d l2) ∧ Tp i (n + 1 + z + 3 * ds.length) (st.set i ys) ∧ qs = ds ++ r ∧ l2.length ≤ ls.length + ds.length ∧ (∀ p ∈ ds, ∃ v, look l2 p = some v ∧ Good names tog hs (0 :: ks) p v) ∧ ∀ p ∉ ds, look l2 p = look ls p) ?_ ?_ _ _ _ ?_
    · rintro p r _ _ nx ⟨v9, v11, v13, ys, ds, l2, rfl, rfl, tp, hq, hl2, hgood, hold⟩ q
      refine ⟨trivial, ?_⟩
      (walk_at "lw_dd0")
      simp only [b2__law_net]
      (walk_at "lw_dd0")
      have gh : (st.set i ys ++ L.set 2 (tabR pnD Ld.d l2))[st.length + 1]? = some (hs.map D.int) := by
        rw [sa_get (lA ys), List.getElem?_set_ne (by decide)]; exact hh
      have hp1 : p ∈ ps := pq.mem_iff.mp (by rw [hq]; simp)
      have pin := ((g.pan p).mp hp1).1
      have tin : ∀ k ∈ 0 :: ks, k < hs.length := fun k hk => by
        have := g.lt k hk
        rw [g.hl]
        omega
      have pd : p ∉ ds := fun z => by
        have := hnd
        rw [hq, List.nodup_append] at this
        exact this.2.2 p z p List.mem_cons_self rfl
      refine fun kl => ⟨kl, ?_⟩
      refine lc_filter (fun k : Nat => D.int (k : Nat)) (fun k : Nat => D.int (k : Nat)) (fun k => decide (p.1 < k ∧ hs.getD p.1 0 < hs.getD k 0)) _ (by exact trivial) _ _ (fun k hk k1 k2 g1 g2 => ?_) ?_
      · simp only [e2__law_net]
        (walk_at "lw_dd0")
        rw [show ∀ (s : Sto) (k : DK), ixD (pnD p) (.int 0) s k = ∃ x, atI [D.int (p.1 : Nat), D.int (sideI p.2)] 0 = some x ∧ k x s from fun _ _ => rfl]
        refine ⟨_, rfl, ?_⟩
        (walk_at "lw_dd0")
        by_cases z1 : p.1 < k
        · rw [if_pos (by omega), e_ixO gh]
          refine ⟨_, atI_int (tin k hk), ?_⟩
          rw [show ∀ (s : Sto) (k : DK), ixD (pnD p) (.int 0) s k = ∃ x, atI [D.int (p.1 : Nat), D.int (sideI p.2)] 0 = some x ∧ k x s from fun _ _ => rfl]
          refine ⟨_, rfl, ?_⟩
          rw [e_ixO gh]
          refine ⟨_, atI_int (tin _ pin), ?_⟩
          (walk_at "lw_dd0")
          by_cases z2 : hs.getD p.1 0 < hs.getD k 0
          · rw [if_pos z2]
            exact g1 (decide_eq_true ⟨z1, z2⟩)
          · rw [if_neg z2]
            exact g2 (decide_eq_false fun w => z2 w.2)
        · rw [if_neg (by omega)]
          exact g2 (decide_eq_false fun w => z1 w.1)
      rw [List.nil_append]
      have fm : ∀ k ∈ (0 :: ks).filter (fun k => decide (p.1 < k ∧ hs.getD p.1 0 < hs.getD k 0)), k ∈ 0 :: ks ∧ p.1 < k ∧ hs.getD p.1 0 < hs.getD k 0 := fun k hk => by
        have := List.mem_filter.mp hk
        exact ⟨this.1, of_decide_eq_true this.2⟩
      have fl := List.length_filter_le (fun k => decide (p.1 < k ∧ hs.getD p.1 0 < hs.getD k 0)) (0 :: ks)
      generalize (0 :: ks).filter (fun k => decide (p.1 < k ∧ hs.getD p.1 0 < hs.getD k 0)) = fr at fm fl ⊢
      have dl : ds.length ≤ z + 2 := by
        rw [hq, List.length_append] at qlen
        omega
      simp only [z14__law_net]
      (walk_at "lw_dd0")
      rw [List.length_cons] at fl
      have fin : ∀ (ys2 : List D) (l3 : List (Pn × Ld)) (v : Ld) (w9 w11 w13 : Option D), Tp i (n + 1 + z + 3 * (ds.length + 1)) (st.set i ys2) → l3.length ≤ ls.length + (ds.length + 1) → look l3 p = some v → Good names tog hs (0 :: ks) p v → (∀ x, x ≠ p → look l3 x = look l2 x) →
          nx [some (.obj i), some (.lst (names.map fun z => .str (S z))), some (.int (most : Nat)), some (.int (high : Nat)), some (.bl tog), some (.int (1 + (z : Int))), some (.obj (st.length + pi)), some (.obj (st.length + 1)), some (.dic true (st.length + 1 + 1)), w9, v10, w11, some (.lst ((0 :: ks).map fun k => .int ((k : Nat) : Int))), w13, none, none, none] (st.set i ys2 ++ L.set 2 (tabR pnD Ld.d l3)) := by
        intro ys2 l3 v w9 w11 w13 h1 h2 h3 h4 h5
        refine q _ _ ⟨w9, w11, w13, ys2, ds ++ [p], l3, rfl, rfl, by rw [List.length_append]; exact h1, by rw [hq, List.append_assoc]; rfl, by rw [List.length_append]; exact h2, fun x hx => ?_, fun x hx => ?_⟩
        · rcases List.mem_append.mp hx with hx | hx
          · have ne : x ≠ p := fun e => pd (e ▸ hx)
            obtain ⟨v', e1, e2⟩ := hgood x hx
            exact ⟨v', (h5 x ne).trans e1, e2⟩
          · rw [List.mem_singleton.mp hx]
            exact ⟨v, h3, h4⟩
        · have ne : x ≠ p := fun e => hx (by rw [e]; simp)
          exact (h5 x ne).trans (hold x fun z => hx (List.mem_append_left _ z))
      refine ⟨i, _, names.length, rfl, Tp.app tp _, by omega, ⟨by omega, by omega⟩, fun r x2 r0 r1 t2 => ?_⟩
      rw [sa_seti (lA ys) si, List.set_set] at t2 ⊢
      have t2' := Tp.left t2 (by rw [lA]; exact si)
      obtain ⟨cs, hcs, hat⟩ := atI_map (f := fun z => D.str (S z)) r0 r1
      (walk_at "lw_dd0")
      refine ⟨_, hat, ?_⟩
      have ll := (List.getElem?_eq_some_iff.mp hl).1
      have gl : ∀ (x : List D) (l : List (Pn × Ld)), (st.set i x ++ L.set 2 (tabR pnD Ld.d l))[st.length + 1 + 1]? = some (tabR pnD Ld.d l) := fun x l => by
        rw [show st.length + 1 + 1 = st.length + 2 from rfl, sa_get (lA x), List.getElem?_set_self ll]
      rw [e_dput (gl _ _)]
      refine ⟨rfl, by rw [tabR_length]; omega, okRows_tab, ?_⟩
      rw [show D.str (S cs) = Ld.d (.out cs) from rfl, putR_tab keyN, show st.length + 1 + 1 = st.length + 2 from rfl, sa_set (lA x2), List.set_set]
      have lk : ∀ v, look (putL l2 p v) p = some v := fun v => by rw [look_put, if_pos rfl]
      have lo : ∀ v x, x ≠ p → look (putL l2 p v) x = look l2 x := fun v x ne => by rw [look_put, if_neg ne]
      have ln : ∀ v, (putL l2 p v).length ≤ ls.length + (ds.length + 1) := fun v => by have := putL_length l2 p v; omega
      simp only [z15__law_net]
      (walk_at "lw_dd0")
      cases tog with
      | false =>
        (walk_at "lw_dd0")
        exact fin _ _ _ _ _ _ (t2'.mono (by omega)) (ln _) (lk _) (.inl ⟨cs, hcs, rfl⟩) (lo _)
      | true =>
        (walk_at "lw_dd0")
        have okf : ∀ fr : List Nat, okDs 59 (fr.map fun k => D.int ((k : Nat) : Int)) = true := fun fr => by
          have := okDs_int 59 (fr.map fun k => ((k : Nat) : Int))
          rw [List.map_map] at this
          exact this
        refine ⟨okf _, ?_⟩
        by_cases fe : fr = []
        · subst fe
          rw [if_neg (by simp [eqDs])]
          exact fin _ _ _ _ _ _ (t2'.mono (by omega)) (ln _) (lk _) (.inl ⟨cs, hcs, rfl⟩) (lo _)
        rw [if_pos (by cases fr with | nil => exact absurd rfl fe | cons a r => simp [eqDs])]
        refine ⟨i, _, 2, rfl, Tp.app t2' _, by omega, ⟨by omega, by omega⟩, fun r2 x3 r20 r21 t3 => ?_⟩
        rw [sa_seti (lA x2) si, List.set_set] at t3 ⊢
        have t3' := Tp.left t3 (by rw [lA]; exact si)
        (walk_at "lw_dd0")
        by_cases r2z : r2 = 0
        rotate_left
        · rw [if_neg r2z]
          exact fin _ _ _ _ _ _ (t3'.mono (by omega)) (ln _) (lk _) (.inl ⟨cs, hcs, rfl⟩) (lo _)
        rw [if_pos r2z]
        refine ⟨i, _, fr.length, rfl, Tp.app t3' _, by omega, ⟨by have := List.length_pos_iff.mpr fe; omega, by omega⟩, fun r3 x4 r30 r31 t4 => ?_⟩
        rw [sa_seti (lA x3) si, List.set_set] at t4 ⊢
        have t4' := Tp.left t4 (by rw [lA]; exact si)
        obtain ⟨kb, hkb, hat2⟩ := atI_map (f := fun k : Nat => D.int (k : Nat)) r30 r31
        (walk_at "lw_dd0")
        refine ⟨_, hat2, ?_⟩
        have gl2 := gl x4 (putL l2 p (Ld.out cs))
        rw [show st.length + 1 + 1 = st.length + 2 from rfl] at gl2
        rw [e_dput gl2]
        refine ⟨rfl, by have := ln (Ld.out cs); rw [tabR_length]; omega, okRows_tab, ?_⟩
        rw [show D.int (kb : Nat) = Ld.d (.bal kb) from rfl, putR_tab keyN, sa_set (lA x4), List.set_set]
        have lk2 : look (putL (putL l2 p (.out cs)) p (.bal kb)) p = some (.bal kb) := by rw [look_put, if_pos rfl]
        have lo2 : ∀ x, x ≠ p → look (putL (putL l2 p (.out cs)) p (.bal kb)) x = look l2 x := fun x ne => by rw [look_put, if_neg ne, lo _ x ne]
        have ln2 : (putL (putL l2 p (.out cs)) p (.bal kb)).length ≤ ls.length + (ds.length + 1) := by
          rw [putL_len_in (by rw [lk]; rfl)]
          exact ln _
        exact fin _ _ _ _ _ _ (t4'.mono (by omega)) ln2 lk2 (.inr ⟨rfl, kb, (fm kb hkb).1, rfl, (fm kb hkb).2⟩) lo2
    · rintro _ _ ⟨v9, v11, v13, ys, ds, l2, rfl, rfl, tp, hq, hl2, hgood, hold⟩
      refine ⟨trivial, ?_⟩
      simp only [z17__law_net]
      (walk_at "lw_dd0")
      rw [enum_nat]
      refine fun kl => ⟨by rw [List.length_map, List.length_zipIdx, List.length_cons]; omega, ?_⟩
      refine lc_map (fun p : Nat × Nat => D.tup [.int (p.2 : Nat), .int (p.1 : Nat)]) (fun p : Nat × Nat => D.tup [.int (p.1 : Nat), .int (p.2 : Nat)]) _ _ (by exact trivial) _ (fun p hp kd k => ?_) ?_
      · simp only [e3__law_net]
        (walk_at "lw_dd0")
        exact k
      rw [List.nil_append, e_dictL (pairs_numT _ _)]
      rw [show ((0 :: ks).zipIdx.map fun p => (D.int (p.1 : Nat), D.int (p.2 : Nat))) = (numT (0 :: ks)).map fun p => (p.1.d, D.int (p.2 : Nat)) by unfold numT; rw [List.map_map]; rfl]
      have gnd : (0 :: ks).Nodup := g.inc.imp fun h => by omega
      have em : mergeR false [] ((numT (0 :: ks)).map fun p => (p.1.d, D.int (p.2 : Nat))) = tabR Ld.d (fun i : Nat => .int (i : Nat)) (numT (0 :: ks)) := by
        have := merge_tab (f := fun i : Nat => D.int (i : Nat)) keyL (numT (0 :: ks)) []
        rw [fold_new _ _ (by simpa using numT_nd gnd)] at this
        exact this
      rw [em]
      simp only [z18__law_net]
      (walk_at "lw_dd0")
      refine fun kl2 => ⟨kl2, ?_⟩
      have lL : (st.set i ys ++ L.set 2 (tabR pnD Ld.d l2)).length = st.length + L.length := by rw [List.length_append, lA, List.length_set]
      have ll := (List.getElem?_eq_some_iff.mp hl).1
      have gd : (st.set i ys ++ L.set 2 (tabR pnD Ld.d l2) ++ [tabR Ld.d (fun k : Nat => D.int (k : Nat)) (numT (0 :: ks))])[st.length + 1 + 1]? = some (tabR pnD Ld.d l2) := by
        rw [List.getElem?_append_left (by rw [lL]; omega), show st.length + 1 + 1 = st.length + 2 from rfl, sa_get (lA ys), List.getElem?_set_self ll]
      have gn : (st.set i ys ++ L.set 2 (tabR pnD Ld.d l2) ++ [tabR Ld.d (fun k : Nat => D.int (k : Nat)) (numT (0 :: ks))])[(st.set i ys ++ L.set 2 (tabR pnD Ld.d l2)).length]? = some (tabR Ld.d (fun k : Nat => D.int (k : Nat)) (numT (0 :: ks))) := List.getElem?_concat_length ..
      have hds : ∀ p, p ∈ ds ↔ p ∈ ps := fun p => by
        rw [List.append_nil] at hq
        rw [← hq]
        exact pq.mem_iff
      have every : ∀ k ∈ 0 :: ks, ∀ s, ∃ v, look l2 (k, s) = some v ∧ ∀ b, v = .bal b → b ∈ 0 :: ks := by
        intro k hk s
        by_cases q : (k, s) ∈ ps
        · obtain ⟨v, e1, e2⟩ := hgood _ ((hds _).mpr q)
          refine ⟨v, e1, fun b hb => ?_⟩
          rcases e2 with ⟨cs, _, z⟩ | ⟨_, b', hb', z, _⟩
          · rw [hb] at z; cases z
          · rw [hb] at z
            cases z
            exact hb'
        · have : (k, s) ∈ ls.map (·.1) := by
            apply Classical.byContradiction
            intro z
            exact q ((g.pan _).mpr ⟨hk, z⟩)
          obtain ⟨⟨p, v⟩, m, e⟩ := List.mem_map.mp this
          have e' : p = (k, s) := e
          subst e'
          refine ⟨v, (hold _ fun z => q ((hds _).mp z)).trans (look_of_mem g.kd m), fun b hb => ?_⟩
          have hv : v ∈ ls.map (·.2) := List.mem_map.mpr ⟨_, m, rfl⟩
          rw [g.vals] at hv
          obtain ⟨k', hk', e⟩ := List.mem_map.mp hv
          rw [hb] at e
          cases e
          exact List.mem_cons_of_mem _ hk'
      refine lc_map (fun k : Nat => D.int (k : Nat)) (fun k : Nat => ldsD (numL (0 :: ks) ((look l2 (k, false)).getD (.bal 0)), numL (0 :: ks) ((look l2 (k, true)).getD (.bal 0)))) _ _ (by exact trivial) _ (fun k hk kd hkd => ?_) ?_
      · simp only [e5__law_net]
        (walk_at "lw_dd0")
        refine fun _ => ⟨trivial, ?_⟩
        have one : ∀ (s : Bool) (kd2 : DK), kd2 (numL (0 :: ks) ((look l2 (k, s)).getD (.bal 0))).d (st.set i ys ++ L.set 2 (tabR pnD Ld.d l2) ++ [tabR Ld.d (fun k : Nat => D.int (k : Nat)) (numT (0 :: ks))]) →
            e4__law_net [some (.obj i), some (.lst (names.map fun z => .str (S z))), some (.int (most : Nat)), some (.int (high : Nat)), some (.bl tog), some (.int (1 + (z : Int))), some (.obj (st.length + pi)), some (.obj (st.length + 1)), some (.dic true (st.length + 1 + 1)), some (.int (k : Nat)), v10, v11, some (.lst ((0 :: ks).map fun k => .int ((k : Nat) : Int))), v13, some (.dic false (st.set i ys ++ L.set 2 (tabR pnD Ld.d l2)).length), none, some (.int (sideI s))] (st.set i ys ++ L.set 2 (tabR pnD Ld.d l2) ++ [tabR Ld.d (fun k : Nat => D.int (k : Nat)) (numT (0 :: ks))]) kd2 := by
          intro s kd2 h2
          obtain ⟨v, e1, e2⟩ := every k hk s
          simp only [e4__law_net]
          (walk_at "lw_dd0")
          refine ⟨e_dsome gn, ?_⟩
          rw [e_dget gd]
          refine ⟨rfl, v.d, by rw [show D.tup [D.int (k : Nat), D.int (sideI s)] = pnD (k, s) from rfl, valR_tab keyN, e1]; rfl, ?_⟩
          rw [e_dget gd]
          refine ⟨rfl, v.d, by rw [show D.tup [D.int (k : Nat), D.int (sideI s)] = pnD (k, s) from rfl, valR_tab keyN, e1]; rfl, ?_⟩
          rw [e_dgetOr gn, valR_tab keyL]
          refine ⟨keyL.some v, ?_⟩
          rw [e1, Option.getD_some] at h2
          cases v with
          | out cs => rw [numT_out]; exact h2
          | bal b => rw [numT_bal gnd (e2 b rfl)]; exact h2
        refine one false _ ⟨trivial, one true _ ⟨trivial, ?_⟩⟩
        exact hkd
      rw [List.nil_append]
      rw [show ((0 :: ks).map fun k : Nat => ldsD (numL (0 :: ks) ((look l2 (k, false)).getD (.bal 0)), numL (0 :: ks) ((look l2 (k, true)).getD (.bal 0)))) = (webOf (0 :: ks) (look l2)).map ldsD by unfold webOf; rw [List.map_map]; rfl]
      rw [List.append_assoc]
      have wb : below 0 (webD (webOf (0 :: ks) (look l2))) = true := by
        unfold webD
        simp only [below]
        generalize webOf (0 :: ks) (look l2) = W
        induction W with
        | nil => rfl
        | cons p r ih => simp only [List.map_cons, belows, below, ldsD, ld_below, Bool.true_and, ih]
      refine frz_tapeN rfl tp (fun c hc => ?_) ?_
      · rcases List.mem_append.mp hc with hc | hc
        · rcases List.mem_or_eq_of_mem_set hc with z | z
          · exact hb c z
          · rw [z]; exact tabL_below 0 (ld_below 0) _
        · rw [List.mem_singleton.mp hc]
          generalize numT (0 :: ks) = W
          induction W with
          | nil => rfl
          | cons p r ih =>
            unfold tabR at ih ⊢
            simp only [List.map_cons, belows, below, ld_below, Bool.true_and, ih]
      · rw [show D.tup ((webOf (0 :: ks) (look l2)).map ldsD) = webD (webOf (0 :: ks) (look l2)) from rfl, frzs_closed wb]
        exact h _ _ (web_ok g (by omega) (fun p hp => hgood p ((hds p).mpr hp)) (fun p hp => hold p fun z => hp ((hds p).mp z))) (tp.mono (by
          rw [List.append_nil] at hq
          rw [hq] at qlen
          omega))
    · refine ⟨v9, v11, none, ys, [], ls, ?_, ?_, tp.mono (by omega), rfl, by simp, fun p hp => (by cases hp), fun p _ => rfl⟩
      · rfl
      · have : L.set 2 (tabR pnD Ld.d ls) = L := set_same hl
        rw [this]
  · refine ⟨0, none, none, none, x1, [[D.tup [.int 0, .int 0], .tup [.int 0, .int 1]], (List.replicate (z + 1) (0 : Int)).map D.int, []], [(0, false), (0, true)], List.replicate (z + 1) 0, [], [], ?_, ?_, ?_, ?_, rfl, by decide, by decide, rfl, rfl, G1.start (by omega) (by omega)⟩
    · rfl
    · rw [hst]
      simp
    · rw [hst]
      exact t1
    · intro c hc
      rcases List.mem_cons.mp hc with e | hc
      · rw [e]
        rfl
      rcases List.mem_cons.mp hc with e | hc
      · rw [e]
        exact belows_int 0 _
      · rw [List.mem_singleton.mp hc]
        rfl
def e1__law_standings : DE :=
    (dIf (dTru (dVar 3)) (dUn negD (dC (.int 1))) (dCall sp__law_standing (dCons (dVar 0) (dCons (dVar 2) dNil))))
def t__law_standings : DS :=
    (dSeq (dAsg (dOp (eqOp false) (dCall sp__law_draw (dCons (dVar 0) (dCons (dC (.int 3)) dNil))) (dC (.int 0))) (dgName 3))
    (dRet (dB bTuple (dCons (dLc (dIter (dVar 1)) (dgName 4) dYes (e1__law_standings) [4]) dNil))))
theorem st__law_standings (a0 a1 a2 : D) : startD N__law_standings [a0, a1, a2] = [some a0, some a1, some a2, none, none] := rfl
def sp__law_standings : SpD := fun ds st kk => ∃ (i n : Nat) (w : Web) (m : Int), ds = [.obj i, webD w, .int m] ∧ Tp i n st ∧ n < 100000000 ∧ w.length ≤ 1000 ∧ 1 ≤ m ∧ m < 1000000000000 ∧ ∀ (row : List Int) xs, Lies w row → (∀ x ∈ row, -(2 * m) < x ∧ x < 2 * m) → Tp i (n + 2 * w.length + 1) (st.set i xs) → kk (.tup (row.map D.int)) (st.set i xs)
theorem len__law_standings (ds : List D) (st : Sto) (kk : DK) (h : sp__law_standings ds st kk) : ds.length = 3 := by
  obtain ⟨_, _, _, _, rfl, _⟩ := h
  rfl
theorem p__law_standings : BodyD false N__law_standings sp__law_standings t__law_standings := by
  rintro ds st kk ⟨i, n, w, m, rfl, ht, hn, wl, m1, m2, h⟩
  rw [st__law_standings]
  simp only [t__law_standings]
  (walk_at "lw_dd0")
  refine ⟨i, n, 3, rfl, ht, by omega, by (first | exact mulc _ _ (by decide) (by decide) | exact mulr _ _ (by decide) (by decide) | exact ⟨by decide, by decide, by decide⟩ | exact ⟨by decide, by decide⟩ | exact mulb _ _ | exact ⟨by omega, by omega⟩ | exact mulc _ _ (by omega) (by omega) | exact mulr _ _ (by omega) (by omega) | exact div_small (by omega) (by omega) | exact ⟨by omega, by omega, by omega⟩ | omega | decide), fun fr x1 f0 f1 t1 => ?_⟩
  (walk_at "lw_dd0")
  rw [e_iterW]
  refine fun wl' => ⟨by rw [List.length_map]; exact wl', ?_⟩
  refine lc_draws D.int (fun s => s % 2 = 1 ∧ -(2 * m) < s ∧ s < 2 * m) i 2 900000000 (fun x k s kd t hk q => ?_) _ _ _ [] t1 (by rw [List.length_map]; omega) fun row x4 hrl hrow t4 => ?_
  · simp only [e1__law_standings]
    (walk_at "lw_dd0")
    by_cases z : fr = 0
    · rw [if_pos z]
      (walk_at "lw_dd0")
      obtain ⟨ys, e⟩ := t.same
      have := q (-1) ys ⟨by decide, by omega, by omega⟩
      rw [e] at this
      exact this (t.mono (by omega))
    · rw [if_neg z]
      exact ⟨i, _, m, rfl, t, by omega, m1, m2, fun sx y so s0 s1 u => q sx y ⟨so, s0, s1⟩ u⟩
  · rw [List.nil_append, List.set_set]
    rw [List.set_set] at t4
    rw [List.length_map] at hrl t4
    (walk_at "lw_dd0")
    exact h row x4 ⟨hrl, fun x hx => (hrow x hx).1⟩ (fun x hx => (hrow x hx).2) (t4.mono (by omega))
def b1__law_gone : DS :=
    (dSeq (dAsg (dB bInt (dCons (dOp (cmpI fun i j => decide (j < i)) (dOp ixD (dVar 4) (dVar 3)) (dC (.int 0))) dNil)) (dgName 6))
    (dSeq (dDrop (dMeth mAppend (dVar 5) (dCons (dTup (dCons (dVar 3) (dCons (dVar 6) dNil))) dNil)))
    (dSeq (dAsg (dOp addD (dOp ixD (dVar 4) (dVar 3)) (dOp mulD (dOp mulD (dC (.int 2)) (dVar 2)) (dOp subD (dC (.int 1)) (dOp mulD (dC (.int 2)) (dVar 6))))) (dgSub (dVar 4) (dVar 3)))
    (dAsg (dOp ixD (dOp ixD (dVar 0) (dVar 3)) (dVar 6)) (dgName 3)))))
def t__law_gone : DS :=
    (dSeq (dPar3 3 4 5 (dCons (dC (.int 0)) (dCons (dB bListNew (dCons (dVar 1) dNil)) (dCons (dNew dNil) dNil))))
    (dSeq (dWhile (dNot (dTru (dIsi (dVar 3) ["str"]))) (b1__law_gone))
    (dRet (dTup (dCons (dVar 5) (dCons (dVar 3) (dCons (dB bTuple (dCons (dVar 4) dNil)) dNil)))))))
theorem st__law_gone (a0 a1 a2 : D) : startD N__law_gone [a0, a1, a2] = [some a0, some a1, some a2, none, none, none, none] := rfl
def sp__law_gone : SpD := fun ds st kk => ∃ (w : Web) (g : Int) (row : List Int), ds = [webD w, .tup (row.map D.int), .int g] ∧ Nt w ∧ Lies w row ∧ -(2 ^ 62) < g ∧ g < 2 ^ 62 ∧
  kk (.tup [.lst ((way w g 0 row).1.map pnD), .str (S (way w g 0 row).2.1), .tup ((way w g 0 row).2.2.map D.int)]) st
theorem len__law_gone (ds : List D) (st : Sto) (kk : DK) (h : sp__law_gone ds st kk) : ds.length = 3 := by
  obtain ⟨_, _, _, rfl, _⟩ := h
  rfl
theorem p__law_gone : BodyD true N__law_gone sp__law_gone t__law_gone := by
  rintro ds st kk ⟨w, g, row0, rfl, nt, hl, gl, gh, h⟩
  rw [st__law_gone]
  simp only [t__law_gone]
  have hw := nt.fwd
  have h1 := nt.one
  have hn := nt.few
  (walk_at "lw_dd0")
  rw [show st ++ [row0.map D.int] ++ [[]] = st ++ [row0.map D.int, []] by rw [List.append_assoc]; rfl]
  simp only [List.length_append, List.length_singleton]
  refine ⟨fun m env s => ∃ (done : List Pn) (row : List Int) (here : Ld) (v6 : Option D), env = [some (webD w), some (.tup (row0.map D.int)), some (.int g), some here.d, some (.obj st.length), some (.obj (st.length + 1)), v6] ∧ s = st ++ [row.map D.int, done.map pnD] ∧ done.length + m = w.length ∧ match here with
      | .bal k => k < w.length ∧ w.length - k ≤ m ∧ Lies w row ∧ way w g 0 row0 = (done ++ (way w g k row).1, (way w g k row).2)
      | .out cs => way w g 0 row0 = (done, cs, row), ⟨w.length, [], row0, .bal 0, none, rfl, rfl, by simp, by omega, by omega, hl, by simp⟩, ?_⟩
  rintro m env s ⟨done, row, here, v6, rfl, rfl, hm, hh⟩
  (try simp only [BEq.rfl, ↓e_v0, ↓e_vs, ↓e_c, ↓e_op, ↓e_un, ↓e_test, ↓e_testK, ↓e_tru, ↓e_truL, ↓e_truT, ↓e_truB, ↓e_truI, ↓e_truN, ↓e_truS, ↓e_not, ↓e_and, ↓e_or, ↓e_andv, ↓e_notv, ↓e_andK, ↓e_notK, ↓e_if, ↓e_nil, ↓e_cons, ↓e_tup, ↓e_lst, ↓e_new, ↓e_call, ↓e_callK, ↓e_drop, ↓e_ret, ↓e_pass, ↓e_ifS, ↓e_g0, ↓e_gs, ↓e_gnil, ↓e_gcons, ↓e_gtup, ↓e_asg, ↓e_par, ↓e_parK, ↓e_par3, ↓e_par3K, ↓e_no, ↓e_some, ↓e_someK, ↓e_cut, ↓e_b, ↓e_iter, ↓e_iterL, ↓e_iterT, ↓e_iterS, ↓e_rng1, ↓e_rng1K, ↓e_rng2, ↓e_rng2K, ↓e_enum, ↓e_enumL, ↓e_enumT, ↓e_zip, ↓e_zipL, ↓e_zipT, ↓e_for, ↓e_lc, ↓e_lcNew, ↓e_meth, ↓e_isL, ↓e_sub, ↓e_isi, ↓e_yes, ↓e_addI, ↓e_addB, ↓e_addS, ↓e_addT, ↓e_addL, ↓e_subI, ↓e_mulI, ↓e_mulT, ↓e_mulL, ↓e_divI, ↓e_modI, ↓e_powI, ↓e_negI, ↓e_cmpI, ↓e_eq, ↓e_ne, ↓e_isn, ↓e_isnn, ↓e_isb, ↓e_ixL, ↓e_ixKL, ↓e_ixT, ↓e_cutL, ↓e_cutKL, ↓e_cutT, ↓e_lenL, ↓e_lenKL, ↓e_lenT, ↓e_abs, ↓e_intI, ↓e_intB, ↓e_max2, ↓e_listNL, ↓e_listNT, ↓e_tupL, ↓e_tupT, ↓e_drI, ↓e_drB, ↓e_drS, ↓e_drN, ↓e_drL, ↓e_drT, ↓e_seq, ↓e_inL, ↓e_inKL, ↓e_inT, ↓e_inFlat, ↓e_drK, ↓e_addBI, ↓e_subBI, ↓e_subIB, ↓e_drG, ↓e_dnew, ↓e_dgetF, ↓e_dget2, ↓e_dgPut, ↓e_join, ↓e_joinL, ↓e_cutS, ↓e_mulS, ↓e_sortV, ↓e_tidx, ↓e_mulNewL, ↓e_sortedPL, ↓e_countL, ↓e_indexL, ↓e_tryGet, ↓e_isC, ↓e_isCK, ↓e_what, ↓e_whatK, ↓e_sil, ↓e_callX, ↓e_raise, e_kyI, e_kyS, Nat.reduceAdd, Nat.zero_add, List.length_cons, List.length_nil, List.length_map, Nat.reduceLeDiff, and_true, true_and, if_true, ite_true, decide_eq_true_eq, Bool.not_eq_true, Bool.false_eq_true, if_false, ite_false, ↓reduceIte, Int.reduceToNat, Int.reducePow, ne_eq, q_okI, q_okB, q_okN, q_okS, q_okL, q_okT, q_oks0, q_oks1, q_eqII, q_eqBB, q_eqSS, q_eqLL, q_eqTT, q_eqNN, q_eqNI, q_eqIN, q_eqs0, q_eqs1, Bool.true_and, Bool.and_true, beq_iff_eq, reduceCtorEq, wipeE, List.set_cons_zero, List.set_cons_succ, List.set_nil, Bool.not_true, Bool.not_false, List.getElem?_cons_zero, List.getElem?_cons_succ, tyD, subTy, List.any_cons, List.any_nil])
  cases here with
  | out cs =>
    have hh : way w g 0 row0 = (done, cs, row) := hh
    rw [hh] at h
    rw [show (Ld.out cs).d = D.str (S cs) from rfl]
    (try simp only [BEq.rfl, ↓e_v0, ↓e_vs, ↓e_c, ↓e_op, ↓e_un, ↓e_test, ↓e_testK, ↓e_tru, ↓e_truL, ↓e_truT, ↓e_truB, ↓e_truI, ↓e_truN, ↓e_truS, ↓e_not, ↓e_and, ↓e_or, ↓e_andv, ↓e_notv, ↓e_andK, ↓e_notK, ↓e_if, ↓e_nil, ↓e_cons, ↓e_tup, ↓e_lst, ↓e_new, ↓e_call, ↓e_callK, ↓e_drop, ↓e_ret, ↓e_pass, ↓e_ifS, ↓e_g0, ↓e_gs, ↓e_gnil, ↓e_gcons, ↓e_gtup, ↓e_asg, ↓e_par, ↓e_parK, ↓e_par3, ↓e_par3K, ↓e_no, ↓e_some, ↓e_someK, ↓e_cut, ↓e_b, ↓e_iter, ↓e_iterL, ↓e_iterT, ↓e_iterS, ↓e_rng1, ↓e_rng1K, ↓e_rng2, ↓e_rng2K, ↓e_enum, ↓e_enumL, ↓e_enumT, ↓e_zip, ↓e_zipL, ↓e_zipT, ↓e_for, ↓e_lc, ↓e_lcNew, ↓e_meth, ↓e_isL, ↓e_sub, ↓e_isi, ↓e_yes, ↓e_addI, ↓e_addB, ↓e_addS, ↓e_addT, ↓e_addL, ↓e_subI, ↓e_mulI, ↓e_mulT, ↓e_mulL, ↓e_divI, ↓e_modI, ↓e_powI, ↓e_negI, ↓e_cmpI, ↓e_eq, ↓e_ne, ↓e_isn, ↓e_isnn, ↓e_isb, ↓e_ixL, ↓e_ixKL, ↓e_ixT, ↓e_cutL, ↓e_cutKL, ↓e_cutT, ↓e_lenL, ↓e_lenKL, ↓e_lenT, ↓e_abs, ↓e_intI, ↓e_intB, ↓e_max2, ↓e_listNL, ↓e_listNT, ↓e_tupL, ↓e_tupT, ↓e_drI, ↓e_drB, ↓e_drS, ↓e_drN, ↓e_drL, ↓e_drT, ↓e_seq, ↓e_inL, ↓e_inKL, ↓e_inT, ↓e_inFlat, ↓e_drK, ↓e_addBI, ↓e_subBI, ↓e_subIB, ↓e_drG, ↓e_dnew, ↓e_dgetF, ↓e_dget2, ↓e_dgPut, ↓e_join, ↓e_joinL, ↓e_cutS, ↓e_mulS, ↓e_sortV, ↓e_tidx, ↓e_mulNewL, ↓e_sortedPL, ↓e_countL, ↓e_indexL, ↓e_tryGet, ↓e_isC, ↓e_isCK, ↓e_what, ↓e_whatK, ↓e_sil, ↓e_callX, ↓e_raise, e_kyI, e_kyS, Nat.reduceAdd, Nat.zero_add, List.length_cons, List.length_nil, List.length_map, Nat.reduceLeDiff, and_true, true_and, if_true, ite_true, decide_eq_true_eq, Bool.not_eq_true, Bool.false_eq_true, if_false, ite_false, ↓reduceIte, Int.reduceToNat, Int.reducePow, ne_eq, q_okI, q_okB, q_okN, q_okS, q_okL, q_okT, q_oks0, q_oks1, q_eqII, q_eqBB, q_eqSS, q_eqLL, q_eqTT, q_eqNN, q_eqNI, q_eqIN, q_eqs0, q_eqs1, Bool.true_and, Bool.and_true, beq_iff_eq, reduceCtorEq, wipeE, List.set_cons_zero, List.set_cons_succ, List.set_nil, Bool.not_true, Bool.not_false, List.getElem?_cons_zero, List.getElem?_cons_succ, tyD, subTy, List.any_cons, List.any_nil])
    rw [if_neg (by simp), e_tupO (i := st.length) (xs := row.map D.int) (by rw [List.getElem?_append_right (Nat.le_refl _), Nat.sub_self]; rfl)]
    have cl : ∀ c ∈ [row.map D.int, done.map pnD], belows 0 c = true := by
      intro c hc
      rcases List.mem_cons.mp hc with z | z
      · rw [z]; exact belows_int 0 _
      · rw [List.mem_singleton.mp z]; exact pn_below 0 _
    refine ⟨st, _, rfl, rfl, fun _ _ e => .inl e, safe_closed _ _ cl, ?_⟩
    rw [frzs_tup]
    have e : frzs st.length [row.map D.int, done.map pnD] (.obj (st.length + 1)) = .lst (done.map pnD) := frzs_obj _ _ _ _ cl (by omega) (by rw [Nat.add_sub_cancel_left]; rfl)
    simp only [List.map_cons, List.map_nil, e]
    rw [frzs_closed (by rfl), frzs_closed (by simp only [below]; exact belows_int 0 _)]
    exact h
  | bal k =>
    obtain ⟨hk, hkm, hr, hh⟩ := hh
    rw [show (Ld.bal k).d = D.int (k : Nat) from rfl]
    (try simp only [BEq.rfl, ↓e_v0, ↓e_vs, ↓e_c, ↓e_op, ↓e_un, ↓e_test, ↓e_testK, ↓e_tru, ↓e_truL, ↓e_truT, ↓e_truB, ↓e_truI, ↓e_truN, ↓e_truS, ↓e_not, ↓e_and, ↓e_or, ↓e_andv, ↓e_notv, ↓e_andK, ↓e_notK, ↓e_if, ↓e_nil, ↓e_cons, ↓e_tup, ↓e_lst, ↓e_new, ↓e_call, ↓e_callK, ↓e_drop, ↓e_ret, ↓e_pass, ↓e_ifS, ↓e_g0, ↓e_gs, ↓e_gnil, ↓e_gcons, ↓e_gtup, ↓e_asg, ↓e_par, ↓e_parK, ↓e_par3, ↓e_par3K, ↓e_no, ↓e_some, ↓e_someK, ↓e_cut, ↓e_b, ↓e_iter, ↓e_iterL, ↓e_iterT, ↓e_iterS, ↓e_rng1, ↓e_rng1K, ↓e_rng2, ↓e_rng2K, ↓e_enum, ↓e_enumL, ↓e_enumT, ↓e_zip, ↓e_zipL, ↓e_zipT, ↓e_for, ↓e_lc, ↓e_lcNew, ↓e_meth, ↓e_isL, ↓e_sub, ↓e_isi, ↓e_yes, ↓e_addI, ↓e_addB, ↓e_addS, ↓e_addT, ↓e_addL, ↓e_subI, ↓e_mulI, ↓e_mulT, ↓e_mulL, ↓e_divI, ↓e_modI, ↓e_powI, ↓e_negI, ↓e_cmpI, ↓e_eq, ↓e_ne, ↓e_isn, ↓e_isnn, ↓e_isb, ↓e_ixL, ↓e_ixKL, ↓e_ixT, ↓e_cutL, ↓e_cutKL, ↓e_cutT, ↓e_lenL, ↓e_lenKL, ↓e_lenT, ↓e_abs, ↓e_intI, ↓e_intB, ↓e_max2, ↓e_listNL, ↓e_listNT, ↓e_tupL, ↓e_tupT, ↓e_drI, ↓e_drB, ↓e_drS, ↓e_drN, ↓e_drL, ↓e_drT, ↓e_seq, ↓e_inL, ↓e_inKL, ↓e_inT, ↓e_inFlat, ↓e_drK, ↓e_addBI, ↓e_subBI, ↓e_subIB, ↓e_drG, ↓e_dnew, ↓e_dgetF, ↓e_dget2, ↓e_dgPut, ↓e_join, ↓e_joinL, ↓e_cutS, ↓e_mulS, ↓e_sortV, ↓e_tidx, ↓e_mulNewL, ↓e_sortedPL, ↓e_countL, ↓e_indexL, ↓e_tryGet, ↓e_isC, ↓e_isCK, ↓e_what, ↓e_whatK, ↓e_sil, ↓e_callX, ↓e_raise, e_kyI, e_kyS, Nat.reduceAdd, Nat.zero_add, List.length_cons, List.length_nil, List.length_map, Nat.reduceLeDiff, and_true, true_and, if_true, ite_true, decide_eq_true_eq, Bool.not_eq_true, Bool.false_eq_true, if_false, ite_false, ↓reduceIte, Int.reduceToNat, Int.reducePow, ne_eq, q_okI, q_okB, q_okN, q_okS, q_okL, q_okT, q_oks0, q_oks1, q_eqII, q_eqBB, q_eqSS, q_eqLL, q_eqTT, q_eqNN, q_eqNI, q_eqIN, q_eqs0, q_eqs1, Bool.true_and, Bool.and_true, beq_iff_eq, reduceCtorEq, wipeE, List.set_cons_zero, List.set_cons_succ, List.set_nil, Bool.not_true, Bool.not_false, List.getElem?_cons_zero, List.getElem?_cons_succ, tyD, subTy, List.any_cons, List.any_nil])
    rw [if_pos (by decide)]
    simp only [b1__law_gone]
    have kr : k < row.length := by rw [hr.len]; exact hk
    have g0 : (st ++ [row.map D.int, done.map pnD])[st.length]? = some (row.map D.int) := by rw [List.getElem?_append_right (Nat.le_refl _), Nat.sub_self]; rfl
    have g1 : (st ++ [row.map D.int, done.map pnD])[st.length + 1]? = some (done.map pnD) := sa_get rfl
    (walk_at "lw_dd0")
    rw [e_ixO g0]
    refine ⟨_, atI_int kr, ?_⟩
    (walk_at "lw_dd0")
    have fb : row.getD k 0 + 2 * g * (1 - 2 * (if 0 < row.getD k 0 then 1 else 0)) = fallI (row.getD k 0) g := by
      have ho := hr.at hk
      unfold fallI
      split
      · rw [if_neg (by omega)]
        omega
      · rw [if_pos (by omega)]
        omega
    have eb : (if 0 < row.getD k 0 then (1 : Int) else 0) = sideI (decide (0 < row.getD k 0)) := by
      unfold sideI
      by_cases z : 0 < row.getD k 0
      · rw [if_pos z, decide_eq_true z, if_pos rfl]
      · rw [if_neg z, decide_eq_false z, if_neg Bool.false_ne_true]
    refine ⟨e_isO g1, ?_⟩
    rw [e_app g1, sa_set rfl]
    refine ⟨by rw [List.length_map]; omega, ?_⟩
    have g2 : (st ++ [row.map D.int, done.map pnD].set 1 (done.map pnD ++ [D.tup [D.int (k : Nat), D.int (if 0 < row.getD k 0 then 1 else 0)]]))[st.length]? = some (row.map D.int) := by
      rw [List.getElem?_append_right (Nat.le_refl _), Nat.sub_self]; rfl
    rw [e_ixO g2]
    refine ⟨_, atI_int kr, ?_⟩
    refine ⟨mul2 _, mul2 _, mulr _ _ (by split <;> omega) (by split <;> omega), ?_⟩
    (walk_at "lw_dd0")
    rw [fb, e_setO (show (st ++ [row.map D.int, done.map pnD ++ [D.tup [D.int (k : Nat), D.int (if 0 < row.getD k 0 then 1 else 0)]]])[st.length]? = some (row.map D.int) from g2)]
    refine ⟨k, by rw [List.length_map, ixN_of (by omega) (by omega), Int.toNat_natCast], ?_⟩
    rw [eb]
    have e := leadW_some hk (decide (0 < row.getD k 0))
    have hwk : ∃ p, w[k]? = some p ∧ Ld.of p (decide (0 < row.getD k 0)) = leadN w k (decide (0 < row.getD k 0)) := by
      unfold leadW at e
      cases hp : w[k]? with
      | none => rw [hp] at e; cases e
      | some p => rw [hp] at e; exact ⟨p, rfl, by simpa using e⟩
    obtain ⟨p, hp, hpl⟩ := hwk
    simp only [webD]
    rw [e_ixT]
    refine ⟨_, atI_some hp, ?_⟩
    unfold ldsD
    rw [e_ixT]
    refine ⟨(leadN w k (decide (0 < row.getD k 0))).d, by rw [← hpl]; cases decide (0 < row.getD k 0) <;> rfl, ?_⟩
    refine ⟨m - 1, by omega, done ++ [(k, decide (0 < row.getD k 0))], row.set k (fallI (row.getD k 0) g), leadN w k (decide (0 < row.getD k 0)), _, rfl, ?_, by rw [List.length_append, List.length_singleton]; omega, ?_⟩
    · rw [List.set_append_right _ _ (Nat.le_refl _), Nat.sub_self, List.map_append, List.map_set]
      rfl
    cases hd : leadN w k (decide (0 < row.getD k 0)) with
    | out cs =>
      rw [hh, way_out hk hd]
    | bal j =>
      rw [hd] at e
      obtain ⟨h3, h4⟩ := hw _ _ _ e
      refine ⟨h4, by omega, hr.fall hk g, ?_⟩
      rw [hh, way_bal hw hk hd, List.append_assoc]
      rfl
def b1__law_out : DS :=
    (dSeq (dAsg (dCall sp__law_gone (dCons (dVar 0) (dCons (dVar 1) (dCons (dVar 4) dNil)))) (dgTup 3 (dgCons (dgName 5) (dgCons (dgName 6) (dgCons (dgName 1) dgNil)))))
    (dDrop (dMeth mAppend (dVar 3) (dCons (dVar 6) dNil))))
def t__law_out : DS :=
    (dSeq (dAsg (dNew dNil) (dgName 3))
    (dSeq (dFor (dIter (dVar 2)) (dgName 4) (b1__law_out))
    (dRet (dTup (dCons (dVar 3) (dCons (dVar 1) dNil))))))
theorem st__law_out (a0 a1 a2 : D) : startD N__law_out [a0, a1, a2] = [some a0, some a1, some a2, none, none, none, none] := rfl
theorem out_loop (w : Web) (nt : Nt w) (rt : DK) (a2 : D) (st : Sto) (kk : DL.Env → Sto → Prop) : ∀ (gs row : List Int) (dn : List (List Nat)) (v4 v5 v6 : Option D), Lies w row → (∀ g ∈ gs, 1 ≤ g ∧ g ≤ 1000000000000) → dn.length + gs.length ≤ 16777216 →
    (∀ u4 u5 u6, kk [some (webD w), some (.tup ((fallsN w gs row).2.map D.int)), some a2, some (.obj st.length), u4, u5, u6] (st ++ [(dn ++ (fallsN w gs row).1).map txD])) →
    goFor [] (dgName 4) b1__law_out ⟨kk, rt⟩ (gs.map D.int) [some (webD w), some (.tup (row.map D.int)), some a2, some (.obj st.length), v4, v5, v6] (st ++ [dn.map txD])
  | [], row, dn, v4, v5, v6, hl, _, _, h => by
    refine ⟨trivial, ?_⟩
    have := h v4 v5 v6
    simp only [fallsN, List.append_nil] at this
    exact this
  | g :: gs, row, dn, v4, v5, v6, hl, hg, hn, h => by
    refine ⟨trivial, ?_⟩
    rw [List.length_cons] at hn
    have g0 := hg g List.mem_cons_self
    (walk_at "lw_dd0")
    simp only [b1__law_out]
    (walk_at "lw_dd0")
    refine ⟨w, g, row, rfl, nt, hl, by omega, by omega, ?_⟩
    (walk_at "lw_dd0")
    refine ⟨e_isO (List.getElem?_concat_length ..), ?_⟩
    rw [e_app (List.getElem?_concat_length ..), set_last]
    refine ⟨by rw [List.length_map]; omega, ?_⟩
    rw [show dn.map txD ++ [D.str (S (way w g 0 row).2.1)] = (dn ++ [(way w g 0 row).2.1]).map txD by rw [List.map_append]; rfl]
    refine out_loop w nt rt a2 st kk gs _ _ _ _ _ (nt.way hl g) (fun x hx => hg x (List.mem_cons_of_mem _ hx)) (by rw [List.length_append, List.length_singleton]; omega) fun u4 u5 u6 => ?_
    have := h u4 u5 u6
    unfold fallsN at this
    rw [List.append_assoc]
    exact this
def sp__law_out : SpD := fun ds st kk => ∃ (w : Web) (gs row : List Int), ds = [webD w, .tup (row.map D.int), .tup (gs.map D.int)] ∧ Nt w ∧ Lies w row ∧ (∀ g ∈ gs, 1 ≤ g ∧ g ≤ 1000000000000) ∧ gs.length ≤ 100000 ∧
  kk (.tup [.lst ((fallsN w gs row).1.map txD), .tup ((fallsN w gs row).2.map D.int)]) st
theorem len__law_out (ds : List D) (st : Sto) (kk : DK) (h : sp__law_out ds st kk) : ds.length = 3 := by
  obtain ⟨_, _, _, rfl, _⟩ := h
  rfl
theorem p__law_out : BodyD true N__law_out sp__law_out t__law_out := by
  rintro ds st kk ⟨w, gs, row, rfl, nt, hl, hg, hn, h⟩
  rw [st__law_out]
  simp only [t__law_out]
  (walk_at "lw_dd0")
  refine fun _ => ?_
  refine out_loop w nt _ _ st _ gs row [] _ _ _ hl hg (by simp; omega) fun u4 u5 u6 => ?_
  (walk_at "lw_dd0")
  refine .one (txD_below _ _) ?_
  simp only [sub, subs, if_true]
  rw [subs_below _ (belows_int _ _)]
  exact h
def e1__law_put_in : DE :=
    (dIf (dTru (dIsi (dVar 7) ["str"])) (dVar 7) (dOp addD (dVar 7) (dB bInt (dCons (dOp (cmpI fun i j => decide (j < i)) (dVar 7) (dVar 4)) dNil))))
def e2__law_put_in : DE :=
    (dB bTuple (dCons (dLc (dIter (dVar 8)) (dgName 7) dYes (e1__law_put_in) [7]) dNil))
def t__law_put_in : DS :=
    (dSeq (dAsg (dTup (dCons (dCall sp__law_draw (dCons (dVar 0) (dCons (dB bLen (dCons (dVar 1) dNil)) dNil))) (dCons (dCall sp__law_draw (dCons (dVar 0) (dCons (dC (.int 2)) dNil))) dNil))) (dgTup 2 (dgCons (dgName 4) (dgCons (dgName 5) dgNil))))
    (dSeq (dAsg (dLc (dIter (dVar 1)) (dgName 8) dYes (e2__law_put_in) [8]) (dgName 6))
    (dSeq (dPar 9 10 (dCons (dOp ixD (dOp ixD (dVar 6) (dVar 4)) (dVar 5)) (dCons (dB bListNew (dCons (dOp ixD (dVar 6) (dVar 4)) dNil)) dNil)))
    (dSeq (dAsg (dOp addD (dVar 4) (dC (.int 1))) (dgSub (dVar 10) (dVar 5)))
    (dSeq (dAsg (dOp addD (dOp addD (dCut cutOp (dVar 6) dNo (dSome (dVar 4))) (dLst (dCons (dB bTuple (dCons (dVar 10) dNil)) (dCons (dTup (dCons (dVar 9) (dCons (dVar 9) dNil))) dNil)))) (dCut cutOp (dVar 6) (dSome (dOp addD (dVar 4) (dC (.int 1)))) dNo)) (dgName 11))
    (dRet (dTup (dCons (dB bTuple (dCons (dVar 11) dNil)) (dCons (dOp addD (dOp addD (dCut cutOp (dVar 2) dNo (dSome (dOp addD (dVar 4) (dC (.int 1))))) (dTup (dCons (dCall sp__law_standing (dCons (dVar 0) (dCons (dVar 3) dNil))) dNil))) (dCut cutOp (dVar 2) (dSome (dOp addD (dVar 4) (dC (.int 1)))) dNo)) (dCons (dOp addD (dVar 4) (dC (.int 1))) dNil))))))))))
theorem st__law_put_in (a0 a1 a2 a3 : D) : startD N__law_put_in [a0, a1, a2, a3] = [some a0, some a1, some a2, some a3, none, none, none, none, none, none, none, none] := rfl
def sp__law_put_in : SpD := fun ds st kk => ∃ (i n : Nat) (w : Web) (row : List Int), ds = [.obj i, webD w, .tup (row.map D.int), .int 24] ∧ Tp i n st ∧ n < 1000000 ∧ Net w ∧ row.length = w.length ∧
  ∀ (k : Nat) (s : Bool) (x : Int) xs, k < w.length → x % 2 = 1 → Tp i (n + 10) (st.set i xs) → kk (.tup [webD (piV w k s), .tup ((piR row k x).map D.int), .int ((k + 1 : Nat) : Int)]) (st.set i xs)
theorem len__law_put_in (ds : List D) (st : Sto) (kk : DK) (h : sp__law_put_in ds st kk) : ds.length = 4 := by
  obtain ⟨_, _, _, _, rfl, _⟩ := h
  rfl
theorem p__law_put_in : BodyD true N__law_put_in sp__law_put_in t__law_put_in := by
  rintro ds st kk ⟨i, n, w, row, rfl, ht, hn, N, rl, h⟩
  rw [st__law_put_in]
  simp only [t__law_put_in, webD]
  have w1 := N.nt.one
  have few := N.few
  (walk_at "lw_dd0")
  refine ⟨i, n, w.length, rfl, ht, by omega, ⟨by omega, by omega⟩, fun r xs r0 r1 t1 => ?_⟩
  obtain ⟨k, rfl⟩ := Int.eq_ofNat_of_zero_le r0
  have kl : k < w.length := by omega
  (walk_at "lw_dd0")
  refine ⟨i, _, 2, rfl, t1, by omega, by (first | exact mulc _ _ (by decide) (by decide) | exact mulr _ _ (by decide) (by decide) | exact ⟨by decide, by decide, by decide⟩ | exact ⟨by decide, by decide⟩ | exact mulb _ _ | exact ⟨by omega, by omega⟩ | exact mulc _ _ (by omega) (by omega) | exact mulr _ _ (by omega) (by omega) | exact div_small (by omega) (by omega) | exact ⟨by omega, by omega, by omega⟩ | omega | decide), fun sd ys s0 s1 t2 => ?_⟩
  rw [List.set_set] at t2 ⊢
  obtain ⟨s, hs⟩ : ∃ s : Bool, sd = ((if s = true then 1 else 0 : Nat) : Int) := by
    rcases (show sd = 0 ∨ sd = 1 by omega) with z | z
    · exact ⟨false, z⟩
    · exact ⟨true, z⟩
  subst hs
  refine fun _ => ⟨by omega, ?_⟩
  refine lc_map (src := []) ldsD (fun q => ldsD (bmP k q)) w _ trivial [] (fun q hq kd hkd => ?_) ?_
  · simp only [ldsD]
    (walk_at "lw_dd0")
    simp only [e2__law_put_in]
    (walk_at "lw_dd0")
    refine fun _ => lc_map (src := []) Ld.d (fun u => (bmL k u).d) [q.1, q.2] _ trivial [] (fun u hu kd hk2 => ?_) ?_
    · (walk_at "lw_dd0")
      simp only [e1__law_put_in]
      cases u with
      | out d =>
        simp only [Ld.d]
        (try simp only [BEq.rfl, ↓e_v0, ↓e_vs, ↓e_c, ↓e_op, ↓e_un, ↓e_test, ↓e_testK, ↓e_tru, ↓e_truL, ↓e_truT, ↓e_truB, ↓e_truI, ↓e_truN, ↓e_truS, ↓e_not, ↓e_and, ↓e_or, ↓e_andv, ↓e_notv, ↓e_andK, ↓e_notK, ↓e_if, ↓e_nil, ↓e_cons, ↓e_tup, ↓e_lst, ↓e_new, ↓e_call, ↓e_callK, ↓e_drop, ↓e_ret, ↓e_pass, ↓e_ifS, ↓e_g0, ↓e_gs, ↓e_gnil, ↓e_gcons, ↓e_gtup, ↓e_asg, ↓e_par, ↓e_parK, ↓e_par3, ↓e_par3K, ↓e_no, ↓e_some, ↓e_someK, ↓e_cut, ↓e_b, ↓e_iter, ↓e_iterL, ↓e_iterT, ↓e_iterS, ↓e_rng1, ↓e_rng1K, ↓e_rng2, ↓e_rng2K, ↓e_enum, ↓e_enumL, ↓e_enumT, ↓e_zip, ↓e_zipL, ↓e_zipT, ↓e_for, ↓e_lc, ↓e_lcNew, ↓e_meth, ↓e_isL, ↓e_sub, ↓e_isi, ↓e_yes, ↓e_addI, ↓e_addB, ↓e_addS, ↓e_addT, ↓e_addL, ↓e_subI, ↓e_mulI, ↓e_mulT, ↓e_mulL, ↓e_divI, ↓e_modI, ↓e_powI, ↓e_negI, ↓e_cmpI, ↓e_eq, ↓e_ne, ↓e_isn, ↓e_isnn, ↓e_isb, ↓e_ixL, ↓e_ixKL, ↓e_ixT, ↓e_cutL, ↓e_cutKL, ↓e_cutT, ↓e_lenL, ↓e_lenKL, ↓e_lenT, ↓e_abs, ↓e_intI, ↓e_intB, ↓e_max2, ↓e_listNL, ↓e_listNT, ↓e_tupL, ↓e_tupT, ↓e_drI, ↓e_drB, ↓e_drS, ↓e_drN, ↓e_drL, ↓e_drT, ↓e_seq, ↓e_inL, ↓e_inKL, ↓e_inT, ↓e_inFlat, ↓e_drK, ↓e_addBI, ↓e_subBI, ↓e_subIB, ↓e_drG, ↓e_dnew, ↓e_dgetF, ↓e_dget2, ↓e_dgPut, ↓e_join, ↓e_joinL, ↓e_cutS, ↓e_mulS, ↓e_sortV, ↓e_tidx, ↓e_mulNewL, ↓e_sortedPL, ↓e_countL, ↓e_indexL, ↓e_tryGet, ↓e_isC, ↓e_isCK, ↓e_what, ↓e_whatK, ↓e_sil, ↓e_callX, ↓e_raise, e_kyI, e_kyS, Nat.reduceAdd, Nat.zero_add, List.length_cons, List.length_nil, List.length_map, Nat.reduceLeDiff, and_true, true_and, if_true, ite_true, decide_eq_true_eq, Bool.not_eq_true, Bool.false_eq_true, if_false, ite_false, ↓reduceIte, Int.reduceToNat, Int.reducePow, ne_eq, q_okI, q_okB, q_okN, q_okS, q_okL, q_okT, q_oks0, q_oks1, q_eqII, q_eqBB, q_eqSS, q_eqLL, q_eqTT, q_eqNN, q_eqNI, q_eqIN, q_eqs0, q_eqs1, Bool.true_and, Bool.and_true, beq_iff_eq, reduceCtorEq, wipeE, List.set_cons_zero, List.set_cons_succ, List.set_nil, Bool.not_true, Bool.not_false, List.getElem?_cons_zero, List.getElem?_cons_succ, tyD, subTy])
        exact ite_yes (by decide) hk2
      | bal j =>
        simp only [Ld.d]
        (try simp only [BEq.rfl, ↓e_v0, ↓e_vs, ↓e_c, ↓e_op, ↓e_un, ↓e_test, ↓e_testK, ↓e_tru, ↓e_truL, ↓e_truT, ↓e_truB, ↓e_truI, ↓e_truN, ↓e_truS, ↓e_not, ↓e_and, ↓e_or, ↓e_andv, ↓e_notv, ↓e_andK, ↓e_notK, ↓e_if, ↓e_nil, ↓e_cons, ↓e_tup, ↓e_lst, ↓e_new, ↓e_call, ↓e_callK, ↓e_drop, ↓e_ret, ↓e_pass, ↓e_ifS, ↓e_g0, ↓e_gs, ↓e_gnil, ↓e_gcons, ↓e_gtup, ↓e_asg, ↓e_par, ↓e_parK, ↓e_par3, ↓e_par3K, ↓e_no, ↓e_some, ↓e_someK, ↓e_cut, ↓e_b, ↓e_iter, ↓e_iterL, ↓e_iterT, ↓e_iterS, ↓e_rng1, ↓e_rng1K, ↓e_rng2, ↓e_rng2K, ↓e_enum, ↓e_enumL, ↓e_enumT, ↓e_zip, ↓e_zipL, ↓e_zipT, ↓e_for, ↓e_lc, ↓e_lcNew, ↓e_meth, ↓e_isL, ↓e_sub, ↓e_isi, ↓e_yes, ↓e_addI, ↓e_addB, ↓e_addS, ↓e_addT, ↓e_addL, ↓e_subI, ↓e_mulI, ↓e_mulT, ↓e_mulL, ↓e_divI, ↓e_modI, ↓e_powI, ↓e_negI, ↓e_cmpI, ↓e_eq, ↓e_ne, ↓e_isn, ↓e_isnn, ↓e_isb, ↓e_ixL, ↓e_ixKL, ↓e_ixT, ↓e_cutL, ↓e_cutKL, ↓e_cutT, ↓e_lenL, ↓e_lenKL, ↓e_lenT, ↓e_abs, ↓e_intI, ↓e_intB, ↓e_max2, ↓e_listNL, ↓e_listNT, ↓e_tupL, ↓e_tupT, ↓e_drI, ↓e_drB, ↓e_drS, ↓e_drN, ↓e_drL, ↓e_drT, ↓e_seq, ↓e_inL, ↓e_inKL, ↓e_inT, ↓e_inFlat, ↓e_drK, ↓e_addBI, ↓e_subBI, ↓e_subIB, ↓e_drG, ↓e_dnew, ↓e_dgetF, ↓e_dget2, ↓e_dgPut, ↓e_join, ↓e_joinL, ↓e_cutS, ↓e_mulS, ↓e_sortV, ↓e_tidx, ↓e_mulNewL, ↓e_sortedPL, ↓e_countL, ↓e_indexL, ↓e_tryGet, ↓e_isC, ↓e_isCK, ↓e_what, ↓e_whatK, ↓e_sil, ↓e_callX, ↓e_raise, e_kyI, e_kyS, Nat.reduceAdd, Nat.zero_add, List.length_cons, List.length_nil, List.length_map, Nat.reduceLeDiff, and_true, true_and, if_true, ite_true, decide_eq_true_eq, Bool.not_eq_true, Bool.false_eq_true, if_false, ite_false, ↓reduceIte, Int.reduceToNat, Int.reducePow, ne_eq, q_okI, q_okB, q_okN, q_okS, q_okL, q_okT, q_oks0, q_oks1, q_eqII, q_eqBB, q_eqSS, q_eqLL, q_eqTT, q_eqNN, q_eqNI, q_eqIN, q_eqs0, q_eqs1, Bool.true_and, Bool.and_true, beq_iff_eq, reduceCtorEq, wipeE, List.set_cons_zero, List.set_cons_succ, List.set_nil, Bool.not_true, Bool.not_false, List.getElem?_cons_zero, List.getElem?_cons_succ, tyD, subTy])
        refine ite_go (by decide) ?_
        have e9 : (j : Int) + (if (k : Int) < (j : Int) then 1 else 0) = ((upN (k + 1) j : Nat) : Int) := by
          unfold upN
          split <;> split <;> omega
        rw [e9]
        exact hk2
    · (walk_at "lw_dd0")
      exact hkd
  rw [List.nil_append]
  rw [show w.map (fun q => ldsD (bmP k q)) = (w.map (bmP k)).map ldsD by rw [List.map_map]; rfl]
  have lM : ((w.map (bmP k)).map ldsD).length = w.length := by rw [List.length_map, List.length_map]
  have aM : atI ((w.map (bmP k)).map ldsD) (k : Int) = some (.tup [(bmL k (leadN w k false)).d, (bmL k (leadN w k true)).d]) := atI_nat (by
    rw [List.getElem?_map, List.getElem?_map, List.getElem?_eq_getElem kl, lds_at kl]
    rfl)
  have lst : (st.set i ys).length = st.length := List.length_set
  (walk_at "lw_dd0")
  refine ⟨_, aM, ?_⟩
  (walk_at "lw_dd0")
  refine ⟨(bmL k (leadN w k s)).d, by cases s <;> rfl, _, aM, ?_⟩
  (walk_at "lw_dd0")
  have g0 : ∀ (A : Sto) (x : List D), (A ++ [x])[A.length]? = some x := fun A x => app_get
  rw [e_setO (g0 _ _)]
  refine ⟨if s = true then 1 else 0, by cases s <;> rfl, ?_⟩
  rw [app_set]
  have er : [(bmL k (leadN w k false)).d, (bmL k (leadN w k true)).d].set (if s = true then 1 else 0) (.int ((k : Int) + 1)) = [(setS2 (bmP k (leadN w k false, leadN w k true)) s (.bal (k + 1))).1.d, (setS2 (bmP k (leadN w k false, leadN w k true)) s (.bal (k + 1))).2.d] := by
    cases s <;> rfl
  (walk_at "lw_dd0")
  rw [er, e_tupO (g0 _ _)]
  have c1 : DL.cutD ((w.map (bmP k)).map ldsD) none (some (k : Int)) = ((w.map (bmP k)).take k).map ldsD := by rw [cutD_to, List.map_take]
  have c2 : DL.cutD ((w.map (bmP k)).map ldsD) (some ((k : Int) + 1)) none = ((w.map (bmP k)).drop (k + 1)).map ldsD := by rw [show (k : Int) + 1 = ((k + 1 : Nat) : Int) by omega, cutW_from, List.map_drop]
  (walk_at "lw_dd0")
  rw [c1, c2]
  refine ⟨by rw [List.length_map, List.length_take, List.length_map]; omega, by
    simp only [List.length_append, List.length_map, List.length_take, List.length_drop, List.length_cons, List.length_nil]
    omega, ?_⟩
  refine ⟨i, _, 24, rfl, t2.app _, by omega, by decide, by decide, fun x zs x0 x1 x2 t3 => ?_⟩
  have il : i < (st.set i ys).length := t2.lt
  have e2 : (st.set i ys ++ [[(setS2 (bmP k (leadN w k false, leadN w k true)) s (.bal (k + 1))).1.d, (setS2 (bmP k (leadN w k false, leadN w k true)) s (.bal (k + 1))).2.d]]).set i zs = st.set i zs ++ [[(setS2 (bmP k (leadN w k false, leadN w k true)) s (.bal (k + 1))).1.d, (setS2 (bmP k (leadN w k false, leadN w k true)) s (.bal (k + 1))).2.d]] := by
    rw [List.set_append_left _ _ il, List.set_set]
  rw [e2] at t3 ⊢
  have r1 : DL.cutD (row.map D.int) none (some ((k : Int) + 1)) = (row.take (k + 1)).map D.int := by rw [show (k : Int) + 1 = ((k + 1 : Nat) : Int) by omega, cutD_to, List.map_take]
  have r2 : DL.cutD (row.map D.int) (some ((k : Int) + 1)) none = (row.drop (k + 1)).map D.int := by rw [show (k : Int) + 1 = ((k + 1 : Nat) : Int) by omega, cutW_from, List.map_drop]
  rw [r1, r2]
  refine ⟨by rw [List.length_map, List.length_take]; omega, by
    simp only [List.length_append, List.length_map, List.length_take, List.length_drop, List.length_cons, List.length_nil]
    omega, ?_⟩
  have ew : ((w.map (bmP k)).take k).map ldsD ++ [D.tup [(setS2 (bmP k (leadN w k false, leadN w k true)) s (.bal (k + 1))).1.d, (setS2 (bmP k (leadN w k false, leadN w k true)) s (.bal (k + 1))).2.d], D.tup [(bmL k (leadN w k s)).d, (bmL k (leadN w k s)).d]] ++ ((w.map (bmP k)).drop (k + 1)).map ldsD = (piV w k s).map ldsD := by
    unfold piV
    rw [List.map_append, List.map_append]
    rfl
  have ex : (row.take (k + 1)).map D.int ++ [D.int x] ++ (row.drop (k + 1)).map D.int = (piR row k x).map D.int := by
    unfold piR
    rw [List.map_append, List.map_append]
    rfl
  rw [ew, ex]
  have t4 : Tp i (n + 1 + 1 + 2) (st.set i zs) := Tp.left t3 (by rw [List.length_set]; rw [List.length_set] at il; exact il)
  refine frz_tape1 rfl t4 ?_ ?_
  · have lb : ∀ u : Ld, below st.length u.d = true := fun u => by cases u <;> rfl
    simp only [belows, lb, Bool.and_self]
  · rw [sub_below _ (by simp only [below, belows, lds_below, belows_int, Bool.and_self])]
    exact h k s x zs kl x0 (t4.mono (by omega))
def e1__law_rows : DE :=
    (dOp addD (dC (.int 1)) (dCall sp__law_draw (dCons (dVar 0) (dCons (dOp ixD (dLst (dCons (dC (.int 3)) (dCons (dC (.int 24)) (dCons (dOp powD (dC (.int 10)) (dC (.int 3))) (dCons (dOp powD (dC (.int 10)) (dC (.int 9))) dNil))))) (dCall sp__law_draw (dCons (dVar 0) (dCons (dC (.int 4)) dNil)))) dNil))))
def t__law_rows : DS :=
    (dRet (dB bTuple (dCons (dLc (dRng1 (dVar 1)) (dgName 2) dYes (e1__law_rows) [2]) dNil)))
theorem st__law_rows (a0 a1 : D) : startD N__law_rows [a0, a1] = [some a0, some a1, none] := rfl
def sp__law_rows : SpD := fun ds st kk => ∃ (i n : Nat) (m : Nat), ds = [.obj i, .int (m : Nat)] ∧ Tp i n st ∧ n < 100000000 ∧ m ≤ 1000 ∧ ∀ (gs : List Int) xs, gs.length = m → (∀ g ∈ gs, 1 ≤ g ∧ g ≤ 1000000000) → Tp i (n + 2 * m) (st.set i xs) → kk (.tup (gs.map D.int)) (st.set i xs)
theorem len__law_rows (ds : List D) (st : Sto) (kk : DK) (h : sp__law_rows ds st kk) : ds.length = 2 := by
  obtain ⟨_, _, _, rfl, _⟩ := h
  rfl
theorem p__law_rows : BodyD false N__law_rows sp__law_rows t__law_rows := by
  rintro ds st kk ⟨i, n, m, rfl, ht, hn, hm, h⟩
  rw [st__law_rows]
  simp only [t__law_rows]
  (walk_at "lw_dd0")
  refine ⟨by omega, by rw [rangeD_length]; omega, ?_⟩
  refine lc_draws D.int (fun g => 1 ≤ g ∧ g ≤ 1000000000) i 2 900000000 (fun x k s kd t hk q => ?_) _ _ _ [] ht (by rw [rangeD_length]; omega) fun gs x6 hgl hgs t6 => ?_
  · simp only [e1__law_rows]
    (walk_at "lw_dd0")
    refine ⟨⟨by decide, by decide, by decide⟩, ⟨by decide, by decide, by decide⟩, i, _, 4, rfl, t, by omega, by (first | exact mulc _ _ (by decide) (by decide) | exact mulr _ _ (by decide) (by decide) | exact ⟨by decide, by decide, by decide⟩ | exact ⟨by decide, by decide⟩ | exact mulb _ _ | exact ⟨by omega, by omega⟩ | exact mulc _ _ (by omega) (by omega) | exact mulr _ _ (by omega) (by omega) | exact div_small (by omega) (by omega) | exact ⟨by omega, by omega, by omega⟩ | omega | decide), fun r y1 r0 r1 u1 => ?_⟩
    obtain ⟨b, hb, hat⟩ := atI_pick (ns := [3, 24, 10 ^ 3, 10 ^ 9]) r0 (by simpa using r1)
    have hb2 : 1 ≤ b ∧ b ≤ 1000000000 := by
      simp only [List.mem_cons, List.not_mem_nil, or_false] at hb
      rcases hb with rfl | rfl | rfl | rfl <;> decide
    (walk_at "lw_dd0")
    refine ⟨_, hat, i, _, b, rfl, u1, by omega, ⟨by omega, by omega⟩, fun sx y2 s0 s1 u2 => ?_⟩
    rw [List.set_set] at u2 ⊢
    exact q _ y2 ⟨by omega, by omega⟩ (u2.mono (by omega))
  · rw [List.nil_append]
    rw [rangeD_length] at hgl t6
    (walk_at "lw_dd0")
    exact h gs x6 (by omega) hgs (t6.mono (by omega))
def t__law_refused : DS :=
    (dSeq (dAsg (dC .non) (dgName 3))
    (dSeq (dTryGet ["Needed", "Lone"] 4 3 fun xe =>
    (dDrop (dCallX xe sp_without (dCons (dVar 0) (dCons (dVar 1) (dCons (dVar 2) dNil))))))
    (dSeq (dIfS (dOr (dTest (dOp (isOp false) (dVar 3) (dC .non))) (dTru (dIsC [("Needed", false), ("Lone", false)] (dVar 3)))) (dRet (dC .non)) dPass)
    (dSeq (dAsg (dLst (dCons (dIsC [("Needed", true), ("Lone", false)] (dVar 3)) (dCons (dIsC [("Needed", false), ("Lone", true)] (dVar 3)) dNil))) (dgName 5))
    (dSeq (dIfS (dOr (dNot (dTru (dIsC [("Needed", true), ("Lone", true)] (dVar 3)))) (dTest (dOp (eqOp true) (dMeth mCount (dVar 5) (dCons (dC (.bl true)) dNil)) (dC (.int 1))))) (dRet (dC .non)) dPass)
    (dRet (dTup (dCons (dOp ixD (dLst (dCons (dC (.str "needed")) (dCons (dC (.str "lone")) dNil))) (dMeth mIndex (dVar 5) (dCons (dC (.bl true)) dNil))) (dCons (dWhat (dVar 3)) dNil)))))))))
theorem st__law_refused (a0 a1 a2 : D) : startD N__law_refused [a0, a1, a2] = [some a0, some a1, some a2, none, none, none] := rfl
def sp__law_refused : SpD := fun ds st kk => ∃ (w : Web) (row : List Int) (j : Nat), ds = [webD w, .tup (row.map D.int), .int (j : Nat)] ∧ j < w.length ∧ row.length = w.length ∧ w.length ≤ 1000 ∧ WebFine w ∧
  (leadN w j false = leadN w j true → j = 0 ∧ ∃ c, leadN w 0 false = .out c) ∧
  (leadN w j false ≠ leadN w j true → kk (.tup [.str "needed", .int (j : Nat)]) st) ∧ (leadN w j false = leadN w j true → kk (.tup [.str "lone", .int 0]) st)
theorem len__law_refused (ds : List D) (st : Sto) (kk : DK) (h : sp__law_refused ds st kk) : ds.length = 3 := by
  obtain ⟨_, _, _, rfl, _⟩ := h
  rfl
theorem p__law_refused : BodyD false N__law_refused sp__law_refused t__law_refused := by
  rintro ds st kk ⟨w, row, j, rfl, hj, hr, hn, fine, h1, h2, h3⟩
  rw [st__law_refused]
  simp only [t__law_refused]
  (walk_at "lw_dd0")
  refine ⟨w, row, j, rfl, hj, hr, hn, fine, fun ne => ?_, fun e j0 ex => ?_, fun v I => ?_⟩
  · refine ⟨by decide, ite_go Bool.false_ne_true ⟨false, by decide, ite_go Bool.false_ne_true ⟨true, by decide, false, by decide, true, by decide, ite_go (by decide) (ite_go (by decide) ⟨0, by decide, _, rfl, h2 ne⟩)⟩⟩⟩
  · subst j0
    refine ⟨by decide, ite_go Bool.false_ne_true ⟨false, by decide, ite_go Bool.false_ne_true ⟨false, by decide, true, by decide, true, by decide, ite_go (by decide) (ite_go (by decide) ⟨1, by decide, _, rfl, h3 e⟩)⟩⟩⟩
  · obtain ⟨j0, c, hc⟩ := h1 ((I.lead false).trans (I.lead true).symm)
    subst j0
    exact (I.not c ⟨rfl, (I.lead false).symm.trans hc⟩).elim
def e1__law_all_right : DE :=
    (dVar 6)
def z21__law_all_right : DS :=
    (dIfS (dTest (dOp (eqOp true) (dCallK 0 3 [2, 1, 0] (silX sp_without) dNil (dCons (dVar 6) (dCons (dVar 2) (dCons (dVar 1) dNil)))) (dVar 10))) (dRet (dC (.bl false))) dPass)
def z19__law_all_right : DS :=
    (dSeq (dIfS (dTest (dOp (eqOp true) (dCall sp_falls_of (dCons (dOp ixD (dVar 10) (dC (.int 0))) (dCons (dOp ixD (dVar 10) (dC (.int 1))) (dCons (dVar 4) dNil)))) (dTup (dCons (dVar 8) (dCons (dOp addD (dCut cutOp (dVar 9) dNo (dSome (dVar 6))) (dCut cutOp (dVar 9) (dSome (dOp addD (dVar 6) (dC (.int 1)))) dNo)) dNil))))) (dRet (dC (.bl false))) dPass)
    (z21__law_all_right))
def z17__law_all_right : DS :=
    (dSeq (dIfS (dOr (dNot (dTru (dCall (sp__law_same 6) (dCons (dOp ixD (dVar 10) (dC (.int 1))) (dCons (dOp addD (dCut cutOp (dVar 2) dNo (dSome (dVar 6))) (dCut cutOp (dVar 2) (dSome (dOp addD (dVar 6) (dC (.int 1)))) dNo)) dNil))))) (dTest (dOp (eqOp true) (dB bLen (dCons (dOp ixD (dVar 10) (dC (.int 0))) dNil)) (dOp subD (dB bLen (dCons (dVar 1) dNil)) (dC (.int 1)))))) (dRet (dC (.bl false))) dPass)
    (z19__law_all_right))
def b1__law_all_right : DS :=
    (dIfS (dTest (dOp (inOp true) (dVar 6) (dVar 5))) (dIfS (dNot (dTru (dCall (sp__law_same 6) (dCons (dCall sp__law_refused (dCons (dVar 1) (dCons (dVar 2) (dCons (dVar 6) dNil)))) (dCons (dTup (dCons (dC (.str "needed")) (dCons (dVar 6) dNil))) dNil))))) (dRet (dC (.bl false))) dPass) (dIfS (dAnd (dTest (dOp (eqOp false) (dVar 6) (dC (.int 0)))) (dTru (dIsi (dOp ixD (dOp ixD (dVar 1) (dC (.int 0))) (dC (.int 0))) ["str"]))) (dIfS (dNot (dTru (dCall (sp__law_same 6) (dCons (dCall sp__law_refused (dCons (dVar 1) (dCons (dVar 2) (dCons (dC (.int 0)) dNil)))) (dCons (dTup (dCons (dC (.str "lone")) (dCons (dC (.int 0)) dNil))) dNil))))) (dRet (dC (.bl false))) dPass) (dSeq (dAsg (dCall (silX sp_without) (dCons (dVar 1) (dCons (dVar 2) (dCons (dVar 6) dNil)))) (dgName 10))
    (z17__law_all_right))))
def z23__law_all_right : DS :=
    (dRet (dC (.bl true)))
def z9__law_all_right : DS :=
    (dSeq (dFor (dRng1 (dB bLen (dCons (dVar 1) dNil))) (dgName 6) (b1__law_all_right))
    (z23__law_all_right))
def z8__law_all_right : DS :=
    (dSeq (dAsg (dCall sp__law_out (dCons (dVar 1) (dCons (dVar 2) (dCons (dVar 4) dNil)))) (dgTup 2 (dgCons (dgName 8) (dgCons (dgName 9) dgNil))))
    (z9__law_all_right))
def z6__law_all_right : DS :=
    (dSeq (dIfS (dNot (dTru (dCall (sp__law_same 6) (dCons (dCall sp_needless (dCons (dVar 1) dNil)) (dCons (dVar 5) dNil))))) (dRet (dC (.bl false))) dPass)
    (z8__law_all_right))
def z5__law_all_right : DS :=
    (dSeq (dDrop (dMeth mAppend (dVar 3) (dCons (dC (.int 9)) dNil)))
    (z6__law_all_right))
def z3__law_all_right : DS :=
    (dSeq (dIfS (dNot (dTru (dCall (sp__law_same 6) (dCons (dLst (dCons (dVar 3) (dCons (dCallK 0 1 [0] sp_needless dNil (dCons (dVar 1) dNil)) dNil))) (dCons (dLst (dCons (dVar 5) (dCons (dVar 5) dNil))) dNil))))) (dRet (dC (.bl false))) dPass)
    (z5__law_all_right))
def z2__law_all_right : DS :=
    (dSeq (dAsg (dLc (dEnum (dVar 1)) (dgTup 2 (dgCons (dgName 6) (dgCons (dgName 7) dgNil))) (dTest (dOp (eqOp false) (dOp ixD (dVar 7) (dC (.int 0))) (dOp ixD (dVar 7) (dC (.int 1))))) (e1__law_all_right) [6, 7]) (dgName 5))
    (z3__law_all_right))
def t__law_all_right : DS :=
    (dSeq (dPar 3 4 (dCons (dCall sp_needless (dCons (dVar 1) dNil)) (dCons (dCall sp__law_rows (dCons (dVar 0) (dCons (dC (.int 30)) dNil))) dNil)))
    (z2__law_all_right))
theorem st__law_all_right (a0 a1 a2 : D) : startD N__law_all_right [a0, a1, a2] = [some a0, some a1, some a2, none, none, none, none, none, none, none, none] := rfl
theorem outs_ok {w : Web} (nt : Nt w) (fine : WebFine w) : ∀ (gs row : List Int) (hl : Lies w row) (n : Nat), okDs n ((fallsN w gs row).1.map txD) = true
  | [], _, _, _ => by simp only [fallsN, List.map_nil, okDs]
  | g :: gs, row, hl, n => by
    obtain ⟨j, s, hj⟩ := (way_ok nt.fwd g _ 0 row rfl (by have := nt.one; omega) hl).2.1
    have f := lead_fineN fine (leadW_lt hj) s
    rw [leadW_some (leadW_lt hj)] at hj
    rw [Option.some.inj hj] at f
    simp only [fallsN, List.map_cons, okDs, txD, okD, NameL.ok f, Bool.true_and]
    exact outs_ok nt fine gs _ (nt.way hl g) n
theorem wo_fine {w : Web} {j : Nat} {v : Ld} (N : Net w) (I : Idle w j v) : WebFine (woW w j v) := by
  intro p hp
  have fv : LdFine v := by rw [← I.lead false]; exact lead_fineN N.fine I.lt false
  unfold woW at hp
  obtain ⟨q, hq, rfl⟩ := List.mem_map.mp hp
  have fq := N.fine q (List.mem_of_mem_eraseIdx hq)
  have one : ∀ u, LdFine u → LdFine (mvL u j v) := fun u fu => by
    cases u with
    | out c => rw [mv_out]; exact fu
    | bal i =>
      by_cases e : i = j
      · subst e
        rw [mv_own I N.nt.fwd]
        cases v with
        | out c => exact fv
        | bal b =>
          have fv : b < 1000 := fv
          show dnN i b < 1000
          unfold dnN
          split <;> omega
      · rw [mv_other e]
        have fu : i < 1000 := fu
        show dnN j i < 1000
        unfold dnN
        split <;> omega
  exact ⟨one _ fq.1, one _ fq.2⟩
def sp__law_all_right : SpD := fun ds st kk => ∃ (i n : Nat) (w : Web) (row : List Int), ds = [.obj i, webD w, .tup (row.map D.int)] ∧ Tp i n st ∧ n < 1000000 ∧ Net w ∧ Lies w row ∧ ∀ st', Tp i (n + 100) st' → kk (.bl true) st'
theorem len__law_all_right (ds : List D) (st : Sto) (kk : DK) (h : sp__law_all_right ds st kk) : ds.length = 3 := by
  obtain ⟨_, _, _, _, rfl, _⟩ := h
  rfl
theorem p__law_all_right : BodyD false N__law_all_right sp__law_all_right t__law_all_right := by
  rintro ds st kk ⟨i, n, w, row, rfl, ht, hn, N, hl, h⟩
  rw [st__law_all_right]
  simp only [t__law_all_right]
  have w1 := N.nt.one
  have few := N.few
  (walk_at "lw_dd0")
  refine ⟨w, rfl, N.fine, by omega, ?_⟩
  (walk_at "lw_dd0")
  refine ⟨i, n, 30, rfl, ht.app _, by omega, by decide, fun gs xs gl gb t1 => ?_⟩
  rw [List.set_append_left _ _ ht.lt] at t1 ⊢
  have t1' := Tp.left t1 (by rw [List.length_set]; exact ht.lt)
  have sl : (st.set i xs).length = st.length := List.length_set
  rw [← sl]
  generalize st.set i xs = s0 at t1 t1' sl ⊢
  (walk_at "lw_dd0")
  simp only [z2__law_all_right]
  (walk_at "lw_dd0")
  simp only [webD]
  (walk_at "lw_dd0")
  refine fun _ => ⟨by rw [enumD_length, List.length_map]; omega, ?_⟩
  rw [enum_leads]
  refine lc_filter (src := []) (fun k : Nat => D.tup [.int (k : Nat), .tup [(leadN w k false).d, (leadN w k true).d]]) (fun k : Nat => D.int (k : Nat)) (fun k => decide (leadN w k false = leadN w k true)) _ trivial (List.range w.length) [] (fun k hk k1 k2 g1 g2 => ?_) ?_
  · have hk := List.mem_range.mp hk
    (walk_at "lw_dd0")
    refine ⟨_, rfl, _, rfl, ?_⟩
    (walk_at "lw_dd0")
    rw [deref_ldA, deref_ldA]
    refine ⟨ldD_ok _ w N.fine hk _, ldD_ok _ w N.fine hk _, ?_⟩
    rw [ld_eqD]
    by_cases e : leadN w k false = leadN w k true
    · rw [if_pos (decide_eq_true e)]
      simp only [e1__law_all_right]
      (walk_at "lw_dd0")
      exact g1 (decide_eq_true e)
    · rw [if_neg (by rw [decide_eq_false e]; decide)]
      exact g2 (decide_eq_false e)
  rw [List.nil_append, show (List.range w.length).filter (fun k => decide (leadN w k false = leadN w k true)) = needL w from rfl, needZ_d, show D.tup (w.map ldsD) = webD w from rfl]
  have nl : (needZ w).length ≤ 8 := by unfold needZ; rw [List.length_map]; exact Nat.le_trans (needL_len w) few
  simp only [z3__law_all_right]
  (walk_at "lw_dd0")
  refine ⟨w, rfl, N.fine, by omega, ?_⟩
  have q0 : (s0 ++ [(needZ w).map D.int] ++ [(needZ w).map D.int])[s0.length]? = some ((needZ w).map D.int) := by
    rw [List.append_assoc, List.getElem?_append_right (Nat.le_refl _), Nat.sub_self]; rfl
  have q1 : (s0 ++ [(needZ w).map D.int] ++ [(needZ w).map D.int])[(s0 ++ [(needZ w).map D.int]).length]? = some ((needZ w).map D.int) := app_get
  refine ⟨_, _, rfl, sm_two (sm_lst (e_drO q0) rfl (sm_ints _ _ _)) (sm_lst (e_drO q1) rfl (sm_ints _ _ _)), ?_⟩
  (walk_at "lw_dd0")
  simp only [z5__law_all_right]
  (walk_at "lw_dd0")
  refine ⟨e_isO q0, ?_⟩
  rw [e_app q0]
  refine ⟨by rw [List.length_map]; omega, ?_⟩
  have t2 : Tp i (n + 60) ((s0 ++ [(needZ w).map D.int] ++ [(needZ w).map D.int]).set s0.length ((needZ w).map D.int ++ [D.int 9])) :=
    Tp.set ((t1'.app _).app _) _ (by have := t1'.lt; omega)
  generalize (s0 ++ [(needZ w).map D.int] ++ [(needZ w).map D.int]).set s0.length ((needZ w).map D.int ++ [D.int 9]) = s1 at t2 ⊢
  simp only [z6__law_all_right]
  (walk_at "lw_dd0")
  refine ⟨w, rfl, N.fine, by omega, ?_⟩
  refine ⟨_, _, rfl, sm_lst (e_drO app_get) rfl (sm_ints _ _ _), ?_⟩
  (walk_at "lw_dd0")
  have t3 := t2.app [(needZ w).map D.int]
  generalize s1 ++ [(needZ w).map D.int] = s2 at t3 ⊢
  simp only [z8__law_all_right]
  (walk_at "lw_dd0")
  refine ⟨w, gs, row, rfl, N.nt, hl, fun g hg => by have := gb g hg; omega, by omega, ?_⟩
  (walk_at "lw_dd0")
  simp only [z9__law_all_right]
  (walk_at "lw_dd0")
  rw [e_lenW]
  (walk_at "lw_dd0")
  refine ⟨by omega, ?_⟩
  refine go_range w.length (fun j env s => ∃ (v6 v7 v10 : Option D), env = [some (.obj i), some (webD w), some (.tup (row.map D.int)), some (.obj s0.length), some (.tup (gs.map D.int)), some (.lst ((needZ w).map D.int)), v6, v7, some (.lst ((fallsN w gs row).1.map txD)), some (.tup ((fallsN w gs row).2.map D.int)), v10] ∧ Tp i (n + 100) s) ?_ ?_ _ _ ⟨_, _, _, rfl, t3.mono (by omega)⟩
  · rintro j _ s nx hj ⟨v6, v7, v10, rfl, ts⟩ q
    refine ⟨trivial, ?_⟩
    (walk_at "lw_dd0")
    simp only [b1__law_all_right]
    (walk_at "lw_dd0")
    have key : ∀ v, Idle w j v → z17__law_all_right { nx := nx, rt := fun d st' => kk d st' } [some (.obj i), some (webD w), some (.tup (row.map D.int)), some (.obj s0.length), some (.tup (gs.map D.int)), some (.lst ((needZ w).map D.int)), some (.int (j : Nat)), v7, some (.lst ((fallsN w gs row).1.map txD)), some (.tup ((fallsN w gs row).2.map D.int)), some (.tup [webD (woW w j v), .tup ((row.eraseIdx j).map D.int)])] s := fun v I => by
      have nt' := wo_nt I N.nt
      have fw := falls_wo I N gs row
      have hl' : Lies (woW w j v) (row.eraseIdx j) := ⟨by rw [wo_len hj, List.length_eraseIdx, if_pos (by rw [hl.len]; exact hj), hl.len], fun x hx => hl.odd x (List.mem_of_mem_eraseIdx hx)⟩
      have wl := wo_len (v := v) hj
      have cl : ∀ xs : List Int, xs.length ≤ 8 → (DL.cutD (xs.map D.int) none (some (j : Int))).length + (DL.cutD (xs.map D.int) (some ((j : Int) + 1)) none).length ≤ 16777216 := fun xs hx => by
        rw [cutD_to, show (j : Int) + 1 = ((j + 1 : Nat) : Int) by omega, cutW_from, List.length_take, List.length_drop, List.length_map]
        omega
      have fl := (fallsN_lies N.nt gs row hl).len
      simp only [z17__law_all_right]
      (walk_at "lw_dd0")
      refine ⟨_, rfl, cl row (by rw [hl.len]; exact few), ?_⟩
      rw [cut_erase, erase_mapD]
      refine ⟨_, _, rfl, sm_tup rfl (sm_ints _ _ _), ?_⟩
      (walk_at "lw_dd0")
      refine ⟨_, rfl, ?_⟩
      rw [e_lenW, e_lenW]
      (walk_at "lw_dd0")
      rw [wl]
      have e1 : ((w.length - 1 : Nat) : Int) = (w.length : Int) - 1 := by omega
      rw [e1]
      refine ite_go (by simp) ?_
      simp only [z19__law_all_right]
      (walk_at "lw_dd0")
      refine ⟨_, rfl, _, rfl, woW w j v, gs, row.eraseIdx j, rfl, nt', hl', by omega, ?_⟩
      rw [fw]
      (walk_at "lw_dd0")
      refine ⟨cl _ (by rw [fl]; exact few), ?_⟩
      rw [cut_erase, erase_mapD]
      have ok1 := outs_ok N.nt N.fine gs row hl 58
      rw [ok1, okDs_int, eqDs_refl _ _ ok1, eqDs_refl _ _ (okDs_int 58 _)]
      refine ⟨rfl, rfl, ite_go (by decide) ?_⟩
      have okW : okD 59 (webD (woW w j v)) = true := by
        simp only [webD, okD]
        exact web_okD 57 (wo_fine N I)
      simp only [z21__law_all_right]
      (walk_at "lw_dd0")
      refine ⟨w, row, j, rfl, hj, hl.len, by omega, N.fine, fun ne => (ne ((I.lead false).trans (I.lead true).symm)).elim, fun e j0 ⟨c, hc⟩ => ?_, fun v' I' => ?_⟩
      · subst j0
        exact (I.not c ⟨rfl, (I.lead false).symm.trans hc⟩).elim
      · obtain rfl : v' = v := (I'.lead false).symm.trans (I.lead false)
        (walk_at "lw_dd0")
        rw [okW, okDs_int]
        have ok2 : okD 60 (D.tup [webD (woW w j v'), D.tup ((row.eraseIdx j).map D.int)]) = true := by
          simp only [okD, okDs, okW, okDs_int, Bool.and_self]
        refine ⟨rfl, rfl, ite_go ?_ (q _ _ ⟨_, _, _, rfl, ts⟩)⟩
        have z := eqD_refl 60 _ ok2
        simp only [eqD, eqDs, Bool.and_true] at z
        rw [z]
        decide
    have wo : ∀ v, Idle w j v → sp_without [webD w, .tup (row.map D.int), .int (j : Nat)] s (fun d s1 => z17__law_all_right { nx := nx, rt := fun d st' => kk d st' } [some (.obj i), some (webD w), some (.tup (row.map D.int)), some (.obj s0.length), some (.tup (gs.map D.int)), some (.lst ((needZ w).map D.int)), some (.int (j : Nat)), v7, some (.lst ((fallsN w gs row).1.map txD)), some (.tup ((fallsN w gs row).2.map D.int)), some (d)] s1) (fun _ _ _ => False) := fun v I => by
      refine ⟨w, row, j, rfl, hj, hl.len, by omega, N.fine, fun ne => (ne ((I.lead false).trans (I.lead true).symm)).elim, fun e j0 ⟨c, hc⟩ => ?_, fun v' I' => key v' I'⟩
      subst j0
      exact (I.not c ⟨rfl, (I.lead false).symm.trans hc⟩).elim
    refine ⟨okDs_int _ _, ?_⟩
    rw [in_ints]
    by_cases e : leadN w j false = leadN w j true
    rotate_left
    · rw [decide_eq_false (fun z => e (needZ_mem.mp z).2)]
      refine ite_yes (by decide) ⟨w, row, j, rfl, hj, hl.len, by omega, N.fine, fun z => (e z).elim, fun _ => ?_, fun z => (e z).elim⟩
      refine ⟨_, _, rfl, sm_pair (sm_str _ _ (by decide +kernel)) (sm_int _ _ _), ?_⟩
      (walk_at "lw_dd0")
      exact q _ _ ⟨_, _, _, rfl, ts⟩
    rw [decide_eq_true (needZ_mem.mpr ⟨hj, e⟩)]
    refine ite_go (by decide) ?_
    have lead : ∀ s, leadN w j s = leadN w j false := fun s => match s with | false => rfl | true => e.symm
    by_cases j0 : j = 0
    · subst j0
      refine ite_yes rfl ?_
      simp only [webD]
      (walk_at "lw_dd0")
      refine ⟨_, at_web hj, ?_⟩
      (walk_at "lw_dd0")
      refine ⟨_, rfl, ?_⟩
      cases hv : leadN w 0 false with
      | out c =>
        refine ite_yes (by show ["str"].any (subTy "str") = true; decide) ?_
        refine ⟨w, row, 0, rfl, hj, hl.len, by omega, N.fine, fun z => ⟨rfl, c, hv⟩, fun z => (z e).elim, fun _ => ?_⟩
        refine ⟨_, _, rfl, sm_pair (sm_str _ _ (by decide +kernel)) (sm_int _ _ _), ?_⟩
        (walk_at "lw_dd0")
        exact q _ _ ⟨_, _, _, rfl, ts⟩
      | bal b =>
        refine ite_go (by show ¬ ["str"].any (subTy "int") = true; decide) ?_
        exact wo (.bal b) ⟨hj, fun s => (lead s).trans hv, fun c z => by cases z.2⟩
    · refine ite_go (by omega) ?_
      exact wo _ ⟨hj, lead, fun c z => j0 z.1⟩
  · rintro _ s ⟨v6, v7, v10, rfl, ts⟩
    refine ⟨trivial, ?_⟩
    simp only [z23__law_all_right]
    (walk_at "lw_dd0")
    exact h s ts
def z8__law_right : DS :=
    (dIfS (dOr (dNot (dTru (dCall sp__law_all_right (dCons (dVar 0) (dCons (dVar 3) (dCons (dVar 4) dNil)))))) (dNot (dTru (dCall sp__law_all_right (dCons (dVar 0) (dCons (dVar 5) (dCons (dVar 6) dNil))))))) (dRet (dC (.bl false))) dPass)
def z6__law_right : DS :=
    (dSeq (dIfS (dOr (dTest (dOp (inOp true) (dVar 7) (dCall sp_needless (dCons (dVar 5) dNil)))) (dNot (dTru (dCall (sp__law_same 6) (dCons (dCall (silX sp_without) (dCons (dVar 5) (dCons (dVar 6) (dCons (dVar 7) dNil)))) (dCons (dTup (dCons (dVar 3) (dCons (dVar 4) dNil))) dNil)))))) (dRet (dC (.bl false))) dPass)
    (z8__law_right))
def z5__law_right : DS :=
    (dSeq (dAsg (dCall sp__law_put_in (dCons (dVar 0) (dCons (dVar 3) (dCons (dVar 4) (dCons (dC (.int 24)) dNil))))) (dgTup 3 (dgCons (dgName 5) (dgCons (dgName 6) (dgCons (dgName 7) dgNil)))))
    (z6__law_right))
def z4__law_right : DS :=
    (dSeq (dAsg (dCall sp__law_standings (dCons (dVar 0) (dCons (dVar 3) (dCons (dC (.int 24)) dNil)))) (dgName 4))
    (z5__law_right))
def z3__law_right : DS :=
    (dSeq (dAsg (dCall sp__law_net (dCons (dVar 0) (dCons (dVar 2) (dCons (dOp addD (dC (.int 1)) (dCall sp__law_draw (dCons (dVar 0) (dCons (dC (.int 7)) dNil)))) (dCons (dOp addD (dC (.int 1)) (dCall sp__law_draw (dCons (dVar 0) (dCons (dC (.int 4)) dNil)))) (dCons (dOp (eqOp false) (dCall sp__law_draw (dCons (dVar 0) (dCons (dC (.int 2)) dNil))) (dC (.int 0))) dNil)))))) (dgName 3))
    (z4__law_right))
def b1__law_right : DS :=
    (dSeq (dAsg (dCall sp__law_names (dCons (dVar 0) (dCons (dOp addD (dC (.int 1)) (dCall sp__law_draw (dCons (dVar 0) (dCons (dC (.int 3)) dNil)))) dNil))) (dgName 2))
    (z3__law_right))
def z10__law_right : DS :=
    (dRet (dCall sp__law_all_right (dCons (dVar 0) (dCons (dTup (dCons (dTup (dCons (dC (.str "e")) (dCons (dC (.str "e")) dNil))) dNil)) (dCons (dTup (dCons (dC (.int 3)) dNil)) dNil)))))
def t__law_right : DS :=
    (dSeq (dFor (dRng1 (dC (.int 6))) (dgName 1) (b1__law_right))
    (z10__law_right))
theorem st__law_right (a0 : D) : startD N__law_right [a0] = [some a0, none, none, none, none, none, none, none] := rfl
def sp__law_right : SpD := fun ds st kk => ∃ (i n : Nat), ds = [.obj i] ∧ Tp i n st ∧ n < 100000 ∧ ∀ st', Tp i (n + 10000) st' → kk (.bl true) st'
theorem len__law_right (ds : List D) (st : Sto) (kk : DK) (h : sp__law_right ds st kk) : ds.length = 1 := by
  obtain ⟨_, _, rfl, _⟩ := h
  rfl
theorem p__law_right : BodyD false N__law_right sp__law_right t__law_right := by
  rintro ds st kk ⟨i, n, rfl, ht, hn, h⟩
  rw [st__law_right]
  simp only [t__law_right]
  (walk_at "lw_dd0")
  refine ⟨by (first | exact mulc _ _ (by decide) (by decide) | exact mulr _ _ (by decide) (by decide) | exact ⟨by decide, by decide, by decide⟩ | exact ⟨by decide, by decide⟩ | exact mulb _ _ | exact ⟨by omega, by omega⟩ | exact mulc _ _ (by omega) (by omega) | exact mulr _ _ (by omega) (by omega) | exact div_small (by omega) (by omega) | exact ⟨by omega, by omega, by omega⟩ | omega | decide), ?_⟩
  refine go_range 6 (fun j env s => ∃ (v1 v2 v3 v4 v5 v6 v7 : Option D), env = [some (.obj i), v1, v2, v3, v4, v5, v6, v7] ∧ Tp i (n + 1000 * j) s) ?_ ?_ _ _ ⟨_, _, _, _, _, _, _, rfl, ht⟩
  · rintro j _ s nx hj ⟨v1, v2, v3, v4, v5, v6, v7, rfl, ts⟩ q
    refine ⟨trivial, ?_⟩
    (walk_at "lw_dd0")
    simp only [b1__law_right]
    (walk_at "lw_dd0")
    refine ⟨i, _, 3, rfl, ts, by omega, by (first | exact mulc _ _ (by decide) (by decide) | exact mulr _ _ (by decide) (by decide) | exact ⟨by decide, by decide, by decide⟩ | exact ⟨by decide, by decide⟩ | exact mulb _ _ | exact ⟨by omega, by omega⟩ | exact mulc _ _ (by omega) (by omega) | exact mulr _ _ (by omega) (by omega) | exact div_small (by omega) (by omega) | exact ⟨by omega, by omega, by omega⟩ | omega | decide), fun a x1 a0 a1 t1 => ?_⟩
    (walk_at "lw_dd0")
    obtain ⟨m, rfl⟩ := Int.eq_ofNat_of_zero_le a0
    rw [show (1 : Int) + (m : Nat) = ((1 + m : Nat) : Int) by omega]
    refine ⟨i, _, 1 + m, rfl, t1, by omega, by omega, by omega, fun ns x2 hl1 hnm hnd t2 => ?_⟩
    rw [List.set_set] at t2 ⊢
    simp only [z3__law_right]
    (walk_at "lw_dd0")
    refine ⟨i, _, 7, rfl, t2, by omega, by (first | exact mulc _ _ (by decide) (by decide) | exact mulr _ _ (by decide) (by decide) | exact ⟨by decide, by decide, by decide⟩ | exact ⟨by decide, by decide⟩ | exact mulb _ _ | exact ⟨by omega, by omega⟩ | exact mulc _ _ (by omega) (by omega) | exact mulr _ _ (by omega) (by omega) | exact div_small (by omega) (by omega) | exact ⟨by omega, by omega, by omega⟩ | omega | decide), fun b x3 b0 b1 t3 => ?_⟩
    rw [List.set_set] at t3 ⊢
    (walk_at "lw_dd0")
    refine ⟨i, _, 4, rfl, t3, by omega, by (first | exact mulc _ _ (by decide) (by decide) | exact mulr _ _ (by decide) (by decide) | exact ⟨by decide, by decide, by decide⟩ | exact ⟨by decide, by decide⟩ | exact mulb _ _ | exact ⟨by omega, by omega⟩ | exact mulc _ _ (by omega) (by omega) | exact mulr _ _ (by omega) (by omega) | exact div_small (by omega) (by omega) | exact ⟨by omega, by omega, by omega⟩ | omega | decide), fun c x4 c0 c1 t4 => ?_⟩
    rw [List.set_set] at t4 ⊢
    (walk_at "lw_dd0")
    refine ⟨i, _, 2, rfl, t4, by omega, by (first | exact mulc _ _ (by decide) (by decide) | exact mulr _ _ (by decide) (by decide) | exact ⟨by decide, by decide, by decide⟩ | exact ⟨by decide, by decide⟩ | exact mulb _ _ | exact ⟨by omega, by omega⟩ | exact mulc _ _ (by omega) (by omega) | exact mulr _ _ (by omega) (by omega) | exact div_small (by omega) (by omega) | exact ⟨by omega, by omega, by omega⟩ | omega | decide), fun d x5 d0 d1 t5 => ?_⟩
    rw [List.set_set] at t5 ⊢
    (walk_at "lw_dd0")
    obtain ⟨b, rfl⟩ := Int.eq_ofNat_of_zero_le b0
    obtain ⟨c, rfl⟩ := Int.eq_ofNat_of_zero_le c0
    rw [show (1 : Int) + (b : Nat) = ((1 + b : Nat) : Int) by omega, show (1 : Int) + (c : Nat) = ((1 + c : Nat) : Int) by omega]
    refine ⟨i, _, ns, 1 + b, 1 + c, _, rfl, t5, by omega, by omega, by omega, hnm, by omega, by omega, by omega, fun w x6 wok t6 => ?_⟩
    rw [List.set_set] at t6 ⊢
    have N := Net.of wok hnm (by omega)
    have w7 : w.length ≤ 7 := Nat.le_trans wok.len (by omega)
    have w1 := N.nt.one
    simp only [z4__law_right]
    (walk_at "lw_dd0")
    refine ⟨i, _, w, 24, rfl, t6, by omega, by omega, by decide, by decide, fun row x7 hl hrow t7 => ?_⟩
    rw [List.set_set] at t7 ⊢
    simp only [z5__law_right]
    (walk_at "lw_dd0")
    refine ⟨i, _, w, row, rfl, t7, by omega, N, hl.len, fun k s' x x8 kl xo t8 => ?_⟩
    rw [List.set_set] at t8 ⊢
    have rl : k < row.length := by rw [hl.len]; exact kl
    have P := pv_net N kl s' w7
    have pl := pv_len kl s'
    have hl2 : Lies (piV w k s') (piR row k x) := by
      refine ⟨?_, fun y hy => ?_⟩
      · have := hl.len
        unfold piR
        simp only [List.length_append, List.length_take, List.length_drop, List.length_cons, List.length_nil]
        omega
      · unfold piR at hy
        rcases List.mem_append.mp hy with z | z
        · rcases List.mem_append.mp z with z | z
          · exact hl.odd y (List.mem_of_mem_take z)
          · rw [List.mem_singleton.mp z]; exact xo
        · exact hl.odd y (List.mem_of_mem_drop z)
    (walk_at "lw_dd0")
    have tq : Tp i (n + 1000 * j + 300) (s.set i x8) := t8.mono (by omega)
    generalize s.set i x8 = s1 at tq ⊢
    clear t1 t2 t3 t4 t5 t6 t7 t8
    have lk : ∀ t, leadN (piV w k s') (k + 1) t = bmL k (leadN w k s') := fun t => pv_new kl s' t
    simp only [z6__law_right]
    (walk_at "lw_dd0")
    refine ⟨piV w k s', rfl, P.fine, by omega, ?_⟩
    (walk_at "lw_dd0")
    rw [e_inO app_get]
    (walk_at "lw_dd0")
    refine ⟨okDs_int _ _, ?_⟩
    rw [in_ints, decide_eq_true (needZ_mem.mpr ⟨by omega, by rw [lk, lk]⟩)]
    refine ite_go (by decide) ?_
    have IV : Idle (piV w k s') (k + 1) (bmL k (leadN w k s')) := ⟨by omega, lk, fun c z => by omega⟩
    refine ⟨piV w k s', piR row k x, k + 1, rfl, by omega, hl2.len, by omega, P.fine, fun ne => (ne (by rw [lk, lk])).elim, fun _ z => by omega, fun v I => ?_⟩
    obtain rfl : v = bmL k (leadN w k s') := (I.lead false).symm.trans (lk false)
    rw [wo_pv kl, pr_erase rl]
    have okW : okD 4 (webD w) = true := by
      simp only [webD, okD]
      exact web_okD 2 N.fine
    refine ⟨_, _, rfl, sm_pair (sm_self _ 4 _ okW) (sm_tup rfl (sm_ints _ _ _)), ?_⟩
    have t9 := tq.app [(needZ (piV w k s')).map D.int]
    generalize s1 ++ [(needZ (piV w k s')).map D.int] = s2 at t9 ⊢
    (walk_at "lw_dd0")
    simp only [z8__law_right]
    (walk_at "lw_dd0")
    refine ⟨i, _, w, row, rfl, t9, by omega, N, hl, fun s3 t10 => ?_⟩
    (walk_at "lw_dd0")
    refine ⟨i, _, piV w k s', piR row k x, rfl, t10, by omega, P, hl2, fun s4 t11 => ?_⟩
    (walk_at "lw_dd0")
    exact q _ _ ⟨_, _, _, _, _, _, _, rfl, t11.mono (by omega)⟩
  · rintro _ s ⟨v1, v2, v3, v4, v5, v6, v7, rfl, ts⟩
    refine ⟨trivial, ?_⟩
    simp only [z10__law_right]
    (walk_at "lw_dd0")
    have lk : ∀ t, leadN [(Ld.out [101], Ld.out [101])] 0 t = .out [101] := fun t => by cases t <;> rfl
    have e : D.tup [D.tup [D.str "e", D.str "e"]] = webD [(Ld.out [101], Ld.out [101])] := by
      have : (S [101] : Str) = "e" := by decide +kernel
      simp only [webD, List.map_cons, List.map_nil, ldsD, Ld.d, this]
    have N : Net [(Ld.out [101], Ld.out [101])] := by
      refine ⟨⟨fun k s j h => ?_, by decide, by decide⟩, fun p hp => ?_, fun j j1 j2 => ?_, by decide⟩
      · have := leadW_lt h
        have k0 : k = 0 := by simpa using this
        subst k0
        rw [leadW_some (by decide), lk] at h
        cases h
      · rw [List.mem_singleton.mp hp]
        have : NameL [101] := ⟨by decide, by decide, fun c hc => by rw [List.mem_singleton.mp hc]; unfold Lt; omega⟩
        exact ⟨this, this⟩
      · simp at j2
        omega
    rw [e]
    refine ⟨i, _, _, [3], rfl, ts, by omega, N, ⟨rfl, fun x hx => by rw [List.mem_singleton.mp hx]; decide⟩, fun st' t' => h st' (t'.mono (by omega))⟩
def e1_law : DE :=
    (dCall sp__law_right (dCons (dCall sp__law_tape (dCons (dVar 1) (dCons (dVar 2) dNil))) dNil))
def z2_law : DS :=
    (dRet (dB bAll (dCons (dLc (dRng1 (dB bMax2 (dCons (dC (.int 1)) (dCons (dB bLen (dCons (dVar 1) dNil)) dNil)))) (dgName 2) dYes (e1_law) [2]) dNil)))
def t_law : DS :=
    (dSeq (dAsg (dCall sp__law_folded (dCons (dVar 0) (dCons (dC (.int 3)) dNil))) (dgName 1))
    (z2_law))
theorem st_law (a0 : D) : startD N_law [a0] = [some a0, none, none] := rfl
def sp_law : SpD := spLaw
theorem len_law (ds : List D) (st : Sto) (kk : DK) (h : sp_law ds st kk) : ds.length = 1 := by
  obtain ⟨ns, rfl, _⟩ := h
  rfl
theorem p_law : BodyD false N_law spLaw t_law := by
  rintro ds st kk ⟨ns, rfl, h1, h2, rfl, h⟩
  rw [st_law]
  simp only [t_law]
  (walk_at "lw_dd")
  refine ⟨ns, 3, rfl, by decide, by decide, h1, fun cs hc => ?_⟩
  simp only [z2_law]
  (walk_at "lw_dd0")
  have hb : (if ((cs.length : Nat) : Int) > 1 then ((cs.length : Nat) : Int) else 1) ≤ 3 ∧ 1 ≤ (if ((cs.length : Nat) : Int) > 1 then ((cs.length : Nat) : Int) else 1) := by split <;> omega
  generalize (if ((cs.length : Nat) : Int) > 1 then ((cs.length : Nat) : Int) else 1) = m at hb ⊢
  refine ⟨by omega, ?_, ?_⟩
  · rw [rangeD_len]
    omega
  obtain ⟨j, rfl⟩ := Int.eq_ofNat_of_zero_le (show 0 ≤ m by omega)
  rw [show ((j : Nat) : Int).toNat = j from rfl, rangeD_nat]
  refine lc_true _ [] _ (fun x hx s kd hk => ?_) fun s => ?_
  · obtain ⟨a, ha, rfl⟩ := List.mem_map.mp hx
    have ha := List.mem_range.mp ha
    (walk_at "lw_dd")
    simp only [e1_law]
    (walk_at "lw_dd")
    refine ⟨cs, a, rfl, by omega, fun xs hx => ?_⟩
    refine ⟨s.length, 0, rfl, ⟨xs, app_get, hx⟩, by decide, fun st' t' => ?_⟩
    exact hk _
  · rw [List.nil_append, all_true]
    exact h _
structure Fx (K : PySem.W.Frag) (mg : Str → Option Value) : Prop where
  b_RuntimeError : mg "RuntimeError" = none
  g_Needed : mg "Needed" = some (.ref (He.ga K "Needed"))
  xt_Needed : ExT K (He.ga K "Needed") "RuntimeError" "RuntimeError.__new__" "RuntimeError.__init__" [.type "RuntimeError", .type "Exception", .type "BaseException", .type "object"]
  g_Lone : mg "Lone" = some (.ref (He.ga K "Lone"))
  xt_Lone : ExT K (He.ga K "Lone") "RuntimeError" "RuntimeError.__new__" "RuntimeError.__init__" [.type "RuntimeError", .type "Exception", .type "BaseException", .type "object"]
  b_isinstance : mg "isinstance" = none
  b_int : mg "int" = none
  b_bool : mg "bool" = none
  g_LEFT : ∃ t, mg "LEFT" = some (.str "left" t)
  g_RIGHT : ∃ t, mg "RIGHT" = some (.str "right" t)
  b_enumerate : mg "enumerate" = none
  b_tuple : mg "tuple" = none
  g_SIDES : GTup K mg "SIDES" [.str "left", .str "right"]
  b_list : mg "list" = none
  b_len : mg "len" = none
  b_abs : mg "abs" = none
  b_all : mg "all" = none
  b_zip : mg "zip" = none
  b_str : mg "str" = none
  b_range : mg "range" = none
  b_sorted : mg "sorted" = none
  b_dict : mg "dict" = none
  g_NoExit : mg "NoExit" = some (.ref (He.ga K "NoExit"))
  g_NoDeed : mg "NoDeed" = some (.ref (He.ga K "NoDeed"))
  g_NoBalance : mg "NoBalance" = some (.ref (He.ga K "NoBalance"))
  g_Many : mg "Many" = some (.ref (He.ga K "Many"))
  g_Deep : mg "Deep" = some (.ref (He.ga K "Deep"))
  g_BadRow : mg "BadRow" = some (.ref (He.ga K "BadRow"))
  ct__law_refused : Caught K ["Needed", "Lone"] (([.own "BadRow", .own "Deep", .own "Lone", .own "Many", .own "Needed", .own "NoBalance", .own "NoDeed", .own "NoExit"] : List CN).map (·.v K))
  is0__law_refused : IsT K [("Needed", false), ("Lone", false)] (([.own "BadRow", .own "Deep", .own "Many", .own "NoBalance", .own "NoDeed", .own "NoExit"] : List CN).map (·.v K))
  is1__law_refused : IsT K [("Needed", true), ("Lone", false)] (([.own "Needed"] : List CN).map (·.v K))
  is2__law_refused : IsT K [("Needed", false), ("Lone", true)] (([.own "Lone"] : List CN).map (·.v K))
  is3__law_refused : IsT K [("Needed", true), ("Lone", true)] (([.ty "RuntimeError"] : List CN).map (·.v K))
  b_max : mg "max" = none

theorem ok_Needed__init {P : Program} {wo : World} {K : PySem.W.Frag} {mg : Str → Option Value} {base : Heap} {f : Addr} {fd : FuncData} (T : Fx K mg) (F : FnM K "__init__" "Needed.__init__" s_Needed__init [] f fd) : FnG P wo K mg base CX0 1 f fd ["self", "what"] (spInitX (He.ga K "Needed")) :=
  initX_ok (k := 0) exB_Runtime T.xt_Needed F sc_Needed__init (fun _ _ _ _ _ _ => by rfl) T.b_RuntimeError (fun _ _ => ⟨_, rfl⟩)

theorem ok_Lone__init {P : Program} {wo : World} {K : PySem.W.Frag} {mg : Str → Option Value} {base : Heap} {f : Addr} {fd : FuncData} (T : Fx K mg) (F : FnM K "__init__" "Lone.__init__" s_Lone__init [] f fd) : FnG P wo K mg base CX0 1 f fd ["self", "what"] (spInitX (He.ga K "Lone")) :=
  initX_ok (k := 0) exB_Runtime T.xt_Lone F sc_Lone__init (fun _ _ _ _ _ _ => by rfl) T.b_RuntimeError (fun _ _ => ⟨_, rfl⟩)
theorem d_is_number {P : Program} {wo : World} {K : PySem.W.Frag} {mg : Str → Option Value} {base : Heap} {f : Addr} {cdv : Value} {A : Around} {outer : List PySem.Env} {s : Shared} {H : Hp} {E : XK} (T : Fx K mg)
    (hr : RoomG 0 (A.deeper (envOfC "is_number" (defScope s_is_number) s.heap.objs.size f cdv))) : PDSs (cxOf CX0 P wo K mg base N_is_number "is_number" (defScope s_is_number) f cdv A outer s H E).nox (defBody s_is_number) t_is_number :=
    (pdss_one (pds_ret (pd_andv (pd_isi T.b_isinstance (pd_var 0) T.b_int (by decide +kernel)) (pe_one (pd_notv (pd_isi T.b_isinstance (pd_var 0) T.b_bool (by decide +kernel)))))))
theorem ok_is_number {P : Program} {wo : World} {K : PySem.W.Frag} {mg : Str → Option Value} {base : Heap} {f : Addr} {fd : FuncData} (T : Fx K mg) (F : FnP K "is_number" s_is_number f fd) : FnG P wo K mg base CX0 1 f fd ["thing"] (spD K sp_is_number) :=
  fnD false F sc_is_number len_is_number (fun cdv A outer s H E hr => d_is_number T  hr) p_is_number
theorem d_lighter {P : Program} {wo : World} {K : PySem.W.Frag} {mg : Str → Option Value} {base : Heap} {f : Addr} {cdv : Value} {A : Around} {outer : List PySem.Env} {s : Shared} {H : Hp} {E : XK} (T : Fx K mg)
    (hr : RoomG 0 (A.deeper (envOfC "lighter" (defScope s_lighter) s.heap.objs.size f cdv))) : PDSs (cxOf CX0 P wo K mg base N_lighter "lighter" (defScope s_lighter) f cdv A outer s H E).nox (defBody s_lighter) t_lighter :=
    (pdss_one (pds_ret (pd_ife (pd_tcmp dop_lt (pd_var 0) pd_int (nomark _)) (pd_gstr T.g_LEFT) (pd_gstr T.g_RIGHT))))
theorem ok_lighter {P : Program} {wo : World} {K : PySem.W.Frag} {mg : Str → Option Value} {base : Heap} {f : Addr} {fd : FuncData} (T : Fx K mg) (F : FnP K "lighter" s_lighter f fd) : FnG P wo K mg base CX0 1 f fd ["standing"] (spD K sp_lighter) :=
  fnD false F sc_lighter len_lighter (fun cdv A outer s H E hr => d_lighter T  hr) p_lighter
theorem d_laid_on {P : Program} {wo : World} {K : PySem.W.Frag} {mg : Str → Option Value} {base : Heap} {f : Addr} {cdv : Value} {A : Around} {outer : List PySem.Env} {s : Shared} {H : Hp} {E : XK} (T : Fx K mg)
    (hr : RoomG 0 (A.deeper (envOfC "laid_on" (defScope s_laid_on) s.heap.objs.size f cdv))) : PDSs (cxOf CX0 P wo K mg base N_laid_on "laid_on" (defScope s_laid_on) f cdv A outer s H E).nox (defBody s_laid_on) t_laid_on :=
    (pdss_one (pds_ret (pd_ife (pd_tcmp (dop_eq hr.units) (pd_var 1) (pd_gstr T.g_LEFT) (nomark _)) (pd_op dop_add (pd_var 0) (pd_op dop_mul pd_int (pd_var 2))) (pd_op dop_sub (pd_var 0) (pd_op dop_mul pd_int (pd_var 2))))))
theorem ok_laid_on {P : Program} {wo : World} {K : PySem.W.Frag} {mg : Str → Option Value} {base : Heap} {f : Addr} {fd : FuncData} (T : Fx K mg) (F : FnP K "laid_on" s_laid_on f fd) : FnG P wo K mg base CX0 1 f fd ["standing", "side", "weight"] (spD K sp_laid_on) :=
  fnD false F sc_laid_on len_laid_on (fun cdv A outer s H E hr => d_laid_on T  hr) p_laid_on
theorem d_fall {P : Program} {wo : World} {K : PySem.W.Frag} {mg : Str → Option Value} {base : Heap} {f : Addr} {cdv : Value} {A : Around} {outer : List PySem.Env} {s : Shared} {H : Hp} {E : XK} (T : Fx K mg) (c_lighter : Cal P wo K mg base 1 "lighter" ["standing"] sp_lighter) (c_laid_on : Cal P wo K mg base 1 "laid_on" ["standing", "side", "weight"] sp_laid_on)
    (hr : RoomG 1 (A.deeper (envOfC "fall" (defScope s_fall) s.heap.objs.size f cdv))) : PDSs (cxOf CX0 P wo K mg base N_fall "fall" (defScope s_fall) f cdv A outer s H E).nox (defBody s_fall) t_fall :=
    (pdss_cons (pds_set 2 sc_fall.nd (pd_callC c_lighter hr (pda_cons (pd_var 0) pda_nil)))
    (pdss_one (pds_ret (pd_tup (pda_cons (pd_var 2) (pda_cons (pd_callC c_laid_on hr (pda_cons (pd_var 0) (pda_cons (pd_var 2) (pda_cons (pd_var 1) pda_nil)))) pda_nil))))))
theorem ok_fall {P : Program} {wo : World} {K : PySem.W.Frag} {mg : Str → Option Value} {base : Heap} {f : Addr} {fd : FuncData} (T : Fx K mg) (F : FnP K "fall" s_fall f fd) (c_lighter : Cal P wo K mg base 1 "lighter" ["standing"] sp_lighter) (c_laid_on : Cal P wo K mg base 1 "laid_on" ["standing", "side", "weight"] sp_laid_on) : FnG P wo K mg base CX0 2 f fd ["standing", "weight"] (spD K sp_fall) :=
  fnD false F sc_fall len_fall (fun cdv A outer s H E hr => d_fall T c_lighter c_laid_on hr) p_fall
theorem d_needless {P : Program} {wo : World} {K : PySem.W.Frag} {mg : Str → Option Value} {base : Heap} {f : Addr} {cdv : Value} {A : Around} {outer : List PySem.Env} {s : Shared} {H : Hp} {E : XK} (T : Fx K mg)
    (hr : RoomG 0 (A.deeper (envOfC "needless" (defScope s_needless) s.heap.objs.size f cdv))) : PDSs (cxOf CX0 P wo K mg base N_needless "needless" (defScope s_needless) f cdv A outer s H E).nox (defBody s_needless) t_needless :=
    (pdss_one (pds_ret (pd_lcNew [("balance", 1), ("left", 2), ("right", 3)] rfl sc_needless.nd (pdi_enum T.b_enumerate (pd_var 0)) (blkOk_by (N := N_needless) (sc := defScope s_needless) (by decide +kernel)) (fun _ _ _ _ _ => (pdgo_tup rfl (pdgso_cons (pdgo_name 1 sc_needless.nd) (pdgso_cons (pdgo_tup rfl (pdgso_cons (pdgo_name 2 sc_needless.nd) (pdgso_cons (pdgo_name 3 sc_needless.nd) pdgso_nil))) pdgso_nil)))) (fun _ _ _ _ _ => (pdts_one (pd_tcmp (dop_eq hr.units) (pd_var 2) (pd_var 3) (nomark _)))) (fun _ _ _ _ _ => (pd_var 1)))))
theorem ok_needless {P : Program} {wo : World} {K : PySem.W.Frag} {mg : Str → Option Value} {base : Heap} {f : Addr} {fd : FuncData} (T : Fx K mg) (F : FnP K "needless" s_needless f fd) : FnG P wo K mg base CX0 1 f fd ["net"] (spD K sp_needless) :=
  fnD false F sc_needless len_needless (fun cdv A outer s H E hr => d_needless T  hr) p_needless
theorem d_moved {P : Program} {wo : World} {K : PySem.W.Frag} {mg : Str → Option Value} {base : Heap} {f : Addr} {cdv : Value} {A : Around} {outer : List PySem.Env} {s : Shared} {H : Hp} {E : XK} (T : Fx K mg) (c_is_number : Cal P wo K mg base 1 "is_number" ["thing"] sp_is_number)
    (hr : RoomG 1 (A.deeper (envOfC "moved" (defScope s_moved) s.heap.objs.size f cdv))) : PDSs (cxOf CX0 P wo K mg base N_moved "moved" (defScope s_moved) f cdv A outer s H E).nox (defBody s_moved) t_moved :=
    (pdss_cons (pds_set 3 sc_moved.nd (pd_ife (pd_tcmp (dop_eq hr.units) (pd_var 0) (pd_var 1) (nomark _)) (pd_var 2) (pd_var 0)))
    (pdss_one (pds_ret (pd_ife (L2.PW.pt (pw_dand (pd_tru (pd_callC c_is_number hr (pda_cons (pd_var 3) pda_nil))) (pw_and1 (pd_tcmp dop_gt (pd_var 3) (pd_var 1) (nomark _))))) (pd_op dop_sub (pd_var 3) pd_int) (pd_var 3)))))
theorem ok_moved {P : Program} {wo : World} {K : PySem.W.Frag} {mg : Str → Option Value} {base : Heap} {f : Addr} {fd : FuncData} (T : Fx K mg) (F : FnP K "moved" s_moved f fd) (c_is_number : Cal P wo K mg base 1 "is_number" ["thing"] sp_is_number) : FnG P wo K mg base CX0 2 f fd ["lead", "balance", "own"] (spD K sp_moved) :=
  fnD false F sc_moved len_moved (fun cdv A outer s H E hr => d_moved T c_is_number hr) p_moved
theorem d_without {P : Program} {wo : World} {K : PySem.W.Frag} {mg : Str → Option Value} {base : Heap} {f : Addr} {cdv : Value} {A : Around} {outer : List PySem.Env} {s : Shared} {H : Hp} {E : XK} {xe : DX} (T : Fx K mg) (c_is_number : Cal P wo K mg base 1 "is_number" ["thing"] sp_is_number) (c_moved : Cal P wo K mg base 2 "moved" ["lead", "balance", "own"] sp_moved) (e_Needed : CalE P wo K mg base 1 "Needed") (e_Lone : CalE P wo K mg base 1 "Lone")
    (hr : RoomG 2 (A.deeper (envOfC "without" (defScope s_without) s.heap.objs.size f cdv))) (tk : Takes (cxOf (CX P wo) P wo K mg base N_without "without" (defScope s_without) f cdv A outer s H E) (fun cls d _ H' => E cls d H')) (pp : PassesOwn (model P wo) (cxOf (CX P wo) P wo K mg base N_without "without" (defScope s_without) f cdv A outer s H E).A (cxOf (CX P wo) P wo K mg base N_without "without" (defScope s_without) f cdv A outer s H E).env (cxOf (CX P wo) P wo K mg base N_without "without" (defScope s_without) f cdv A outer s H E).xe) :
    PXSs (cxOf (CX P wo) P wo K mg base N_without "without" (defScope s_without) f cdv A outer s H E) (fun cls d _ H' => E cls d H') xe (defBody s_without) (t_without xe) :=
    (pxss_cons (pxs_lift (pds_asg (pd_ix (pd_var 0) (pd_var 2)) (pdg_tup rfl (pdgs_cons (pdg_name 3 sc_without.nd) (pdgs_cons (pdg_name 4 sc_without.nd) pdgs_nil)))))
    (pxss_cons (pxs_if (pd_tcmp (dop_ne hr.units) (pd_var 3) (pd_var 4) (nomark _)) (pxss_one (pxs_raise e_Needed hr tk rfl (pd_var 2))) pxss_nil)
    (pxss_cons (pxs_if (L2.PW.pt (pw_dand (pd_tcmp (dop_eq hr.units) (pd_var 2) pd_int (nomark _)) (pw_and1 (pd_tnot (pd_tru (pd_callC c_is_number hr (pda_cons (pd_var 3) pda_nil))))))) (pxss_one (pxs_raise e_Lone hr tk rfl (pd_var 2))) pxss_nil)
    (pxss_cons (pxs_lift (pds_set 5 sc_without.nd (pd_op dop_add (pd_cut sl_cut (pd_var 0) pdo_none (pdo_some (pd_var 2))) (pd_cut sl_cut (pd_var 0) (pdo_some (pd_op dop_add (pd_var 2) pd_int)) pdo_none))))
    (pxss_cons (pxs_lift (pds_setLc 6 [("pair", 8)] rfl sc_without.nd (pdi_any (pd_var 5)) (blkOk_by (N := N_without) (sc := defScope s_without) (by decide +kernel)) (fun _ _ _ _ _ => (pdgo_name 8 sc_without.nd)) (fun _ _ _ _ _ => pdts_nil) (fun _ _ _ _ _ => (pd_callTy cb_tuple T.b_tuple (by decide +kernel) (pda_cons (pd_lc [("lead", 7)] rfl sc_without.nd (pdi_any (pd_var 8)) (blkOk_by (by kernel_rfl)) (fun _ _ _ _ _ => (pdgo_name 7 sc_without.nd)) (fun _ _ _ _ _ => pdts_nil) (fun _ _ _ _ _ => (pd_callC c_moved hr (pda_cons (pd_var 7) (pda_cons (pd_var 2) (pda_cons (pd_var 3) pda_nil)))))) pda_nil))) (sw_true rfl rfl rfl (by decide +kernel))))
    (pxss_one (pxs_lift (pds_ret (pd_tup (pda_cons (pd_callTy cb_tuple T.b_tuple (by decide +kernel) (pda_cons (pd_var 6) pda_nil)) (pda_cons (pd_callTy cb_tuple T.b_tuple (by decide +kernel) (pda_cons (pd_op dop_add (pd_cut sl_cut (pd_var 1) pdo_none (pdo_some (pd_var 2))) (pd_cut sl_cut (pd_var 1) (pdo_some (pd_op dop_add (pd_var 2) pd_int)) pdo_none)) pda_nil)) pda_nil)))))))))))
theorem ok_without {P : Program} {wo : World} {K : PySem.W.Frag} {mg : Str → Option Value} {base : Heap} {f : Addr} {fd : FuncData} (T : Fx K mg) (F : FnP K "without" s_without f fd) (c_is_number : Cal P wo K mg base 1 "is_number" ["thing"] sp_is_number) (c_moved : Cal P wo K mg base 2 "moved" ["lead", "balance", "own"] sp_moved) (e_Needed : CalE P wo K mg base 1 "Needed") (e_Lone : CalE P wo K mg base 1 "Lone") : FnG P wo K mg base (CX P wo) 3 f fd ["net", "standing", "balance"] (spDX K sp_without) :=
  fnX false F sc_without len_without (fun cdv A outer s H E xe hr tk pp => d_without T c_is_number c_moved e_Needed e_Lone hr tk pp) p_without
theorem d_lead_of {P : Program} {wo : World} {K : PySem.W.Frag} {mg : Str → Option Value} {base : Heap} {f : Addr} {cdv : Value} {A : Around} {outer : List PySem.Env} {s : Shared} {H : Hp} {E : XK} (T : Fx K mg)
    (hr : RoomG 0 (A.deeper (envOfC "lead_of" (defScope s_lead_of) s.heap.objs.size f cdv))) : PDSs (cxOf CX0 P wo K mg base N_lead_of "lead_of" (defScope s_lead_of) f cdv A outer s H E).nox (defBody s_lead_of) t_lead_of :=
    (pdss_cons (pds_asg (pd_var 1) (pdg_tup rfl (pdgs_cons (pdg_name 2 sc_lead_of.nd) (pdgs_cons (pdg_name 3 sc_lead_of.nd) pdgs_nil))))
    (pdss_one (pds_ret (pd_ix (pd_ix (pd_var 0) (pd_var 2)) (pd_tidx T.g_SIDES (pd_var 3))))))
theorem ok_lead_of {P : Program} {wo : World} {K : PySem.W.Frag} {mg : Str → Option Value} {base : Heap} {f : Addr} {fd : FuncData} (T : Fx K mg) (F : FnP K "lead_of" s_lead_of f fd) : FnG P wo K mg base CX0 1 f fd ["net", "pan"] (spD K sp_lead_of) :=
  fnD false F sc_lead_of len_lead_of (fun cdv A outer s H E hr => d_lead_of T  hr) p_lead_of
theorem d_way_of {P : Program} {wo : World} {K : PySem.W.Frag} {mg : Str → Option Value} {base : Heap} {f : Addr} {cdv : Value} {A : Around} {outer : List PySem.Env} {s : Shared} {H : Hp} {E : XK} (T : Fx K mg) (c_is_number : Cal P wo K mg base 1 "is_number" ["thing"] sp_is_number) (c_fall : Cal P wo K mg base 2 "fall" ["standing", "weight"] sp_fall) (c_lead_of : Cal P wo K mg base 1 "lead_of" ["net", "pan"] sp_lead_of)
    (hr : RoomG 2 (A.deeper (envOfC "way_of" (defScope s_way_of) s.heap.objs.size f cdv))) : PDSs (cxOf CX0 P wo K mg base N_way_of "way_of" (defScope s_way_of) f cdv A outer s H E).nox (defBody s_way_of) t_way_of :=
    (pdss_cons (pds_par3 3 4 5 rfl sc_way_of.nd (pda_cons (pd_new pda_nil) (pda_cons pd_int (pda_cons (pd_callTy cb_listNew T.b_list (by decide +kernel) (pda_cons (pd_var 1) pda_nil)) pda_nil))))
    (pdss_cons (pds_while PassesOwn.never (pd_tru (pd_callC c_is_number hr (pda_cons (pd_var 4) pda_nil))) (pdss_cons (pds_asg (pd_callC c_fall hr (pda_cons (pd_ix (pd_var 5) (pd_var 4)) (pda_cons (pd_var 2) pda_nil))) (pdg_tup rfl (pdgs_cons (pdg_name 6 sc_way_of.nd) (pdgs_cons (pdg_sub (pd_var 5) (pd_var 4)) pdgs_nil))))
    (pdss_cons (pds_expr (pd_bm PySem.F.slot_list_append PySem.F.type_list_append md_append (pd_var 3) (pda_cons (pd_tup (pda_cons (pd_var 4) (pda_cons (pd_var 6) pda_nil))) pda_nil)))
    (pdss_one (pds_set 4 sc_way_of.nd (pd_callC c_lead_of hr (pda_cons (pd_var 0) (pda_cons (pd_ix (pd_var 3) (pd_un dun_neg pd_int)) pda_nil))))))))
    (pdss_one (pds_ret (pd_tup (pda_cons (pd_var 3) (pda_cons (pd_var 4) (pda_cons (pd_callTy cb_tuple T.b_tuple (by decide +kernel) (pda_cons (pd_var 5) pda_nil)) pda_nil))))))))
theorem ok_way_of {P : Program} {wo : World} {K : PySem.W.Frag} {mg : Str → Option Value} {base : Heap} {f : Addr} {fd : FuncData} (T : Fx K mg) (F : FnP K "way_of" s_way_of f fd) (c_is_number : Cal P wo K mg base 1 "is_number" ["thing"] sp_is_number) (c_fall : Cal P wo K mg base 2 "fall" ["standing", "weight"] sp_fall) (c_lead_of : Cal P wo K mg base 1 "lead_of" ["net", "pan"] sp_lead_of) : FnG P wo K mg base CX0 3 f fd ["net", "standing", "weight"] (spD K sp_way_of) :=
  fnD true F sc_way_of len_way_of (fun cdv A outer s H E hr => d_way_of T c_is_number c_fall c_lead_of hr) p_way_of
theorem d_falls_of {P : Program} {wo : World} {K : PySem.W.Frag} {mg : Str → Option Value} {base : Heap} {f : Addr} {cdv : Value} {A : Around} {outer : List PySem.Env} {s : Shared} {H : Hp} {E : XK} (T : Fx K mg) (c_way_of : Cal P wo K mg base 3 "way_of" ["net", "standing", "weight"] sp_way_of)
    (hr : RoomG 3 (A.deeper (envOfC "falls_of" (defScope s_falls_of) s.heap.objs.size f cdv))) : PDSs (cxOf CX0 P wo K mg base N_falls_of "falls_of" (defScope s_falls_of) f cdv A outer s H E).nox (defBody s_falls_of) t_falls_of :=
    (pdss_cons (pds_set 3 sc_falls_of.nd (pd_new pda_nil))
    (pdss_cons (pds_for PassesOwn.never rfl (pdi_any (pd_var 2)) (pdg_name 4 sc_falls_of.nd) (pdss_cons (pds_asg (pd_callC c_way_of hr (pda_cons (pd_var 0) (pda_cons (pd_var 1) (pda_cons (pd_var 4) pda_nil)))) (pdg_tup rfl (pdgs_cons (pdg_name 5 sc_falls_of.nd) (pdgs_cons (pdg_name 6 sc_falls_of.nd) (pdgs_cons (pdg_name 1 sc_falls_of.nd) pdgs_nil)))))
    (pdss_one (pds_expr (pd_bm PySem.F.slot_list_append PySem.F.type_list_append md_append (pd_var 3) (pda_cons (pd_var 6) pda_nil))))))
    (pdss_one (pds_ret (pd_tup (pda_cons (pd_var 3) (pda_cons (pd_callTy cb_tuple T.b_tuple (by decide +kernel) (pda_cons (pd_var 1) pda_nil)) pda_nil)))))))
theorem ok_falls_of {P : Program} {wo : World} {K : PySem.W.Frag} {mg : Str → Option Value} {base : Heap} {f : Addr} {fd : FuncData} (T : Fx K mg) (F : FnP K "falls_of" s_falls_of f fd) (c_way_of : Cal P wo K mg base 3 "way_of" ["net", "standing", "weight"] sp_way_of) : FnG P wo K mg base CX0 4 f fd ["net", "standing", "word"] (spD K sp_falls_of) :=
  fnD true F sc_falls_of len_falls_of (fun cdv A outer s H E hr => d_falls_of T c_way_of hr) p_falls_of
theorem d__law_tape {P : Program} {wo : World} {K : PySem.W.Frag} {mg : Str → Option Value} {base : Heap} {f : Addr} {cdv : Value} {A : Around} {outer : List PySem.Env} {s : Shared} {H : Hp} {E : XK} (T : Fx K mg)
    (hr : RoomG 0 (A.deeper (envOfC "_law_tape" (defScope s__law_tape) s.heap.objs.size f cdv))) : PDSs (cxOf CX0 P wo K mg base N__law_tape "_law_tape" (defScope s__law_tape) f cdv A outer s H E).nox (defBody s__law_tape) t__law_tape :=
    (pdss_cons (pds_set 2 sc__law_tape.nd (pd_ife (pd_tcmp dop_lt (pd_var 1) (pd_callB cb_len T.b_len (by decide +kernel) (pda_cons (pd_var 0) pda_nil)) (nomark _)) (pd_ix (pd_var 0) (pd_var 1)) pd_int))
    (pdss_one (pds_ret (pd_new (pda_cons (pd_op dop_mul (pd_callB cb_abs T.b_abs (by decide +kernel) (pda_cons (pd_var 2) pda_nil)) (pd_callTy cb_int T.b_int (by decide +kernel) (pda_cons (pd_cmp dop_ge (pd_callB cb_abs T.b_abs (by decide +kernel) (pda_cons (pd_var 2) pda_nil)) (pd_op dop_pow pd_int pd_int) (nomark _)) pda_nil))) (pda_cons (pd_op dop_add (pd_op dop_add (pd_op dop_mod (pd_var 2) pd_int) (pd_op dop_mul pd_int (pd_var 1))) pd_int) (pda_cons pd_int pda_nil)))))))
theorem ok__law_tape {P : Program} {wo : World} {K : PySem.W.Frag} {mg : Str → Option Value} {base : Heap} {f : Addr} {fd : FuncData} (T : Fx K mg) (F : FnP K "_law_tape" s__law_tape f fd) : FnG P wo K mg base CX0 1 f fd ["_law_script", "_law_k"] (spD K sp__law_tape) :=
  fnD false F sc__law_tape len__law_tape (fun cdv A outer s H E hr => d__law_tape T  hr) p__law_tape
theorem d__law_draw {P : Program} {wo : World} {K : PySem.W.Frag} {mg : Str → Option Value} {base : Heap} {f : Addr} {cdv : Value} {A : Around} {outer : List PySem.Env} {s : Shared} {H : Hp} {E : XK} (T : Fx K mg)
    (hr : RoomG 0 (A.deeper (envOfC "_law_draw" (defScope s__law_draw) s.heap.objs.size f cdv))) : PDSs (cxOf CX0 P wo K mg base N__law_draw "_law_draw" (defScope s__law_draw) f cdv A outer s H E).nox (defBody s__law_draw) t__law_draw :=
    (pdss_cons (pds_if (pd_tcmp dop_gt (pd_ix (pd_var 0) pd_int) pd_int (nomark _)) (pdss_cons (pds_set 2 sc__law_draw.nd (pd_op dop_mod (pd_ix (pd_var 0) pd_int) (pd_var 1)))
    (pdss_cons (pds_asg (pd_op dop_div (pd_ix (pd_var 0) pd_int) (pd_var 1)) (pdg_sub (pd_var 0) pd_int))
    (pdss_one (pds_ret (pd_var 2))))) pdss_nil)
    (pdss_cons (pds_asg (pd_op dop_add (pd_ix (pd_var 0) pd_int) pd_int) (pdg_sub (pd_var 0) pd_int))
    (pdss_cons (pds_set 3 sc__law_draw.nd (pd_op dop_mod (pd_op dop_pow (pd_op dop_add (pd_ix (pd_var 0) pd_int) (pd_op dop_mul pd_int (pd_ix (pd_var 0) pd_int))) pd_int) pd_int))
    (pdss_cons (pds_set 4 sc__law_draw.nd (pd_op dop_mod (pd_op dop_mul (pd_op dop_add (pd_var 3) (pd_ix (pd_var 0) pd_int)) (pd_op dop_add (pd_op dop_add (pd_op dop_mod (pd_var 3) pd_int) pd_int) (pd_ix (pd_var 0) pd_int))) pd_int))
    (pdss_cons (pds_set 5 sc__law_draw.nd (pd_op dop_mod (pd_op dop_add (pd_op dop_add (pd_op dop_div (pd_ix (pd_var 0) pd_int) pd_int) (pd_op dop_mul (pd_var 4) pd_int)) (pd_ix (pd_var 0) pd_int)) pd_int))
    (pdss_one (pds_ret (pd_op dop_mod (pd_op dop_div (pd_op dop_mod (pd_op dop_add (pd_op dop_add (pd_op dop_mul (pd_var 4) pd_int) (pd_op dop_mul (pd_var 5) pd_int)) (pd_var 3)) pd_int) pd_int) (pd_var 1)))))))))
theorem ok__law_draw {P : Program} {wo : World} {K : PySem.W.Frag} {mg : Str → Option Value} {base : Heap} {f : Addr} {fd : FuncData} (T : Fx K mg) (F : FnP K "_law_draw" s__law_draw f fd) : FnG P wo K mg base CX0 1 f fd ["_law_tape_here", "_law_many"] (spD K sp__law_draw) :=
  fnD false F sc__law_draw len__law_draw (fun cdv A outer s H E hr => d__law_draw T  hr) p__law_draw
theorem d__law_folded {P : Program} {wo : World} {K : PySem.W.Frag} {mg : Str → Option Value} {base : Heap} {f : Addr} {cdv : Value} {A : Around} {outer : List PySem.Env} {s : Shared} {H : Hp} {E : XK} (T : Fx K mg)
    (hr : RoomG 0 (A.deeper (envOfC "_law_folded" (defScope s__law_folded) s.heap.objs.size f cdv))) : PDSs (cxOf CX0 P wo K mg base N__law_folded "_law_folded" (defScope s__law_folded) f cdv A outer s H E).nox (defBody s__law_folded) t__law_folded :=
    (pdss_cons (pds_set 2 sc__law_folded.nd (pd_callTy cb_listNew T.b_list (by decide +kernel) (pda_cons (pd_cut sl_cut (pd_var 0) pdo_none (pdo_some (pd_var 1))) pda_nil)))
    (pdss_cons (pds_for PassesOwn.never rfl (pdi_enum T.b_enumerate (pd_cut sl_cut (pd_var 0) (pdo_some (pd_var 1)) (pdo_some pd_int))) (pdg_tup rfl (pdgs_cons (pdg_name 3 sc__law_folded.nd) (pdgs_cons (pdg_name 4 sc__law_folded.nd) pdgs_nil))) (pdss_one (pds_asg (pd_op dop_add (pd_ix (pd_var 2) (pd_op dop_mod (pd_var 3) (pd_var 1))) (pd_op dop_mul (pd_var 4) (pd_op dop_add (pd_var 3) pd_int))) (pdg_sub (pd_var 2) (pd_op dop_mod (pd_var 3) (pd_var 1))))))
    (pdss_one (pds_ret (pd_var 2)))))
theorem ok__law_folded {P : Program} {wo : World} {K : PySem.W.Frag} {mg : Str → Option Value} {base : Heap} {f : Addr} {fd : FuncData} (T : Fx K mg) (F : FnP K "_law_folded" s__law_folded f fd) : FnG P wo K mg base CX0 1 f fd ["_law_script", "_law_many"] (spD K sp__law_folded) :=
  fnD true F sc__law_folded len__law_folded (fun cdv A outer s H E hr => d__law_folded T  hr) p__law_folded
theorem d__law_same {P : Program} {wo : World} {K : PySem.W.Frag} {mg : Str → Option Value} {base : Heap} {f : Addr} {cdv : Value} {A : Around} {outer : List PySem.Env} {s : Shared} {H : Hp} {E : XK} {spr : SpD} {n : Nat} (T : Fx K mg) (cr : Cal P wo K mg base (0 + n) "_law_same" ["_law_found", "_law_due"] spr) 
    (hr : RoomG (0 + n) (A.deeper (envOfC "_law_same" (defScope s__law_same) s.heap.objs.size f cdv))) : PDSs (cxOf CX0 P wo K mg base N__law_same "_law_same" (defScope s__law_same) f cdv A outer s H E).nox (defBody s__law_same) (t__law_same spr) :=
    (pdss_cons (pds_if (pd_tru (pd_isi2 T.b_isinstance (pd_var 1) T.b_list (by decide +kernel) T.b_tuple (by decide +kernel))) (pdss_cons (pds_if (L2.PW.pt (pw_dor (pd_tcmp (dop_ne hr.units) (pd_isi T.b_isinstance (pd_var 0) T.b_list (by decide +kernel)) (pd_isi T.b_isinstance (pd_var 1) T.b_list (by decide +kernel)) (nomark _)) (pw_or1 (pd_tcmp (dop_ne hr.units) (pd_isi T.b_isinstance (pd_var 0) T.b_tuple (by decide +kernel)) (pd_isi T.b_isinstance (pd_var 1) T.b_tuple (by decide +kernel)) (nomark _))))) (pdss_one (pds_ret pd_bl)) pdss_nil)
    (pdss_one (pds_ret (pd_andv (pd_cmp (dop_eq hr.units) (pd_callB cb_len T.b_len (by decide +kernel) (pda_cons (pd_var 0) pda_nil)) (pd_callB cb_len T.b_len (by decide +kernel) (pda_cons (pd_var 1) pda_nil)) (nomark _)) (pe_one (pd_callB (cb_all rfl) T.b_all (by decide +kernel) (pda_cons (pd_lc [("_law_one", 2), ("_law_other", 3)] rfl sc__law_same.nd (pdi_zip T.b_zip (pd_var 0) (pd_var 1)) (blkOk_by (N := N__law_same) (sc := defScope s__law_same) (by decide +kernel)) (fun _ _ _ _ _ => (pdgo_tup rfl (pdgso_cons (pdgo_name 2 sc__law_same.nd) (pdgso_cons (pdgo_name 3 sc__law_same.nd) pdgso_nil)))) (fun _ _ _ _ _ => pdts_nil) (fun _ _ _ _ _ => (pd_callC (hkj := by omega) cr hr (pda_cons (pd_var 2) (pda_cons (pd_var 3) pda_nil))))) pda_nil))))))) pdss_nil)
    (pdss_cons (pds_if (L2.PW.pt (pw_dor (pd_tcmp dop_is (pd_var 1) pd_non (nomark _)) (pw_or1 (pd_tru (pd_isi2 T.b_isinstance (pd_var 1) T.b_str (by decide +kernel) T.b_bool (by decide +kernel)))))) (pdss_one (pds_ret (pd_andv (pd_cmp (dop_eq hr.units) (pd_isi T.b_isinstance (pd_var 0) T.b_bool (by decide +kernel)) (pd_isi T.b_isinstance (pd_var 1) T.b_bool (by decide +kernel)) (nomark _)) (pe_one (pd_cmp (dop_eq hr.units) (pd_var 0) (pd_var 1) (nomark _)))))) pdss_nil)
    (pdss_one (pds_ret (pd_andv (pd_isi T.b_isinstance (pd_var 0) T.b_int (by decide +kernel)) (pd_andv (pd_notv (pd_isi T.b_isinstance (pd_var 0) T.b_bool (by decide +kernel))) (pe_one (pd_cmp (dop_eq hr.units) (pd_var 0) (pd_var 1) (nomark _)))))))))
theorem ok__law_same {P : Program} {wo : World} {K : PySem.W.Frag} {mg : Str → Option Value} {base : Heap} {f : Addr} {fd : FuncData} (T : Fx K mg) (F : FnP K "_law_same" s__law_same f fd) (gm : mg "_law_same" = some (.ref f)) : ∀ n : Nat, FnG P wo K mg base CX0 (0 + n) f fd ["_law_found", "_law_due"] (spD K (sp__law_same n))
  | 0 => ⟨fun vs H Q E ⟨_, _, ds, _, _, _, h, _⟩ => (no__law_same _ _ _ h).elim, fun A outer s H args us vs Q E _ _ _ _ ⟨_, _, ds, _, _, _, h, _⟩ => (no__law_same _ _ _ h).elim⟩
  | n + 1 => fnD (k := 0 + n) false F sc__law_same (len__law_same (n + 1)) (fun cdv A outer s H E hr => d__law_same T ⟨f, fd, gm, F.kp, ok__law_same T F gm  n, F.bindsN (fun _ _ _ _ _ _ us hl => match us, hl with | [_, _], _ => rfl)⟩  hr) (p__law_same n)
theorem d__law_names {P : Program} {wo : World} {K : PySem.W.Frag} {mg : Str → Option Value} {base : Heap} {f : Addr} {cdv : Value} {A : Around} {outer : List PySem.Env} {s : Shared} {H : Hp} {E : XK} (T : Fx K mg) (c__law_draw : Cal P wo K mg base 1 "_law_draw" ["_law_tape_here", "_law_many"] sp__law_draw)
    (hr : RoomG 1 (A.deeper (envOfC "_law_names" (defScope s__law_names) s.heap.objs.size f cdv))) : PDSs (cxOf CX0 P wo K mg base N__law_names "_law_names" (defScope s__law_names) f cdv A outer s H E).nox (defBody s__law_names) t__law_names :=
    (pdss_cons (pds_asg (pd_tup (pda_cons pd_str (pda_cons (pd_callC c__law_draw hr (pda_cons (pd_var 0) (pda_cons pd_int pda_nil))) pda_nil))) (pdg_tup rfl (pdgs_cons (pdg_name 2 sc__law_names.nd) (pdgs_cons (pdg_name 3 sc__law_names.nd) pdgs_nil))))
    (pdss_cons (pds_set 4 sc__law_names.nd (pd_join pd_str (pd_lc [("_law_k", 5)] rfl sc__law_names.nd (pdi_range1 T.b_range (pd_callC c__law_draw hr (pda_cons (pd_var 0) (pda_cons pd_int pda_nil)))) (blkOk_by (N := N__law_names) (sc := defScope s__law_names) (by decide +kernel)) (fun _ _ _ _ _ => (pdgo_name 5 sc__law_names.nd)) (fun _ _ _ _ _ => pdts_nil) (fun _ _ _ _ _ => (pd_ix (pd_var 2) (pd_callC c__law_draw hr (pda_cons (pd_var 0) (pda_cons pd_int pda_nil))))))))
    (pdss_cons (pds_par3 6 7 8 rfl sc__law_names.nd (pda_cons (pd_callC c__law_draw hr (pda_cons (pd_var 0) (pda_cons (pd_op dop_add (pd_callB cb_len T.b_len (by decide +kernel) (pda_cons (pd_var 4) pda_nil)) pd_int) pda_nil))) (pda_cons (pd_ix (pd_lst (pda_cons pd_int (pda_cons pd_int (pda_cons pd_int pda_nil)))) (pd_callC c__law_draw hr (pda_cons (pd_var 0) (pda_cons pd_int pda_nil)))) (pda_cons (pd_new pda_nil) pda_nil))))
    (pdss_cons (pds_par 9 10 rfl sc__law_names.nd (pda_cons (pd_cut sl_cut (pd_var 4) pdo_none (pdo_some (pd_var 6))) (pda_cons (pd_cut sl_cut (pd_var 4) (pdo_some (pd_var 6)) pdo_none) pda_nil)))
    (pdss_cons (pds_for PassesOwn.never rfl (pdi_range1 T.b_range (pd_var 1)) (pdg_name 5 sc__law_names.nd) (pdss_cons (pds_set 11 sc__law_names.nd (pd_op dop_mul (pd_op dop_mod (pd_op dop_add (pd_op dop_add (pd_var 3) (pd_var 6)) (pd_callB cb_len T.b_len (by decide +kernel) (pda_cons (pd_var 4) pda_nil))) pd_int) (pd_callTy cb_int T.b_int (by decide +kernel) (pda_cons (pd_cmp (dop_ne hr.units) (pd_var 10) pd_str (nomark _)) pda_nil))))
    (pdss_cons (pds_set 12 sc__law_names.nd (pd_ix (pd_var 2) (pd_op dop_mod (pd_op dop_add (pd_var 3) (pd_op dop_mul (pd_var 7) (pd_ix (pd_lst (pda_cons (pd_var 5) (pda_cons (pd_op dop_div (pd_var 5) pd_int) (pda_cons (pd_var 5) pda_nil)))) (pd_var 11)))) pd_int)))
    (pdss_one (pds_expr (pd_bm PySem.F.slot_list_append PySem.F.type_list_append md_append (pd_var 8) (pda_cons (pd_op dop_add (pd_op dop_add (pd_var 9) (pd_var 12)) (pd_ix (pd_lst (pda_cons (pd_var 10) (pda_cons (pd_op dop_mul (pd_var 10) (pd_op dop_mod (pd_var 5) pd_int)) (pda_cons (pd_cut sl_cut (pd_var 10) pdo_none (pdo_some (pd_op dop_mod (pd_var 5) (pd_op dop_add (pd_callB cb_len T.b_len (by decide +kernel) (pda_cons (pd_var 10) pda_nil)) pd_int)))) pda_nil)))) (pd_var 11))) pda_nil)))))))
    (pdss_one (pds_ret (pd_var 8))))))))
theorem ok__law_names {P : Program} {wo : World} {K : PySem.W.Frag} {mg : Str → Option Value} {base : Heap} {f : Addr} {fd : FuncData} (T : Fx K mg) (F : FnP K "_law_names" s__law_names f fd) (c__law_draw : Cal P wo K mg base 1 "_law_draw" ["_law_tape_here", "_law_many"] sp__law_draw) : FnG P wo K mg base CX0 2 f fd ["_law_tape_here", "_law_many"] (spD K sp__law_names) :=
  fnD true F sc__law_names len__law_names (fun cdv A outer s H E hr => d__law_names T c__law_draw hr) p__law_names
theorem d__law_standing {P : Program} {wo : World} {K : PySem.W.Frag} {mg : Str → Option Value} {base : Heap} {f : Addr} {cdv : Value} {A : Around} {outer : List PySem.Env} {s : Shared} {H : Hp} {E : XK} (T : Fx K mg) (c__law_draw : Cal P wo K mg base 1 "_law_draw" ["_law_tape_here", "_law_many"] sp__law_draw)
    (hr : RoomG 1 (A.deeper (envOfC "_law_standing" (defScope s__law_standing) s.heap.objs.size f cdv))) : PDSs (cxOf CX0 P wo K mg base N__law_standing "_law_standing" (defScope s__law_standing) f cdv A outer s H E).nox (defBody s__law_standing) t__law_standing :=
    (pdss_one (pds_ret (pd_op dop_mul (pd_op dop_add (pd_op dop_mul pd_int (pd_callC c__law_draw hr (pda_cons (pd_var 0) (pda_cons (pd_var 1) pda_nil)))) pd_int) (pd_ix (pd_lst (pda_cons pd_int (pda_cons (pd_un dun_neg pd_int) pda_nil))) (pd_callC c__law_draw hr (pda_cons (pd_var 0) (pda_cons pd_int pda_nil)))))))
theorem ok__law_standing {P : Program} {wo : World} {K : PySem.W.Frag} {mg : Str → Option Value} {base : Heap} {f : Addr} {fd : FuncData} (T : Fx K mg) (F : FnP K "_law_standing" s__law_standing f fd) (c__law_draw : Cal P wo K mg base 1 "_law_draw" ["_law_tape_here", "_law_many"] sp__law_draw) : FnG P wo K mg base CX0 2 f fd ["_law_tape_here", "_law_most"] (spD K sp__law_standing) :=
  fnD false F sc__law_standing len__law_standing (fun cdv A outer s H E hr => d__law_standing T c__law_draw hr) p__law_standing
theorem d__law_net {P : Program} {wo : World} {K : PySem.W.Frag} {mg : Str → Option Value} {base : Heap} {f : Addr} {cdv : Value} {A : Around} {outer : List PySem.Env} {s : Shared} {H : Hp} {E : XK} (T : Fx K mg) (c__law_draw : Cal P wo K mg base 1 "_law_draw" ["_law_tape_here", "_law_many"] sp__law_draw)
    (hr : RoomG 1 (A.deeper (envOfC "_law_net" (defScope s__law_net) s.heap.objs.size f cdv))) : PDSs (cxOf CX0 P wo K mg base N__law_net "_law_net" (defScope s__law_net) f cdv A outer s H E).nox (defBody s__law_net) t__law_net :=
    (pdss_cons (pds_set 5 sc__law_net.nd (pd_op dop_add pd_int (pd_callC c__law_draw hr (pda_cons (pd_var 0) (pda_cons (pd_var 2) pda_nil)))))
    (pdss_cons (pds_asg (pd_tup (pda_cons (pd_new (pda_cons (pd_tup (pda_cons pd_int (pda_cons pd_int pda_nil))) (pda_cons (pd_tup (pda_cons pd_int (pda_cons pd_int pda_nil))) pda_nil))) (pda_cons (pd_op dop_mulNew (pd_lst (pda_cons pd_int pda_nil)) (pd_var 5)) (pda_cons pd_dnewT pda_nil)))) (pdg_tup rfl (pdgs_cons (pdg_name 6 sc__law_net.nd) (pdgs_cons (pdg_name 7 sc__law_net.nd) (pdgs_cons (pdg_name 8 sc__law_net.nd) pdgs_nil)))))
    (pdss_cons (pds_for PassesOwn.never rfl (pdi_range2 T.b_range pd_int (pd_var 5)) (pdg_name 9 sc__law_net.nd) (pdss_cons (pds_setLc 10 [("_law_pan", 11)] rfl sc__law_net.nd (pdi_any (pd_var 6)) (blkOk_by (N := N__law_net) (sc := defScope s__law_net) (by decide +kernel)) (fun _ _ _ _ _ => (pdgo_name 11 sc__law_net.nd)) (fun _ _ _ _ _ => (pdts_one (pd_tcmp dop_lt (pd_op dop_add (pd_ix (pd_var 7) (pd_ix (pd_var 11) pd_int)) pd_int) (pd_var 3) (nomark _)))) (fun _ _ _ _ _ => (pd_var 11)) (sw_true rfl rfl rfl (by decide +kernel)))
    (pdss_one (pds_if (pd_tcmp (dop_ne hr.units) (pd_var 10) (pd_lst pda_nil) (nomark _)) (pdss_cons (pds_set 11 sc__law_net.nd (pd_ix (pd_var 10) (pd_callC c__law_draw hr (pda_cons (pd_var 0) (pda_cons (pd_callB cb_len T.b_len (by decide +kernel) (pda_cons (pd_var 10) pda_nil)) pda_nil)))))
    (pdss_cons (pds_expr (pd_bm PySem.F.slot_list_remove PySem.F.type_list_remove (md_remove hr.units) (pd_var 6) (pda_cons (pd_var 11) pda_nil)))
    (pdss_cons (pds_asg (pd_var 9) (pdg_put hr.units (pd_var 8) (pd_var 11)))
    (pdss_cons (pds_asg (pd_op dop_add (pd_ix (pd_var 7) (pd_ix (pd_var 11) pd_int)) pd_int) (pdg_sub (pd_var 7) (pd_var 9)))
    (pdss_one (pds_set 6 sc__law_net.nd (pd_op dop_addNew (pd_var 6) (pd_lst (pda_cons (pd_tup (pda_cons (pd_var 9) (pda_cons pd_int pda_nil))) (pda_cons (pd_tup (pda_cons (pd_var 9) (pda_cons pd_int pda_nil))) pda_nil)))))))))) pdss_nil))))
    (pdss_cons (pds_set 12 sc__law_net.nd (pd_op dop_add (pd_lst (pda_cons pd_int pda_nil)) (pd_sortV rfl T.b_sorted (pd_var 8))))
    (pdss_cons (pds_for PassesOwn.never rfl (pdi_any (pd_callB cb_sortedP T.b_sorted (by decide +kernel) (pda_cons (pd_var 6) pda_nil))) (pdg_name 11 sc__law_net.nd) (pdss_cons (pds_setLc 13 [("_law_k", 9)] rfl sc__law_net.nd (pdi_any (pd_var 12)) (blkOk_by (N := N__law_net) (sc := defScope s__law_net) (by decide +kernel)) (fun _ _ _ _ _ => (pdgo_name 9 sc__law_net.nd)) (fun _ _ _ _ _ => (pdts_one (L2.PW.pt (pw_dand (pd_tcmp dop_gt (pd_var 9) (pd_ix (pd_var 11) pd_int) (nomark _)) (pw_and1 (pd_tcmp dop_gt (pd_ix (pd_var 7) (pd_var 9)) (pd_ix (pd_var 7) (pd_ix (pd_var 11) pd_int)) (nomark _))))))) (fun _ _ _ _ _ => (pd_var 9)) (sw_true rfl rfl rfl (by decide +kernel)))
    (pdss_cons (pds_asg (pd_ix (pd_var 1) (pd_callC c__law_draw hr (pda_cons (pd_var 0) (pda_cons (pd_callB cb_len T.b_len (by decide +kernel) (pda_cons (pd_var 1) pda_nil)) pda_nil)))) (pdg_put hr.units (pd_var 8) (pd_var 11)))
    (pdss_one (pds_if (L2.PW.pt (pw_dand (pd_tru (pd_var 4)) (pw_dand (pd_tcmp (dop_ne hr.units) (pd_var 13) (pd_lst pda_nil) (nomark _)) (pw_and1 (pd_tcmp (dop_eq hr.units) (pd_callC c__law_draw hr (pda_cons (pd_var 0) (pda_cons pd_int pda_nil))) pd_int (nomark _)))))) (pdss_one (pds_asg (pd_ix (pd_var 13) (pd_callC c__law_draw hr (pda_cons (pd_var 0) (pda_cons (pd_callB cb_len T.b_len (by decide +kernel) (pda_cons (pd_var 13) pda_nil)) pda_nil)))) (pdg_put hr.units (pd_var 8) (pd_var 11)))) pdss_nil)))))
    (pdss_cons (pds_set 14 sc__law_net.nd (pd_callTy (cb_dictP rfl) T.b_dict (by decide +kernel) (pda_cons (pd_lc [("_law_at", 15), ("_law_k", 9)] rfl sc__law_net.nd (pdi_enum T.b_enumerate (pd_var 12)) (blkOk_by (N := N__law_net) (sc := defScope s__law_net) (by decide +kernel)) (fun _ _ _ _ _ => (pdgo_tup rfl (pdgso_cons (pdgo_name 15 sc__law_net.nd) (pdgso_cons (pdgo_name 9 sc__law_net.nd) pdgso_nil)))) (fun _ _ _ _ _ => pdts_nil) (fun _ _ _ _ _ => (pd_tup (pda_cons (pd_var 9) (pda_cons (pd_var 15) pda_nil))))) pda_nil)))
    (pdss_one (pds_ret (pd_callTy cb_tuple T.b_tuple (by decide +kernel) (pda_cons (pd_lc [("_law_k", 9)] rfl sc__law_net.nd (pdi_any (pd_var 12)) (blkOk_by (N := N__law_net) (sc := defScope s__law_net) (by decide +kernel)) (fun _ _ _ _ _ => (pdgo_name 9 sc__law_net.nd)) (fun _ _ _ _ _ => pdts_nil) (fun _ _ _ _ _ => (pd_callTy cb_tuple T.b_tuple (by decide +kernel) (pda_cons (pd_lc [("_law_side", 16)] rfl sc__law_net.nd (pdi_any (pd_tup (pda_cons pd_int (pda_cons pd_int pda_nil)))) (blkOk_by (by kernel_rfl)) (fun _ _ _ _ _ => (pdgo_name 16 sc__law_net.nd)) (fun _ _ _ _ _ => pdts_nil) (fun _ _ _ _ _ => (pd_dget2 hr.units (pd_var 14) (pd_dget hr.units (pd_var 8) (pd_tup (pda_cons (pd_var 9) (pda_cons (pd_var 16) pda_nil)))) (pd_dget hr.units (pd_var 8) (pd_tup (pda_cons (pd_var 9) (pda_cons (pd_var 16) pda_nil))))))) pda_nil)))) pda_nil))))))))))
theorem ok__law_net {P : Program} {wo : World} {K : PySem.W.Frag} {mg : Str → Option Value} {base : Heap} {f : Addr} {fd : FuncData} (T : Fx K mg) (F : FnP K "_law_net" s__law_net f fd) (c__law_draw : Cal P wo K mg base 1 "_law_draw" ["_law_tape_here", "_law_many"] sp__law_draw) : FnG P wo K mg base CX0 2 f fd ["_law_tape_here", "_law_names_here", "_law_most", "_law_high", "_law_together"] (spD K sp__law_net) :=
  fnD true F sc__law_net len__law_net (fun cdv A outer s H E hr => d__law_net T c__law_draw hr) p__law_net
theorem d__law_standings {P : Program} {wo : World} {K : PySem.W.Frag} {mg : Str → Option Value} {base : Heap} {f : Addr} {cdv : Value} {A : Around} {outer : List PySem.Env} {s : Shared} {H : Hp} {E : XK} (T : Fx K mg) (c__law_draw : Cal P wo K mg base 1 "_law_draw" ["_law_tape_here", "_law_many"] sp__law_draw) (c__law_standing : Cal P wo K mg base 2 "_law_standing" ["_law_tape_here", "_law_most"] sp__law_standing)
    (hr : RoomG 2 (A.deeper (envOfC "_law_standings" (defScope s__law_standings) s.heap.objs.size f cdv))) : PDSs (cxOf CX0 P wo K mg base N__law_standings "_law_standings" (defScope s__law_standings) f cdv A outer s H E).nox (defBody s__law_standings) t__law_standings :=
    (pdss_cons (pds_set 3 sc__law_standings.nd (pd_cmp (dop_eq hr.units) (pd_callC c__law_draw hr (pda_cons (pd_var 0) (pda_cons pd_int pda_nil))) pd_int (nomark _)))
    (pdss_one (pds_ret (pd_callTy cb_tuple T.b_tuple (by decide +kernel) (pda_cons (pd_lc [("_law_leads", 4)] rfl sc__law_standings.nd (pdi_any (pd_var 1)) (blkOk_by (N := N__law_standings) (sc := defScope s__law_standings) (by decide +kernel)) (fun _ _ _ _ _ => (pdgo_name 4 sc__law_standings.nd)) (fun _ _ _ _ _ => pdts_nil) (fun _ _ _ _ _ => (pd_ife (pd_tru (pd_var 3)) (pd_un dun_neg pd_int) (pd_callC c__law_standing hr (pda_cons (pd_var 0) (pda_cons (pd_var 2) pda_nil)))))) pda_nil)))))
theorem ok__law_standings {P : Program} {wo : World} {K : PySem.W.Frag} {mg : Str → Option Value} {base : Heap} {f : Addr} {fd : FuncData} (T : Fx K mg) (F : FnP K "_law_standings" s__law_standings f fd) (c__law_draw : Cal P wo K mg base 1 "_law_draw" ["_law_tape_here", "_law_many"] sp__law_draw) (c__law_standing : Cal P wo K mg base 2 "_law_standing" ["_law_tape_here", "_law_most"] sp__law_standing) : FnG P wo K mg base CX0 3 f fd ["_law_tape_here", "_law_nets", "_law_most"] (spD K sp__law_standings) :=
  fnD false F sc__law_standings len__law_standings (fun cdv A outer s H E hr => d__law_standings T c__law_draw c__law_standing hr) p__law_standings
theorem d__law_gone {P : Program} {wo : World} {K : PySem.W.Frag} {mg : Str → Option Value} {base : Heap} {f : Addr} {cdv : Value} {A : Around} {outer : List PySem.Env} {s : Shared} {H : Hp} {E : XK} (T : Fx K mg)
    (hr : RoomG 0 (A.deeper (envOfC "_law_gone" (defScope s__law_gone) s.heap.objs.size f cdv))) : PDSs (cxOf CX0 P wo K mg base N__law_gone "_law_gone" (defScope s__law_gone) f cdv A outer s H E).nox (defBody s__law_gone) t__law_gone :=
    (pdss_cons (pds_par3 3 4 5 rfl sc__law_gone.nd (pda_cons pd_int (pda_cons (pd_callTy cb_listNew T.b_list (by decide +kernel) (pda_cons (pd_var 1) pda_nil)) (pda_cons (pd_new pda_nil) pda_nil))))
    (pdss_cons (pds_while PassesOwn.never (pd_tnot (pd_tru (pd_isi T.b_isinstance (pd_var 3) T.b_str (by decide +kernel)))) (pdss_cons (pds_set 6 sc__law_gone.nd (pd_callTy cb_int T.b_int (by decide +kernel) (pda_cons (pd_cmp dop_gt (pd_ix (pd_var 4) (pd_var 3)) pd_int (nomark _)) pda_nil)))
    (pdss_cons (pds_expr (pd_bm PySem.F.slot_list_append PySem.F.type_list_append md_append (pd_var 5) (pda_cons (pd_tup (pda_cons (pd_var 3) (pda_cons (pd_var 6) pda_nil))) pda_nil)))
    (pdss_cons (pds_asg (pd_op dop_add (pd_ix (pd_var 4) (pd_var 3)) (pd_op dop_mul (pd_op dop_mul pd_int (pd_var 2)) (pd_op dop_sub pd_int (pd_op dop_mul pd_int (pd_var 6))))) (pdg_sub (pd_var 4) (pd_var 3)))
    (pdss_one (pds_set 3 sc__law_gone.nd (pd_ix (pd_ix (pd_var 0) (pd_var 3)) (pd_var 6))))))))
    (pdss_one (pds_ret (pd_tup (pda_cons (pd_var 5) (pda_cons (pd_var 3) (pda_cons (pd_callTy cb_tuple T.b_tuple (by decide +kernel) (pda_cons (pd_var 4) pda_nil)) pda_nil))))))))
theorem ok__law_gone {P : Program} {wo : World} {K : PySem.W.Frag} {mg : Str → Option Value} {base : Heap} {f : Addr} {fd : FuncData} (T : Fx K mg) (F : FnP K "_law_gone" s__law_gone f fd) : FnG P wo K mg base CX0 1 f fd ["_law_nets", "_law_standings_here", "_law_weight"] (spD K sp__law_gone) :=
  fnD true F sc__law_gone len__law_gone (fun cdv A outer s H E hr => d__law_gone T  hr) p__law_gone
theorem d__law_out {P : Program} {wo : World} {K : PySem.W.Frag} {mg : Str → Option Value} {base : Heap} {f : Addr} {cdv : Value} {A : Around} {outer : List PySem.Env} {s : Shared} {H : Hp} {E : XK} (T : Fx K mg) (c__law_gone : Cal P wo K mg base 1 "_law_gone" ["_law_nets", "_law_standings_here", "_law_weight"] sp__law_gone)
    (hr : RoomG 1 (A.deeper (envOfC "_law_out" (defScope s__law_out) s.heap.objs.size f cdv))) : PDSs (cxOf CX0 P wo K mg base N__law_out "_law_out" (defScope s__law_out) f cdv A outer s H E).nox (defBody s__law_out) t__law_out :=
    (pdss_cons (pds_set 3 sc__law_out.nd (pd_new pda_nil))
    (pdss_cons (pds_for PassesOwn.never rfl (pdi_any (pd_var 2)) (pdg_name 4 sc__law_out.nd) (pdss_cons (pds_asg (pd_callC c__law_gone hr (pda_cons (pd_var 0) (pda_cons (pd_var 1) (pda_cons (pd_var 4) pda_nil)))) (pdg_tup rfl (pdgs_cons (pdg_name 5 sc__law_out.nd) (pdgs_cons (pdg_name 6 sc__law_out.nd) (pdgs_cons (pdg_name 1 sc__law_out.nd) pdgs_nil)))))
    (pdss_one (pds_expr (pd_bm PySem.F.slot_list_append PySem.F.type_list_append md_append (pd_var 3) (pda_cons (pd_var 6) pda_nil))))))
    (pdss_one (pds_ret (pd_tup (pda_cons (pd_var 3) (pda_cons (pd_var 1) pda_nil)))))))
theorem ok__law_out {P : Program} {wo : World} {K : PySem.W.Frag} {mg : Str → Option Value} {base : Heap} {f : Addr} {fd : FuncData} (T : Fx K mg) (F : FnP K "_law_out" s__law_out f fd) (c__law_gone : Cal P wo K mg base 1 "_law_gone" ["_law_nets", "_law_standings_here", "_law_weight"] sp__law_gone) : FnG P wo K mg base CX0 2 f fd ["_law_nets", "_law_standings_here", "_law_word"] (spD K sp__law_out) :=
  fnD true F sc__law_out len__law_out (fun cdv A outer s H E hr => d__law_out T c__law_gone hr) p__law_out
theorem d__law_put_in {P : Program} {wo : World} {K : PySem.W.Frag} {mg : Str → Option Value} {base : Heap} {f : Addr} {cdv : Value} {A : Around} {outer : List PySem.Env} {s : Shared} {H : Hp} {E : XK} (T : Fx K mg) (c__law_draw : Cal P wo K mg base 1 "_law_draw" ["_law_tape_here", "_law_many"] sp__law_draw) (c__law_standing : Cal P wo K mg base 2 "_law_standing" ["_law_tape_here", "_law_most"] sp__law_standing)
    (hr : RoomG 2 (A.deeper (envOfC "_law_put_in" (defScope s__law_put_in) s.heap.objs.size f cdv))) : PDSs (cxOf CX0 P wo K mg base N__law_put_in "_law_put_in" (defScope s__law_put_in) f cdv A outer s H E).nox (defBody s__law_put_in) t__law_put_in :=
    (pdss_cons (pds_asg (pd_tup (pda_cons (pd_callC c__law_draw hr (pda_cons (pd_var 0) (pda_cons (pd_callB cb_len T.b_len (by decide +kernel) (pda_cons (pd_var 1) pda_nil)) pda_nil))) (pda_cons (pd_callC c__law_draw hr (pda_cons (pd_var 0) (pda_cons pd_int pda_nil))) pda_nil))) (pdg_tup rfl (pdgs_cons (pdg_name 4 sc__law_put_in.nd) (pdgs_cons (pdg_name 5 sc__law_put_in.nd) pdgs_nil))))
    (pdss_cons (pds_setLc 6 [("_law_pair", 8)] rfl sc__law_put_in.nd (pdi_any (pd_var 1)) (blkOk_by (N := N__law_put_in) (sc := defScope s__law_put_in) (by decide +kernel)) (fun _ _ _ _ _ => (pdgo_name 8 sc__law_put_in.nd)) (fun _ _ _ _ _ => pdts_nil) (fun _ _ _ _ _ => (pd_callTy cb_tuple T.b_tuple (by decide +kernel) (pda_cons (pd_lc [("_law_one", 7)] rfl sc__law_put_in.nd (pdi_any (pd_var 8)) (blkOk_by (by kernel_rfl)) (fun _ _ _ _ _ => (pdgo_name 7 sc__law_put_in.nd)) (fun _ _ _ _ _ => pdts_nil) (fun _ _ _ _ _ => (pd_ife (pd_tru (pd_isi T.b_isinstance (pd_var 7) T.b_str (by decide +kernel))) (pd_var 7) (pd_op dop_add (pd_var 7) (pd_callTy cb_int T.b_int (by decide +kernel) (pda_cons (pd_cmp dop_gt (pd_var 7) (pd_var 4) (nomark _)) pda_nil)))))) pda_nil))) (sw_true rfl rfl rfl (by decide +kernel)))
    (pdss_cons (pds_par 9 10 rfl sc__law_put_in.nd (pda_cons (pd_ix (pd_ix (pd_var 6) (pd_var 4)) (pd_var 5)) (pda_cons (pd_callTy cb_listNew T.b_list (by decide +kernel) (pda_cons (pd_ix (pd_var 6) (pd_var 4)) pda_nil)) pda_nil)))
    (pdss_cons (pds_asg (pd_op dop_add (pd_var 4) pd_int) (pdg_sub (pd_var 10) (pd_var 5)))
    (pdss_cons (pds_set 11 sc__law_put_in.nd (pd_op dop_add (pd_op dop_add (pd_cut sl_cut (pd_var 6) pdo_none (pdo_some (pd_var 4))) (pd_lst (pda_cons (pd_callTy cb_tuple T.b_tuple (by decide +kernel) (pda_cons (pd_var 10) pda_nil)) (pda_cons (pd_tup (pda_cons (pd_var 9) (pda_cons (pd_var 9) pda_nil))) pda_nil)))) (pd_cut sl_cut (pd_var 6) (pdo_some (pd_op dop_add (pd_var 4) pd_int)) pdo_none)))
    (pdss_one (pds_ret (pd_tup (pda_cons (pd_callTy cb_tuple T.b_tuple (by decide +kernel) (pda_cons (pd_var 11) pda_nil)) (pda_cons (pd_op dop_add (pd_op dop_add (pd_cut sl_cut (pd_var 2) pdo_none (pdo_some (pd_op dop_add (pd_var 4) pd_int))) (pd_tup (pda_cons (pd_callC c__law_standing hr (pda_cons (pd_var 0) (pda_cons (pd_var 3) pda_nil))) pda_nil))) (pd_cut sl_cut (pd_var 2) (pdo_some (pd_op dop_add (pd_var 4) pd_int)) pdo_none)) (pda_cons (pd_op dop_add (pd_var 4) pd_int) pda_nil)))))))))))
theorem ok__law_put_in {P : Program} {wo : World} {K : PySem.W.Frag} {mg : Str → Option Value} {base : Heap} {f : Addr} {fd : FuncData} (T : Fx K mg) (F : FnP K "_law_put_in" s__law_put_in f fd) (c__law_draw : Cal P wo K mg base 1 "_law_draw" ["_law_tape_here", "_law_many"] sp__law_draw) (c__law_standing : Cal P wo K mg base 2 "_law_standing" ["_law_tape_here", "_law_most"] sp__law_standing) : FnG P wo K mg base CX0 3 f fd ["_law_tape_here", "_law_nets", "_law_standings_here", "_law_most"] (spD K sp__law_put_in) :=
  fnD true F sc__law_put_in len__law_put_in (fun cdv A outer s H E hr => d__law_put_in T c__law_draw c__law_standing hr) p__law_put_in
theorem d__law_rows {P : Program} {wo : World} {K : PySem.W.Frag} {mg : Str → Option Value} {base : Heap} {f : Addr} {cdv : Value} {A : Around} {outer : List PySem.Env} {s : Shared} {H : Hp} {E : XK} (T : Fx K mg) (c__law_draw : Cal P wo K mg base 1 "_law_draw" ["_law_tape_here", "_law_many"] sp__law_draw)
    (hr : RoomG 1 (A.deeper (envOfC "_law_rows" (defScope s__law_rows) s.heap.objs.size f cdv))) : PDSs (cxOf CX0 P wo K mg base N__law_rows "_law_rows" (defScope s__law_rows) f cdv A outer s H E).nox (defBody s__law_rows) t__law_rows :=
    (pdss_one (pds_ret (pd_callTy cb_tuple T.b_tuple (by decide +kernel) (pda_cons (pd_lc [("_law_k", 2)] rfl sc__law_rows.nd (pdi_range1 T.b_range (pd_var 1)) (blkOk_by (N := N__law_rows) (sc := defScope s__law_rows) (by decide +kernel)) (fun _ _ _ _ _ => (pdgo_name 2 sc__law_rows.nd)) (fun _ _ _ _ _ => pdts_nil) (fun _ _ _ _ _ => (pd_op dop_add pd_int (pd_callC c__law_draw hr (pda_cons (pd_var 0) (pda_cons (pd_ix (pd_lst (pda_cons pd_int (pda_cons pd_int (pda_cons (pd_op dop_pow pd_int pd_int) (pda_cons (pd_op dop_pow pd_int pd_int) pda_nil))))) (pd_callC c__law_draw hr (pda_cons (pd_var 0) (pda_cons pd_int pda_nil)))) pda_nil)))))) pda_nil))))
theorem ok__law_rows {P : Program} {wo : World} {K : PySem.W.Frag} {mg : Str → Option Value} {base : Heap} {f : Addr} {fd : FuncData} (T : Fx K mg) (F : FnP K "_law_rows" s__law_rows f fd) (c__law_draw : Cal P wo K mg base 1 "_law_draw" ["_law_tape_here", "_law_many"] sp__law_draw) : FnG P wo K mg base CX0 2 f fd ["_law_tape_here", "_law_many"] (spD K sp__law_rows) :=
  fnD false F sc__law_rows len__law_rows (fun cdv A outer s H E hr => d__law_rows T c__law_draw hr) p__law_rows
theorem d__law_refused {P : Program} {wo : World} {K : PySem.W.Frag} {mg : Str → Option Value} {base : Heap} {f : Addr} {cdv : Value} {A : Around} {outer : List PySem.Env} {s : Shared} {H : Hp} {E : XK} (T : Fx K mg) (x_without : CalX P wo K mg base 3 "without" ["net", "standing", "balance"] sp_without)
    (hr : RoomG 3 (A.deeper (envOfC "_law_refused" (defScope s__law_refused) s.heap.objs.size f cdv))) : PDSs (cxOf CX0 P wo K mg base N__law_refused "_law_refused" (defScope s__law_refused) f cdv A outer s H E).nox (defBody s__law_refused) t__law_refused :=
    (pdss_cons (pds_set 3 sc__law_refused.nd pd_non)
    (pdss_cons (pds_tryGet 4 3 T.ct__law_refused sc__law_refused.nd (.tup (.cons ⟨by rfl, by decide, .inl T.g_BadRow⟩ (.cons ⟨by rfl, by decide, .inl T.g_Deep⟩ (.cons ⟨by rfl, by decide, .inl T.g_Lone⟩ (.cons ⟨by rfl, by decide, .inl T.g_Many⟩ (.cons ⟨by rfl, by decide, .inl T.g_Needed⟩ (.cons ⟨by rfl, by decide, .inl T.g_NoBalance⟩ (.cons ⟨by rfl, by decide, .inl T.g_NoDeed⟩ (.cons ⟨by rfl, by decide, .inl T.g_NoExit⟩ .nil)))))))) (by rw [List.length_map]; decide)) fun W pn ve xe tk pp =>
    (pxss_one (pxs_expr (px_callC tk x_without hr (pxa_cons (px_lift (pd_var 0)) (pxa_cons (px_lift (pd_var 1)) (pxa_cons (px_lift (pd_var 2)) (pxa_lift pda_nil))))))))
    (pdss_cons (pds_if (L2.PW.pt (pw_dor (pd_tcmp dop_is (pd_var 3) pd_non (nomark _)) (pw_or1 (pd_tru (pd_isCT T.b_isinstance (pd_var 3) (.cons (nm_own T.g_BadRow) (.cons (nm_own T.g_Deep) (.cons (nm_own T.g_Many) (.cons (nm_own T.g_NoBalance) (.cons (nm_own T.g_NoDeed) (.cons (nm_own T.g_NoExit) .nil)))))) T.is0__law_refused))))) (pdss_one (pds_ret pd_non)) pdss_nil)
    (pdss_cons (pds_set 5 sc__law_refused.nd (pd_lst (pda_cons (pd_isC1 T.b_isinstance (pd_var 3) (nm_own T.g_Needed) (IsT.one T.is1__law_refused)) (pda_cons (pd_isC1 T.b_isinstance (pd_var 3) (nm_own T.g_Lone) (IsT.one T.is2__law_refused)) pda_nil))))
    (pdss_cons (pds_if (L2.PW.pt (pw_dor (pd_tnot (pd_tru (pd_isC1 T.b_isinstance (pd_var 3) (nm_ty T.b_RuntimeError (by decide +kernel)) (IsT.one T.is3__law_refused)))) (pw_or1 (pd_tcmp (dop_ne hr.units) (pd_bm PySem.F.slot_list_count PySem.F.type_list_count (md_count hr.units) (pd_var 5) (pda_cons pd_bl pda_nil)) pd_int (nomark _))))) (pdss_one (pds_ret pd_non)) pdss_nil)
    (pdss_one (pds_ret (pd_tup (pda_cons (pd_ix (pd_lst (pda_cons pd_str (pda_cons pd_str pda_nil))) (pd_bm PySem.F.slot_list_index PySem.F.type_list_index (md_index hr.units65) (pd_var 5) (pda_cons pd_bl pda_nil))) (pda_cons (pd_what (pd_var 3)) pda_nil))))))))))
theorem ok__law_refused {P : Program} {wo : World} {K : PySem.W.Frag} {mg : Str → Option Value} {base : Heap} {f : Addr} {fd : FuncData} (T : Fx K mg) (F : FnP K "_law_refused" s__law_refused f fd) (x_without : CalX P wo K mg base 3 "without" ["net", "standing", "balance"] sp_without) : FnG P wo K mg base CX0 4 f fd ["_law_nets", "_law_standings_here", "_law_k"] (spD K sp__law_refused) :=
  fnD false F sc__law_refused len__law_refused (fun cdv A outer s H E hr => d__law_refused T x_without hr) p__law_refused
theorem d__law_all_right {P : Program} {wo : World} {K : PySem.W.Frag} {mg : Str → Option Value} {base : Heap} {f : Addr} {cdv : Value} {A : Around} {outer : List PySem.Env} {s : Shared} {H : Hp} {E : XK} (T : Fx K mg) (c_needless : Cal P wo K mg base 1 "needless" ["net"] sp_needless) (c__law_rows : Cal P wo K mg base 2 "_law_rows" ["_law_tape_here", "_law_many"] sp__law_rows) (c__law_same : Cal P wo K mg base 6 "_law_same" ["_law_found", "_law_due"] (sp__law_same 6)) (c__law_out : Cal P wo K mg base 2 "_law_out" ["_law_nets", "_law_standings_here", "_law_word"] sp__law_out) (c__law_refused : Cal P wo K mg base 4 "_law_refused" ["_law_nets", "_law_standings_here", "_law_k"] sp__law_refused) (c_without : Cal P wo K mg base 3 "without" ["net", "standing", "balance"] (silX sp_without)) (c_falls_of : Cal P wo K mg base 4 "falls_of" ["net", "standing", "word"] sp_falls_of) (k_needless_0_net : Calk P wo K mg base 1 "needless" ["net"] sp_needless 0 ["net"] [0]) (k_without_0_balance_standing_net : Calk P wo K mg base 3 "without" ["net", "standing", "balance"] (silX sp_without) 0 ["balance", "standing", "net"] [2, 1, 0])
    (hr : RoomG 6 (A.deeper (envOfC "_law_all_right" (defScope s__law_all_right) s.heap.objs.size f cdv))) : PDSs (cxOf CX0 P wo K mg base N__law_all_right "_law_all_right" (defScope s__law_all_right) f cdv A outer s H E).nox (defBody s__law_all_right) t__law_all_right :=
    (pdss_cons (pds_par 3 4 rfl sc__law_all_right.nd (pda_cons (pd_callC c_needless hr (pda_cons (pd_var 1) pda_nil)) (pda_cons (pd_callC c__law_rows hr (pda_cons (pd_var 0) (pda_cons pd_int pda_nil))) pda_nil)))
    (pdss_cons (pds_setLc 5 [("_law_k", 6), ("_law_pair", 7)] rfl sc__law_all_right.nd (pdi_enum T.b_enumerate (pd_var 1)) (blkOk_by (N := N__law_all_right) (sc := defScope s__law_all_right) (by decide +kernel)) (fun _ _ _ _ _ => (pdgo_tup rfl (pdgso_cons (pdgo_name 6 sc__law_all_right.nd) (pdgso_cons (pdgo_name 7 sc__law_all_right.nd) pdgso_nil)))) (fun _ _ _ _ _ => (pdts_one (pd_tcmp (dop_eq hr.units) (pd_ix (pd_var 7) pd_int) (pd_ix (pd_var 7) pd_int) (nomark _)))) (fun _ _ _ _ _ => (pd_var 6)) (sw_true rfl rfl rfl (by decide +kernel)))
    (pdss_cons (pds_if (pd_tnot (pd_tru (pd_callC c__law_same hr (pda_cons (pd_lst (pda_cons (pd_var 3) (pda_cons (pd_callC2 k_needless_0_net hr (pdk_cons (pd_var 1) pdk_nil)) pda_nil))) (pda_cons (pd_lst (pda_cons (pd_var 5) (pda_cons (pd_var 5) pda_nil))) pda_nil))))) (pdss_one (pds_ret pd_bl)) pdss_nil)
    (pdss_cons (pds_expr (pd_bm PySem.F.slot_list_append PySem.F.type_list_append md_append (pd_var 3) (pda_cons pd_int pda_nil)))
    (pdss_cons (pds_if (pd_tnot (pd_tru (pd_callC c__law_same hr (pda_cons (pd_callC c_needless hr (pda_cons (pd_var 1) pda_nil)) (pda_cons (pd_var 5) pda_nil))))) (pdss_one (pds_ret pd_bl)) pdss_nil)
    (pdss_cons (pds_asg (pd_callC c__law_out hr (pda_cons (pd_var 1) (pda_cons (pd_var 2) (pda_cons (pd_var 4) pda_nil)))) (pdg_tup rfl (pdgs_cons (pdg_name 8 sc__law_all_right.nd) (pdgs_cons (pdg_name 9 sc__law_all_right.nd) pdgs_nil))))
    (pdss_cons (pds_for PassesOwn.never rfl (pdi_range1 T.b_range (pd_callB cb_len T.b_len (by decide +kernel) (pda_cons (pd_var 1) pda_nil))) (pdg_name 6 sc__law_all_right.nd) (pdss_one (pds_if (pd_tcmp (dop_notin hr.units) (pd_var 6) (pd_var 5) (by rfl)) (pdss_one (pds_if (pd_tnot (pd_tru (pd_callC c__law_same hr (pda_cons (pd_callC c__law_refused hr (pda_cons (pd_var 1) (pda_cons (pd_var 2) (pda_cons (pd_var 6) pda_nil)))) (pda_cons (pd_tup (pda_cons pd_str (pda_cons (pd_var 6) pda_nil))) pda_nil))))) (pdss_one (pds_ret pd_bl)) pdss_nil)) (pdss_one (pds_if (L2.PW.pt (pw_dand (pd_tcmp (dop_eq hr.units) (pd_var 6) pd_int (nomark _)) (pw_and1 (pd_tru (pd_isi T.b_isinstance (pd_ix (pd_ix (pd_var 1) pd_int) pd_int) T.b_str (by decide +kernel)))))) (pdss_one (pds_if (pd_tnot (pd_tru (pd_callC c__law_same hr (pda_cons (pd_callC c__law_refused hr (pda_cons (pd_var 1) (pda_cons (pd_var 2) (pda_cons pd_int pda_nil)))) (pda_cons (pd_tup (pda_cons pd_str (pda_cons pd_int pda_nil))) pda_nil))))) (pdss_one (pds_ret pd_bl)) pdss_nil)) (pdss_cons (pds_set 10 sc__law_all_right.nd (pd_callC c_without hr (pda_cons (pd_var 1) (pda_cons (pd_var 2) (pda_cons (pd_var 6) pda_nil)))))
    (pdss_cons (pds_if (L2.PW.pt (pw_dor (pd_tnot (pd_tru (pd_callC c__law_same hr (pda_cons (pd_ix (pd_var 10) pd_int) (pda_cons (pd_op dop_add (pd_cut sl_cut (pd_var 2) pdo_none (pdo_some (pd_var 6))) (pd_cut sl_cut (pd_var 2) (pdo_some (pd_op dop_add (pd_var 6) pd_int)) pdo_none)) pda_nil))))) (pw_or1 (pd_tcmp (dop_ne hr.units) (pd_callB cb_len T.b_len (by decide +kernel) (pda_cons (pd_ix (pd_var 10) pd_int) pda_nil)) (pd_op dop_sub (pd_callB cb_len T.b_len (by decide +kernel) (pda_cons (pd_var 1) pda_nil)) pd_int) (nomark _))))) (pdss_one (pds_ret pd_bl)) pdss_nil)
    (pdss_cons (pds_if (pd_tcmp (dop_ne hr.units) (pd_callC c_falls_of hr (pda_cons (pd_ix (pd_var 10) pd_int) (pda_cons (pd_ix (pd_var 10) pd_int) (pda_cons (pd_var 4) pda_nil)))) (pd_tup (pda_cons (pd_var 8) (pda_cons (pd_op dop_add (pd_cut sl_cut (pd_var 9) pdo_none (pdo_some (pd_var 6))) (pd_cut sl_cut (pd_var 9) (pdo_some (pd_op dop_add (pd_var 6) pd_int)) pdo_none)) pda_nil))) (nomark _)) (pdss_one (pds_ret pd_bl)) pdss_nil)
    (pdss_one (pds_if (pd_tcmp (dop_ne hr.units) (pd_callC2 k_without_0_balance_standing_net hr (pdk_cons (pd_var 6) (pdk_cons (pd_var 2) (pdk_cons (pd_var 1) pdk_nil)))) (pd_var 10) (nomark _)) (pdss_one (pds_ret pd_bl)) pdss_nil))))))))))
    (pdss_one (pds_ret pd_bl)))))))))
theorem ok__law_all_right {P : Program} {wo : World} {K : PySem.W.Frag} {mg : Str → Option Value} {base : Heap} {f : Addr} {fd : FuncData} (T : Fx K mg) (F : FnP K "_law_all_right" s__law_all_right f fd) (c_needless : Cal P wo K mg base 1 "needless" ["net"] sp_needless) (c__law_rows : Cal P wo K mg base 2 "_law_rows" ["_law_tape_here", "_law_many"] sp__law_rows) (c__law_same : Cal P wo K mg base 6 "_law_same" ["_law_found", "_law_due"] (sp__law_same 6)) (c__law_out : Cal P wo K mg base 2 "_law_out" ["_law_nets", "_law_standings_here", "_law_word"] sp__law_out) (c__law_refused : Cal P wo K mg base 4 "_law_refused" ["_law_nets", "_law_standings_here", "_law_k"] sp__law_refused) (c_without : Cal P wo K mg base 3 "without" ["net", "standing", "balance"] (silX sp_without)) (c_falls_of : Cal P wo K mg base 4 "falls_of" ["net", "standing", "word"] sp_falls_of) (k_needless_0_net : Calk P wo K mg base 1 "needless" ["net"] sp_needless 0 ["net"] [0]) (k_without_0_balance_standing_net : Calk P wo K mg base 3 "without" ["net", "standing", "balance"] (silX sp_without) 0 ["balance", "standing", "net"] [2, 1, 0]) : FnG P wo K mg base CX0 7 f fd ["_law_tape_here", "_law_nets", "_law_standings_here"] (spD K sp__law_all_right) :=
  fnD false F sc__law_all_right len__law_all_right (fun cdv A outer s H E hr => d__law_all_right T c_needless c__law_rows c__law_same c__law_out c__law_refused c_without c_falls_of k_needless_0_net k_without_0_balance_standing_net hr) p__law_all_right
theorem d__law_right {P : Program} {wo : World} {K : PySem.W.Frag} {mg : Str → Option Value} {base : Heap} {f : Addr} {cdv : Value} {A : Around} {outer : List PySem.Env} {s : Shared} {H : Hp} {E : XK} (T : Fx K mg) (c__law_names : Cal P wo K mg base 2 "_law_names" ["_law_tape_here", "_law_many"] sp__law_names) (c__law_draw : Cal P wo K mg base 1 "_law_draw" ["_law_tape_here", "_law_many"] sp__law_draw) (c__law_net : Cal P wo K mg base 2 "_law_net" ["_law_tape_here", "_law_names_here", "_law_most", "_law_high", "_law_together"] sp__law_net) (c__law_standings : Cal P wo K mg base 3 "_law_standings" ["_law_tape_here", "_law_nets", "_law_most"] sp__law_standings) (c__law_put_in : Cal P wo K mg base 3 "_law_put_in" ["_law_tape_here", "_law_nets", "_law_standings_here", "_law_most"] sp__law_put_in) (c_needless : Cal P wo K mg base 1 "needless" ["net"] sp_needless) (c__law_same : Cal P wo K mg base 6 "_law_same" ["_law_found", "_law_due"] (sp__law_same 6)) (c_without : Cal P wo K mg base 3 "without" ["net", "standing", "balance"] (silX sp_without)) (c__law_all_right : Cal P wo K mg base 7 "_law_all_right" ["_law_tape_here", "_law_nets", "_law_standings_here"] sp__law_all_right)
    (hr : RoomG 7 (A.deeper (envOfC "_law_right" (defScope s__law_right) s.heap.objs.size f cdv))) : PDSs (cxOf CX0 P wo K mg base N__law_right "_law_right" (defScope s__law_right) f cdv A outer s H E).nox (defBody s__law_right) t__law_right :=
    (pdss_cons (pds_for PassesOwn.never rfl (pdi_range1 T.b_range pd_int) (pdg_name 1 sc__law_right.nd) (pdss_cons (pds_set 2 sc__law_right.nd (pd_callC c__law_names hr (pda_cons (pd_var 0) (pda_cons (pd_op dop_add pd_int (pd_callC c__law_draw hr (pda_cons (pd_var 0) (pda_cons pd_int pda_nil)))) pda_nil))))
    (pdss_cons (pds_set 3 sc__law_right.nd (pd_callC c__law_net hr (pda_cons (pd_var 0) (pda_cons (pd_var 2) (pda_cons (pd_op dop_add pd_int (pd_callC c__law_draw hr (pda_cons (pd_var 0) (pda_cons pd_int pda_nil)))) (pda_cons (pd_op dop_add pd_int (pd_callC c__law_draw hr (pda_cons (pd_var 0) (pda_cons pd_int pda_nil)))) (pda_cons (pd_cmp (dop_eq hr.units) (pd_callC c__law_draw hr (pda_cons (pd_var 0) (pda_cons pd_int pda_nil))) pd_int (nomark _)) pda_nil)))))))
    (pdss_cons (pds_set 4 sc__law_right.nd (pd_callC c__law_standings hr (pda_cons (pd_var 0) (pda_cons (pd_var 3) (pda_cons pd_int pda_nil)))))
    (pdss_cons (pds_asg (pd_callC c__law_put_in hr (pda_cons (pd_var 0) (pda_cons (pd_var 3) (pda_cons (pd_var 4) (pda_cons pd_int pda_nil))))) (pdg_tup rfl (pdgs_cons (pdg_name 5 sc__law_right.nd) (pdgs_cons (pdg_name 6 sc__law_right.nd) (pdgs_cons (pdg_name 7 sc__law_right.nd) pdgs_nil)))))
    (pdss_cons (pds_if (L2.PW.pt (pw_dor (pd_tcmp (dop_notin hr.units) (pd_var 7) (pd_callC c_needless hr (pda_cons (pd_var 5) pda_nil)) (by rfl)) (pw_or1 (pd_tnot (pd_tru (pd_callC c__law_same hr (pda_cons (pd_callC c_without hr (pda_cons (pd_var 5) (pda_cons (pd_var 6) (pda_cons (pd_var 7) pda_nil)))) (pda_cons (pd_tup (pda_cons (pd_var 3) (pda_cons (pd_var 4) pda_nil))) pda_nil)))))))) (pdss_one (pds_ret pd_bl)) pdss_nil)
    (pdss_one (pds_if (L2.PW.pt (pw_dor (pd_tnot (pd_tru (pd_callC c__law_all_right hr (pda_cons (pd_var 0) (pda_cons (pd_var 3) (pda_cons (pd_var 4) pda_nil)))))) (pw_or1 (pd_tnot (pd_tru (pd_callC c__law_all_right hr (pda_cons (pd_var 0) (pda_cons (pd_var 5) (pda_cons (pd_var 6) pda_nil))))))))) (pdss_one (pds_ret pd_bl)) pdss_nil))))))))
    (pdss_one (pds_ret (pd_callC c__law_all_right hr (pda_cons (pd_var 0) (pda_cons (pd_tup (pda_cons (pd_tup (pda_cons pd_str (pda_cons pd_str pda_nil))) pda_nil)) (pda_cons (pd_tup (pda_cons pd_int pda_nil)) pda_nil)))))))
theorem ok__law_right {P : Program} {wo : World} {K : PySem.W.Frag} {mg : Str → Option Value} {base : Heap} {f : Addr} {fd : FuncData} (T : Fx K mg) (F : FnP K "_law_right" s__law_right f fd) (c__law_names : Cal P wo K mg base 2 "_law_names" ["_law_tape_here", "_law_many"] sp__law_names) (c__law_draw : Cal P wo K mg base 1 "_law_draw" ["_law_tape_here", "_law_many"] sp__law_draw) (c__law_net : Cal P wo K mg base 2 "_law_net" ["_law_tape_here", "_law_names_here", "_law_most", "_law_high", "_law_together"] sp__law_net) (c__law_standings : Cal P wo K mg base 3 "_law_standings" ["_law_tape_here", "_law_nets", "_law_most"] sp__law_standings) (c__law_put_in : Cal P wo K mg base 3 "_law_put_in" ["_law_tape_here", "_law_nets", "_law_standings_here", "_law_most"] sp__law_put_in) (c_needless : Cal P wo K mg base 1 "needless" ["net"] sp_needless) (c__law_same : Cal P wo K mg base 6 "_law_same" ["_law_found", "_law_due"] (sp__law_same 6)) (c_without : Cal P wo K mg base 3 "without" ["net", "standing", "balance"] (silX sp_without)) (c__law_all_right : Cal P wo K mg base 7 "_law_all_right" ["_law_tape_here", "_law_nets", "_law_standings_here"] sp__law_all_right) : FnG P wo K mg base CX0 8 f fd ["_law_tape_here"] (spD K sp__law_right) :=
  fnD false F sc__law_right len__law_right (fun cdv A outer s H E hr => d__law_right T c__law_names c__law_draw c__law_net c__law_standings c__law_put_in c_needless c__law_same c_without c__law_all_right hr) p__law_right
theorem d_law {P : Program} {wo : World} {K : PySem.W.Frag} {mg : Str → Option Value} {base : Heap} {f : Addr} {cdv : Value} {A : Around} {outer : List PySem.Env} {s : Shared} {H : Hp} {E : XK} (T : Fx K mg) (c__law_folded : Cal P wo K mg base 1 "_law_folded" ["_law_script", "_law_many"] sp__law_folded) (c__law_right : Cal P wo K mg base 8 "_law_right" ["_law_tape_here"] sp__law_right) (c__law_tape : Cal P wo K mg base 1 "_law_tape" ["_law_script", "_law_k"] sp__law_tape)
    (hr : RoomG 8 (A.deeper (envOfC "law" (defScope s_law) s.heap.objs.size f cdv))) : PDSs (cxOf CX0 P wo K mg base N_law "law" (defScope s_law) f cdv A outer s H E).nox (defBody s_law) t_law :=
    (pdss_cons (pds_set 1 sc_law.nd (pd_callC c__law_folded hr (pda_cons (pd_var 0) (pda_cons pd_int pda_nil))))
    (pdss_one (pds_ret (pd_callB (cb_all rfl) T.b_all (by decide +kernel) (pda_cons (pd_lc [("_law_k", 2)] rfl sc_law.nd (pdi_range1 T.b_range (pd_callB (cb_max2 rfl) T.b_max (by decide +kernel) (pda_cons pd_int (pda_cons (pd_callB cb_len T.b_len (by decide +kernel) (pda_cons (pd_var 1) pda_nil)) pda_nil)))) (blkOk_by (N := N_law) (sc := defScope s_law) (by decide +kernel)) (fun _ _ _ _ _ => (pdgo_name 2 sc_law.nd)) (fun _ _ _ _ _ => pdts_nil) (fun _ _ _ _ _ => (pd_callC c__law_right hr (pda_cons (pd_callC c__law_tape hr (pda_cons (pd_var 1) (pda_cons (pd_var 2) pda_nil))) pda_nil)))) pda_nil)))))
theorem ok_law {P : Program} {wo : World} {K : PySem.W.Frag} {mg : Str → Option Value} {base : Heap} {f : Addr} {fd : FuncData} (T : Fx K mg) (F : FnP K "law" s_law f fd) (c__law_folded : Cal P wo K mg base 1 "_law_folded" ["_law_script", "_law_many"] sp__law_folded) (c__law_right : Cal P wo K mg base 8 "_law_right" ["_law_tape_here"] sp__law_right) (c__law_tape : Cal P wo K mg base 1 "_law_tape" ["_law_script", "_law_k"] sp__law_tape) : FnG P wo K mg base CX0 9 f fd ["_law_script"] (spD K sp_law) :=
  fnD false F sc_law len_law (fun cdv A outer s H E hr => d_law T c__law_folded c__law_right c__law_tape hr) p_law
theorem facts {P : Program} {wo : World} {K : PySem.W.Frag} {h : Heap} {mg : Str → Option Value} {fx : Addr} (X : K.In h) (G : h.Ns mainGlobals mg) (hfa : mg ("law" : Str) = some (.ref fx)) (c : SaysX ex fa fn K) :
    ∃ fd : FuncData, (∀ (s : Shared) (v : Value), BindsTo s fd ⟨[v], []⟩ [("_law_script", v)]) ∧ ∀ base : Heap, K.In base → base.Ns mainGlobals mg → FnG P wo K mg base CX0 9 fx fd ["_law_script"] (spD K spLaw) := by
  obtain ⟨fd0, F0⟩ := c.d.def_ 0 (d := q_Needed__init) rfl
  obtain ⟨fd1, F1⟩ := c.d.def_ 1 (d := q_Lone__init) rfl
  obtain ⟨fd2, F2⟩ := c.d.def_ 2 (d := q_is_number) rfl
  obtain ⟨fd3, F3⟩ := c.d.def_ 3 (d := q_lighter) rfl
  obtain ⟨fd4, F4⟩ := c.d.def_ 4 (d := q_laid_on) rfl
  obtain ⟨fd5, F5⟩ := c.d.def_ 5 (d := q_fall) rfl
  obtain ⟨fd6, F6⟩ := c.d.def_ 6 (d := q_needless) rfl
  obtain ⟨fd7, F7⟩ := c.d.def_ 7 (d := q_moved) rfl
  obtain ⟨fd8, F8⟩ := c.d.def_ 8 (d := q_without) rfl
  obtain ⟨fd9, F9⟩ := c.d.def_ 9 (d := q_lead_of) rfl
  obtain ⟨fd10, F10⟩ := c.d.def_ 10 (d := q_way_of) rfl
  obtain ⟨fd11, F11⟩ := c.d.def_ 11 (d := q_falls_of) rfl
  obtain ⟨fd12, F12⟩ := c.d.def_ 12 (d := q__law_tape) rfl
  obtain ⟨fd13, F13⟩ := c.d.def_ 13 (d := q__law_draw) rfl
  obtain ⟨fd14, F14⟩ := c.d.def_ 14 (d := q__law_folded) rfl
  obtain ⟨fd15, F15⟩ := c.d.def_ 15 (d := q__law_same) rfl
  obtain ⟨fd16, F16⟩ := c.d.def_ 16 (d := q__law_names) rfl
  obtain ⟨fd17, F17⟩ := c.d.def_ 17 (d := q__law_standing) rfl
  obtain ⟨fd18, F18⟩ := c.d.def_ 18 (d := q__law_net) rfl
  obtain ⟨fd19, F19⟩ := c.d.def_ 19 (d := q__law_standings) rfl
  obtain ⟨fd20, F20⟩ := c.d.def_ 20 (d := q__law_gone) rfl
  obtain ⟨fd21, F21⟩ := c.d.def_ 21 (d := q__law_out) rfl
  obtain ⟨fd22, F22⟩ := c.d.def_ 22 (d := q__law_put_in) rfl
  obtain ⟨fd23, F23⟩ := c.d.def_ 23 (d := q__law_rows) rfl
  obtain ⟨fd24, F24⟩ := c.d.def_ 24 (d := q__law_refused) rfl
  obtain ⟨fd25, F25⟩ := c.d.def_ 25 (d := q__law_all_right) rfl
  obtain ⟨fd26, F26⟩ := c.d.def_ 26 (d := q__law_right) rfl
  obtain ⟨fd27, F27⟩ := c.d.def_ 27 (d := q_law) rfl
  have T : Fx K mg := ⟨He.free_ok X G (c.d.fact 28 (f := .free "RuntimeError") rfl), He.glo_ok X G (c.d.fact 29 (f := .glo "Needed") rfl), exTB_ok (c.own 0), He.glo_ok X G (c.d.fact 31 (f := .glo "Lone") rfl), exTB_ok (c.own 1), He.free_ok X G (c.d.fact 33 (f := .free "isinstance") rfl), He.free_ok X G (c.d.fact 34 (f := .free "int") rfl), He.free_ok X G (c.d.fact 35 (f := .free "bool") rfl), He.str_ok X G (c.d.fact 36 rfl), He.str_ok X G (c.d.fact 37 rfl), He.free_ok X G (c.d.fact 38 (f := .free "enumerate") rfl), He.free_ok X G (c.d.fact 39 (f := .free "tuple") rfl), gtup_ok X G (c.own 2) rfl, He.free_ok X G (c.d.fact 41 (f := .free "list") rfl), He.free_ok X G (c.d.fact 42 (f := .free "len") rfl), He.free_ok X G (c.d.fact 43 (f := .free "abs") rfl), He.free_ok X G (c.d.fact 44 (f := .free "all") rfl), He.free_ok X G (c.d.fact 45 (f := .free "zip") rfl), He.free_ok X G (c.d.fact 46 (f := .free "str") rfl), He.free_ok X G (c.d.fact 47 (f := .free "range") rfl), He.free_ok X G (c.d.fact 48 (f := .free "sorted") rfl), He.free_ok X G (c.d.fact 49 (f := .free "dict") rfl), He.glo_ok X G (c.d.fact 50 (f := .glo "NoExit") rfl), He.glo_ok X G (c.d.fact 51 (f := .glo "NoDeed") rfl), He.glo_ok X G (c.d.fact 52 (f := .glo "NoBalance") rfl), He.glo_ok X G (c.d.fact 53 (f := .glo "Many") rfl), He.glo_ok X G (c.d.fact 54 (f := .glo "Deep") rfl), He.glo_ok X G (c.d.fact 55 (f := .glo "BadRow") rfl), caughtB_ok (c.own 3), isB_ok (c.own 4), isB_ok (c.own 5), isB_ok (c.own 6), isB_ok (c.own 7), He.free_ok X G (c.d.fact 61 (f := .free "max") rfl)⟩
  have e := hfa.symm.trans (He.glo_ok X G (c.d.fact 27 (f := .glo "law") rfl))
  cases e
  have b := FunD.bindsA (ps := ["_law_script"]) F27 fun _ _ _ _ _ _ us hl => match us, hl with | [_], _ => rfl
  refine ⟨fd27, fun s v => b s [v] rfl, fun base _ _ => ?_⟩
  have o_Needed__init := ok_Needed__init (P := P) (wo := wo) (base := base) T F0
  have e_Needed : CalE P wo K mg base 1 "Needed" := ⟨_, _, _, _, _, exB_Runtime, T.xt_Needed, T.g_Needed, o_Needed__init, F0.bindsN (fun _ _ _ _ _ _ us hl => match us, hl with | [_, _], _ => rfl)⟩
  have o_Lone__init := ok_Lone__init (P := P) (wo := wo) (base := base) T F1
  have e_Lone : CalE P wo K mg base 1 "Lone" := ⟨_, _, _, _, _, exB_Runtime, T.xt_Lone, T.g_Lone, o_Lone__init, F1.bindsN (fun _ _ _ _ _ _ us hl => match us, hl with | [_, _], _ => rfl)⟩
  have o_is_number := ok_is_number (P := P) (wo := wo) (base := base) T F2 
  have c_is_number : Cal P wo K mg base 1 "is_number" ["thing"] sp_is_number := ⟨_, _, (He.glo_ok X G (c.d.fact 2 (f := .glo "is_number") rfl)), F2.kp, o_is_number, F2.bindsN (fun _ _ _ _ _ _ us hl => match us, hl with | [_], _ => rfl)⟩
  have o_lighter := ok_lighter (P := P) (wo := wo) (base := base) T F3 
  have c_lighter : Cal P wo K mg base 1 "lighter" ["standing"] sp_lighter := ⟨_, _, (He.glo_ok X G (c.d.fact 3 (f := .glo "lighter") rfl)), F3.kp, o_lighter, F3.bindsN (fun _ _ _ _ _ _ us hl => match us, hl with | [_], _ => rfl)⟩
  have o_laid_on := ok_laid_on (P := P) (wo := wo) (base := base) T F4 
  have c_laid_on : Cal P wo K mg base 1 "laid_on" ["standing", "side", "weight"] sp_laid_on := ⟨_, _, (He.glo_ok X G (c.d.fact 4 (f := .glo "laid_on") rfl)), F4.kp, o_laid_on, F4.bindsN (fun _ _ _ _ _ _ us hl => match us, hl with | [_, _, _], _ => rfl)⟩
  have o_fall := ok_fall (P := P) (wo := wo) (base := base) T F5 c_lighter c_laid_on
  have c_fall : Cal P wo K mg base 2 "fall" ["standing", "weight"] sp_fall := ⟨_, _, (He.glo_ok X G (c.d.fact 5 (f := .glo "fall") rfl)), F5.kp, o_fall, F5.bindsN (fun _ _ _ _ _ _ us hl => match us, hl with | [_, _], _ => rfl)⟩
  have o_needless := ok_needless (P := P) (wo := wo) (base := base) T F6 
  have c_needless : Cal P wo K mg base 1 "needless" ["net"] sp_needless := ⟨_, _, (He.glo_ok X G (c.d.fact 6 (f := .glo "needless") rfl)), F6.kp, o_needless, F6.bindsN (fun _ _ _ _ _ _ us hl => match us, hl with | [_], _ => rfl)⟩
  have k_needless_0_net : Calk P wo K mg base 1 "needless" ["net"] sp_needless 0 ["net"] [0] := ⟨_, _, (He.glo_ok X G (c.d.fact 6 (f := .glo "needless") rfl)), F6.kp, o_needless, kbn_of 0 ["net"] [0] F6 (fun _ _ _ _ _ _ us ws h1 h2 => match us, ws, h1, h2 with | [], [_], _, _ => rfl)⟩
  have o_moved := ok_moved (P := P) (wo := wo) (base := base) T F7 c_is_number
  have c_moved : Cal P wo K mg base 2 "moved" ["lead", "balance", "own"] sp_moved := ⟨_, _, (He.glo_ok X G (c.d.fact 7 (f := .glo "moved") rfl)), F7.kp, o_moved, F7.bindsN (fun _ _ _ _ _ _ us hl => match us, hl with | [_, _, _], _ => rfl)⟩
  have o_without := ok_without (P := P) (wo := wo) (base := base) T F8 c_is_number c_moved e_Needed e_Lone
  have x_without : CalX P wo K mg base 3 "without" ["net", "standing", "balance"] sp_without := ⟨_, _, (He.glo_ok X G (c.d.fact 8 (f := .glo "without") rfl)), F8.kp, o_without, F8.bindsN (fun _ _ _ _ _ _ us hl => match us, hl with | [_, _, _], _ => rfl)⟩
  have c_without : Cal P wo K mg base 3 "without" ["net", "standing", "balance"] (silX sp_without) := ⟨_, _, (He.glo_ok X G (c.d.fact 8 (f := .glo "without") rfl)), F8.kp, (fn_sil o_without), F8.bindsN (fun _ _ _ _ _ _ us hl => match us, hl with | [_, _, _], _ => rfl)⟩
  have k_without_0_balance_standing_net : Calk P wo K mg base 3 "without" ["net", "standing", "balance"] (silX sp_without) 0 ["balance", "standing", "net"] [2, 1, 0] := ⟨_, _, (He.glo_ok X G (c.d.fact 8 (f := .glo "without") rfl)), F8.kp, (fn_sil o_without), kbn_of 0 ["balance", "standing", "net"] [2, 1, 0] F8 (fun _ _ _ _ _ _ us ws h1 h2 => match us, ws, h1, h2 with | [], [_, _, _], _, _ => rfl)⟩
  have o_lead_of := ok_lead_of (P := P) (wo := wo) (base := base) T F9 
  have c_lead_of : Cal P wo K mg base 1 "lead_of" ["net", "pan"] sp_lead_of := ⟨_, _, (He.glo_ok X G (c.d.fact 9 (f := .glo "lead_of") rfl)), F9.kp, o_lead_of, F9.bindsN (fun _ _ _ _ _ _ us hl => match us, hl with | [_, _], _ => rfl)⟩
  have o_way_of := ok_way_of (P := P) (wo := wo) (base := base) T F10 c_is_number c_fall c_lead_of
  have c_way_of : Cal P wo K mg base 3 "way_of" ["net", "standing", "weight"] sp_way_of := ⟨_, _, (He.glo_ok X G (c.d.fact 10 (f := .glo "way_of") rfl)), F10.kp, o_way_of, F10.bindsN (fun _ _ _ _ _ _ us hl => match us, hl with | [_, _, _], _ => rfl)⟩
  have o_falls_of := ok_falls_of (P := P) (wo := wo) (base := base) T F11 c_way_of
  have c_falls_of : Cal P wo K mg base 4 "falls_of" ["net", "standing", "word"] sp_falls_of := ⟨_, _, (He.glo_ok X G (c.d.fact 11 (f := .glo "falls_of") rfl)), F11.kp, o_falls_of, F11.bindsN (fun _ _ _ _ _ _ us hl => match us, hl with | [_, _, _], _ => rfl)⟩
  have o__law_tape := ok__law_tape (P := P) (wo := wo) (base := base) T F12 
  have c__law_tape : Cal P wo K mg base 1 "_law_tape" ["_law_script", "_law_k"] sp__law_tape := ⟨_, _, (He.glo_ok X G (c.d.fact 12 (f := .glo "_law_tape") rfl)), F12.kp, o__law_tape, F12.bindsN (fun _ _ _ _ _ _ us hl => match us, hl with | [_, _], _ => rfl)⟩
  have o__law_draw := ok__law_draw (P := P) (wo := wo) (base := base) T F13 
  have c__law_draw : Cal P wo K mg base 1 "_law_draw" ["_law_tape_here", "_law_many"] sp__law_draw := ⟨_, _, (He.glo_ok X G (c.d.fact 13 (f := .glo "_law_draw") rfl)), F13.kp, o__law_draw, F13.bindsN (fun _ _ _ _ _ _ us hl => match us, hl with | [_, _], _ => rfl)⟩
  have o__law_folded := ok__law_folded (P := P) (wo := wo) (base := base) T F14 
  have c__law_folded : Cal P wo K mg base 1 "_law_folded" ["_law_script", "_law_many"] sp__law_folded := ⟨_, _, (He.glo_ok X G (c.d.fact 14 (f := .glo "_law_folded") rfl)), F14.kp, o__law_folded, F14.bindsN (fun _ _ _ _ _ _ us hl => match us, hl with | [_, _], _ => rfl)⟩
  have o__law_same := ok__law_same (P := P) (wo := wo) (base := base) T F15 (He.glo_ok X G (c.d.fact 15 (f := .glo "_law_same") rfl))  6
  have c__law_same : Cal P wo K mg base 6 "_law_same" ["_law_found", "_law_due"] (sp__law_same 6) := ⟨_, _, (He.glo_ok X G (c.d.fact 15 (f := .glo "_law_same") rfl)), F15.kp, o__law_same, F15.bindsN (fun _ _ _ _ _ _ us hl => match us, hl with | [_, _], _ => rfl)⟩
  have o__law_names := ok__law_names (P := P) (wo := wo) (base := base) T F16 c__law_draw
  have c__law_names : Cal P wo K mg base 2 "_law_names" ["_law_tape_here", "_law_many"] sp__law_names := ⟨_, _, (He.glo_ok X G (c.d.fact 16 (f := .glo "_law_names") rfl)), F16.kp, o__law_names, F16.bindsN (fun _ _ _ _ _ _ us hl => match us, hl with | [_, _], _ => rfl)⟩
  have o__law_standing := ok__law_standing (P := P) (wo := wo) (base := base) T F17 c__law_draw
  have c__law_standing : Cal P wo K mg base 2 "_law_standing" ["_law_tape_here", "_law_most"] sp__law_standing := ⟨_, _, (He.glo_ok X G (c.d.fact 17 (f := .glo "_law_standing") rfl)), F17.kp, o__law_standing, F17.bindsN (fun _ _ _ _ _ _ us hl => match us, hl with | [_, _], _ => rfl)⟩
  have o__law_net := ok__law_net (P := P) (wo := wo) (base := base) T F18 c__law_draw
  have c__law_net : Cal P wo K mg base 2 "_law_net" ["_law_tape_here", "_law_names_here", "_law_most", "_law_high", "_law_together"] sp__law_net := ⟨_, _, (He.glo_ok X G (c.d.fact 18 (f := .glo "_law_net") rfl)), F18.kp, o__law_net, F18.bindsN (fun _ _ _ _ _ _ us hl => match us, hl with | [_, _, _, _, _], _ => rfl)⟩
  have o__law_standings := ok__law_standings (P := P) (wo := wo) (base := base) T F19 c__law_draw c__law_standing
  have c__law_standings : Cal P wo K mg base 3 "_law_standings" ["_law_tape_here", "_law_nets", "_law_most"] sp__law_standings := ⟨_, _, (He.glo_ok X G (c.d.fact 19 (f := .glo "_law_standings") rfl)), F19.kp, o__law_standings, F19.bindsN (fun _ _ _ _ _ _ us hl => match us, hl with | [_, _, _], _ => rfl)⟩
  have o__law_gone := ok__law_gone (P := P) (wo := wo) (base := base) T F20 
  have c__law_gone : Cal P wo K mg base 1 "_law_gone" ["_law_nets", "_law_standings_here", "_law_weight"] sp__law_gone := ⟨_, _, (He.glo_ok X G (c.d.fact 20 (f := .glo "_law_gone") rfl)), F20.kp, o__law_gone, F20.bindsN (fun _ _ _ _ _ _ us hl => match us, hl with | [_, _, _], _ => rfl)⟩
  have o__law_out := ok__law_out (P := P) (wo := wo) (base := base) T F21 c__law_gone
  have c__law_out : Cal P wo K mg base 2 "_law_out" ["_law_nets", "_law_standings_here", "_law_word"] sp__law_out := ⟨_, _, (He.glo_ok X G (c.d.fact 21 (f := .glo "_law_out") rfl)), F21.kp, o__law_out, F21.bindsN (fun _ _ _ _ _ _ us hl => match us, hl with | [_, _, _], _ => rfl)⟩
  have o__law_put_in := ok__law_put_in (P := P) (wo := wo) (base := base) T F22 c__law_draw c__law_standing
  have c__law_put_in : Cal P wo K mg base 3 "_law_put_in" ["_law_tape_here", "_law_nets", "_law_standings_here", "_law_most"] sp__law_put_in := ⟨_, _, (He.glo_ok X G (c.d.fact 22 (f := .glo "_law_put_in") rfl)), F22.kp, o__law_put_in, F22.bindsN (fun _ _ _ _ _ _ us hl => match us, hl with | [_, _, _, _], _ => rfl)⟩
  have o__law_rows := ok__law_rows (P := P) (wo := wo) (base := base) T F23 c__law_draw
  have c__law_rows : Cal P wo K mg base 2 "_law_rows" ["_law_tape_here", "_law_many"] sp__law_rows := ⟨_, _, (He.glo_ok X G (c.d.fact 23 (f := .glo "_law_rows") rfl)), F23.kp, o__law_rows, F23.bindsN (fun _ _ _ _ _ _ us hl => match us, hl with | [_, _], _ => rfl)⟩
  have o__law_refused := ok__law_refused (P := P) (wo := wo) (base := base) T F24 x_without
  have c__law_refused : Cal P wo K mg base 4 "_law_refused" ["_law_nets", "_law_standings_here", "_law_k"] sp__law_refused := ⟨_, _, (He.glo_ok X G (c.d.fact 24 (f := .glo "_law_refused") rfl)), F24.kp, o__law_refused, F24.bindsN (fun _ _ _ _ _ _ us hl => match us, hl with | [_, _, _], _ => rfl)⟩
  have o__law_all_right := ok__law_all_right (P := P) (wo := wo) (base := base) T F25 c_needless c__law_rows c__law_same c__law_out c__law_refused c_without c_falls_of k_needless_0_net k_without_0_balance_standing_net
  have c__law_all_right : Cal P wo K mg base 7 "_law_all_right" ["_law_tape_here", "_law_nets", "_law_standings_here"] sp__law_all_right := ⟨_, _, (He.glo_ok X G (c.d.fact 25 (f := .glo "_law_all_right") rfl)), F25.kp, o__law_all_right, F25.bindsN (fun _ _ _ _ _ _ us hl => match us, hl with | [_, _, _], _ => rfl)⟩
  have o__law_right := ok__law_right (P := P) (wo := wo) (base := base) T F26 c__law_names c__law_draw c__law_net c__law_standings c__law_put_in c_needless c__law_same c_without c__law_all_right
  have c__law_right : Cal P wo K mg base 8 "_law_right" ["_law_tape_here"] sp__law_right := ⟨_, _, (He.glo_ok X G (c.d.fact 26 (f := .glo "_law_right") rfl)), F26.kp, o__law_right, F26.bindsN (fun _ _ _ _ _ _ us hl => match us, hl with | [_], _ => rfl)⟩
  exact ok_law T F27 c__law_folded c__law_right c__law_tape
end LW
set_option maxHeartbeats 0
open PySem PySem.W PySem.Calls PyProof.Rows
theorem PySem.Challenge.cw_panfalls_k60_needless_ones_taken_out_holds : PySem.Challenge.rw_panfalls_k60_needless_ones_taken_out.Holds := by
  w_on; o_law
  refine HandSHeadRun.head_any (r := OpenLaw.row PySem.Challenge.rw_panfalls_k60_needless_ones_taken_out) (q := view (OpenLaw.row PySem.Challenge.rw_panfalls_k60_needless_ones_taken_out).prog [42]) (H := LW.hk) (ob := LW.ob) (M := 2980) (loose := LW.loose) (d := HandSHeadRun.topDef (OpenLaw.row PySem.Challenge.rw_panfalls_k60_needless_ones_taken_out).prog 42) (kwd := []) LW.ob_eq
    (by kernel_rfl) (fun s => by kernel_rfl) LW.run (by kernel_rfl) (by kernel_rfl) (by kernel_rfl) (by rfl) (by first | assumption | decide +kernel) (by decide +kernel) ⟨rfl, rfl, rfl, rfl, rfl, by decide +kernel⟩ ?hw ?hc
  case hw => w_witness2
  case hc =>
    refine DL.law_end (l := PySem.Challenge.rw_panfalls_k60_needless_ones_taken_out) (k := 9) (x := "_law_script") rfl (by kernel_rfl) ⟨⟨rfl, by decide, by decide⟩, rfl⟩ ?F
    intro w mg fa h Y G hmg0
    obtain ⟨K, KX, c⟩ := Y
    have hmg : mg ("law" : PySem.Str) = some (.ref fa) := by
      have e : (HandSHeadRun.topDef (OpenLaw.row PySem.Challenge.rw_panfalls_k60_needless_ones_taken_out).prog 42).name = ("law" : PySem.Str) := by kernel_rfl
      rw [← e]
      exact hmg0
    obtain ⟨fd, hb, hF⟩ := LW.facts (P := (PySem.Challenge.rw_panfalls_k60_needless_ones_taken_out).prog) (wo := w) KX G hmg c
    exact ⟨K, fd, KX, hb, hF⟩
