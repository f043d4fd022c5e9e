import PyProof.Rows.All
import Wide.All
import OpenK.AllK
import Wide.FinOn
import HandS.ForMost
import HandS.Wide
import HandS.Defaults
import HandS.Ends
import HandS.Zip
import HandS.Walk
import HandS.IsInst
import HandS.TupAny
import HandS.TupMul
import HandS.Conv
import HandS.HeadHook1
import KE.KDictKeyed
import KE.KDictDisplayH
import KE.KeyNested
import KE.GoesEnum
import HandS.HeadEnd
import HandS.EndBits
import HandS.Head0
import HandS.Head1
import HandS.Head2
import HandS.HeadHook2
import Lean
import KE.KTupSum
import HandS.Style
import KE.GoesEnumKw
import HandS.SortInts
import HandS.SetFor
import HandS.Strs
import HandS.WideBits
import HandS.RevRange
import HandS.Deep
import HandS.NoneIn
import HandS.TupSets
import HandS.RaiseMore
import HandS.FStrTup
import PyProof.ReprText
import PyProof.ReprRoads
import PyProof.FitsInt
import PyProof.StrLawsRepr
import HandS.Dict
import HandS.SetKeys
import HandS.DictTup
import KE.KDictCopyH
import KE.KDictSum
import HandS.More
import HandS.Set
import HandS.Text
import KE.DataFind
import HandS.SortRule
import HandS.SetBool
import HandS.SetTxt0
import HandS.DictComp
import HandS.MakeKwOnly
import KE.SortCalls
import KE.KSortTupAny
import HandS.Comp
import PyProof.DictUpdate
import KE.BitLaws
import PyProof.MaxThree
import HandS.Iter
import PyProof.StrLawsIn
import KE.KStateDown
import PySem.Challenge.RW_panfalls_k39_whole_least_words
set_option Elab.async false
set_option linter.all false
set_option maxRecDepth 100000
set_option maxHeartbeats 4000000
/-! Promises of defs where no repr is under way. -/
namespace DL
open PySem PySem.Spec PyProof.Rows L2

/-- room, and nothing is being shown -/
structure RoomG (k : Nat) (A : Around) : Prop extends Room k A where
  gd : A.guards = some []
theorem RoomG.mono {j k : Nat} {A : Around} (r : RoomG k A) (le : j ≤ k) : RoomG j A := ⟨r.toRoom.mono le, r.gd⟩
theorem RoomG.deeper {k : Nat} {A : Around} (r : RoomG (k + 1) A) (ev : PySem.Env) : RoomG k (A.deeper ev) := ⟨r.toRoom.deeper ev, r.gd⟩

/-- a def's promise, given only where nothing is being shown -/
structure FnG (pr : Program) (wo : World) (fr : PySem.W.Frag) (mg : Str → Option Value) (ba : Heap) (cx : CXT) (k : Nat) (f : Addr) (fd : FuncData) (ps : List Str) (sp : Sp) : Prop where
  len : ∀ xs H q x, sp xs H q x → xs.length = ps.length
  run : ∀ (A : Around) (ou : List PySem.Env) (s : Shared) (H : Hp) (ar : Args) (us : List Value) (xs : List V) (q : VK) (x : XK), RoomG k A →
    Env0 pr wo fr mg ba A ou s H → BindsTo s fd ar (ps.zip us) → Vals xs us → sp xs H q x → codeAny (model pr wo) A (.call (.ref f) ar) (CR cx ou pr wo H s q x) s
section
variable {pr : Program} {wo : World} {fr : PySem.W.Frag} {mg : Str → Option Value} {ba : Heap} {cx : CXT} {j k : Nat} {f : Addr} {fd : FuncData} {ps : List Str} {sp : Sp}
theorem FnG.mono (g : FnG pr wo fr mg ba cx j f fd ps sp) (le : j ≤ k) : FnG pr wo fr mg ba cx k f fd ps sp :=
  ⟨g.len, fun A ou s H ar us xs q x r => g.run A ou s H ar us xs q x (r.mono le)⟩

/-- a call of such a def -/
theorem run_fnG {X : Cx} {pins : List (Addr × Obj)} {σ : L2.St} {H : Hp} {s : Shared} {q : VK} {x : XK} {us ws : List Value} {kw : List (Str × Value)} {xs : List V} (g : FnG X.prog X.w X.K X.mg X.base cx k f fd ps sp) (r : RoomG k X.A)
    (pa : Passes cx X x) (I : Inv X pins σ H s) (bi : BindsTo s fd ⟨us, kw⟩ (ps.zip ws)) (rv : Vals xs ws) (h : sp xs H q x) : wpAny (model X.prog X.w) X.A (call (.ref f) us kw) (EP X pins σ q) X.xe s := by
  refine wpAny_call (codeAny_mono (g.run X.A X.stack s H ⟨us, kw⟩ ws xs q x r I.env0 bi rv h) fun out s2 z => ?_)
  match out, z with
  | .error e, z => exact pa pins σ H s e s2 I z
  | .ok (.ret u), z => exact I.after z
  | .ok .next, z => exact z.elim
  | .ok .brk, z => exact z.elim
  | .ok .cont, z => exact z.elim

/-- a def by its body -/
theorem fnG_body {N : List Str} {x qual : Str} {params : Arguments} {body : List Stmt} {scope : Scope} {kws : List (Str × V)} (F : FunD fr x qual params body scope [] kws f fd) (sc : FnScope N ps scope) (ln : ∀ xs H q y, sp xs H q y → xs.length = ps.length)
    (hb : ∀ (cd : Value) (A : Around) (ou : List PySem.Env) (s : Shared) (H : Hp) (xs : List V) (q : VK) (y : XK), RoomG k (A.deeper (envOfC qual scope s.heap.objs.size f cd)) → sp xs H q y →
      ∃ t, PSs (cxOf cx pr wo fr mg ba N qual scope f cd A ou s H y) body t ∧ t { nx := fun _ H2 => q .non H2, rt := q } (start N xs) H) : FnG pr wo fr mg ba cx (k + 1) f fd ps sp := by
  obtain ⟨oc, od, dV, kV, doc, pm, an, cd, ct, osl, rfl, lk, hcd, _, _⟩ := F.ex
  refine ⟨ln, fun A ou s H ar us xs q y hr e0 bi rv hsp => ?_⟩
  have hl := ln _ _ _ _ hsp
  have inK : fr.In s.heap := e0.mod.kin.keeps fun b o z => (e0.bs b o z).1
  have nl : s.heap.NoLimit := e0.mod.nolimit.keeps fun b o z => (e0.bs b o z).1
  have kinds : ∀ z ∈ ps.zip us, scope.names.lookup z.1 = some .local ∨ (scope.names.lookup z.1 = some .cell ∧ ((cellsFrom (s.heap.objs.size + 1) scope.names []).lookup z.1).isSome = true) := by
    rintro ⟨nm, v⟩ hz
    rcases sc.par nm (List.of_mem_zip hz).1 with a | a
    · exact .inl a
    · exact .inr ⟨a, PySem.W.cellsFrom_some _ _ _ (.inl a)⟩
  refine codeAny_call_function hr.toRoom.depth (inK _ _ lk) rfl sc.co sc.gen rfl (PySem.W.codeRec_of inK hcd) (bi _ _ _ _ ?_)
  refine wpAny_newFunctionEnv_cells sc.kind kinds fun ev hev s1 xx => ?_
  subst hev
  refine ⟨nl.keeps xx.toInCall.keep, codeAny_func ?_⟩
  obtain ⟨t, ht, hq⟩ := hb cd A ou s H xs q y (hr.deeper _) hsp
  have J : Inv (cxOf cx pr wo fr mg ba N qual scope f cd A ou s H y) [] (start N xs) H s1 := inv_start sc hr.hd e0 hl rv xx
  refine wpAny_mono (ht.run [] s1 (start N xs) H _ J hq) (fun fl s2 hs => ?_) fun e s2 hs => hs
  match fl, hs with
  | .ret u, ⟨v, σ2, H2, J2, r2, q2⟩ => exact ⟨v, H2, J2.os, J2.bare, J2.base, J2.hok, r2, q2⟩
  | .next, ⟨σ2, H2, J2, q2⟩ => exact ⟨V.non, H2, J2.os, J2.bare, J2.base, J2.hok, (rfl : Value.none = Value.none), q2⟩
  | .brk, ⟨_, _, _, z⟩ => exact z.elim
  | .cont, ⟨_, _, _, z⟩ => exact z.elim

/-- the law at the heap behind the top -/
theorem law_callG {fa a : Addr} {x : Str} {s₁ : Shared} {vs : List Value} {ns : List Int} {mb : Str → Option Value}
    (inK : fr.In s₁.heap) (nsg : s₁.heap.Ns mainGlobals mg) (nsb : s₁.heap.Ns builtinsNs mb) (boot : ∀ z : Str, z ≠ "__name__" → mb z = bootBuiltins z) (nolim : s₁.heap.NoLimit) (gens : s₁.gens = #[])
    (scr : s₁.heap.get? a = some { cls := .type "list", data := .seq vs.toArray }) (are : IntsAre vs ns) (few : ns.length ≤ sizeLine) (hr : RoomG k callerA)
    (F : ∀ base : Heap, fr.In base → base.Ns mainGlobals mg → FnG pr wo fr mg base cx k fa fd [x] sp) (bnd : ∀ (s : Shared) (u : Value), BindsTo s fd ⟨[u], []⟩ [(x, u)])
    (hsp : ∀ H : Hp, Only H → SqL fr H a (ns.map V.int) → sp [.ref a] H (fun v _ => v = .bl true) fun _ _ _ => False)
    (hcx : ∀ H e s2, cx [] H s₁ (fun _ _ _ => False) e s2 → False) :
    codeAny (model pr wo) callerA (.call (.ref fa) ⟨[.ref a], []⟩) (fun r s2 => r = .ok (.ret (.bool true)) ∧ OldK s₁.heap s2.heap ∧ s2.os = s₁.os ∧ AllBare s2.gens) s₁ := by
  have same := vals_ints are
  have many := are.length
  have go : ∀ G : Hp, Only G → SqL fr G a (ns.map V.int) → HOk pr wo G s₁.heap → (∀ b, G b ≠ none → b = a) → (G a ≠ none → fr.lookup a = none) →
      codeAny (model pr wo) callerA (.call (.ref fa) ⟨[.ref a], []⟩) (fun r s2 => r = .ok (.ret (.bool true)) ∧ OldK s₁.heap s2.heap ∧ s2.os = s₁.os ∧ AllBare s2.gens) s₁ := by
    intro G only sq hok mine notK
    have seen : ∀ {b : Addr} {o : Obj}, s₁.heap.get? b = some o → G b = none → (hidT s₁.heap G).get? b = some o := fun z n => hidT_get z n
    have noDict : ∀ {b : Addr} {o : Obj} {es : Array DictEntry} {n : Nat}, s₁.heap.get? b = some o → o.data = .dict es n → G b = none := by
      intro b o es n z dz
      by_cases c : G b = none
      · exact c
      · rw [mine b c, scr] at z
        cases z
        cases (show Data.seq vs.toArray _ = Data.dict es n from dz)
    have ns2 : ∀ {b : Addr} {m : Str → Option Value}, s₁.heap.Ns b m → (hidT s₁.heap G).Ns b m := fun ⟨o, es, n, z, dz, rest⟩ => ⟨o, es, n, seen z (noDict z dz), dz, rest⟩
    have inB : fr.In (hidT s₁.heap G) := by
      intro b o z
      refine seen (inK b o z) ?_
      by_cases c : G b = none
      · exact c
      · have hba := mine b c
        subst hba
        rw [notK c] at z
        cases z
    obtain ⟨ml, l1, l2⟩ := nolim
    have md : Mod fr mg (hidT s₁.heap G) := ⟨inB, ns2 nsg, ⟨mb, ns2 nsb, boot⟩, ⟨ml, ns2 l1, l2⟩⟩
    have e0 : Env0 pr wo fr mg (hidT s₁.heap G) callerA [] s₁ G := ⟨rfl, md, fun b o z => of_hidT z, Nat.le_of_eq (hidT_size _ _), trivial, fun b hb => (nomatch (show b ∈ ([] : List Addr) from hb)), hok, .of_eq gens⟩
    refine codeAny_mono ((F _ inB (ns2 nsg)).run callerA [] s₁ G ⟨[.ref a], []⟩ [.ref a] [.ref a] _ _ hr e0 (bnd s₁ (.ref a)) (.cons rfl .nil) (hsp G only sq)) fun out s2 z => ?_
    match out, z with
    | .error e, z => exact (hcx G e s2 z).elim
    | .ok .next, z => exact z.elim
    | .ok .brk, z => exact z.elim
    | .ok .cont, z => exact z.elim
    | .ok (.ret u), ⟨v, G2, os, bare, un, hok2, rv, qv⟩ =>
      have qv2 : v = .bl true := qv
      subst qv2
      cases (show u = Value.bool true from rv)
      refine ⟨rfl, OldK.of_keep fun b o z => ?_, os, bare⟩
      cases c : G b with
      | none => exact un.keep b o z c (fun y => nomatch (show b ∈ ([] : List Addr) from y)) (by simp)
      | some t =>
        rcases only b with y | ⟨ob, ys, y⟩
        · rw [c] at y
          cases y
        · obtain ⟨y1, _⟩ := hok b _ y
          obtain ⟨y2, _⟩ := hok2 b _ (un.frzs b ob _ y)
          rw [z] at y1
          cases y1
          exact y2
  cases held : fr.lookup a with
  | some o =>
    have z := inK a o held
    rw [scr] at z
    cases z
    exact go (fun _ => none) (fun _ => .inl rfl) (.inr ⟨_, vs.toArray, _, held, rfl, rfl, rfl, by rw [List.size_toArray, many]; exact few, by simpa using same⟩) (fun b u y => nomatch (show (none : Option HO) = some u from y)) (fun b y => absurd rfl y) fun y => absurd rfl y
  | none =>
    refine go (fun b => if b = a then some (.frz { cls := .type "list", data := .seq vs.toArray } (.lst (ns.map V.int))) else none) (fun b => ?_) (.inl (.inr ⟨{ cls := .type "list", data := .seq vs.toArray }, if_pos rfl⟩)) (fun b u y => ?_) (fun b y => ?_) fun _ => held
    · by_cases c : b = a
      · exact .inr ⟨_, _, if_pos c⟩
      · exact .inl (if_neg c)
    · by_cases c : b = a
      · cases (if_pos c).symm.trans y
        subst c
        exact ⟨scr, by rw [List.length_map]; exact few, vs, _, same, scr⟩
      · cases (if_neg c).symm.trans y
    · by_cases c : b = a
      · exact c
      · exact absurd (if_neg c) y
end
end DL

/-! The data layer: Python values as trees of data, mutable lists in a small store; readings without a heap. -/
namespace DL
open PySem PySem.Spec PyProof.Rows L2

/-- what an object of the store is, beside a list: a dict (its keys tuples or not), an instance of a class -/
inductive Kd where
  | b (t : Bool) | ins (c : Str)
  /-- a dict whose keys are tuples of numbers, truths, tuples; its entry: key, value, key, value .. -/
  | n
instance : Coe Bool Kd := ⟨.b⟩
inductive D where
  | non | bl (b : Bool) | int (i : Int) | str (x : Str) | lst (xs : List D) | klst (xs : List D) | tup (xs : List D) | obj (i : Nat)
  /-- a dict of the store, a frozen one; t: its keys are tuples. Its rows: .tup [key, value] -/
  | dic (t : Kd) (i : Nat) | fdic (t : Kd) (rows : List D)
  /-- a tuple of the module's head -/
  | gtup (xs : List D)

/-- a state of the frozen part and of the addresses of the store's lists -/
structure Wd where
  G : Hp
  as : List Addr
  /-- lists that are being made: nobody else sees them -/
  hid : List (Addr × List V) := []
  /-- which of the store's objects are dicts (keys tuples or not) -/
  dk : Addr → Option Kd := fun _ => none
  /-- dicts that are being walked: as they stand -/
  lk : Addr → Option (Obj × HO) := fun _ => none
abbrev Sto := List (List D)
abbrev Env := List (Option D)

/-- a key of a dict -/
def keyD : D → Option Key
  | .int i => some (.inl i)
  | .str x => some (.inr x)
  | _ => none
def keysD : List D → Option (List Key)
  | [] => some []
  | d :: r => match keyD d, keysD r with
    | some k, some ks => some (k :: ks)
    | _, _ => none
def tkeyD : D → Option (List Key)
  | .tup xs => keysD xs
  | _ => none
/-! keys that are tuples within tuples -/
mutual
def nkD : D → Option PySem.NestedKey
  | .non => some .none
  | .bl b => some (.num (if b = true then 1 else 0))
  | .int i => some (.num i)
  | .tup xs => match nkDs xs with
    | some ks => some (.tup ks)
    | none => none
  | .str _ | .lst _ | .klst _ | .obj _ | .dic _ _ | .fdic _ _ | .gtup _ => none
def nkDs : List D → Option (List PySem.NestedKey)
  | [] => some []
  | x :: r => match nkD x, nkDs r with
    | some k, some ks => some (k :: ks)
    | _, _ => none
end
/-- such a key -/
def nkT (d : D) : Option PySem.NestedKey := match d with
  | .tup _ => match nkD d with
    | some y => if y.depth ≤ 8 then some y else none
    | none => none
  | _ => none
/-- the keys of key, value, key, value .. -/
def nks : List D → Option (List PySem.NestedKey)
  | [] => some []
  | [_] => none
  | k :: _ :: r => match nkT k, nks r with
    | some y, some ys => some (y :: ys)
    | _, _ => none
mutual
def hN : PySem.NestedKey → Int
  | .none => reduceHash 0xFCA86420
  | .num i => hashInt i
  | .text _ => 0
  | .tup ks => reduceHash (Builtin.Tuple.tupleHashOf (hNs ks))
def hNs : List PySem.NestedKey → List Int
  | [] => []
  | k :: ks => hN k :: hNs ks
end
def entN : List PySem.NestedKey → List Value → List DictEntry
  | y :: ys, k :: u :: us => ⟨hN y, k, u⟩ :: entN ys us
  | _, _ => []
def NdRaw (h : Heap) (a : Addr) (ys : List PySem.NestedKey) (us : List Value) : Prop :=
  ∃ o es ep, h.get? a = some o ∧ o.ExactDict ∧ o.data = .dict es ep ∧ es.toList = entN ys us
/-- such a dict at a -/
def ndO (a : Addr) (ys : List PySem.NestedKey) (vs : List V) : HO := .ext fun h => ∃ us, Vals vs us ∧ NdRaw h a ys us ∧ (a == sysModules) = false ∧ ys.Nodup ∧ vs.length ≤ 2 * sizeLine
def okTy : List String := ["int", "bool", "str", "list", "tuple"]
/-- what of the text a class must have whose instances are handed about -/
structure ClsT (K : PySem.W.Frag) (c : Str) : Prop where
  cls : Cls K (He.ga K c)
  ha : PySem.W.findIn K (.ref (He.ga K c)) "__class__" = some (some (.builtin "object.__class__"))
  hn : PySem.W.specialIn K (.builtin "object.__class__") "__get__" = some (some (.builtin "getset_descriptor.__get__"))
  htk : PySem.W.takesIn K (.builtin "object.__class__") = some true
  hm : PySem.W.mroIn K (He.ga K c) (.type "object") = some true
  no : ∀ b ∈ okTy, PySem.W.kitOne K (.ref (He.ga K c)) (.type b) = some false
def KdT (K : PySem.W.Frag) : Kd → Prop
  | .b _ => True
  | .ins c => ClsT K c
  | .n => True
/-- rows as an instance's fields -/
def fsOf : List (Key × V) → List (Str × V)
  | [] => []
  | (.inr s, v) :: r => (s, v) :: fsOf r
  | (.inl _, _) :: r => fsOf r
mutual
def Rep (K : PySem.W.Frag) (w : Wd) : D → V → Prop
  | .non, v => v = .non
  | .bl b, v => v = .bl b
  | .int i, v => v = .int i
  | .str x, v => v = .str x
  | .lst xs, v => ∃ a vs, v = .ref a ∧ w.G a = some (.lst vs) ∧ Reps K w xs vs
  | .klst xs, v => ∃ a vs, v = .ref a ∧ SqL K w.G a vs ∧ Reps K w xs vs
  | .tup xs, v => ∃ a vs, v = .ref a ∧ w.G a = some (.tup vs) ∧ Reps K w xs vs
  | .gtup xs, v => ∃ a vs, v = .ref a ∧ SqT K w.G a vs ∧ Reps K w xs vs
  | .obj i, v => ∃ a, v = .ref a ∧ w.as[i]? = some a ∧ w.dk a = none
  | .dic t i, v => ∃ a, v = .ref a ∧ w.as[i]? = some a ∧ w.dk a = some t ∧ KdT K t
  | .fdic (.b false) rows, v => ∃ a kvs, v = .ref a ∧ w.G a = some (.dK kvs) ∧ kvs.length ≤ sizeLine ∧ RowsK K w rows kvs
  | .fdic (.b true) rows, v => ∃ a kvs, v = .ref a ∧ w.G a = some (.dT kvs) ∧ kvs.length ≤ sizeLine ∧ RowsT K w rows kvs
  | .fdic (.ins c) rows, v => ∃ a dx kvs, v = .ref a ∧ w.G a = some (.ins (He.ga K c) dx (fsOf kvs)) ∧ ClsT K c ∧ RowsK K w rows kvs
  | .fdic .n rows, v => ∃ a b ys vs, v = .ref a ∧ w.G a = some (ndO b ys vs) ∧ nks rows = some ys ∧ Reps K w rows vs
def RowsK (K : PySem.W.Frag) (w : Wd) : List D → List (Key × V) → Prop
  | [], kvs => kvs = []
  | .tup [k, d] :: ds, kvs => ∃ y v r, kvs = (y, v) :: r ∧ keyD k = some y ∧ Rep K w d v ∧ RowsK K w ds r
  | _ :: _, _ => False
def RowsT (K : PySem.W.Frag) (w : Wd) : List D → List (List Key × V) → Prop
  | [], kvs => kvs = []
  | .tup [k, d] :: ds, kvs => ∃ y v r, kvs = (y, v) :: r ∧ tkeyD k = some y ∧ Rep K w d v ∧ RowsT K w ds r
  | _ :: _, _ => False
def Reps (K : PySem.W.Frag) (w : Wd) : List D → List V → Prop
  | [], vs => vs = []
  | d :: ds, vs => ∃ v r, vs = v :: r ∧ Rep K w d v ∧ Reps K w ds r
end

structure Pre (w w' : Wd) : Prop where
  as : ∃ m, w'.as = w.as ++ m
  dk : ∀ a ∈ w.as, w'.dk a = w.dk a
theorem Pre.eq {w w' : Wd} (h : w'.as = w.as) (k : w'.dk = w.dk) : Pre w w' := ⟨⟨[], by rw [h]; simp⟩, fun _ _ => by rw [k]⟩
structure Le0 (w w' : Wd) : Prop where
  same : Same w.G w'.G
  pre : Pre w w'
  lk : ∀ a ∈ w.as, w'.lk a = w.lk a
structure Le (w w' : Wd) : Prop extends Le0 w w' where
  hid : w'.hid = w.hid
theorem Le0.refl (w : Wd) : Le0 w w := ⟨Same.refl _, .eq rfl rfl, fun _ _ => rfl⟩
theorem Le0.trans {w1 w2 w3 : Wd} (a : Le0 w1 w2) (b : Le0 w2 w3) : Le0 w1 w3 := by
  obtain ⟨⟨m, e⟩, p⟩ := a.pre
  obtain ⟨⟨n, f⟩, q⟩ := b.pre
  exact ⟨a.same.trans b.same, ⟨⟨m ++ n, by rw [f, e, List.append_assoc]⟩, fun x hx => (q x (by rw [e]; exact List.mem_append_left _ hx)).trans (p x hx)⟩, fun x hx => (b.lk x (by rw [e]; exact List.mem_append_left _ hx)).trans (a.lk x hx)⟩
theorem Le.refl (w : Wd) : Le w w := ⟨.refl w, rfl⟩
theorem Le.trans {w1 w2 w3 : Wd} (a : Le w1 w2) (b : Le w2 w3) : Le w1 w3 := ⟨a.toLe0.trans b.toLe0, b.hid.trans a.hid⟩
theorem as_get {w w' : Wd} (l : Pre w w') {i : Nat} {a : Addr} (h : w.as[i]? = some a) : w'.as[i]? = some a := by
  obtain ⟨⟨m, e⟩, _⟩ := l
  rw [e, List.getElem?_append_left (List.getElem?_eq_some_iff.mp h).1]
  exact h
theorem seqT_mono {K : PySem.W.Frag} {H H' : Hp} {a : Addr} {xs : List V} (e : Same H H') (h : SqT K H a xs) : SqT K H' a xs := by
  rcases h with (h | ⟨o, h⟩) | h
  · exact .inl (.inl (e _ _ h))
  · exact .inl (.inr ⟨o, e _ _ h⟩)
  · exact .inr h

section
variable {K : PySem.W.Frag} {w w' : Wd}
mutual
theorem Rep.mono' (s : Same w.G w'.G) (l : Pre w w') : ∀ (d : D) (v : V), Rep K w d v → Rep K w' d v
  | .non, _, h => by simpa only [Rep] using h
  | .bl _, _, h => by simpa only [Rep] using h
  | .int _, _, h => by simpa only [Rep] using h
  | .str _, _, h => by simpa only [Rep] using h
  | .lst xs, v, h => by
    simp only [Rep] at h ⊢
    obtain ⟨a, vs, e, q, r⟩ := h
    exact ⟨a, vs, e, s _ _ q, Reps.mono' s l xs vs r⟩
  | .klst xs, v, h => by
    simp only [Rep] at h ⊢
    obtain ⟨a, vs, e, q, r⟩ := h
    exact ⟨a, vs, e, s.seq q, Reps.mono' s l xs vs r⟩
  | .tup xs, v, h => by
    simp only [Rep] at h ⊢
    obtain ⟨a, vs, e, q, r⟩ := h
    exact ⟨a, vs, e, s _ _ q, Reps.mono' s l xs vs r⟩
  | .gtup xs, v, h => by
    simp only [Rep] at h ⊢
    obtain ⟨a, vs, e, q, r⟩ := h
    exact ⟨a, vs, e, seqT_mono s q, Reps.mono' s l xs vs r⟩
  | .obj i, v, h => by
    simp only [Rep] at h ⊢
    obtain ⟨a, e, q, q2⟩ := h
    exact ⟨a, e, as_get l q, (l.dk a (List.mem_of_getElem? q)).trans q2⟩
  | .dic t i, v, h => by
    simp only [Rep] at h ⊢
    obtain ⟨a, e, q, q2, q3⟩ := h
    exact ⟨a, e, as_get l q, (l.dk a (List.mem_of_getElem? q)).trans q2, q3⟩
  | .fdic (.ins c) rows, v, h => by
    simp only [Rep] at h ⊢
    obtain ⟨a, dx, kvs, e, q, n, r⟩ := h
    exact ⟨a, dx, kvs, e, s _ _ q, n, RowsK.mono' s l rows kvs r⟩
  | .fdic .n rows, v, h => by
    simp only [Rep] at h ⊢
    obtain ⟨a, b, ys, vs, e, q, n, r⟩ := h
    exact ⟨a, b, ys, vs, e, s _ _ q, n, Reps.mono' s l rows vs r⟩
  | .fdic (.b false) rows, v, h => by
    simp only [Rep] at h ⊢
    obtain ⟨a, kvs, e, q, n, r⟩ := h
    exact ⟨a, kvs, e, s _ _ q, n, RowsK.mono' s l rows kvs r⟩
  | .fdic (.b true) rows, v, h => by
    simp only [Rep] at h ⊢
    obtain ⟨a, kvs, e, q, n, r⟩ := h
    exact ⟨a, kvs, e, s _ _ q, n, RowsT.mono' s l rows kvs r⟩
theorem RowsK.mono' (s : Same w.G w'.G) (l : Pre w w') : ∀ (ds : List D) (kvs : List (Key × V)), RowsK K w ds kvs → RowsK K w' ds kvs
  | [], _, h => by simpa only [RowsK] using h
  | .tup [k, d] :: ds, kvs, h => by
    simp only [RowsK] at h ⊢
    obtain ⟨y, v, r, e, h1, h2, h3⟩ := h
    exact ⟨y, v, r, e, h1, Rep.mono' s l d v h2, RowsK.mono' s l ds r h3⟩
  | .tup [] :: _, _, h => by simp only [RowsK] at h
  | .tup [_] :: _, _, h => by simp only [RowsK] at h
  | .tup (_ :: _ :: _ :: _) :: _, _, h => by simp only [RowsK] at h
  | .non :: _, _, h => by simp only [RowsK] at h
  | .bl _ :: _, _, h => by simp only [RowsK] at h
  | .int _ :: _, _, h => by simp only [RowsK] at h
  | .str _ :: _, _, h => by simp only [RowsK] at h
  | .lst _ :: _, _, h => by simp only [RowsK] at h
  | .klst _ :: _, _, h => by simp only [RowsK] at h
  | .obj _ :: _, _, h => by simp only [RowsK] at h
  | .dic _ _ :: _, _, h => by simp only [RowsK] at h
  | .fdic _ _ :: _, _, h => by simp only [RowsK] at h
  | .gtup _ :: _, _, h => by simp only [RowsK] at h
theorem RowsT.mono' (s : Same w.G w'.G) (l : Pre w w') : ∀ (ds : List D) (kvs : List (List Key × V)), RowsT K w ds kvs → RowsT K w' ds kvs
  | [], _, h => by simpa only [RowsT] using h
  | .tup [k, d] :: ds, kvs, h => by
    simp only [RowsT] at h ⊢
    obtain ⟨y, v, r, e, h1, h2, h3⟩ := h
    exact ⟨y, v, r, e, h1, Rep.mono' s l d v h2, RowsT.mono' s l ds r h3⟩
  | .tup [] :: _, _, h => by simp only [RowsT] at h
  | .tup [_] :: _, _, h => by simp only [RowsT] at h
  | .tup (_ :: _ :: _ :: _) :: _, _, h => by simp only [RowsT] at h
  | .non :: _, _, h => by simp only [RowsT] at h
  | .bl _ :: _, _, h => by simp only [RowsT] at h
  | .int _ :: _, _, h => by simp only [RowsT] at h
  | .str _ :: _, _, h => by simp only [RowsT] at h
  | .lst _ :: _, _, h => by simp only [RowsT] at h
  | .klst _ :: _, _, h => by simp only [RowsT] at h
  | .obj _ :: _, _, h => by simp only [RowsT] at h
  | .dic _ _ :: _, _, h => by simp only [RowsT] at h
  | .fdic _ _ :: _, _, h => by simp only [RowsT] at h
  | .gtup _ :: _, _, h => by simp only [RowsT] at h
theorem Reps.mono' (s : Same w.G w'.G) (l : Pre w w') : ∀ (ds : List D) (vs : List V), Reps K w ds vs → Reps K w' ds vs
  | [], _, h => by simpa only [Reps] using h
  | d :: ds, vs, h => by
    simp only [Reps] at h ⊢
    obtain ⟨v, r, e, h1, h2⟩ := h
    exact ⟨v, r, e, Rep.mono' s l d v h1, Reps.mono' s l ds r h2⟩
end
theorem Rep.mono (l : Le w w') (d : D) (v : V) (h : Rep K w d v) : Rep K w' d v := Rep.mono' l.same l.pre d v h
theorem Reps.mono (l : Le w w') (ds : List D) (vs : List V) (h : Reps K w ds vs) : Reps K w' ds vs := Reps.mono' l.same l.pre ds vs h
theorem Reps.nil : Reps K w [] [] := by simp only [Reps]
theorem Reps.cons {d : D} {ds : List D} {v : V} {vs : List V} (h : Rep K w d v) (r : Reps K w ds vs) : Reps K w (d :: ds) (v :: vs) := by
  simp only [Reps]
  exact ⟨v, vs, rfl, h, r⟩
theorem Reps.inv {d : D} {ds : List D} {vs : List V} (h : Reps K w (d :: ds) vs) : ∃ v r, vs = v :: r ∧ Rep K w d v ∧ Reps K w ds r := by
  simpa only [Reps] using h
theorem Reps.inv0 {vs : List V} (h : Reps K w [] vs) : vs = [] := by simpa only [Reps] using h
theorem Reps.length : ∀ {ds : List D} {vs : List V}, Reps K w ds vs → vs.length = ds.length
  | [], vs, h => by rw [h.inv0]; rfl
  | d :: ds, vs, h => by
    obtain ⟨v, r, rfl, _, h2⟩ := h.inv
    simp [h2.length]
theorem Reps.get : ∀ {ds : List D} {vs : List V} {i : Nat} {d : D}, Reps K w ds vs → ds[i]? = some d → ∃ v, vs[i]? = some v ∧ Rep K w d v
  | [], _, _, _, _, e => by simp at e
  | d :: ds, vs, 0, _, h, e => by
    obtain ⟨v, r, rfl, h1, _⟩ := h.inv
    simp at e
    subst e
    exact ⟨v, rfl, h1⟩
  | d :: ds, vs, i + 1, x, h, e => by
    obtain ⟨v, r, rfl, _, h2⟩ := h.inv
    obtain ⟨u, e1, e2⟩ := h2.get (i := i) (d := x) (by simpa using e)
    exact ⟨u, by simpa using e1, e2⟩
theorem Reps.getv : ∀ {ds : List D} {vs : List V} {i : Nat} {v : V}, Reps K w ds vs → vs[i]? = some v → ∃ d, ds[i]? = some d ∧ Rep K w d v
  | [], _, _, _, h, e => by rw [h.inv0] at e; simp at e
  | d :: ds, vs, 0, _, h, e => by
    obtain ⟨v, r, rfl, h1, _⟩ := h.inv
    simp at e
    subst e
    exact ⟨d, rfl, h1⟩
  | d :: ds, vs, i + 1, x, h, e => by
    obtain ⟨v, r, rfl, _, h2⟩ := h.inv
    obtain ⟨u, e1, e2⟩ := h2.getv (i := i) (v := x) (by simpa using e)
    exact ⟨u, by simpa using e1, e2⟩
theorem Reps.append : ∀ {ds es : List D} {vs us : List V}, Reps K w ds vs → Reps K w es us → Reps K w (ds ++ es) (vs ++ us)
  | [], _, _, _, h, g => by rw [h.inv0]; exact g
  | d :: ds, es, vs, us, h, g => by
    obtain ⟨v, r, rfl, h1, h2⟩ := h.inv
    exact .cons h1 (h2.append g)
theorem Reps.set : ∀ {ds : List D} {vs : List V} (i : Nat) {d : D} {v : V}, Reps K w ds vs → Rep K w d v → Reps K w (ds.set i d) (vs.set i v)
  | [], _, _, _, _, h, _ => by rw [h.inv0]; exact .nil
  | _ :: _, vs, 0, _, _, h, g => by
    obtain ⟨v, r, rfl, h1, h2⟩ := h.inv
    exact .cons g h2
  | _ :: _, vs, i + 1, _, _, h, g => by
    obtain ⟨v, r, rfl, h1, h2⟩ := h.inv
    exact .cons h1 (h2.set i g)
theorem Reps.take : ∀ {ds : List D} {vs : List V} (n : Nat), Reps K w ds vs → Reps K w (ds.take n) (vs.take n)
  | [], _, n, h => by rw [h.inv0]; simp; exact .nil
  | _ :: _, vs, 0, h => by simp; exact .nil
  | _ :: _, vs, n + 1, h => by
    obtain ⟨v, r, rfl, h1, h2⟩ := h.inv
    exact .cons h1 (h2.take n)
theorem Reps.drop : ∀ {ds : List D} {vs : List V} (n : Nat), Reps K w ds vs → Reps K w (ds.drop n) (vs.drop n)
  | [], _, n, h => by rw [h.inv0]; simp; exact .nil
  | _ :: _, vs, 0, h => h
  | _ :: _, vs, n + 1, h => by
    obtain ⟨v, r, rfl, h1, h2⟩ := h.inv
    exact h2.drop n
theorem Reps.rep {ds : List D} {vs : List V} (h : Reps K w ds vs) : ∀ k : Nat, Reps K w (List.replicate k ds).flatten (List.replicate k vs).flatten
  | 0 => .nil
  | k + 1 => by
    rw [List.replicate_succ, List.replicate_succ, List.flatten_cons, List.flatten_cons]
    exact h.append (h.rep k)
theorem Reps.of_ints : ∀ (ns : List Int), Reps K w (ns.map D.int) (ns.map V.int)
  | [] => .nil
  | n :: ns => .cons (by simp only [Rep]) (Reps.of_ints ns)
theorem Reps.bls : ∀ {ns : List Bool} {vs : List V}, Reps K w (ns.map D.bl) vs → vs = ns.map V.bl
  | [], _, h => h.inv0
  | n :: ns, vs, h => by
    obtain ⟨v, r, rfl, h1, h2⟩ := Reps.inv h
    simp only [Rep] at h1
    rw [h1, h2.bls]
    rfl
end

/-! ### the state -/
def SizeOk : HO → Prop
  | .lst xs => xs.length ≤ sizeLine
  | .tup xs => xs.length ≤ sizeLine
  | .frz _ (.lst xs) => xs.length ≤ sizeLine
  | .frz _ (.tup xs) => xs.length ≤ sizeLine
  | _ => True
/-- what an object of the store holds -/
def EntP (K : PySem.W.Frag) (w : Wd) : Option Kd → List D → HO → Prop
  | none, xs, o => ∃ vs, o = .lst vs ∧ vs.length ≤ sizeLine ∧ Reps K w xs vs
  | some (.b false), xs, o => ∃ kvs, o = .dK kvs ∧ kvs.length ≤ sizeLine ∧ RowsK K w xs kvs
  | some (.b true), xs, o => ∃ kvs, o = .dT kvs ∧ kvs.length ≤ sizeLine ∧ RowsT K w xs kvs
  | some (.ins c), xs, o => ∃ dx kvs, o = .ins (He.ga K c) dx (fsOf kvs) ∧ RowsK K w xs kvs
  | some .n, xs, o => ∃ b ys vs, o = ndO b ys vs ∧ nks xs = some ys ∧ Reps K w xs vs
/-- what stands behind the rows of a dict that is being walked -/
def lockD : D := .fdic (.b false) [.non]
/-- each row is a pair -/
def okRows : List D → Bool
  | [] => true
  | .tup [_, _] :: r => okRows r
  | _ => false
theorem okRows_app : ∀ {a b : List D}, okRows (a ++ b) = (okRows a && okRows b)
  | [], b => by simp [okRows]
  | .tup [_, _] :: r, b => by simp only [List.cons_append, okRows, okRows_app (a := r)]
  | .tup [] :: _, _ => by simp [okRows]
  | .tup [_] :: _, _ => by simp [okRows]
  | .tup (_ :: _ :: _ :: _) :: _, _ => by simp [okRows]
  | .non :: _, _ => by simp [okRows]
  | .bl _ :: _, _ => by simp [okRows]
  | .int _ :: _, _ => by simp [okRows]
  | .str _ :: _, _ => by simp [okRows]
  | .lst _ :: _, _ => by simp [okRows]
  | .klst _ :: _, _ => by simp [okRows]
  | .obj _ :: _, _ => by simp [okRows]
  | .dic _ _ :: _, _ => by simp [okRows]
  | .fdic _ _ :: _, _ => by simp [okRows]
  | .gtup _ :: _, _ => by simp [okRows]
abbrev Lk := Option (Obj × HO)
def EntL (K : PySem.W.Frag) (w : Wd) (k : Option Kd) (L : Lk) (xs : List D) (o : HO) : Prop := k = some (.b false) ∧ ∃ rows ob kvs, L = some (ob, .dK kvs) ∧ xs = rows ++ [lockD] ∧ o = .frz ob (.dK kvs) ∧ kvs.length ≤ sizeLine ∧ RowsK K w rows kvs
/-- .. where it is a dict with keys of tuples -/
def EntM (K : PySem.W.Frag) (w : Wd) (k : Option Kd) (L : Lk) (xs : List D) (o : HO) : Prop := k = some .n ∧ ∃ rows ob b ys vs, L = some (ob, ndO b ys vs) ∧ xs = rows ++ [lockD] ∧ o = .frz ob (ndO b ys vs) ∧ nks rows = some ys ∧ Reps K w rows vs
def EntR (K : PySem.W.Frag) (w : Wd) (k : Option Kd) (L : Lk) (xs : List D) (o : HO) : Prop := (L = none ∧ EntP K w k xs o) ∨ EntL K w k L xs o ∨ EntM K w k L xs o
theorem EntR.lst {K : PySem.W.Frag} {w : Wd} {L : Lk} {xs : List D} {o : HO} (h : EntR K w none L xs o) : ∃ vs, o = .lst vs ∧ vs.length ≤ sizeLine ∧ Reps K w xs vs := h.elim And.right fun z => z.elim (fun z => nomatch z.1) fun z => nomatch z.1
theorem EntR.dT {K : PySem.W.Frag} {w : Wd} {L : Lk} {xs : List D} {o : HO} (h : EntR K w (some (.b true)) L xs o) : ∃ kvs, o = .dT kvs ∧ kvs.length ≤ sizeLine ∧ RowsT K w xs kvs := h.elim And.right fun z => z.elim (fun z => nomatch z.1) fun z => nomatch z.1
theorem lock_no {rows : List D} (ok : okRows (rows ++ [lockD]) = true) : False := by
  rw [okRows_app] at ok
  simp [okRows, lockD] at ok
theorem EntR.dK {K : PySem.W.Frag} {w : Wd} {L : Lk} {xs : List D} {o : HO} (h : EntR K w (some (.b false)) L xs o) (ok : okRows xs = true) : ∃ kvs, o = .dK kvs ∧ kvs.length ≤ sizeLine ∧ RowsK K w xs kvs := h.elim And.right fun z => z.elim (fun ⟨_, rows, ob, kvs, _, e, _⟩ => (lock_no (e ▸ ok)).elim) fun z => nomatch z.1
theorem EntR.ins {K : PySem.W.Frag} {w : Wd} {c : Str} {L : Lk} {xs : List D} {o : HO} (h : EntR K w (some (.ins c)) L xs o) : ∃ dx kvs, o = .ins (He.ga K c) dx (fsOf kvs) ∧ RowsK K w xs kvs := h.elim And.right fun z => z.elim (fun z => nomatch z.1) fun z => nomatch z.1
theorem EntM.odd {K : PySem.W.Frag} {w : Wd} {k : Option Kd} {L : Lk} {xs : List D} {o : HO} (h : EntM K w k L xs o) (ok : xs.length % 2 = 0) : False := by
  obtain ⟨_, rows, _, _, ys, _, _, e, _, n, _⟩ := h
  have ev : ∀ (n : Nat) {rows : List D} {ys : List PySem.NestedKey}, rows.length = n → nks rows = some ys → rows.length % 2 = 0 := by
    intro n
    induction n using Nat.strongRecOn with
    | ind n ih =>
      intro rows ys e h
      match rows, e, h with
      | [], _, _ => rfl
      | [_], _, h => cases h
      | a :: b :: r, e, h =>
        simp only [nks] at h
        cases z : nks r with
        | none => rw [z] at h; cases y : nkT a <;> rw [y] at h <;> cases h
        | some q =>
          have := ih r.length (by simp only [List.length_cons] at e; omega) rfl z
          simp only [List.length_cons]
          omega
  have := ev _ rfl n
  rw [e, List.length_append, List.length_singleton] at ok
  omega
theorem EntR.nd {K : PySem.W.Frag} {w : Wd} {L : Lk} {xs : List D} {o : HO} (h : EntR K w (some .n) L xs o) (ok : xs.length % 2 = 0) : L = none ∧ ∃ b ys vs, o = ndO b ys vs ∧ nks xs = some ys ∧ Reps K w xs vs := h.elim id fun z => z.elim (fun z => nomatch z.1) fun z => (z.odd ok).elim
theorem EntR.un {K : PySem.W.Frag} {w : Wd} {k : Option Kd} {L : Lk} {xs : List D} {o : HO} (h : EntR K w k L xs o) (ok : k ≠ some (.b false) ∨ okRows xs = true) (hn : k ≠ some .n := by first | nofun | simp) : L = none := by
  rcases h with h | ⟨hk, rows, ob, kvs, _, e, _⟩ | h
  · exact h.1
  · rcases ok with z | z
    · exact absurd hk z
    · exact (lock_no (e ▸ z)).elim
  · exact absurd h.1 hn
theorem EntR.mono' {K : PySem.W.Frag} {w w' : Wd} (s : Same w.G w'.G) (l : Pre w w') {k : Option Kd} {L : Lk} {xs : List D} {o : HO} (h : EntR K w k L xs o) : EntR K w' k L xs o := by
  rcases h with ⟨hL, h⟩ | ⟨hk, rows, ob, kvs, e0, e1, e2, n, r⟩ | ⟨hk, rows, ob, b, ys, vs, e0, e1, e2, n, r⟩
  · refine .inl ⟨hL, ?_⟩
    match k, h with
    | none, ⟨vs, e, n, r⟩ => exact ⟨vs, e, n, Reps.mono' s l _ _ r⟩
    | some (.b false), ⟨vs, e, n, r⟩ => exact ⟨vs, e, n, RowsK.mono' s l _ _ r⟩
    | some (.b true), ⟨vs, e, n, r⟩ => exact ⟨vs, e, n, RowsT.mono' s l _ _ r⟩
    | some (.ins c), ⟨dx, vs, e, r⟩ => exact ⟨dx, vs, e, RowsK.mono' s l _ _ r⟩
    | some .n, ⟨b, ys, vs, e, n, r⟩ => exact ⟨b, ys, vs, e, n, Reps.mono' s l _ _ r⟩
  · exact .inr (.inl ⟨hk, rows, ob, kvs, e0, e1, e2, n, RowsK.mono' s l _ _ r⟩)
  · exact .inr (.inr ⟨hk, rows, ob, b, ys, vs, e0, e1, e2, n, Reps.mono' s l _ _ r⟩)
theorem EntR.mono {K : PySem.W.Frag} {w w' : Wd} (l : Le w w') {k : Option Kd} {L : Lk} {xs : List D} {o : HO} (h : EntR K w k L xs o) : EntR K w' k L xs o := h.mono' l.same l.pre
structure Wld (K : PySem.W.Frag) (w : Wd) (st : Sto) (H : Hp) : Prop where
  same : Same w.G H
  len : w.as.length = st.length
  nd : w.as.Nodup
  at_ : ∀ (i : Nat) (a : Addr), w.as[i]? = some a → w.G a = none ∧ ∃ (xs : List D) (o : HO), st[i]? = some xs ∧ H a = some o ∧ EntR K w (w.dk a) (w.lk a) xs o
  small : ∀ a u, w.G a = some u → SizeOk u
  hidd : ∀ (a : Addr) (vs : List V), (a, vs) ∈ w.hid → w.G a = none ∧ a ∉ w.as ∧ H a = some (.lst vs)
  hnd : (w.hid.map (·.1)).Nodup

section
variable {K : PySem.W.Frag} {w w' : Wd} {st : Sto} {H : Hp}
theorem sq_small {G : Hp} {a : Addr} {vs : List V} (sm : ∀ a u, G a = some u → SizeOk u) (h : SqL K G a vs) : vs.length ≤ sizeLine := by
  rcases h with (h | ⟨o, h⟩) | ⟨o, its, n, _, _, _, _, hz, r⟩
  · exact sm _ _ h
  · exact sm _ _ h
  · have := r.length
    simp only [Array.length_toList] at this
    omega
theorem sqt_small {G : Hp} {a : Addr} {vs : List V} (sm : ∀ a u, G a = some u → SizeOk u) (h : SqT K G a vs) : vs.length ≤ sizeLine := by
  rcases h with (h | ⟨o, h⟩) | ⟨o, its, n, _, _, _, hz, r⟩
  · exact sm _ _ h
  · exact sm _ _ h
  · have := r.length
    simp only [Array.length_toList] at this
    omega
/-- the lists of the store read through -/
def deref (st : Sto) : D → D
  | .obj i => match st[i]? with
    | some xs => .lst xs
    | none => .obj i
  | .klst xs => .lst xs
  | .gtup xs => .tup xs
  | d => d
theorem deref_self {st : Sto} {d e : D} (h : deref st d = e) (n1 : ∀ xs, e ≠ .lst xs) (n2 : ∀ i, e ≠ .obj i) (n3 : ∀ xs, e ≠ .tup xs := by intro _ z; cases z) : d = e := by
  cases d with
  | gtup ys => exact (n3 _ h.symm).elim
  | klst ys => exact (n1 _ h.symm).elim
  | obj i =>
    have h' : (match st[i]? with | some xs => D.lst xs | none => D.obj i) = e := h
    split at h'
    · exact (n1 _ h'.symm).elim
    · exact (n2 _ h'.symm).elim
  | _ => exact h
/-- not for tuples of the module's head -/
def noG (d : D) (p : Prop) : Prop := match d with
  | .gtup _ => False
  | _ => p
theorem noG_of {d : D} {p : Prop} (h : noG d p) : (∀ ys, d ≠ .gtup ys) ∧ p := by
  cases d with
  | gtup _ => exact h.elim
  | _ => exact ⟨fun _ z => by (cases z), h⟩
theorem deref_tup {st : Sto} {d : D} {xs : List D} (h : deref st d = .tup xs) (n : ∀ ys, d ≠ .gtup ys) : d = .tup xs := by
  cases d with
  | gtup ys => exact (n _ rfl).elim
  | obj i =>
    have h' : (match st[i]? with | some xs => D.lst xs | none => D.obj i) = .tup xs := h
    split at h' <;> cases h'
  | klst ys => cases h
  | _ => exact h
theorem deref_tups {st : Sto} {d : D} {xs : List D} (h : deref st d = .tup xs) (st' : Sto) : deref st' d = .tup xs := by
  cases d with
  | gtup ys => exact h
  | obj i =>
    have h' : (match st[i]? with | some xs => D.lst xs | none => D.obj i) = .tup xs := h
    split at h' <;> cases h'
  | klst ys => cases h
  | _ => exact h
theorem rep_lst {d : D} {v : V} {xs : List D} (W : Wld K w st H) (R : Rep K w d v) (e : deref st d = .lst xs) :
    ∃ a vs, v = .ref a ∧ SqL K H a vs ∧ Reps K w xs vs ∧ vs.length ≤ sizeLine := by
  cases d with
  | lst ys =>
    cases e
    simp only [Rep] at R
    obtain ⟨a, vs, e1, q, r⟩ := R
    exact ⟨a, vs, e1, .of (W.same _ _ q), r, W.small _ _ q⟩
  | klst ys =>
    cases e
    simp only [Rep] at R
    obtain ⟨a, vs, e1, q, r⟩ := R
    exact ⟨a, vs, e1, W.same.seq q, r, sq_small W.small q⟩
  | obj i =>
    simp only [Rep] at R
    obtain ⟨a, e1, q, q2⟩ := R
    obtain ⟨g, ys, o, h1, h2, h3⟩ := W.at_ i a q
    rw [q2] at h3
    obtain ⟨vs, rfl, n3, h4⟩ := h3.lst
    have e2 : (match st[i]? with | some xs => D.lst xs | none => D.obj i) = .lst xs := e
    rw [h1] at e2
    cases e2
    exact ⟨a, vs, e1, .of h2, h4, n3⟩
  | _ => cases e
/-- lists that may be put together with others -/
def derefM (st : Sto) : D → Option (List D)
  | .obj i => st[i]?
  | .lst xs => some xs
  | _ => none
theorem rep_lstM {d : D} {v : V} {xs : List D} (W : Wld K w st H) (R : Rep K w d v) (e : derefM st d = some xs) :
    ∃ a vs, v = .ref a ∧ H a = some (.lst vs) ∧ Reps K w xs vs ∧ vs.length ≤ sizeLine := by
  cases d with
  | lst ys =>
    cases e
    simp only [Rep] at R
    obtain ⟨a, vs, e1, q, r⟩ := R
    exact ⟨a, vs, e1, W.same _ _ q, r, W.small _ _ q⟩
  | obj i =>
    simp only [Rep] at R
    obtain ⟨a, e1, q, q2⟩ := R
    obtain ⟨g, ys, o, h1, h2, h3⟩ := W.at_ i a q
    rw [q2] at h3
    obtain ⟨vs, rfl, n3, h4⟩ := h3.lst
    have e2 : st[i]? = some xs := e
    rw [h1] at e2
    cases e2
    exact ⟨a, vs, e1, h2, h4, n3⟩
  | _ => cases e
theorem rep_tup {d : D} {v : V} {xs : List D} (W : Wld K w st H) (R : Rep K w d v) (e : deref st d = .tup xs) :
    ∃ a vs, v = .ref a ∧ SqT K H a vs ∧ Reps K w xs vs ∧ vs.length ≤ sizeLine := by
  cases d with
  | tup ys =>
    cases e
    simp only [Rep] at R
    obtain ⟨a, vs, e1, q, r⟩ := R
    exact ⟨a, vs, e1, .of (W.same _ _ q), r, W.small _ _ q⟩
  | gtup ys =>
    cases e
    simp only [Rep] at R
    obtain ⟨a, vs, e1, q, r⟩ := R
    exact ⟨a, vs, e1, seqT_mono W.same q, r, sqt_small W.small q⟩
  | obj i =>
    have e2 : (match st[i]? with | some xs => D.lst xs | none => D.obj i) = .tup xs := e
    cases h : st[i]? with
    | none => rw [h] at e2; cases e2
    | some _ => rw [h] at e2; cases e2
  | _ => cases e
theorem Wld.free (W : Wld K w st H) {p : Addr} (h : H p = none) : w.G p = none := W.same.free h
theorem Wld.nas (W : Wld K w st H) {p : Addr} (h : H p = none) : p ∉ w.as := fun m => by
  obtain ⟨i, hi⟩ := List.getElem?_of_mem m
  obtain ⟨_, xs, o, _, e, _⟩ := W.at_ i p hi
  rw [h] at e
  cases e
/-- a new frozen object -/
def Wd.put (w : Wd) (p : Addr) (o : HO) : Wd := ⟨upd w.G p o, w.as, w.hid, w.dk, w.lk⟩
theorem Le.put {p : Addr} {o : HO} (h : w.G p = none) : Le w (w.put p o) := ⟨⟨fun b u e => by
  show upd w.G p o b = some u
  rw [upd_ne (ne_of_none e h)]
  exact e, .eq rfl rfl, fun _ _ => rfl⟩, rfl⟩
theorem Wld.put (W : Wld K w st H) {p : Addr} {o : HO} (h : H p = none) (s : SizeOk o) : Wld K (w.put p o) st (upd H p o) := by
  have hg := W.free h
  have l := Le.put (w := w) (o := o) hg
  refine ⟨fun b u e => ?_, W.len, W.nd, fun i a e => ?_, fun a u e => ?_, fun a vs e => ?_, W.hnd⟩
  · by_cases hb : b = p
    · subst hb
      have e' : upd w.G b o b = some u := e
      rw [upd_same] at e' ⊢
      exact e'
    · have e' : upd w.G p o b = some u := e
      rw [upd_ne hb] at e' ⊢
      exact W.same b u e'
  · obtain ⟨g, xs, u, h1, h2, h3⟩ := W.at_ i a e
    have ne : a ≠ p := fun z => by rw [z, h] at h2; cases h2
    refine ⟨?_, xs, u, h1, by rw [upd_ne ne]; exact h2, h3.mono l⟩
    show upd w.G p o a = none
    rw [upd_ne ne]
    exact g
  · have e' : upd w.G p o a = some u := e
    by_cases ha : a = p
    · subst ha
      rw [upd_same] at e'
      cases e'
      exact s
    · rw [upd_ne ha] at e'
      exact W.small a u e'
  · obtain ⟨g, n, h1⟩ := W.hidd a vs e
    have ne : a ≠ p := fun z => by rw [z, h] at h1; cases h1
    refine ⟨?_, n, by rw [upd_ne ne]; exact h1⟩
    show upd w.G p o a = none
    rw [upd_ne ne]
    exact g
/-- a new object of the store -/
def Wd.addK (w : Wd) (p : Addr) (k : Option Kd) : Wd := ⟨w.G, w.as ++ [p], w.hid, fun b => if b = p then k else w.dk b, fun b => if b = p then none else w.lk b⟩
theorem Pre.addK {p : Addr} {k : Option Kd} (h : p ∉ w.as) : Pre w (w.addK p k) := ⟨⟨[p], rfl⟩, fun a ha => if_neg fun (z : a = p) => h (z ▸ ha)⟩
theorem Le.addK {p : Addr} {k : Option Kd} (h : p ∉ w.as) : Le w (w.addK p k) := ⟨⟨Same.refl _, .addK h, fun a ha => if_neg fun (z : a = p) => h (z ▸ ha)⟩, rfl⟩
theorem Wld.addK (W : Wld K w st H) {p : Addr} {k : Option Kd} {xs : List D} {o : HO} (h : H p = none) (r : EntP K w k xs o) : Wld K (w.addK p k) (st ++ [xs]) (upd H p o) := by
  have hg := W.free h
  have hn := W.nas h
  refine ⟨fun b u e => ?_, ?_, ?_, fun i a e => ?_, W.small, fun a vs e => ?_, W.hnd⟩
  · have ne : b ≠ p := fun z => by
      have e' : w.G b = some u := e
      rw [z, hg] at e'
      cases e'
    rw [upd_ne ne]
    exact W.same b u e
  · show (w.as ++ [p]).length = (st ++ [xs]).length
    rw [List.length_append, List.length_append, W.len]
    rfl
  · show (w.as ++ [p]).Nodup
    refine List.nodup_append.mpr ⟨W.nd, by simp, fun a ha b hb z => ?_⟩
    have : b = p := by simpa using hb
    subst this
    rw [z] at ha
    exact hn ha
  · have e' : (w.as ++ [p])[i]? = some a := e
    by_cases hi : i < w.as.length
    · rw [List.getElem?_append_left hi] at e'
      obtain ⟨g, ys, u, h1, h2, h3⟩ := W.at_ i a e'
      have ne : a ≠ p := fun z => by rw [z, h] at h2; cases h2
      have ek : (w.addK p k).dk a = w.dk a := if_neg ne
      have el : (w.addK p k).lk a = w.lk a := if_neg ne
      exact ⟨g, ys, u, by rw [List.getElem?_append_left (by rw [← W.len]; exact hi)]; exact h1, by rw [upd_ne ne]; exact h2, by rw [ek, el]; exact h3.mono (.addK hn)⟩
    · have hi2 : i = w.as.length := by
        have := (List.getElem?_eq_some_iff.mp e').1
        simp at this
        omega
      subst hi2
      rw [List.getElem?_concat_length] at e'
      cases e'
      have ek : (w.addK p k).dk p = k := if_pos rfl
      have el : (w.addK p k).lk p = none := if_pos rfl
      exact ⟨hg, xs, o, by rw [W.len, List.getElem?_concat_length], upd_same, by rw [ek, el]; exact EntR.mono (.addK hn) (.inl ⟨rfl, r⟩)⟩
  · obtain ⟨g, n, h1⟩ := W.hidd a vs e
    have ne : a ≠ p := fun z => by rw [z, h] at h1; cases h1
    refine ⟨g, fun m => ?_, by rw [upd_ne ne]; exact h1⟩
    have m' : a ∈ w.as ++ [p] := m
    rcases List.mem_append.mp m' with z | z
    · exact n z
    · exact ne (by simpa using z)
/-- a new list of the store -/
def Wd.add (w : Wd) (p : Addr) : Wd := w.addK p none
theorem Wld.add (W : Wld K w st H) {p : Addr} {xs : List D} {vs : List V} (h : H p = none) (r : Reps K w xs vs) (s : vs.length ≤ sizeLine) : Wld K (w.add p) (st ++ [xs]) (upd H p (.lst vs)) := W.addK h ⟨vs, rfl, s, r⟩
/-- an object of the store written -/
theorem Wld.wrK (W : Wld K w st H) {i : Nat} {a : Addr} {xs : List D} {o : HO} (ha : w.as[i]? = some a) (r : EntR K w (w.dk a) (w.lk a) xs o) : Wld K w (st.set i xs) (upd H a o) := by
  obtain ⟨g, ys, us, h1, h2, h3⟩ := W.at_ i a ha
  refine ⟨fun b u e => ?_, by rw [List.length_set]; exact W.len, W.nd, fun j b e => ?_, W.small, fun b vs e => ?_, W.hnd⟩
  · have ne : b ≠ a := fun z => by rw [z, g] at e; cases e
    rw [upd_ne ne]
    exact W.same b u e
  · by_cases hj : j = i
    · subst hj
      rw [ha] at e
      cases e
      exact ⟨g, xs, o, List.getElem?_set_self (List.getElem?_eq_some_iff.mp h1).1, upd_same, r⟩
    · obtain ⟨g', zs, ws, k1, k2, k3⟩ := W.at_ j b e
      have ne : b ≠ a := fun z => by
        subst z
        exact hj (nd_ix W.nd e ha)
      exact ⟨g', zs, ws, by rw [List.getElem?_set_ne (Ne.symm hj)]; exact k1, by rw [upd_ne ne]; exact k2, k3⟩
  · obtain ⟨g', n, h'⟩ := W.hidd b vs e
    have ne : b ≠ a := fun z => n (by rw [z]; exact List.mem_of_getElem? ha)
    exact ⟨g', n, by rw [upd_ne ne]; exact h'⟩
/-- a list of the store written -/
theorem Wld.wr (W : Wld K w st H) {i : Nat} {a : Addr} {xs : List D} {vs : List V} (ha : w.as[i]? = some a) (hk : w.dk a = none) (r : Reps K w xs vs) (s : vs.length ≤ sizeLine) : Wld K w (st.set i xs) (upd H a (.lst vs)) :=
  W.wrK ha (by
    obtain ⟨_, ys, o, _, _, h3⟩ := W.at_ i a ha
    have hl := h3.un (.inl (by rw [hk]; exact nofun)) (by rw [hk]; exact nofun)
    rw [hk]
    exact .inl ⟨hl, vs, rfl, s, r⟩)
end

/-! ### readings over data -/
abbrev DK := D → Sto → Prop
abbrev DE := Env → Sto → DK → Prop
abbrev DT := Env → Sto → (Bool → Sto → Prop) → Prop
abbrev DA := Env → Sto → (List D → Sto → Prop) → Prop
structure DEnds where
  nx : Env → Sto → Prop
  rt : DK
abbrev DS := DEnds → Env → Sto → Prop

def EnvR (K : PySem.W.Frag) (w : Wd) (env : Env) (σ : L2.St) : Prop :=
  env.length = σ.length ∧ ∀ (i : Nat) (d : D), env[i]? = some (some d) → ∃ v, σ[i]? = some (some v) ∧ Rep K w d v
theorem EnvR.mono {K : PySem.W.Frag} {w w' : Wd} {env : Env} {σ : L2.St} (h : EnvR K w env σ) (l : Le w w') : EnvR K w' env σ :=
  ⟨h.1, fun i d e => let ⟨v, e1, r⟩ := h.2 i d e; ⟨v, e1, Rep.mono l _ _ r⟩⟩
theorem EnvR.mono0 {K : PySem.W.Frag} {w w' : Wd} {env : Env} {σ : L2.St} (h : EnvR K w env σ) (l : Le0 w w') : EnvR K w' env σ :=
  ⟨h.1, fun i d e => let ⟨v, e1, r⟩ := h.2 i d e; ⟨v, e1, Rep.mono' l.same l.pre _ _ r⟩⟩
theorem EnvR.set {K : PySem.W.Frag} {w : Wd} {env : Env} {σ : L2.St} (h : EnvR K w env σ) {d : D} {v : V} (i : Nat) (r : Rep K w d v) : EnvR K w (env.set i (some d)) (σ.set i (some v)) := by
  refine ⟨by simp [h.1], fun j x e => ?_⟩
  by_cases hj : j = i
  · subst hj
    have hlt : j < env.length := by
      have := (List.getElem?_eq_some_iff.mp e).1
      simpa using this
    rw [List.getElem?_set_self hlt] at e
    cases e
    exact ⟨v, List.getElem?_set_self (by rw [← h.1]; exact hlt), r⟩
  · rw [List.getElem?_set_ne (Ne.symm hj)] at e
    obtain ⟨u, e1, r1⟩ := h.2 j x e
    exact ⟨u, by rw [List.getElem?_set_ne (Ne.symm hj)]; exact e1, r1⟩
theorem EnvR.unset {K : PySem.W.Frag} {w : Wd} {env : Env} {σ : L2.St} (h : EnvR K w env σ) (i : Nat) : EnvR K w (env.set i none) (σ.set i none) := by
  refine ⟨by simp [h.1], fun j x e => ?_⟩
  by_cases hj : j = i
  · subst hj
    have hlt : j < env.length := by
      have := (List.getElem?_eq_some_iff.mp e).1
      simpa using this
    rw [List.getElem?_set_self hlt] at e
    cases e
  · rw [List.getElem?_set_ne (Ne.symm hj)] at e
    obtain ⟨u, e1, r1⟩ := h.2 j x e
    exact ⟨u, by rw [List.getElem?_set_ne (Ne.symm hj)]; exact e1, r1⟩

/-- what must follow a value that comes -/
def Fol (K : PySem.W.Frag) (w : Wd) (kk : DK) (Q : VK) : Prop := ∀ d st' v w' H', kk d st' → Le w w' → Wld K w' st' H' → Rep K w' d v → Q v H'
def tD (K : PySem.W.Frag) (t : DE) : TE := fun σ H Q => ∃ w env st kk, Wld K w st H ∧ EnvR K w env σ ∧ t env st kk ∧ Fol K w kk Q
def FolT (K : PySem.W.Frag) (w : Wd) (kk : Bool → Sto → Prop) (Q : Bool → Hp → Prop) : Prop := ∀ b st' w' H', kk b st' → Le w w' → Wld K w' st' H' → Q b H'
def tDT (K : PySem.W.Frag) (t : DT) : TT := fun σ H Q => ∃ w env st kk, Wld K w st H ∧ EnvR K w env σ ∧ t env st kk ∧ FolT K w kk Q
def FolA (K : PySem.W.Frag) (w : Wd) (kk : List D → Sto → Prop) (Q : List V → Hp → Prop) : Prop := ∀ ds st' vs w' H', kk ds st' → Le w w' → Wld K w' st' H' → Reps K w' ds vs → Q vs H'
def tDA (K : PySem.W.Frag) (t : DA) : TA := fun σ H Q => ∃ w env st kk, Wld K w st H ∧ EnvR K w env σ ∧ t env st kk ∧ FolA K w kk Q
def FolN (K : PySem.W.Frag) (w : Wd) (nx : Env → Sto → Prop) (Q : L2.St → Hp → Prop) : Prop := ∀ env' st' σ' w' H', nx env' st' → Le w w' → Wld K w' st' H' → EnvR K w' env' σ' → Q σ' H'
def tDS (K : PySem.W.Frag) (t : DS) : TS := fun E σ H => ∃ w env st, ∃ (D : DEnds), Wld K w st H ∧ EnvR K w env σ ∧ t D env st ∧ FolN K w D.nx E.nx ∧ Fol K w D.rt E.rt
abbrev PD (X : Cx) (e : Expr) (t : DE) : Prop := PE X e (tD X.K t)
abbrev PDT (X : Cx) (e : Expr) (t : DT) : Prop := PT X e (tDT X.K t)
abbrev PDA (X : Cx) (es : List Expr) (t : DA) : Prop := PA X es (tDA X.K t)
abbrev PDS (X : Cx) (st : Stmt) (t : DS) : Prop := PS X st (tDS X.K t)
abbrev PDSs (X : Cx) (st : List Stmt) (t : DS) : Prop := PSs X st (tDS X.K t)

section
variable {K : PySem.W.Frag} {w w' : Wd} {kk : DK} {Q : VK}
theorem Fol.le (h : Fol K w kk Q) (l : Le w w') : Fol K w' kk Q := fun d st' v w2 H' k l2 => h d st' v w2 H' k (l.trans l2)
theorem FolT.le {kk : Bool → Sto → Prop} {Q : Bool → Hp → Prop} (h : FolT K w kk Q) (l : Le w w') : FolT K w' kk Q := fun d st' w2 H' k l2 => h d st' w2 H' k (l.trans l2)
theorem FolA.le {kk : List D → Sto → Prop} {Q : List V → Hp → Prop} (h : FolA K w kk Q) (l : Le w w') : FolA K w' kk Q := fun d st' v w2 H' k l2 => h d st' v w2 H' k (l.trans l2)
theorem FolN.le {nx : Env → Sto → Prop} {Q : L2.St → Hp → Prop} (h : FolN K w nx Q) (l : Le w w') : FolN K w' nx Q := fun d st' v w2 H' k l2 => h d st' v w2 H' k (l.trans l2)
theorem Fol.id {st : Sto} {H : Hp} {d : D} {v : V} (h : Fol K w kk Q) (k : kk d st) (W : Wld K w st H) (R : Rep K w d v) : Q v H := h d st v w H k (.refl w) W R
end
theorem _root_.L2.PE.wk {X : Cx} {e : Expr} {t t' : TE} (h : PE X e t) (i : ∀ σ H Q, t' σ H Q → t σ H Q) : PE X e t' := ⟨fun pins s σ H Q I q => h.run pins s σ H Q I (i σ H Q q)⟩
theorem _root_.L2.PT.wk {X : Cx} {e : Expr} {t t' : TT} (h : PT X e t) (i : ∀ σ H Q, t' σ H Q → t σ H Q) : PT X e t' := ⟨fun pins s σ H Q I q => h.run pins s σ H Q I (i σ H Q q)⟩
theorem _root_.L2.PA.wk {X : Cx} {e : List Expr} {t t' : TA} (h : PA X e t) (i : ∀ σ H Q, t' σ H Q → t σ H Q) : PA X e t' := ⟨fun ps pins s σ H Q I q => h.run ps pins s σ H Q I (i σ H Q q)⟩
theorem _root_.L2.PS.wk {X : Cx} {e : Stmt} {t t' : TS} (h : PS X e t) (i : ∀ D σ H, t' D σ H → t D σ H) : PS X e t' := ⟨fun pins s σ H D I q => h.run pins s σ H D I (i D σ H q)⟩
theorem _root_.L2.PSs.wk {X : Cx} {e : List Stmt} {t t' : TS} (h : PSs X e t) (i : ∀ D σ H, t' D σ H → t D σ H) : PSs X e t' := ⟨fun pins s σ H D I q => h.run pins s σ H D I (i D σ H q)⟩

/-! ### names, constants -/
section
variable {X : Cx} {e a b : Expr} {es : List Expr} {pos : Pos} {ta tb : DE}
def dVar (i : Nat) : DE := fun env st k => match env[i]? with
  | some (some d) => k d st
  | _ => False
theorem pd_var (i : Nat) {x : Str} (hN : X.N[i]? = some x := by rfl) (hv : Vis X.env.scope x := by first | exact Or.inl rfl | exact Or.inr (Or.inl rfl) | exact Or.inr (Or.inr rfl)) (hd : (x == ("__debug__" : Str)) = false := by decide)
    (hcd : (x == ("__classdict__" : Str)) = false := by decide) : PD X (.Name x pos) (dVar i) := by
  refine (pe_var hN hv hd hcd).wk fun σ H Q ⟨w, env, st, kk, W, E, h, f⟩ => ?_
  unfold dVar at h
  split at h
  · rename_i d e
    obtain ⟨v, e1, r⟩ := E.2 i d e
    exact ⟨v, e1, f.id h W r⟩
  · exact h.elim
def dC (d : D) : DE := fun _ st k => k d st
theorem pd_of {v : V} {d : D} (h : PE X e (tC v)) (r : ∀ w, Rep X.K w d v) : PD X e (dC d) :=
  h.wk fun σ H Q ⟨w, env, st, kk, W, E, h, f⟩ => f.id h W (r w)
theorem pd_int {i j} : PD X (.Constant (.int i) j pos) (dC (.int i)) := pd_of pe_int fun w => by simp only [Rep]
theorem pd_bl {i j} : PD X (.Constant (.bool i) j pos) (dC (.bl i)) := pd_of pe_bl fun w => by simp only [Rep]
theorem pd_non {j} : PD X (.Constant .none j pos) (dC .non) := pd_of pe_non fun w => by simp only [Rep]
theorem pd_gstr {x z : Str} (hm : ∃ t, X.mg x = some (.str z t)) (hg : Gl X x := by rfl) (hd : (x == ("__debug__" : Str)) = false := by decide) : PD X (.Name x pos) (dC (.str z)) := by
  obtain ⟨t, hm⟩ := hm
  exact pd_of (pe_glob (v := .str z) hg hm ⟨t, rfl⟩ hd) fun w => by simp only [Rep]
/-! ### two values, an operator -/
abbrev F2 := D → D → Sto → DK → Prop
def dOp (f : F2) (ta tb : DE) : DE := fun env st k => ta env st fun x s1 => tb env s1 fun y s2 => f x y s2 k
def rD (K : PySem.W.Frag) (f : F2) : R2 := fun x y H Q => ∃ w st d e kk, Wld K w st H ∧ Rep K w d x ∧ Rep K w e y ∧ f d e st kk ∧ Fol K w kk Q
theorem d2_in {K : PySem.W.Frag} {f : F2} {σ : L2.St} {H : Hp} {Q : VK} (h : tD K (dOp f ta tb) σ H Q) : tOp (rD K f) (tD K ta) (tD K tb) σ H Q := by
  obtain ⟨w, env, st, kk, W, E, h, fo⟩ := h
  exact ⟨w, env, st, _, W, E, h, fun d st1 v w1 H1 h1 l1 W1 R1 => ⟨w1, env, st1, _, W1, E.mono l1, h1, fun e st2 u w2 H2 h2 l2 W2 R2 =>
    ⟨w2, st2, d, e, kk, W2, Rep.mono l2 _ _ R1, R2, h2, fo.le (l1.trans l2)⟩⟩⟩
theorem pd_op {op : Operator} {f : F2} (ho : OpR X (binaryOp op) (rD X.K f)) (ha : PD X a ta) (hb : PD X b tb) : PD X (.BinOp a op b pos) (dOp f ta tb) :=
  (pe_op ho ha hb).wk fun _ _ _ h => d2_in h
theorem pd_cmp {op : CmpOp} {f : F2} (ho : OpR X (compareOp op) (rD X.K f)) (ha : PD X a ta) (hb : PD X b tb) (hm : behindInMarks op b = false) : PD X (.Compare a [op] [b] pos) (dOp f ta tb) :=
  (pe_cmpR ho ha hb hm).wk fun _ _ _ h => d2_in h
/-- a value that is True or False, as a test -/
def dTest (t : DE) : DT := fun env st k => t env st fun d s1 => match d with
  | .bl b => k b s1
  | _ => False
theorem pd_tcmp {op : CmpOp} {f : F2} (ho : OpR X (compareOp op) (rD X.K f)) (ha : PD X a ta) (hb : PD X b tb) (hm : behindInMarks op b = false) : PDT X (.Compare a [op] [b] pos) (dTest (dOp f ta tb)) := by
  refine (pt_cmpR ho ha hb hm).wk fun σ H Q ⟨w, env, st, kk, W, E, h, fo⟩ => ?_
  refine d2_in (Q := fun x H' => ∃ k, x = .bl k ∧ Q k H') ⟨w, env, st, _, W, E, h, fun d st1 v w1 H1 h1 l1 W1 R1 => ?_⟩
  cases d with
  | bl b =>
    simp only [Rep] at R1
    exact ⟨b, R1, fo b st1 w1 H1 h1 l1 W1⟩
  | _ => exact h1.elim
/-- a one-place operation -/
abbrev F1 := D → Sto → DK → Prop
def dUn (f : F1) (ta : DE) : DE := fun env st k => ta env st fun x s1 => f x s1 k
def rD1 (K : PySem.W.Frag) (f : F1) : V → Hp → VK → Prop := fun x H Q => ∃ w st d kk, Wld K w st H ∧ Rep K w d x ∧ f d st kk ∧ Fol K w kk Q
theorem d1_in {K : PySem.W.Frag} {f : F1} {σ : L2.St} {H : Hp} {Q : VK} (h : tD K (dUn f ta) σ H Q) : tUn (rD1 K f) (tD K ta) σ H Q := by
  obtain ⟨w, env, st, kk, W, E, h, fo⟩ := h
  exact ⟨w, env, st, _, W, E, h, fun d st1 v w1 H1 h1 l1 W1 R1 => ⟨w1, st1, d, kk, W1, R1, h1, fo.le l1⟩⟩
theorem pd_un {op : UnaryOp} {f : F1} (ho : UnR X (unaryOp op) (rD1 X.K f)) (ha : PD X a ta) : PD X (.UnaryOp op a pos) (dUn f ta) :=
  (pe_un ho ha).wk fun _ _ _ h => d1_in h

/-! ### tests -/
def truD (st : Sto) (d : D) : Bool := match deref st d with
  | .non => false
  | .bl b => b
  | .int i => i != 0
  | .str x => (x.length : Int) != 0
  | .lst xs => !xs.isEmpty
  | .tup xs => !xs.isEmpty
  | .klst _ => false
  | .obj _ => false
  | .dic _ _ => false
  | .fdic _ _ => false
  | .gtup _ => false
def OkTru (st : Sto) (d : D) : Prop := match deref st d with
  | .str x => x.length ≤ sizeLine
  | .klst _ => False
  | .obj _ => False
  | .dic _ _ => False
  | .fdic _ _ => False
  | .gtup _ => False
  | _ => True
def dTru (t : DE) : DT := fun env st k => t env st fun d s1 => OkTru s1 d ∧ k (truD s1 d) s1
theorem tru_rep {K : PySem.W.Frag} {w : Wd} {st : Sto} {H : Hp} {d : D} {v : V} (W : Wld K w st H) (R : Rep K w d v) (ok : OkTru st d) : TruV K v H (truD st d) := by
  unfold OkTru at ok
  unfold truD
  have nl : ∀ {xs : List D} {vs : List V}, Reps K w xs vs → (!xs.isEmpty) = !vs.isEmpty := fun {xs vs} r => by
    cases xs with
    | nil => rw [r.inv0]; rfl
    | cons d ds => obtain ⟨v, r', rfl, _, _⟩ := r.inv; rfl
  cases e : deref st d with
  | obj i => rw [e] at ok; exact ok.elim
  | klst i => rw [e] at ok; exact ok.elim
  | dic _ _ => rw [e] at ok; exact ok.elim
  | fdic _ _ => rw [e] at ok; exact ok.elim
  | gtup _ => rw [e] at ok; exact ok.elim
  | lst xs =>
    obtain ⟨a, vs, rfl, q, r, _⟩ := rep_lst W R e
    exact .inl ⟨vs, q, nl r⟩
  | tup xs =>
    obtain ⟨a, vs, rfl, q, r, _⟩ := rep_tup W R e
    exact .inr (.inl ⟨vs, q, nl r⟩)
  | non =>
    have : d = .non := deref_self e (fun _ z => by cases z) (fun _ z => by cases z)
    subst this
    simp only [Rep] at R
    subst R
    rfl
  | bl b =>
    have : d = .bl b := deref_self e (fun _ z => by cases z) (fun _ z => by cases z)
    subst this
    simp only [Rep] at R
    subst R
    rfl
  | int b =>
    have : d = .int b := deref_self e (fun _ z => by cases z) (fun _ z => by cases z)
    subst this
    simp only [Rep] at R
    subst R
    rfl
  | str b =>
    have : d = .str b := deref_self e (fun _ z => by cases z) (fun _ z => by cases z)
    subst this
    simp only [Rep] at R
    subst R
    rw [e] at ok
    exact ⟨ok, rfl⟩
theorem pd_tru (ha : PD X a ta) (he : ∀ whole, isTrue a X.env whole = (do let v ← whole; standAt a.pos; holding [v] (truthy v)) := by intro _; rfl) : PDT X a (dTru ta) := by
  refine (pt_truth ha he).wk fun σ H Q ⟨w, env, st, kk, W, E, h, fo⟩ => ?_
  exact ⟨w, env, st, _, W, E, h, fun d st1 v w1 H1 h1 l1 W1 R1 => ⟨_, tru_rep W1 R1 h1.1, fo _ st1 w1 H1 h1.2 l1 W1⟩⟩
def dNot (t : DT) : DT := fun env st k => t env st fun b s1 => k (!b) s1
theorem pd_tnot {t : DT} (ha : PDT X a t) : PDT X (.UnaryOp .Not a pos) (dNot t) := by
  refine (pt_not ha).wk fun σ H Q ⟨w, env, st, kk, W, E, h, fo⟩ => ?_
  exact ⟨w, env, st, _, W, E, h, fun b st1 w1 H1 h1 l1 W1 => fo _ st1 w1 H1 h1 l1 W1⟩
def dOr (t u : DT) : DT := fun env st k => t env st fun b s1 => if b = true then k true s1 else u env s1 k
abbrev PDW (X : Cx) (e : Expr) (t : DT) : Prop := PW X e (tDT X.K t)
theorem _root_.L2.PW.wk {X : Cx} {e : Expr} {t t' : TT} (h : PW X e t) (i : ∀ σ H Q, t' σ H Q → t σ H Q) : PW X e t' := ⟨fun wh pins s σ H Q I q => h.run wh pins s σ H Q I (i σ H Q q)⟩
theorem pw_dor {rest : List Expr} {t u : DT} (ha : PDT X a t) (hb : PDW X (.BoolOp .Or (b :: rest) pos) u) : PDW X (.BoolOp .Or (a :: b :: rest) pos) (dOr t u) := by
  refine L2.PW.wk (pw_or ha hb) fun σ H Q ⟨w, env, st, kk, W, E, h, fo⟩ => ?_
  refine ⟨w, env, st, _, W, E, h, fun c st1 w1 H1 h1 l1 W1 => ?_⟩
  cases c with
  | false =>
    rw [if_neg Bool.false_ne_true] at h1 ⊢
    exact ⟨w1, env, st1, _, W1, E.mono l1, h1, fo.le l1⟩
  | true =>
    rw [if_pos rfl] at h1 ⊢
    exact fo _ _ _ _ h1 l1 W1
/-- as values: all but the last True or False -/
def dAndV (t u : DE) : DE := fun env st k => t env st fun d s1 => match d with
  | .bl b => if b = true then u env s1 k else k (.bl false) s1
  | _ => False
def dNotV (t : DE) : DE := fun env st k => t env st fun d s1 => match d with
  | .bl b => k (.bl (!b)) s1
  | _ => False
theorem pd_andv {rest : List Expr} {t u : DE} (ha : PD X a t) (hb : PD X (.BoolOp .And (b :: rest) pos) u) : PD X (.BoolOp .And (a :: b :: rest) pos) (dAndV t u) := by
  refine (pe_and ha hb).wk fun σ H Q ⟨w, env, st, kk, W, E, h, fo⟩ => ?_
  refine ⟨w, env, st, _, W, E, h, fun d st1 v w1 H1 h1 l1 W1 R1 => ?_⟩
  cases d with
  | bl c =>
    simp only [Rep] at R1
    refine ⟨c, R1, ?_⟩
    cases c with
    | true =>
      simp only [↓reduceIte] at h1 ⊢
      exact ⟨w1, env, st1, _, W1, E.mono l1, h1, fo.le l1⟩
    | false =>
      simp only [Bool.false_eq_true, ↓reduceIte] at h1 ⊢
      exact fo _ _ _ _ _ h1 l1 W1 (by simp only [Rep])
  | _ => exact h1.elim
theorem pd_notv {t : DE} (ha : PD X a t) : PD X (.UnaryOp .Not a pos) (dNotV t) := by
  refine (pe_not ha).wk fun σ H Q ⟨w, env, st, kk, W, E, h, fo⟩ => ?_
  refine ⟨w, env, st, _, W, E, h, fun d st1 v w1 H1 h1 l1 W1 R1 => ?_⟩
  cases d with
  | bl c =>
    simp only [Rep] at R1
    exact ⟨c, R1, fo _ _ _ _ _ h1 l1 W1 (by simp only [Rep])⟩
  | _ => exact h1.elim
def dIf (c : DT) (t u : DE) : DE := fun env st k => c env st fun b s1 => if b = true then t env s1 k else u env s1 k
theorem pd_ife {c : Expr} {tc : DT} {t u : DE} (hc : PDT X c tc) (ha : PD X a t) (hb : PD X b u) : PD X (.IfExp c a b pos) (dIf tc t u) := by
  refine (pe_ifExp hc ha hb).wk fun σ H Q ⟨w, env, st, kk, W, E, h, fo⟩ => ?_
  refine ⟨w, env, st, _, W, E, h, fun c st1 w1 H1 h1 l1 W1 => ?_⟩
  cases c with
  | true =>
    rw [if_pos rfl] at h1 ⊢
    exact ⟨w1, env, st1, _, W1, E.mono l1, h1, fo.le l1⟩
  | false =>
    rw [if_neg Bool.false_ne_true] at h1 ⊢
    exact ⟨w1, env, st1, _, W1, E.mono l1, h1, fo.le l1⟩

/-! ### argument lists, displays -/
def dNil : DA := fun _ st k => k [] st
def dCons (t : DE) (u : DA) : DA := fun env st k => t env st fun d s1 => u env s1 fun ds s2 => k (d :: ds) s2
theorem pda_nil : PDA X [] dNil := pa_nil.wk fun σ H Q ⟨w, env, st, kk, W, E, h, fo⟩ => fo _ _ _ _ _ h (.refl _) W .nil
theorem pda_cons {t : DE} {u : DA} (ha : PD X e t) (hr : PDA X es u) (hs : starEach (e :: es) X.env = (false, eval e X.env) :: starEach es X.env := by rfl) : PDA X (e :: es) (dCons t u) := by
  refine (pa_cons ha hr hs).wk fun σ H Q ⟨w, env, st, kk, W, E, h, fo⟩ => ?_
  exact ⟨w, env, st, _, W, E, h, fun d st1 v w1 H1 h1 l1 W1 R1 => ⟨w1, env, st1, _, W1, E.mono l1, h1, fun ds st2 vs w2 H2 h2 l2 W2 R2 =>
    fo _ _ _ _ _ h2 (l1.trans l2) W2 (.cons (Rep.mono l2 _ _ R1) R2)⟩⟩
def dTup (t : DA) : DE := fun env st k => t env st fun ds s1 => ds.length ≤ 16777216 ∧ k (.tup ds) s1
/-- a list display that nobody changes -/
def dLst (t : DA) : DE := fun env st k => t env st fun ds s1 => ds.length ≤ 16777216 ∧ k (.lst ds) s1
/-- a list display of the store -/
def dNew (t : DA) : DE := fun env st k => t env st fun ds s1 => ds.length ≤ 16777216 ∧ k (.obj s1.length) (s1 ++ [ds])
theorem line16 {n : Nat} (h : n ≤ 16777216) : n ≤ sizeLine := by rw [sizeLine_eq]; exact h
theorem fol_tup {K : PySem.W.Frag} {w : Wd} {st : Sto} {H : Hp} {kk : DK} {Q : VK} {ds : List D} {vs : List V} (W : Wld K w st H) (R : Reps K w ds vs) (n : vs.length ≤ sizeLine) (k : kk (.tup ds) st) (fo : Fol K w kk Q) :
    ∀ p, H p = none → Q (.ref p) (upd H p (.tup vs)) := fun p hp => by
  have l := Le.put (w := w) (o := .tup vs) (W.free hp)
  refine fo _ _ _ _ _ k l (W.put hp n) ?_
  simp only [Rep]
  exact ⟨p, vs, rfl, upd_same, Reps.mono l _ _ R⟩
theorem fol_lst {K : PySem.W.Frag} {w : Wd} {st : Sto} {H : Hp} {kk : DK} {Q : VK} {ds : List D} {vs : List V} (W : Wld K w st H) (R : Reps K w ds vs) (n : vs.length ≤ sizeLine) (k : kk (.lst ds) st) (fo : Fol K w kk Q) :
    ∀ p, H p = none → Q (.ref p) (upd H p (.lst vs)) := fun p hp => by
  have l := Le.put (w := w) (o := .lst vs) (W.free hp)
  refine fo _ _ _ _ _ k l (W.put hp n) ?_
  simp only [Rep]
  exact ⟨p, vs, rfl, upd_same, Reps.mono l _ _ R⟩
theorem fol_new {K : PySem.W.Frag} {w : Wd} {st : Sto} {H : Hp} {kk : DK} {Q : VK} {ds : List D} {vs : List V} (W : Wld K w st H) (R : Reps K w ds vs) (n : vs.length ≤ sizeLine) (k : kk (.obj st.length) (st ++ [ds])) (fo : Fol K w kk Q) :
    ∀ p, H p = none → Q (.ref p) (upd H p (.lst vs)) := fun p hp => by
  refine fo _ _ _ _ _ k (Le.addK (W.nas hp)) (W.add hp R n) ?_
  simp only [Rep]
  refine ⟨p, rfl, ?_, if_pos rfl⟩
  show (w.as ++ [p])[st.length]? = some p
  rw [← W.len, List.getElem?_concat_length]
theorem pd_tup {x1} {t : DA} (h : PDA X es t) : PD X (.Tuple es x1 pos) (dTup t) := by
  refine (pe_tup h).wk fun σ H Q ⟨w, env, st, kk, W, E, h, fo⟩ => ?_
  refine ⟨w, env, st, _, W, E, h, fun ds st1 vs w1 H1 h1 l1 W1 R1 => ?_⟩
  have n : vs.length ≤ sizeLine := by rw [R1.length]; exact line16 h1.1
  exact ⟨n, fol_tup W1 R1 n h1.2 (fo.le l1)⟩
theorem pd_lst {t : DA} (h : PDA X es t) : PD X (.List es pos) (dLst t) := by
  refine (pe_lst h).wk fun σ H Q ⟨w, env, st, kk, W, E, h, fo⟩ => ?_
  refine ⟨w, env, st, _, W, E, h, fun ds st1 vs w1 H1 h1 l1 W1 R1 => ?_⟩
  have n : vs.length ≤ sizeLine := by rw [R1.length]; exact line16 h1.1
  exact ⟨n, fol_lst W1 R1 n h1.2 (fo.le l1)⟩
theorem pd_new {t : DA} (h : PDA X es t) : PD X (.List es pos) (dNew t) := by
  refine (pe_lst h).wk fun σ H Q ⟨w, env, st, kk, W, E, h, fo⟩ => ?_
  refine ⟨w, env, st, _, W, E, h, fun ds st1 vs w1 H1 h1 l1 W1 R1 => ?_⟩
  have n : vs.length ≤ sizeLine := by rw [R1.length]; exact line16 h1.1
  exact ⟨n, fol_new W1 R1 n h1.2 (fo.le l1)⟩

/-! ### calls of defs -/
abbrev SpD := List D → Sto → DK → Prop
/-- a def's promise over data -/
def spD (K : PySem.W.Frag) (sp : SpD) : Sp := fun vs H Q _ => ∃ w st ds kk, Wld K w st H ∧ Reps K w ds vs ∧ sp ds st kk ∧ Fol K w kk Q
def dCall (sp : SpD) (t : DA) : DE := fun env st k => t env st fun ds s1 => sp ds s1 k
variable {k : Nat} {f : Addr} {fd : FuncData} {ps : List Str} {sp : SpD} {x : Str} {p : Pos}
theorem pd_call {t : DA} (F : FnG X.prog X.w X.K X.mg X.base CX0 k f fd ps (spD X.K sp)) (hr : RoomG k X.A) (hm : X.mg x = some (.ref f)) (hk : PySem.W.keepIn X.K (.ref f) = true) (hb : Binds X.K fd ps [])
    (ha : PDA X (e :: es) t) (hg : Gl X x := by rfl) (hdb : (x == ("__debug__" : Str)) = false := by decide) (he : starEach (e :: es) X.env = (false, eval e X.env) :: starEach es X.env := by rfl) (hpl : (backTo pos (starEach es X.env)).any (·.1) = false := by rfl) :
    PD X (.Call (.Name x p) (e :: es) [] pos) (dCall sp t) := by
  refine ⟨fun pins s σ H Q I ⟨w, env, st, kk, W, E, h, fo⟩ => ?_⟩
  refine wpAny_Call_Name_kw (ld_glob I hg hm ?_ hdb)
  refine PySem.W.callWith_K (h₀ := X.base) I.ok.mod.kin hk (thn (ha.run pos pins s σ H (fun vs H1 => spD X.K sp vs H1 Q E0) I ⟨w, env, st, _, W, E, h, fun ds st1 vs w1 H1 h1 l1 W1 R1 => ⟨w1, st1, ds, kk, W1, R1, h1, fo.le l1⟩⟩) fun us s1 ⟨vs, H1, I1, r, q⟩ => ⟨I1.kIn, ?_⟩) he hpl
  have hl : us.length = ps.length := r.length.symm.trans (F.len _ _ _ _ q)
  have z := hb s1 us I1.kIn (by rw [List.append_nil]; exact hl)
  rw [List.append_nil] at z
  exact run_fnG F hr pass0 I1 z r q
/-! ### statements -/
def dDrop (t : DE) : DS := fun D env st => t env st fun _ s1 => D.nx env s1
def dRet (t : DE) : DS := fun D env st => t env st D.rt
def dSeq (t u : DS) : DS := fun D env st => t { D with nx := u D } env st
def dPass : DS := fun D env st => D.nx env st
def dIfS (c : DT) (t u : DS) : DS := fun D env st => c env st fun b s1 => if b = true then t D env s1 else u D env s1
theorem pds_expr {t : DE} (he : PD X e t) (hs : swapsWith e none pos.line X.env = pure false := by rfl) : PDS X (.Expr e pos) (dDrop t) := by
  refine (ps_expr he hs).wk fun Ed σ H ⟨w, env, st, D, W, E, h, fn, fr⟩ => ?_
  exact ⟨w, env, st, _, W, E, h, fun d st1 v w1 H1 h1 l1 W1 R1 => fn _ _ _ _ _ h1 l1 W1 (E.mono l1)⟩
theorem pds_ret {t : DE} (he : PD X e t) : PDS X (.Return (some e) pos) (dRet t) := by
  refine (ps_ret he).wk fun Ed σ H ⟨w, env, st, D, W, E, h, fn, fr⟩ => ?_
  exact ⟨w, env, st, _, W, E, h, fr⟩
theorem pdss_nil : PDSs X [] dPass := by
  refine pss_nil.wk fun Ed σ H ⟨w, env, st, D, W, E, h, fn, fr⟩ => ?_
  exact fn _ _ _ _ _ h (.refl _) W E
theorem pdss_one {s : Stmt} {t : DS} (h : PDS X s t) : PDSs X [s] t := pss_one h
theorem pdss_cons {s : Stmt} {rest : List Stmt} {t u : DS} (h1 : PDS X s t) (h2 : PDSs X rest u) : PDSs X (s :: rest) (dSeq t u) := by
  refine (pss_cons h1 h2).wk fun Ed σ H ⟨w, env, st, D, W, E, h, fn, fr⟩ => ?_
  exact ⟨w, env, st, _, W, E, h, fun env1 st1 σ1 w1 H1 h1 l1 W1 E1 => ⟨w1, env1, st1, D, W1, E1, h1, fn.le l1, fr.le l1⟩, fr⟩
theorem pds_if {c : Expr} {xs ys : List Stmt} {tc : DT} {t u : DS} (hc : PDT X c tc) (ha : PDSs X xs t) (hb : PDSs X ys u) : PDS X (.If c xs ys pos) (dIfS tc t u) := by
  refine (ps_if hc ha hb).wk fun Ed σ H ⟨w, env, st, D, W, E, h, fn, fr⟩ => ?_
  refine ⟨w, env, st, _, W, E, h, fun c st1 w1 H1 h1 l1 W1 => ?_⟩
  cases c with
  | true =>
    rw [if_pos rfl] at h1 ⊢
    exact ⟨w1, env, st1, D, W1, E.mono l1, h1, fn.le l1, fr.le l1⟩
  | false =>
    rw [if_neg Bool.false_ne_true] at h1 ⊢
    exact ⟨w1, env, st1, D, W1, E.mono l1, h1, fn.le l1, fr.le l1⟩

/-! ### targets -/
abbrev DG := D → Env → Sto → (Env → Sto → Prop) → Prop
abbrev DGs := List D → Env → Sto → (Env → Sto → Prop) → Prop
def tDG (K : PySem.W.Frag) (g : DG) : TG := fun v σ H Q => ∃ w env st d nx, Wld K w st H ∧ EnvR K w env σ ∧ Rep K w d v ∧ g d env st nx ∧ FolN K w nx Q
def tDGs (K : PySem.W.Frag) (g : DGs) : TGs := fun vs σ H Q => ∃ w env st ds nx, Wld K w st H ∧ EnvR K w env σ ∧ Reps K w ds vs ∧ g ds env st nx ∧ FolN K w nx Q
abbrev PDG (X : Cx) (e : Expr) (g : DG) : Prop := PG X e (tDG X.K g)
abbrev PDGs (X : Cx) (e : List Expr) (g : DGs) : Prop := PGs X e (tDGs X.K g)
theorem _root_.L2.PG.wk {X : Cx} {e : Expr} {t t' : TG} (h : PG X e t) (i : ∀ v σ H Q, t' v σ H Q → t v σ H Q) : PG X e t' := ⟨fun pins s σ H v u Q I r q => h.run pins s σ H v u Q I r (i v σ H Q q)⟩
theorem _root_.L2.PGs.wk {X : Cx} {e : List Expr} {t t' : TGs} (h : PGs X e t) (i : ∀ v σ H Q, t' v σ H Q → t v σ H Q) : PGs X e t' := ⟨fun pins s σ H v u Q I r q => h.run pins s σ H v u Q I r (i v σ H Q q)⟩
def dgName (i : Nat) : DG := fun d env st k => k (env.set i (some d)) st
theorem pdg_name (i : Nat) {x : Str} (hN : X.N.Nodup) (hi : X.N[i]? = some x := by rfl) (hx : Loc X.env.scope x := by first | exact Or.inl rfl | exact Or.inr rfl) (hf : X.fn x = true ∨ X.env.scope.names.lookup x = some .local := by first | exact .inl rfl | exact .inr rfl | assumption) : PDG X (.Name x pos) (dgName i) := by
  refine L2.PG.wk (pg_name hN hi hx hf) fun v σ H Q ⟨w, env, st, d, nx, W, E, R, h, fn⟩ => ?_
  exact fn _ _ _ _ _ h (.refl _) W (E.set i R)
def dgNil : DGs := fun ds env st k => match ds with
  | [] => k env st
  | _ => False
def dgCons (g : DG) (h : DGs) : DGs := fun ds env st k => match ds with
  | d :: r => g d env st fun env' st' => h r env' st' k
  | [] => False
theorem pdgs_nil : PDGs X [] dgNil := by
  refine L2.PGs.wk pgs_nil fun v σ H Q ⟨w, env, st, ds, nx, W, E, R, h, fn⟩ => ?_
  cases ds with
  | nil => exact ⟨R.inv0, fn _ _ _ _ _ h (.refl _) W E⟩
  | cons _ _ => exact h.elim
theorem pdgs_cons {t : DG} {u : DGs} (h1 : PDG X e t) (h2 : PDGs X es u)
    (hs : (assignEach (e :: es) X.env).map (·.2) = assign e X.env :: (assignEach es X.env).map (·.2) := by rfl) : PDGs X (e :: es) (dgCons t u) := by
  refine L2.PGs.wk (pgs_cons h1 h2 hs) fun v σ H Q ⟨w, env, st, ds, nx, W, E, R, h, fn⟩ => ?_
  cases ds with
  | nil => exact h.elim
  | cons d r =>
    obtain ⟨v, vr, rfl, R1, R2⟩ := R.inv
    exact ⟨v, vr, rfl, w, env, st, d, _, W, E, R1, h, fun env1 st1 σ1 w1 H1 h1 l1 W1 E1 => ⟨w1, env1, st1, r, nx, W1, E1, Reps.mono l1 _ _ R2, h1, fn.le l1⟩⟩
def dgTup (n : Nat) (g : DGs) : DG := fun d env st k => match deref st d with
  | .tup xs => xs.length = n ∧ g xs env st k
  | _ => False
theorem pdg_tup {kk : Nat} {t : DGs} {n : Nat} (hc : X.calm = true) (h : PDGs X es t)
    (hn : (assignEach es X.env).length = n := by rfl) (hst : (assignEach es X.env).findIdx? (·.1) = none := by rfl) : PDG X (.Tuple es kk pos) (dgTup n t) := by
  refine L2.PG.wk (pg_tup hc h hn hst) fun v σ H Q ⟨w, env, st, d, nx, W, E, R, h, fn⟩ => ?_
  unfold dgTup at h
  split at h
  · rename_i xs e
    obtain ⟨a, vs, rfl, q, r, _⟩ := rep_tup W R e
    exact ⟨a, vs, rfl, q, by rw [r.length]; exact h.1, w, env, st, xs, nx, W, E, r, h.2, fn⟩
  · exact h.elim
def dAsg (t : DE) (g : DG) : DS := fun D env st => t env st fun d s1 => g d env s1 D.nx
theorem asg_in {K : PySem.W.Frag} {t : DE} {g : DG} {Ed : Ends} {σ : L2.St} {H : Hp} (h : tDS K (dAsg t g) Ed σ H) : tAsg (tD K t) (tDG K g) Ed σ H := by
  obtain ⟨w, env, st, D, W, E, h, fn, fr⟩ := h
  exact ⟨w, env, st, _, W, E, h, fun d st1 v w1 H1 h1 l1 W1 R1 => ⟨w1, env, st1, d, _, W1, E.mono l1, R1, h1, fn.le l1⟩⟩
theorem pds_asg {tg : Expr} {t : DE} {g : DG} (he : PD X e t) (hg : PDG X tg g) (hs : swapsWithSole [tg] e pos.line X.env = pure false := by rfl) (hw : swappedStores [tg] e X.env = pure none := by rfl)
    (h1 : (assignEach [tg] X.env).map (·.2) = [assign tg X.env] := by rfl) : PDS X (.Assign [tg] e pos) (dAsg t g) :=
  (ps_asg he hg hs hw h1).wk fun _ _ _ h => asg_in h
theorem pds_set (i : Nat) {x : Str} {t : DE} {pos' : Pos} (hN : X.N.Nodup) (he : PD X e t) (hi : X.N[i]? = some x := by rfl) (hx : Loc X.env.scope x := by first | exact Or.inl rfl | exact Or.inr rfl) (hs : swapsWith e (some (.Name x pos')) pos.line X.env = pure false := by rfl) (hf : X.fn x = true ∨ X.env.scope.names.lookup x = some .local := by first | exact .inl rfl | exact .inr rfl | assumption) :
    PDS X (.Assign [.Name x pos'] e pos) (dAsg t (dgName i)) := by
  refine (ps_set hN hi hx he hs hf).wk fun Ed σ H ⟨w, env, st, D, W, E, h, fn, fr⟩ => ?_
  exact ⟨w, env, st, _, W, E, h, fun d st1 v w1 H1 h1 l1 W1 R1 => fn _ _ _ _ _ h1 l1 W1 ((E.mono l1).set i R1)⟩
/-- a, b = x, y with plain local names: stored from the right -/
def dPar (i j : Nat) (t : DA) : DS := fun D env st => t env st fun ds s1 => match ds with
  | [d, e] => D.nx ((env.set i (some d)).set j (some e)) s1
  | _ => False
theorem pds_par (i j : Nat) {x y : Str} {t : DA} {px py pt : Pos} {kt k2 pt2} (hc : X.calm = true) (hN : X.N.Nodup) (ha : PDA X [a, b] t) (hi : X.N[i]? = some x := by rfl) (hj : X.N[j]? = some y := by rfl) (hij : i ≠ j := by decide)
    (hx : X.env.scope.names.lookup x = some .local := by rfl) (hy : X.env.scope.names.lookup y = some .local := by rfl)
    (hw : swappedStores [.Tuple [.Name x px, .Name y py] kt pt] (.Tuple [a, b] k2 pt2) X.env = pure (some [x, y]) := by rfl)
    (hs : swapsWithSole [.Tuple [.Name x px, .Name y py] kt pt] (.Tuple [a, b] k2 pt2) pos.line X.env = pure false := by rfl) :
    PDS X (.Assign [.Tuple [.Name x px, .Name y py] kt pt] (.Tuple [a, b] k2 pt2) pos) (dPar i j t) := by
  refine (ps_par hc hN hi hj hij hx hy ha hw hs).wk fun Ed σ H ⟨w, env, st, D, W, E, h, fn, fr⟩ => ?_
  refine ⟨w, env, st, _, W, E, h, fun ds st1 vs w1 H1 h1 l1 W1 R1 => ?_⟩
  match ds, h1, R1 with
  | [d, e], h1, R1 =>
    obtain ⟨v, r, rfl, Rv, R2⟩ := R1.inv
    obtain ⟨u, r', rfl, Ru, R3⟩ := R2.inv
    rw [R3.inv0]
    exact ⟨v, u, rfl, fn _ _ _ _ _ h1 l1 W1 (((E.mono l1).set i Rv).set j Ru)⟩
  | [], h1, _ => exact h1.elim
  | [_], h1, _ => exact h1.elim
  | _ :: _ :: _ :: _, h1, _ => exact h1.elim
end
end DL

/-! a tuple taken once -/
namespace DL
open PySem PySem.Spec PyProof.Rows L2
theorem tupOnce (a : Addr) (vs : Array Value) (n : Nat) (dd : Option Addr) (sl : Array (Option Value)) (u : Tok) :
    Meets (Builtin.«tuple.__mul__» ⟨[.ref a, .int 1 u], []⟩) (fun _ R z => z.heap.get? a = some { cls := .type "tuple", dict := dd, data := .seq vs n, slots := sl } ∧ R (.ok (.ret (Value.ref a))) z) :=
  .of_wp fun pr w A R z hh => by
    obtain ⟨hp, gs, dr, tk, os⟩ := z
    obtain ⟨hl, hh⟩ := hh
    have f1 := AutoSeq1.idx_int
    have c1 : (vs.isEmpty || (1 : Int) == 1) = true := by simp
    wp_walk using wpAny_loadPart' hl
    exact ⟨_, rfl, hh⟩
def rOnceT (K : PySem.W.Frag) : R2 := fun x y H Q => ∃ l xs, x = .ref l ∧ y = .int 1 ∧ SqT K H l xs ∧ Q (.ref l) H
theorem op_onceT {X : Cx} : OpR X (binaryOp .Mult) (rOnceT X.K) := by
  intro pins s σ H x y v u Q I rx ry h
  obtain ⟨l, xs, rfl, rfl, hT, q⟩ := h
  cases rx
  obtain ⟨t, rfl⟩ := ry
  obtain ⟨its, r, ⟨⟨cls, dd, data, sl⟩, ho, hc, n, hd⟩, hs⟩ := I.tuple hT
  simp only at hc hd
  subst hc hd
  refine wpAny_binaryOp_repeat_ref (T := "tuple") (U := "int") (by decide) ⟨_, ho, rfl⟩ (fun s' => typeIs_int s' 1 t) noFill_tuple_mul F.fills_int_mul F.slot_int_rmul repeat_tuple F.slot_int_index.lookup
    (call_meets F.slot_int_rmul (typeIs_int s 1 t) F.entry_int_rmul (F.args_int_rmul_2 _ _) (int_rmul_tuple 1 t l its.toArray n dd sl)
      ⟨ho, rfl, ⟨_, ho, rfl⟩, call_meets F.slot_tuple_mul ⟨_, ho, rfl⟩ F.entry_tuple_mul (F.args_tuple_mul_2 _ _) (tupOnce l its.toArray n dd sl t) ⟨ho, ?_⟩⟩)
  exact ⟨.ref l, H, I, rfl, q⟩
end DL

namespace DL
open PySem PySem.Spec PyProof.Rows L2
/-! ### operators by data -/
def MulOk (a b : Int) : Prop := (-(2 ^ 64) < a ∧ a < 2 ^ 64) ∨ (-(2 ^ 64) < b ∧ b < 2 ^ 64) ∨ a.natAbs.log2 + b.natAbs.log2 < 1000000
def DivOk (b : Int) : Prop := 0 < b ∧ b.natAbs.log2 < 9000
def PowOk (a b : Int) : Prop := 0 ≤ b ∧ b ≤ 1000000 ∧ a.natAbs < 2 ^ 64
def addD : F2 := fun d e st k => match d, e with
  | .int a, .int b => k (.int (a + b)) st
  | .int a, .bl b => k (.int (a + b2i b)) st
  | .bl a, .int b => k (.int (b2i a + b)) st
  | .str a, .str b => a.length + b.length ≤ 16777216 ∧ k (.str (a ++ b)) st
  | .tup a, .tup b => a.length + b.length ≤ 16777216 ∧ k (.tup (a ++ b)) st
  | d, e => match derefM st d, derefM st e with
    | some a, some b => a.length + b.length ≤ 16777216 ∧ k (.lst (a ++ b)) st
    | _, _ => False
def subD : F2 := fun d e st k => match d, e with
  | .int a, .int b => k (.int (a - b)) st
  | .int a, .bl b => k (.int (a - b2i b)) st
  | .bl a, .int b => k (.int (b2i a - b)) st
  | _, _ => False
def mulD : F2 := fun d e st k => match d, e with
  | .int a, .int b => MulOk a b ∧ k (.int (a * b)) st
  | .tup a, .int b => a ≠ [] ∧ 1 ≤ b ∧ b ≤ 1000 ∧ a.length ≤ 1000 ∧ k (.tup (List.replicate b.toNat a).flatten) st
  | .str z, .int b => 0 ≤ b ∧ b ≤ 1 ∧ k (.str (if b < 1 then Str.empty else z)) st
  | d, .int b => match derefM st d with
    | some a => -(2 ^ 63) ≤ b ∧ b < 2 ^ 63 ∧ a.length * b.toNat ≤ 16777216 ∧ k (.lst (List.replicate b.toNat a).flatten) st
    | none => False
  | _, _ => False
def divD : F2 := fun d e st k => match d, e with
  | .int a, .int b => DivOk b ∧ k (.int (a / b)) st
  | _, _ => False
def modD : F2 := fun d e st k => match d, e with
  | .int a, .int b => 0 < b ∧ k (.int (a % b)) st
  | _, _ => False
def powD : F2 := fun d e st k => match d, e with
  | .int a, .int b => PowOk a b ∧ k (.int (a ^ b.toNat)) st
  | _, _ => False
def negD : F1 := fun d st k => match d with
  | .int a => k (.int (-a)) st
  | _ => False

section
variable {X : Cx}
theorem rep_int {K : PySem.W.Frag} {w : Wd} {a : Int} : Rep K w (.int a) (.int a) := by simp only [Rep]
theorem rep_bl {K : PySem.W.Frag} {w : Wd} {a : Bool} : Rep K w (.bl a) (.bl a) := by simp only [Rep]
theorem rep_str {K : PySem.W.Frag} {w : Wd} {a : Str} : Rep K w (.str a) (.str a) := by simp only [Rep]
theorem rep_non {K : PySem.W.Frag} {w : Wd} : Rep K w .non .non := by simp only [Rep]
theorem OpR.wk {f : Value → Value → Sem Value} {r r' : R2} (h : OpR X f r) (i : ∀ x y H Q, r' x y H Q → r x y H Q) : OpR X f r' := fun pins s σ H x y v u Q I rx ry q => h pins s σ H x y v u Q I rx ry (i x y H Q q)
/-- a rule by cases of the data -/
theorem OpR.by_ {f : Value → Value → Sem Value} {g : F2}
    (h : ∀ (x y : V) (H : Hp) (Q : VK) (w : Wd) (st : Sto) (d e : D) (kk : DK), Wld X.K w st H → Rep X.K w d x → Rep X.K w e y → g d e st kk → Fol X.K w kk Q → ∃ r : R2, OpR X f r ∧ r x y H Q) : OpR X f (rD X.K g) :=
  fun pins s σ H x y v u Q I rx ry ⟨w, st, d, e, kk, W, R1, R2, q, fo⟩ => by
    obtain ⟨r, hr, q⟩ := h x y H Q w st d e kk W R1 R2 q fo
    exact hr pins s σ H x y v u Q I rx ry q
theorem cat_lists {w : Wd} {st : Sto} {H : Hp} {d e : D} {x y : V} {kk : DK} {Q : VK} {a b : List D} (W : Wld X.K w st H) (R1 : Rep X.K w d x) (R2 : Rep X.K w e y) (h1 : derefM st d = some a) (h2 : derefM st e = some b)
    (n : a.length + b.length ≤ 16777216) (k : kk (.lst (a ++ b)) st) (fo : Fol X.K w kk Q) : ∃ r : L2.R2, OpR X (binaryOp .Add) r ∧ r x y H Q := by
  obtain ⟨p, vs, rfl, q1, r1, _⟩ := rep_lstM W R1 h1
  obtain ⟨p2, us, rfl, q2, r2, _⟩ := rep_lstM W R2 h2
  have n' : vs.length + us.length ≤ sizeLine := by rw [r1.length, r2.length]; exact line16 n
  exact ⟨rCat, op_cat, p, p2, vs, us, rfl, rfl, q1, q2, n', fol_lst W (r1.append r2) (by rw [List.length_append]; exact n') k fo⟩
theorem op_add_bi : OpR X (binaryOp .Add) (fun x y H Q => ∃ k i, x = .bl k ∧ y = .int i ∧ Q (.int (b2i k + i)) H) := by
  rintro pins s σ H x y v u Q I rx ry ⟨k, i, rfl, rfl, q⟩
  obtain ⟨t, rfl⟩ := ry
  cases rx
  exact PySem.IntBool.add_bool_int ⟨.int (b2i k + i), H, I.tok _, ⟨_, rfl⟩, q⟩
theorem op_sub_bi : OpR X (binaryOp .Sub) (fun x y H Q => ∃ k i, x = .bl k ∧ y = .int i ∧ Q (.int (b2i k - i)) H) := by
  rintro pins s σ H x y v u Q I rx ry ⟨k, i, rfl, rfl, q⟩
  obtain ⟨t, rfl⟩ := ry
  cases rx
  exact PySem.IntBool.sub_bool_int ⟨.int (b2i k - i), H, I.tok _, ⟨_, rfl⟩, q⟩
theorem op_sub_ib : OpR X (binaryOp .Sub) (fun x y H Q => ∃ i k, x = .int i ∧ y = .bl k ∧ Q (.int (i - b2i k)) H) := by
  rintro pins s σ H x y v u Q I rx ry ⟨i, k, rfl, rfl, q⟩
  obtain ⟨t, rfl⟩ := rx
  cases ry
  exact PySem.IntBool.sub_int_bool ⟨.int (i - b2i k), H, I.tok _, ⟨_, rfl⟩, q⟩
theorem dop_add : OpR X (binaryOp .Add) (rD X.K addD) := by
  refine OpR.by_ fun x y H Q w st d e kk W R1 R2 q fo => ?_
  unfold addD at q
  split at q
  · rename_i a b
    simp only [Rep] at R1 R2
    exact ⟨_, op_add, a, b, R1, R2, fo.id q W rep_int⟩
  · rename_i a b
    simp only [Rep] at R1 R2
    exact ⟨_, op_add_ib, a, b, R1, R2, fo.id q W rep_int⟩
  · rename_i a b
    simp only [Rep] at R1 R2
    exact ⟨_, op_add_bi, a, b, R1, R2, fo.id q W rep_int⟩
  · rename_i a b
    simp only [Rep] at R1 R2
    exact ⟨_, op_add_str, a, b, R1, R2, line16 q.1, fo.id q.2 W rep_str⟩
  · rename_i a b
    obtain ⟨p, vs, rfl, q1, r1, _⟩ := rep_tup W R1 rfl
    obtain ⟨p2, us, rfl, q2, r2, _⟩ := rep_tup W R2 rfl
    have n' : vs.length + us.length ≤ sizeLine := by rw [r1.length, r2.length]; exact line16 q.1
    refine ⟨rCatA X.K, op_catA, p, p2, vs, us, rfl, rfl, q1, q2, n', fun e => ?_, fun _ e => ?_, fun _ _ => fol_tup W (r1.append r2) (by rw [List.length_append]; exact n') q.2 fo⟩
    · have ea : a = [] := by
        have := r1.length
        rw [e] at this
        exact List.eq_nil_of_length_eq_zero this.symm
      subst ea
      exact fo.id q.2 W R2
    · have eb : b = [] := by
        have := r2.length
        rw [e] at this
        exact List.eq_nil_of_length_eq_zero this.symm
      subst eb
      refine fo.id q.2 W ?_
      rw [List.append_nil]
      exact R1
  · split at q
    · rename_i a b h1 h2
      exact cat_lists W R1 R2 h1 h2 q.1 q.2 fo
    · exact q.elim
theorem MulOk.ok {a b : Int} (h : MulOk a b) : IntMulOk a b := by
  rcases h with h | h | h
  · exact CMul.ok (.inl h)
  · exact CMul.ok (.inr h)
  · exact CMulW.ok h
theorem op_mulD : OpR X (binaryOp .Mult) (rI MulOk fun i j => .int (i * j)) := opI fun _ _ _ _ _ _ _ hc q => mul_int q hc.ok
theorem op_mul_str : OpR X (binaryOp .Mult) (fun x y H Q => ∃ (z : Str) (i : Int), x = .str z ∧ y = .int i ∧ 0 ≤ i ∧ i ≤ 1 ∧ Q (.str (if i < 1 then Str.empty else z)) H) := by
  rintro pins s σ H x y v u Q I rx ry ⟨z, i, rfl, rfl, h0, h1, q⟩
  obtain ⟨t, rfl⟩ := rx
  obtain ⟨t', rfl⟩ := ry
  rcases (show i = 0 ∨ i = 1 by omega) with rfl | rfl
  · exact P.mul_str_none (by decide) (by decide) ⟨.str Str.empty, H, I.tok _, ⟨_, rfl⟩, q⟩
  · exact P.mul_str (by decide) (fun _ h => by simp at h) (fun _ h => by simp at h) (by
      rw [if_neg (by decide), if_pos (by simp)]
      exact ⟨.str z, H, I, ⟨_, rfl⟩, q⟩)
theorem dop_mul : OpR X (binaryOp .Mult) (rD X.K mulD) := by
  refine OpR.by_ fun x y H Q w st d e kk W R1 R2 q fo => ?_
  unfold mulD at q
  split at q
  · simp only [Rep] at R1 R2
    exact ⟨_, op_mulD, _, _, R1, R2, q.1, fo.id q.2 W rep_int⟩
  · rename_i a b
    obtain ⟨p, vs, rfl, q1, r1, _⟩ := rep_tup W R1 rfl
    simp only [Rep] at R2
    obtain ⟨ne, h1, h2, h3, q⟩ := q
    have nv : vs ≠ [] := fun z => ne (by
      have := r1.length
      rw [z] at this
      exact List.eq_nil_of_length_eq_zero this.symm)
    by_cases hb : b = 1
    · subst hb
      refine ⟨_, op_onceT, p, vs, rfl, R2, q1, fo.id q W ?_⟩
      have e : (List.replicate (1 : Int).toNat a).flatten = a := by
        show (List.replicate 1 a).flatten = a
        simp
      rw [e]
      exact R1
    have h1 : 2 ≤ b := by omega
    refine ⟨rRepT X.K, op_repT, p, b, vs, rfl, R2, q1, nv, h1, h2, by rw [r1.length]; exact h3, ?_⟩
    refine fol_tup W (r1.rep b.toNat) ?_ q fo
    rw [PyProof.Rows.lm_len_rep_flat, sizeLine_eq, r1.length]
    have a1 : b.toNat * a.length ≤ 1000 * 1000 := Nat.mul_le_mul (by omega) h3
    omega
  · rename_i z b
    simp only [Rep] at R1 R2
    obtain ⟨h0, h1, q⟩ := q
    exact ⟨_, op_mul_str, z, b, R1, R2, h0, h1, fo.id q W rep_str⟩
  · split at q
    · rename_i a ha
      simp only [Rep] at R2
      obtain ⟨p, vs, rfl, q1, r1, _⟩ := rep_lstM W R1 ha
      obtain ⟨h1, h2, h3, q⟩ := q
      have n' := line16 h3
      rw [← r1.length] at n'
      refine ⟨rRep, op_rep, p, _, vs, rfl, R2, q1, h1, h2, n', fol_lst W (r1.rep _) ?_ q fo⟩
      rw [PyProof.Rows.lm_len_rep_flat, Nat.mul_comm]
      exact n'
    · exact q.elim
  · exact q.elim
theorem dop_sub : OpR X (binaryOp .Sub) (rD X.K subD) := by
  refine OpR.by_ fun x y H Q w st d e kk W R1 R2 q fo => ?_
  unfold subD at q
  split at q
  · simp only [Rep] at R1 R2
    exact ⟨_, op_sub, _, _, R1, R2, fo.id q W rep_int⟩
  · simp only [Rep] at R1 R2
    exact ⟨_, op_sub_ib, _, _, R1, R2, fo.id q W rep_int⟩
  · simp only [Rep] at R1 R2
    exact ⟨_, op_sub_bi, _, _, R1, R2, fo.id q W rep_int⟩
  · exact q.elim
theorem dop_div : OpR X (binaryOp .FloorDiv) (rD X.K divD) := by
  refine OpR.by_ fun x y H Q w st d e kk W R1 R2 q fo => ?_
  unfold divD at q
  split at q
  · simp only [Rep] at R1 R2
    exact ⟨_, op_fdivW, _, _, R1, R2, q.1, fo.id q.2 W rep_int⟩
  · exact q.elim
theorem dop_mod : OpR X (binaryOp .Mod) (rD X.K modD) := by
  refine OpR.by_ fun x y H Q w st d e kk W R1 R2 q fo => ?_
  unfold modD at q
  split at q
  · simp only [Rep] at R1 R2
    exact ⟨_, op_mod, _, _, R1, R2, q.1, fo.id q.2 W rep_int⟩
  · exact q.elim
theorem dop_pow : OpR X (binaryOp .Pow) (rD X.K powD) := by
  refine OpR.by_ fun x y H Q w st d e kk W R1 R2 q fo => ?_
  unfold powD at q
  split at q
  · simp only [Rep] at R1 R2
    exact ⟨_, op_pow, _, _, R1, R2, q.1, fo.id q.2 W rep_int⟩
  · exact q.elim
theorem dun_neg : UnR X (unaryOp .USub) (rD1 X.K negD) := by
  rintro pins s σ H x v Q I rx ⟨w, st, d, kk, W, R1, q, fo⟩
  unfold negD at q
  split at q
  · simp only [Rep] at R1
    exact un_neg pins s σ H x v Q I rx ⟨_, R1, fo.id q W rep_int⟩
  · exact q.elim

/-! ### comparisons -/
mutual
def eqD : D → D → Bool
  | .non, .non => true
  | .bl a, .bl b => a == b
  | .bl a, .int j => (if a then 1 else 0) == j
  | .int i, .bl b => i == (if b then 1 else 0)
  | .int i, .int j => i == j
  | .str x, .str y => x == y
  | .lst xs, .lst ys => eqDs xs ys
  | .tup xs, .tup ys => eqDs xs ys
  | _, _ => false
def eqDs : List D → List D → Bool
  | [], [] => true
  | x :: xs, y :: ys => eqD x y && eqDs xs ys
  | _, _ => false
end
mutual
/-- data that == goes through: no list of the store within, so deep at most -/
def okD : Nat → D → Bool
  | _, .non => true
  | _, .bl _ => true
  | _, .int _ => true
  | _, .str x => PyData.strOk x
  | 0, .lst _ => false
  | n + 1, .lst xs => okDs n xs
  | 0, .tup _ => false
  | n + 1, .tup xs => okDs n xs
  | _, .klst _ => false
  | _, .obj _ => false
  | _, .dic _ _ => false
  | _, .fdic _ _ => false
  | _, .gtup _ => false
def okDs : Nat → List D → Bool
  | _, [] => true
  | n, x :: xs => okD n x && okDs n xs
end
mutual
def toP : D → PyData
  | .non => .none
  | .bl b => .bool b
  | .int i => .int i
  | .str x => .str x
  | .lst xs => .list (toPs xs)
  | .tup xs => .tuple (toPs xs)
  | .klst _ => .none
  | .obj _ => .none
  | .dic _ _ => .none
  | .fdic _ _ => .none
  | .gtup _ => .none
def toPs : List D → List PyData
  | [] => []
  | x :: xs => toP x :: toPs xs
end
mutual
theorem eqv_toP : ∀ (n m : Nat) (a b : D), okD n a = true → okD m b = true → PyData.eqv (toP a) (toP b) = eqD a b
  | n, m, .lst xs, .lst ys, h, g => by
    cases n with
    | zero => simp [okD] at h
    | succ n =>
      cases m with
      | zero => simp [okD] at g
      | succ m =>
        simp only [okD] at h g
        simp only [toP, PyData.eqv, eqD]
        exact eqv_toPs n m xs ys h g
  | n, m, .tup xs, .tup ys, h, g => by
    cases n with
    | zero => simp [okD] at h
    | succ n =>
      cases m with
      | zero => simp [okD] at g
      | succ m =>
        simp only [okD] at h g
        simp only [toP, PyData.eqv, eqD]
        exact eqv_toPs n m xs ys h g
  | n, m, .klst xs, _, h, g => by cases n <;> simp [okD] at h
  | n, m, .obj xs, _, h, g => by cases n <;> simp [okD] at h
  | n, m, .dic _ _, _, h, g => by cases n <;> simp [okD] at h
  | n, m, .fdic _ _, _, h, g => by cases n <;> simp [okD] at h
  | n, m, .gtup _, _, h, g => by cases n <;> simp [okD] at h
  | n, m, _, .klst xs, h, g => by cases m <;> simp [okD] at g
  | n, m, _, .obj xs, h, g => by cases m <;> simp [okD] at g
  | n, m, _, .dic _ _, h, g => by cases m <;> simp [okD] at g
  | n, m, _, .fdic _ _, h, g => by cases m <;> simp [okD] at g
  | n, m, _, .gtup _, h, g => by cases m <;> simp [okD] at g
  | n, m, .non, b, h, g => by cases b <;> (first | (simp [toP, PyData.eqv, eqD]; done) | (cases m <;> simp [okD] at g))
  | n, m, .bl _, b, h, g => by cases b <;> (first | (simp [toP, PyData.eqv, eqD]; done) | (cases m <;> simp [okD] at g))
  | n, m, .int _, b, h, g => by cases b <;> (first | (simp [toP, PyData.eqv, eqD]; done) | (cases m <;> simp [okD] at g))
  | n, m, .str _, b, h, g => by cases b <;> (first | (simp [toP, PyData.eqv, eqD]; done) | (cases m <;> simp [okD] at g))
  | n, m, .lst _, .non, h, g => by simp [toP, PyData.eqv, eqD]
  | n, m, .lst _, .bl _, h, g => by simp [toP, PyData.eqv, eqD]
  | n, m, .lst _, .int _, h, g => by simp [toP, PyData.eqv, eqD]
  | n, m, .lst _, .str _, h, g => by simp [toP, PyData.eqv, eqD]
  | n, m, .lst _, .tup _, h, g => by simp [toP, PyData.eqv, eqD]
  | n, m, .tup _, .non, h, g => by simp [toP, PyData.eqv, eqD]
  | n, m, .tup _, .bl _, h, g => by simp [toP, PyData.eqv, eqD]
  | n, m, .tup _, .int _, h, g => by simp [toP, PyData.eqv, eqD]
  | n, m, .tup _, .str _, h, g => by simp [toP, PyData.eqv, eqD]
  | n, m, .tup _, .lst _, h, g => by simp [toP, PyData.eqv, eqD]
theorem eqv_toPs : ∀ (n m : Nat) (a b : List D), okDs n a = true → okDs m b = true → PyData.eqvAll (toPs a) (toPs b) = eqDs a b
  | n, m, [], [], _, _ => by simp [toPs, PyData.eqvAll, eqDs]
  | n, m, [], _ :: _, _, _ => by simp [toPs, PyData.eqvAll, eqDs]
  | n, m, _ :: _, [], _, _ => by simp [toPs, PyData.eqvAll, eqDs]
  | n, m, x :: xs, y :: ys, h, g => by
    simp only [okDs, Bool.and_eq_true] at h g
    simp only [toPs, PyData.eqvAll, eqDs]
    rw [eqv_toP n m x y h.1 g.1, eqv_toPs n m xs ys h.2 g.2]
end
mutual
theorem shape_toP : ∀ (n : Nat) (a : D), okD n a = true → (toP a).canLay0 = true ∧ (toP a).depth ≤ n
  | n, .non, _ => by simp [toP, PyData.canLay0, PyData.depth]
  | n, .bl _, _ => by simp [toP, PyData.canLay0, PyData.depth]
  | n, .int _, _ => by simp [toP, PyData.canLay0, PyData.depth]
  | n, .str x, h => by
    have h' : PyData.strOk x = true := by cases n <;> simpa only [okD] using h
    simp [toP, PyData.canLay0, PyData.depth, h']
  | n, .klst xs, h => by cases n <;> simp [okD] at h
  | n, .obj xs, h => by cases n <;> simp [okD] at h
  | n, .dic _ _, h => by cases n <;> simp [okD] at h
  | n, .fdic _ _, h => by cases n <;> simp [okD] at h
  | n, .gtup _, h => by cases n <;> simp [okD] at h
  | 0, .lst xs, h => by simp [okD] at h
  | n + 1, .lst xs, h => by
    simp only [okD] at h
    obtain ⟨h1, h2⟩ := shape_toPs n xs h
    simp only [toP, PyData.canLay0, PyData.depth]
    exact ⟨h1, by omega⟩
  | 0, .tup xs, h => by simp [okD] at h
  | n + 1, .tup xs, h => by
    simp only [okD] at h
    obtain ⟨h1, h2⟩ := shape_toPs n xs h
    simp only [toP, PyData.canLay0, PyData.depth]
    exact ⟨h1, by omega⟩
theorem shape_toPs : ∀ (n : Nat) (a : List D), okDs n a = true → PyData.canLayAll0 (toPs a) = true ∧ PyData.depthAll (toPs a) ≤ n
  | n, [], _ => by simp [toPs, PyData.canLayAll0, PyData.depthAll]
  | n, x :: xs, h => by
    simp only [okDs, Bool.and_eq_true] at h
    obtain ⟨h1, h2⟩ := shape_toP n x h.1
    obtain ⟨h3, h4⟩ := shape_toPs n xs h.2
    simp only [toPs, PyData.canLayAll0, PyData.depthAll, Bool.and_eq_true]
    exact ⟨⟨h1, h3⟩, Nat.max_le.mpr ⟨h2, h4⟩⟩
end
mutual
theorem dp_of {K : PySem.W.Frag} {w : Wd} {H : Hp} (s : Same w.G H) : ∀ (n : Nat) (a : D) (v : V), okD n a = true → Rep K w a v → Dp K H v (toP a)
  | n, .non, v, _, R => by
    simp only [Rep] at R
    subst R
    simp only [toP]
    exact .non
  | n, .bl _, v, _, R => by
    simp only [Rep] at R
    subst R
    simp only [toP]
    exact .bl _
  | n, .int _, v, _, R => by
    simp only [Rep] at R
    subst R
    simp only [toP]
    exact .int _
  | n, .str _, v, _, R => by
    simp only [Rep] at R
    subst R
    simp only [toP]
    exact .str _
  | n, .klst xs, _, h, _ => by cases n <;> simp [okD] at h
  | n, .obj xs, _, h, _ => by cases n <;> simp [okD] at h
  | n, .dic _ _, _, h, _ => by cases n <;> simp [okD] at h
  | n, .fdic _ _, _, h, _ => by cases n <;> simp [okD] at h
  | n, .gtup _, _, h, _ => by cases n <;> simp [okD] at h
  | 0, .lst xs, _, h, _ => by simp [okD] at h
  | n + 1, .lst xs, v, h, R => by
    simp only [okD] at h
    simp only [Rep] at R
    obtain ⟨a, vs, rfl, q, r⟩ := R
    simp only [toP]
    exact .lst (.of (s _ _ q)) (dps_of s n xs vs h r)
  | 0, .tup xs, _, h, _ => by simp [okD] at h
  | n + 1, .tup xs, v, h, R => by
    simp only [okD] at h
    simp only [Rep] at R
    obtain ⟨a, vs, rfl, q, r⟩ := R
    simp only [toP]
    exact .tup (.of (s _ _ q)) (dps_of s n xs vs h r)
theorem dps_of {K : PySem.W.Frag} {w : Wd} {H : Hp} (s : Same w.G H) : ∀ (n : Nat) (a : List D) (vs : List V), okDs n a = true → Reps K w a vs → DpAll K H vs (toPs a)
  | n, [], vs, _, R => by
    rw [R.inv0]
    simp only [toPs]
    exact .nil
  | n, x :: xs, vs, h, R => by
    simp only [okDs, Bool.and_eq_true] at h
    obtain ⟨v, r, rfl, R1, R2⟩ := R.inv
    simp only [toPs]
    exact .cons (dp_of s n x v h.1 R1) (dps_of s n xs r h.2 R2)
end
theorem dp_deref {K : PySem.W.Frag} {w : Wd} {st : Sto} {H : Hp} {d : D} {v : V} (W : Wld K w st H) (R : Rep K w d v) (ok : okD 60 (deref st d) = true) : Dp K H v (toP (deref st d)) := by
  cases e : deref st d with
  | lst xs =>
    obtain ⟨a, vs, rfl, q, r, _⟩ := rep_lst W R e
    rw [e] at ok
    simp only [okD] at ok
    simp only [toP]
    exact .lst q (dps_of W.same 59 xs vs ok r)
  | obj i =>
    rw [e] at ok
    simp [okD] at ok
  | tup xs =>
    obtain ⟨a, vs, rfl, q, r, _⟩ := rep_tup W R e
    rw [e] at ok
    simp only [okD] at ok
    simp only [toP]
    exact .tup q (dps_of W.same 59 xs vs ok r)
  | _ =>
    rw [e] at ok
    have z := deref_self e (fun _ z => by cases z) (fun _ z => by cases z)
    first
      | (rw [z] at R; exact dp_of W.same 60 _ v ok R)
      | (simp [okD] at ok)
def eqOp (neg : Bool) : F2 := fun d e st k => okD 60 (deref st d) = true ∧ okD 60 (deref st e) = true ∧ k (.bl (if neg then !eqD (deref st d) (deref st e) else eqD (deref st d) (deref st e))) st
theorem shaped_of {a : D} (h : okD 60 a = true) : SeqAt.shaped (toP a) = true := by
  obtain ⟨h1, h2⟩ := shape_toP 60 a h
  unfold SeqAt.shaped
  rw [h1, decide_eq_true (by omega)]
  rfl
theorem dop_eq (hu : X.A.units + 64 < cLine) : OpR X (compareOp .Eq) (rD X.K (eqOp false)) := by
  refine OpR.by_ fun x y H Q w st d e kk W R1 R2 q fo => ?_
  obtain ⟨h1, h2, q⟩ := q
  refine ⟨rEqD X.K, op_eqD hu, _, _, dp_deref W R1 h1, dp_deref W R2 h2, shaped_of h1, shaped_of h2, ?_⟩
  rw [eqv_toP 60 60 _ _ h1 h2]
  exact fo.id q W rep_bl
theorem dop_ne (hu : X.A.units + 64 < cLine) : OpR X (compareOp .NotEq) (rD X.K (eqOp true)) := by
  refine OpR.by_ fun x y H Q w st d e kk W R1 R2 q fo => ?_
  obtain ⟨h1, h2, q⟩ := q
  refine ⟨rNeD X.K, op_neD hu, _, _, dp_deref W R1 h1, dp_deref W R2 h2, shaped_of h1, shaped_of h2, ?_⟩
  rw [eqv_toP 60 60 _ _ h1 h2]
  exact fo.id q W rep_bl
def cmpI (p : Int → Int → Bool) : F2 := fun d e st k => match d, e with
  | .int a, .int b => k (.bl (p a b)) st
  | _, _ => False
theorem dop_cmpI {op : CmpOp} {p : Int → Int → Bool} (h : OpR X (compareOp op) (rI0 fun i j => .bl (p i j))) : OpR X (compareOp op) (rD X.K (cmpI p)) := by
  refine OpR.by_ fun x y H Q w st d e kk W R1 R2 q fo => ?_
  unfold cmpI at q
  split at q
  · simp only [Rep] at R1 R2
    exact ⟨_, h, _, _, R1, R2, fo.id q W rep_bl⟩
  · exact q.elim
theorem dop_lt : OpR X (compareOp .Lt) (rD X.K (cmpI fun i j => decide (i < j))) := dop_cmpI op_lt
theorem dop_gt : OpR X (compareOp .Gt) (rD X.K (cmpI fun i j => decide (j < i))) := dop_cmpI op_gt
theorem dop_ge : OpR X (compareOp .GtE) (rD X.K (cmpI fun i j => decide (j ≤ i))) := dop_cmpI op_ge
def isNon : D → Bool
  | .non => true
  | _ => false
def isOp (neg : Bool) : F2 := fun d e st k => match e with
  | .non => k (.bl (if neg then !isNon d else isNon d)) st
  | .bl b => match d with
    | .bl a => k (.bl (if neg then !(a == b) else a == b)) st
    | _ => False
  | _ => False
theorem op_isB {X : Cx} : OpR X (compareOp .Is) (fun x y H Q => ∃ a b, x = .bl a ∧ y = .bl b ∧ Q (.bl (a == b)) H) := by
  rintro pins s σ H x y v u Q I rx ry ⟨a, b, rfl, rfl, q⟩
  cases (show v = Value.bool a from rx)
  cases (show u = Value.bool b from ry)
  exact wpAny_is_plain (by cases a <;> cases b <;> rfl) (fin_bl I q (by cases a <;> cases b <;> rfl))
theorem isNon_rep {K : PySem.W.Frag} {w : Wd} {d : D} {v : V} (R : Rep K w d v) : decide (v = .non) = isNon d := by
  cases d with
  | non => simp only [Rep] at R; subst R; rfl
  | bl _ => simp only [Rep] at R; subst R; rfl
  | int _ => simp only [Rep] at R; subst R; rfl
  | str _ => simp only [Rep] at R; subst R; rfl
  | lst _ => simp only [Rep] at R; obtain ⟨_, _, rfl, _⟩ := R; rfl
  | klst _ => simp only [Rep] at R; obtain ⟨_, _, rfl, _⟩ := R; rfl
  | tup _ => simp only [Rep] at R; obtain ⟨_, _, rfl, _⟩ := R; rfl
  | obj _ => simp only [Rep] at R; obtain ⟨_, rfl, _⟩ := R; rfl
  | dic _ _ => simp only [Rep] at R; obtain ⟨_, rfl, _⟩ := R; rfl
  | fdic t _ => rcases t with (_ | _) | _ | _ <;> (simp only [Rep] at R; first | (obtain ⟨_, _, rfl, _⟩ := R; rfl) | (obtain ⟨_, _, _, rfl, _⟩ := R; rfl) | (obtain ⟨_, _, _, _, rfl, _⟩ := R; rfl))
  | gtup _ => simp only [Rep] at R; obtain ⟨_, _, rfl, _⟩ := R; rfl
theorem dop_is : OpR X (compareOp .Is) (rD X.K (isOp false)) := by
  refine OpR.by_ fun x y H Q w st d e kk W R1 R2 q fo => ?_
  unfold isOp at q
  split at q
  · simp only [Rep] at R2
    refine ⟨_, op_isN, R2, ?_⟩
    rw [isNon_rep R1]
    exact fo.id q W rep_bl
  · split at q
    · simp only [Rep] at R1 R2
      exact ⟨_, op_isB, ⟨_, _, R1, R2, fo.id q W rep_bl⟩⟩
    · exact q.elim
  · exact q.elim
/-! ### chained comparisons -/
variable {a b c : Expr} {pos : Pos} {ta tb tc : DE}
/-! ### subscripts, slices -/
def ixD : F2 := fun d e st k => match e with
  | .int i => match deref st d with
    | .lst xs => ∃ x, atI xs i = some x ∧ k x st
    | .tup xs => ∃ x, atI xs i = some x ∧ k x st
    | .str z => z.length ≤ 16777216 ∧ ∃ c, atI z.cps.toList i = some c ∧ k (.str ⟨#[c]⟩) st
    | _ => False
  | _ => False
theorem atI_rep {K : PySem.W.Frag} {w : Wd} {xs : List D} {vs : List V} {i : Int} {x : D} (r : Reps K w xs vs) (h : atI xs i = some x) : ∃ v, atI vs i = some v ∧ Rep K w x v := by
  unfold atI at h ⊢
  rw [← r.length] at h
  cases e : ixN vs.length i with
  | none => rw [e] at h; cases h
  | some j =>
    rw [e] at h
    obtain ⟨v, e1, e2⟩ := r.get (i := j) (d := x) h
    exact ⟨v, e1, e2⟩
theorem dix : IxR X (rD X.K ixD) := by
  rintro value slice pins s σ H x y v u Q I rx ry ⟨w, st, d, e, kk, W, R1, R2, q, fo⟩ hs
  unfold ixD at q
  split at q
  · rename_i i
    simp only [Rep] at R2
    split at q
    · rename_i xs hd
      obtain ⟨z, hz, q⟩ := q
      obtain ⟨p, vs, e1, q1, r1, _⟩ := rep_lst W R1 hd
      obtain ⟨zv, hv, rz⟩ := atI_rep r1 hz
      exact ix_list value slice pins s σ H x y v u Q I rx ry ⟨p, vs, i, zv, e1, R2, q1, hv, fo.id q W rz⟩ hs
    · rename_i xs hd
      obtain ⟨z, hz, q⟩ := q
      obtain ⟨p, vs, e1, q1, r1, _⟩ := rep_tup W R1 hd
      obtain ⟨zv, hv, rz⟩ := atI_rep r1 hz
      exact ix_tup value slice pins s σ H x y v u Q I rx ry ⟨p, vs, i, zv, e1, R2, q1, hv, fo.id q W rz⟩ hs
    · rename_i z hd
      obtain ⟨hz, c, hc, q⟩ := q
      have e0 := deref_self hd (fun _ z => by cases z) (fun _ z => by cases z)
      subst e0
      simp only [Rep] at R1
      exact ix_str value slice pins s σ H x y v u Q I rx ry ⟨z, i, c, R1, R2, line16 hz, hc, fo.id q W rep_str⟩ hs
    · exact q.elim
  · exact q.elim
theorem pd_ix (ha : PD X a ta) (hb : PD X b tb) (hs : PlainIx b := by exact fun _ _ => rfl) : PD X (.Subscript a b pos) (dOp ixD ta tb) :=
  (pe_ix dix ha hb hs).wk fun _ _ _ h => d2_in h
/-- the items of xs[lo:hi] -/
def cutD {α : Type} (xs : List α) (lo hi : Option Int) : List α := (xs.drop (HT.sIx xs.length 0 lo)).take (HT.sIx xs.length xs.length hi - HT.sIx xs.length 0 lo)
abbrev DO := Env → Sto → (Option Int → Sto → Prop) → Prop
def tDO (K : PySem.W.Frag) (t : DO) : TO := fun σ H Q => ∃ w env st kk, Wld K w st H ∧ EnvR K w env σ ∧ t env st kk ∧ ∀ o st' w' H', kk o st' → Le w w' → Wld K w' st' H' → Q o H'
abbrev PDO (X : Cx) (e : Option Expr) (t : DO) : Prop := PO X e (tDO X.K t)
theorem _root_.L2.PO.wk {X : Cx} {e : Option Expr} {t t' : TO} (h : PO X e t) (i : ∀ σ H Q, t' σ H Q → t σ H Q) : PO X e t' := ⟨fun pins s σ H Q I q => h.run pins s σ H Q I (i σ H Q q)⟩
def dNo : DO := fun _ st k => k none st
def dSome (t : DE) : DO := fun env st k => t env st fun d s1 => match d with
  | .int i => k (some i) s1
  | _ => False
theorem pdo_none : PDO X none dNo := po_none.wk fun σ H Q ⟨w, env, st, kk, W, E, h, fo⟩ => fo _ _ _ _ h (.refl _) W
theorem pdo_some {e : Expr} (h : PD X e ta) : PDO X (some e) (dSome ta) := by
  refine (po_some h).wk fun σ H Q ⟨w, env, st, kk, W, E, h, fo⟩ => ?_
  refine ⟨w, env, st, _, W, E, h, fun d st1 v w1 H1 h1 l1 W1 R1 => ?_⟩
  cases d with
  | int i =>
    simp only [Rep] at R1
    exact ⟨i, R1, fo _ _ _ _ h1 l1 W1⟩
  | _ => exact h1.elim
def cutOp (d : D) (lo hi : Option Int) (st : Sto) (k : DK) : Prop := match deref st d with
  | .lst xs => k (.lst (cutD xs lo hi)) st
  | .tup xs => noG d (k (.tup (cutD xs lo hi)) st)
  | .str z => z.length ≤ 16777216 ∧ k (.str (L2.cutS z lo hi)) st
  | _ => False
theorem cut_reps {K : PySem.W.Frag} {w : Wd} {xs : List D} {vs : List V} (r : Reps K w xs vs) (lo hi : Option Int) : Reps K w (cutD xs lo hi) (cutV vs lo hi) := by
  unfold cutD cutV
  rw [← r.length]
  exact (r.drop _).take _
def rCut (K : PySem.W.Frag) (f : D → Option Int → Option Int → Sto → DK → Prop) : V → Option Int → Option Int → Hp → VK → Prop := fun x lo hi H Q => ∃ w st d kk, Wld K w st H ∧ Rep K w d x ∧ f d lo hi st kk ∧ Fol K w kk Q
theorem cutV_le (vs : List V) (lo hi : Option Int) (h : vs.length ≤ sizeLine) : (cutV vs lo hi).length ≤ sizeLine := Nat.le_trans (cutV_length vs lo hi) h
theorem sl_cut : SlR X (rCut X.K cutOp) := by
  rintro pins s σ H x v vl vu lo hi sl Q I rx hs pl pu ⟨w, st, d, kk, W, R1, q, fo⟩
  unfold cutOp at q
  split at q
  · rename_i xs hd
    obtain ⟨p, vs, e1, q1, r1, n⟩ := rep_lst W R1 hd
    exact sl_list pins s σ H x v vl vu lo hi sl Q I rx hs pl pu ⟨p, vs, e1, q1, fol_lst W (cut_reps r1 lo hi) (cutV_le vs lo hi n) q fo⟩
  · rename_i xs hd
    obtain ⟨p, vs, e1, q1, r1, n⟩ := rep_tup W R1 hd
    obtain ⟨ng, q⟩ := noG_of q
    refine sl_tupA pins s σ H x v vl vu lo hi sl Q I rx hs pl pu ⟨p, vs, e1, q1, fun hw => ?_, fun _ => fol_tup W (cut_reps r1 lo hi) (cutV_le vs lo hi n) q fo⟩
    have ec : cutD xs lo hi = xs := by
      unfold cutD
      rw [← r1.length, hw.1, hw.2, List.drop_zero, r1.length, Nat.sub_zero, List.take_length]
    refine fo.id q W ?_
    rw [ec]
    have e0 := deref_tup hd ng
    rw [← e0, ← e1]
    exact R1
  · rename_i z hd
    have e0 : d = .str z := by
      cases d <;> simp only [deref] at hd <;> first | exact hd | (cases hd) | (split at hd <;> cases hd)
    subst e0
    simp only [Rep] at R1
    exact sl_str pins s σ H x v vl vu lo hi sl Q I rx hs pl pu ⟨z, R1, line16 q.1, fo.id q.2 W rep_str⟩
  · exact q.elim
def dCut (f : D → Option Int → Option Int → Sto → DK → Prop) (t : DE) (l h : DO) : DE := fun env st k => t env st fun d s1 => l env s1 fun lo s2 => h env s2 fun hi s3 => f d lo hi s3 k
theorem pd_cut {f : D → Option Int → Option Int → Sto → DK → Prop} {lo hi : Option Expr} {tl th : DO} {p2 : Pos} (hf : SlR X (rCut X.K f)) (he : PD X a ta) (hl : PDO X lo tl) (hu : PDO X hi th) : PD X (.Subscript a (.Slice lo hi none p2) pos) (dCut f ta tl th) := by
  refine (pe_slice hf he hl hu).wk fun σ H Q ⟨w, env, st, kk, W, E, h, fo⟩ => ?_
  exact ⟨w, env, st, _, W, E, h, fun d st1 v w1 H1 h1 l1 W1 R1 => ⟨w1, env, st1, _, W1, E.mono l1, h1, fun lo st2 w2 H2 h2 l2 W2 =>
    ⟨w2, env, st2, _, W2, (E.mono l1).mono l2, h2, fun hi st3 w3 H3 h3 l3 W3 => ⟨w3, st3, d, kk, W3, Rep.mono (l2.trans l3) _ _ R1, h3, fo.le ((l1.trans l2).trans l3)⟩⟩⟩⟩

/-! ### built-ins called -/
abbrev FB := List D → Sto → DK → Prop
def rDB (K : PySem.W.Frag) (f : FB) : List V → Hp → VK → Prop := fun vs H Q => ∃ w st ds kk, Wld K w st H ∧ Reps K w ds vs ∧ f ds st kk ∧ Fol K w kk Q
def dB (f : FB) (t : DA) : DE := fun env st k => t env st fun ds s1 => f ds s1 k
variable {e : Expr} {es : List Expr} {x : Str} {p : Pos} {idn T : String} {f : FB} {t : DA}
theorem db_in {K : PySem.W.Frag} {σ : L2.St} {H : Hp} {Q : VK} (h : tD K (dB f t) σ H Q) : tCB (rDB K f) (tDA K t) σ H Q := by
  obtain ⟨w, env, st, kk, W, E, h, fo⟩ := h
  exact ⟨w, env, st, _, W, E, h, fun ds st1 vs w1 H1 h1 l1 W1 R1 => ⟨w1, st1, ds, kk, W1, R1, h1, fo.le l1⟩⟩
theorem pd_callB (hc : CallR X (.builtin idn) (rDB X.K f)) (hm : X.mg x = none) (hv : bootBuiltins x = some (.builtin idn)) (ha : PDA X (e :: es) t) (hg : Gl X x := by rfl) (hn : x ≠ "__name__" := by decide) (hdb : (x == ("__debug__" : Str)) = false := by decide)
    (he : starEach (e :: es) X.env = (false, eval e X.env) :: starEach es X.env := by rfl) (hpl : (backTo pos (starEach es X.env)).any (·.1) = false := by rfl) : PD X (.Call (.Name x p) (e :: es) [] pos) (dB f t) :=
  (pe_callB hc hg hm hv ha hn hdb he hpl).wk fun _ _ _ h => db_in h
theorem pd_callTy (hc : CallR X (.type T) (rDB X.K f)) (hm : X.mg x = none) (hv : bootBuiltins x = some (.type T)) (ha : PDA X (e :: es) t) (hg : Gl X x := by rfl) (hn : x ≠ "__name__" := by decide) (hdb : (x == ("__debug__" : Str)) = false := by decide)
    (he : starEach (e :: es) X.env = (false, eval e X.env) :: starEach es X.env := by rfl) (hpl : (backTo pos (starEach es X.env)).any (·.1) = false := by rfl) : PD X (.Call (.Name x p) (e :: es) [] pos) (dB f t) :=
  (pe_callTy hc hg hm hv ha hn hdb he hpl).wk fun _ _ _ h => db_in h
theorem CallR.by_ {g : Value} {f : FB}
    (h : ∀ (vs : List V) (H : Hp) (Q : VK) (w : Wd) (st : Sto) (ds : List D) (kk : DK), Wld X.K w st H → Reps X.K w ds vs → f ds st kk → Fol X.K w kk Q → ∃ r : List V → Hp → VK → Prop, CallR X g r ∧ r vs H Q) : CallR X g (rDB X.K f) :=
  fun pins s σ H xs us Q I rs ⟨w, st, ds, kk, W, R, q, fo⟩ => by
    obtain ⟨r, hr, q⟩ := h xs H Q w st ds kk W R q fo
    exact hr pins s σ H xs us Q I rs q
theorem one_rep {K : PySem.W.Frag} {w : Wd} {d : D} {vs : List V} (R : Reps K w [d] vs) : ∃ v, vs = [v] ∧ Rep K w d v := by
  obtain ⟨v, r, rfl, h1, h2⟩ := R.inv
  rw [h2.inv0]
  exact ⟨v, rfl, h1⟩
theorem two_rep {K : PySem.W.Frag} {w : Wd} {d e : D} {vs : List V} (R : Reps K w [d, e] vs) : ∃ v u, vs = [v, u] ∧ Rep K w d v ∧ Rep K w e u := by
  obtain ⟨v, r, rfl, h1, h2⟩ := R.inv
  obtain ⟨u, rfl, h3⟩ := one_rep h2
  exact ⟨v, u, rfl, h1, h3⟩
def bLen : FB := fun ds st k => match ds with
  | [d] => match deref st d with
    | .lst xs => k (.int xs.length) st
    | .tup xs => k (.int xs.length) st
    | .str z => z.length ≤ 16777216 ∧ k (.int z.length) st
    | _ => False
  | _ => False
theorem cb_len : CallR X (.builtin "len") (rDB X.K bLen) := by
  refine CallR.by_ fun vs H Q w st ds kk W R q fo => ?_
  unfold bLen at q
  split at q
  · obtain ⟨v, rfl, R1⟩ := one_rep R
    split at q
    · rename_i hd
      obtain ⟨p, us, rfl, q1, r1, _⟩ := rep_lst W R1 hd
      refine ⟨_, call_len_seq, p, us, rfl, .inl q1, ?_⟩
      rw [r1.length]
      exact fo.id q W rep_int
    · rename_i hd
      obtain ⟨p, us, rfl, q1, r1, _⟩ := rep_tup W R1 hd
      refine ⟨_, call_len_seq, p, us, rfl, .inr q1, ?_⟩
      rw [r1.length]
      exact fo.id q W rep_int
    · rename_i hd
      have e0 := deref_self hd (fun _ z => by cases z) (fun _ z => by cases z)
      subst e0
      simp only [Rep] at R1
      subst R1
      exact ⟨_, call_len_str, _, rfl, line16 q.1, fo.id q.2 W rep_int⟩
    · exact q.elim
  · exact q.elim
def bAbs : FB := fun ds st k => match ds with
  | [.int i] => k (.int (if i < 0 then -i else i)) st
  | _ => False
theorem cb_abs : CallR X (.builtin "abs") (rDB X.K bAbs) := by
  refine CallR.by_ fun vs H Q w st ds kk W R q fo => ?_
  unfold bAbs at q
  split at q
  · obtain ⟨v, rfl, R1⟩ := one_rep R
    simp only [Rep] at R1
    subst R1
    exact ⟨_, call_abs, _, rfl, fo.id q W rep_int⟩
  · exact q.elim
def bInt : FB := fun ds st k => match ds with
  | [.int i] => k (.int i) st
  | [.bl b] => k (.int (if b = true then 1 else 0)) st
  | _ => False
theorem cb_int : CallR X (.type "int") (rDB X.K bInt) := by
  refine CallR.by_ fun vs H Q w st ds kk W R q fo => ?_
  unfold bInt at q
  split at q
  · obtain ⟨v, rfl, R1⟩ := one_rep R
    simp only [Rep] at R1
    subst R1
    exact ⟨_, call_int1, .inl ⟨_, rfl, fo.id q W rep_int⟩⟩
  · obtain ⟨v, rfl, R1⟩ := one_rep R
    simp only [Rep] at R1
    subst R1
    exact ⟨_, call_int1, .inr ⟨_, rfl, fo.id q W rep_int⟩⟩
  · exact q.elim
def blsD : List D → Option (List Bool)
  | [] => some []
  | .bl i :: r => (blsD r).map (i :: ·)
  | _ => none
theorem blsD_eq : ∀ {ds : List D} {ns : List Bool}, blsD ds = some ns → ds = ns.map D.bl
  | [], ns, h => by cases h; rfl
  | .bl i :: r, ns, h => by
    have h' : (blsD r).map (i :: ·) = some ns := h
    cases e : blsD r with
    | none => rw [e] at h'; cases h'
    | some ms =>
      rw [e] at h'
      cases h'
      rw [blsD_eq e]
      rfl
  | .non :: _, _, h => by cases h
  | .int _ :: _, _, h => by cases h
  | .str _ :: _, _, h => by cases h
  | .lst _ :: _, _, h => by cases h
  | .klst _ :: _, _, h => by cases h
  | .tup _ :: _, _, h => by cases h
  | .obj _ :: _, _, h => by cases h
  | .dic _ _ :: _, _, h => by cases h
  | .fdic _ _ :: _, _, h => by cases h
  | .gtup _ :: _, _, h => by cases h
def bAll : FB := fun ds st k => match ds with
  | [d] => match deref st d with
    | .lst xs => match blsD xs with
      | some bs => k (.bl (bs.all id)) st
      | none => False
    | _ => False
  | _ => False
theorem cb_all (hc : X.calm = true) : CallR X (.builtin "all") (rDB X.K bAll) := by
  refine CallR.by_ fun vs H Q w st ds kk W R q fo => ?_
  unfold bAll at q
  split at q
  · obtain ⟨v, rfl, R1⟩ := one_rep R
    split at q
    · rename_i hd
      split at q
      · rename_i bs hb
        obtain ⟨p, us, rfl, q1, r1, _⟩ := rep_lst W R1 hd
        rw [blsD_eq hb] at r1
        refine ⟨_, cr_all hc, p, bs, rfl, ?_, fo.id q W rep_bl⟩
        rw [← r1.bls]
        exact q1
      · exact q.elim
    · exact q.elim
  · exact q.elim
def bMin2 : FB := fun ds st k => match ds with
  | [.int i, .int j] => k (.int (if j < i then j else i)) st
  | _ => False
theorem cb_min2 (hc : X.calm = true) : CallR X (.builtin "min") (rDB X.K bMin2) := by
  refine CallR.by_ fun vs H Q w st ds kk W R q fo => ?_
  unfold bMin2 at q
  split at q
  · obtain ⟨v, u, rfl, R1, R2⟩ := two_rep R
    simp only [Rep] at R1 R2
    subst R1 R2
    exact ⟨_, call_min2 hc, _, _, rfl, fo.id q W rep_int⟩
  · exact q.elim
def bListNew : FB := fun ds st k => match ds with
  | [d] => match deref st d with
    | .lst xs => k (.obj st.length) (st ++ [xs])
    | .tup xs => k (.obj st.length) (st ++ [xs])
    | _ => False
  | _ => False
theorem cb_listNew : CallR X (.type "list") (rDB X.K bListNew) := by
  refine CallR.by_ fun vs H Q w st ds kk W R q fo => ?_
  unfold bListNew at q
  split at q
  · obtain ⟨v, rfl, R1⟩ := one_rep R
    split at q
    · rename_i hd
      obtain ⟨p, us, rfl, q1, r1, n⟩ := rep_lst W R1 hd
      exact ⟨_, call_list_of, p, us, rfl, .inl q1, fol_new W r1 n q fo⟩
    · rename_i hd
      obtain ⟨p, us, rfl, q1, r1, n⟩ := rep_tup W R1 hd
      exact ⟨_, call_list_of, p, us, rfl, .inr q1, fol_new W r1 n q fo⟩
    · exact q.elim
  · exact q.elim
def bTuple : FB := fun ds st k => match ds with
  | [d] => match deref st d with
    | .lst xs => k (.tup xs) st
    | .tup xs => noG d (k (.tup xs) st)
    | _ => False
  | _ => False
theorem cb_tuple : CallR X (.type "tuple") (rDB X.K bTuple) := by
  refine CallR.by_ fun vs H Q w st ds kk W R q fo => ?_
  unfold bTuple at q
  split at q
  · obtain ⟨v, rfl, R1⟩ := one_rep R
    split at q
    · rename_i hd
      obtain ⟨p, us, rfl, q1, r1, n⟩ := rep_lst W R1 hd
      exact ⟨_, call_tuple_of, p, us, rfl, .inl ⟨q1, fol_tup W r1 n q fo⟩⟩
    · rename_i hd
      obtain ⟨ng, q⟩ := noG_of q
      have e0 := deref_tup hd ng
      obtain ⟨p, us, rfl, q1, r1, n⟩ := rep_tup W R1 hd
      refine ⟨_, call_tuple_of, p, us, rfl, .inr ⟨q1, fo.id q W ?_⟩⟩
      rw [← e0]
      exact R1
    · exact q.elim
  · exact q.elim
end
end DL

/-! enumerate over a tuple, and over either -/
namespace DL
open PySem PySem.Spec PyProof.Rows L2
theorem meetsEnumOne {v : Value} {ob : Obj} {G : Heap → Prop} (B : Begins v ob G) :
    Meets (Builtin.«enumerate.__new__» ⟨[.type "enumerate", v], []⟩) (fun _ R z => G z.heap ∧
      R (.ok (.ret (.ref (z.heap.push ob).objs.size))) { z with heap := (z.heap.push ob).push { cls := .type "enumerate", data := .fields #[.none, .bool false, .ref z.heap.objs.size, rawInt 0, .none, .none] } }) :=
  .of_wp fun pr w A R z hh => by
    obtain ⟨hp, gs, dr, tk, os⟩ := z
    obtain ⟨g1, hh⟩ := hh
    have hsub := sub_enumerate
    have into : ∀ {A1 : Around} {E : Value → Shared → Prop} {Q : Value → Shared → Prop}, Q (.ref hp.objs.size) ⟨hp.push ob, gs, dr, tk, os⟩ → wpAny (model pr w) A1 (pyIter v) Q E ⟨hp, gs, dr, tk, os⟩ :=
      fun q => B.iter pr w _ _ ⟨hp, gs, dr, tk, os⟩ _ g1 q
    wp_walk using into
    refine wpAny_stack_any fun stk => wpAny_pure ?_
    split
    · rename_i cl _ _ _ _ _
      cases (cl == Value.type "enumerate")
      · wp_walk using into
        exact ⟨_, rfl, hh⟩
      · wp_walk using into
        exact ⟨_, rfl, hh⟩
    · wp_walk using into
      exact ⟨_, rfl, hh⟩
theorem callEnumOne {pr : Program} {w : World} {A : Around} {E : Value → Shared → Prop} {z : Shared} {v : Value} {ob : Obj} {G : Heap → Prop} {Q : Value → Shared → Prop} (B : Begins v ob G) (g1 : G z.heap)
    (hh : ∀ h', IsEnum h' (z.heap.objs.size + 1) z.heap.objs.size 0 .none → h'.get? z.heap.objs.size = some ob → (∀ b o, z.heap.get? b = some o → h'.get? b = some o) → Q (.ref (z.heap.objs.size + 1)) { z with heap := h' }) :
    wpAny (model pr w) A (call (.type "enumerate") [v]) Q E z := by
  refine callType_new F.called_enumerate (by decide) (F.typeCall_enumerate_1 _) (F.newCall_enumerate_1 _) (fun ob1 => F.args_object_init_2 ob1 _) F.entry_enumerate_new (meetsEnumOne B) ⟨g1, ?_⟩
  have hz : (z.heap.push ob).objs.size = z.heap.objs.size + 1 := Heap.size_push ..
  show _ ∧ _
  rw [hz]
  have he : IsEnum ((z.heap.push ob).push { cls := .type "enumerate", data := .fields #[.none, .bool false, .ref z.heap.objs.size, rawInt 0, .none, .none] }) (z.heap.objs.size + 1) z.heap.objs.size 0 .none := by
    have this := Heap.get?_push_size (z.heap.push ob) (o := { cls := .type "enumerate", data := .fields #[.none, .bool false, .ref z.heap.objs.size, rawInt 0, .none, .none] }) rfl
    rw [hz] at this
    exact this
  refine ⟨⟨_, he, rfl⟩, hh _ he (Heap.get?_push_of_some _ (Heap.get?_push_size _ B.free)) fun b o q => Heap.get?_push_of_some _ (Heap.get?_push_of_some _ q)⟩
/-- the tuple at a, each item in a new pair -/
def IteT (K : PySem.W.Frag) (a : Addr) : It :=
  ⟨fun n H => ∃ (zs : List V) (u : V), SqT K H a zs ∧ zs[n]? = some u, fun n H v H' => ∃ T u, v = .ref T ∧ H T = none ∧ H' = upd H T (.tup [.int (n : Nat), u]) ∧ ∀ zs, SqT K H a zs → zs[n]? = some u, fun n H => ∃ zs : List V, SqT K H a zs ∧ zs.length = n⟩
theorem turnEnumT {Pg : Program} {w : World} {K : PySem.W.Frag} {elts : List Expr} {kk : Nat} {tpos : Pos} (a en it : Addr) :
    Turn Pg w K (.Tuple elts kk tpos) (IteT K a) [en, it] en (fun n h => (∃ old, IsEnum h en it ((n : Nat) : Int) old) ∧ h.IsTupleIter it a n ∧ en ≠ it ∧ a ≠ it ∧ a ≠ en) where
  mem := by simp
  obj := fun n h s1 b hb => by
    obtain ⟨⟨old, g1⟩, ⟨o, ho, hc, hd⟩, _⟩ := s1
    have e' : b = en ∨ b = it := by simpa using hb
    rcases e' with rfl | rfl
    · exact ⟨_, g1, fun v q => nomatch q⟩
    · exact ⟨o, ho, fun v q => by rw [hd] at q; cases q⟩
  keep := fun n h h' s1 kp => by
    obtain ⟨⟨old, g1⟩, g2, g3, g4, g5⟩ := s1
    exact ⟨⟨old, kp en (by simp) _ g1⟩, g2.at fun o q => kp it (by simp) o q, g3, g4, g5⟩
  item := by
    intro X hP hw hK hc n pins s σ H E I fps s1 hg
    subst hP hw hK
    obtain ⟨⟨old, g1⟩, g2, g3, g4, g5⟩ := s1
    obtain ⟨zs, u, hq, hu⟩ := hg
    obtain ⟨its, rv, p, hz⟩ := I.tuple hq
    obtain ⟨val, hv, ru⟩ := rv.get hu
    have lt1 : en < s.heap.objs.size := Heap.lt_size g1
    have lt2 : it < s.heap.objs.size := by
      obtain ⟨_, q, _⟩ := g2
      exact Heap.lt_size q
    have hn : n < its.toArray.size := by
      obtain ⟨h', _⟩ := List.getElem?_eq_some_iff.mp hv
      simpa using h'
    refine wpAny_pyNext_enum_itemD (Draws.tuple (A := X.A.in1) (show X.A.in1.handled = none from I.ok.hd hc) it a g4 its.toArray) g1 ⟨g2, p⟩ hn g3 (by simp; exact ⟨g3, Ne.symm g5⟩) fun x h' tk hP ho hst hT hsz hk => ?_
    have hx : x = val := by
      have : its.toArray[n]? = some val := by simpa using hv
      rw [this] at hP
      cases hP
      rfl
    subst hx
    refine ⟨_, rfl, wpAny_letOwnedTupleGo_enum (s := { s with heap := h', toks := tk + 1 }) ho fun h'' he' sb => ?_⟩
    have hT2 : h''.get? s.heap.objs.size = some { cls := .type "tuple", data := .seq #[.int n tk, x] } := (sb.2 _ (Nat.ne_of_gt lt1)).trans hT
    have fresh : ObjOk X.prog X.w (upd H s.heap.objs.size (.tup [.int (n : Nat), u])) h'' s.heap.objs.size (.tup [.int (n : Nat), u]) :=
      ⟨by show 2 ≤ sizeLine; decide, [.int n tk, x], .cons ⟨_, rfl⟩ (.cons ru .nil), ⟨_, hT2, rfl, _, rfl⟩⟩
    have I2 : Inv X pins σ (upd H s.heap.objs.size (.tup [.int (n : Nat), u])) { s with heap := h'', toks := tk + 1 } :=
      I.turnedNew (ch := [en, it]) (fun b o1 hb q => (sb.2 b (fun z => hb (by simp [z]))).trans (hk b o1 (fun z => hb (by simp [z])) (fun z => hb (by simp [z])) q)) fps (Nat.le_refl _) fresh
    refine ⟨.ref s.heap.objs.size, _, I2, rfl, ⟨_, u, rfl, I.hok.fresh (Nat.le_refl _), rfl, fun ys hy => by rw [I.tuple_inj hy hq]; exact hu⟩, ⟨⟨x, ?_⟩, hst.1.at fun o q => (sb.2 it (Ne.symm g3)).trans q, g3, g4, g5⟩, fun b hb => ?_⟩
    · have e1 : ((n + 1 : Nat) : Int) = (n : Int) + 1 := by omega
      rw [e1]
      exact he'
    · have hb' : b < s.heap.objs.size := by
        have e' : b = en ∨ b = it := by simpa using hb
        rcases e' with rfl | rfl
        · exact lt1
        · exact lt2
      rw [upd_ne (Nat.ne_of_lt hb')]
      exact (fps b hb).1
  done := by
    intro X hP hw hK hc n pins s σ H E I fps s1 hg
    subst hP hw hK
    obtain ⟨⟨old, g1⟩, g2, g3, g4, g5⟩ := s1
    obtain ⟨zs, hq, hu⟩ := hg
    obtain ⟨its, rv, p, hz⟩ := I.tuple hq
    obtain ⟨f0, f1, f2, f3, f4, f5⟩ := fps it (by simp)
    have hl := rv.length
    have hn : its.toArray.size = n := by
      rw [← hu, hl]
      simp
    subst hn
    exact wpAny_pyNext_enum_endD (Draws.tuple (A := X.A.in1) (show X.A.in1.handled = none from I.ok.hd hc) it a g4 its.toArray) g1 ⟨g2, p⟩ fun h' eb => ⟨rfl, I.turned (t' := s.toks) (fun b o hb q => eb b o hb q) f0 f1 f3 f4 f5⟩
  self := fun A n s Q E s1 h => let ⟨⟨_, g1⟩, _⟩ := s1; wpAny_pyIter_enum g1 h
def iEnumA (K : PySem.W.Frag) (ta : TA) : TI := fun σ H R => ta σ H fun vs H1 => ∃ a xs, vs = [.ref a] ∧ ((SqL K H1 a xs ∧ R (Ite K a) H1) ∨ (SqT K H1 a xs ∧ R (IteT K a) H1))
theorem piEnumA {X : Cx} {e : Expr} {ta : TA} {p pos tpos : Pos} {elts : List Expr} {kk : Nat} (hg : Gl X "enumerate") (hm : X.mg "enumerate" = none) (ha : PA X [e] ta) (hs : starEach [e] X.env = [(false, eval e X.env)] := by rfl) :
    PI X (.Tuple elts kk tpos) (.Call (.Name "enumerate" p) [e] [] pos) (iEnumA X.K ta) := by
  refine ⟨fun pins s σ H R I hh => ?_⟩
  refine Call_ (ld_blt I hg hm boot_enumerate (PyProof.Rows.callWith_type1 (thn (ha.run pos pins s σ H _ I hh) fun us z ⟨vs, H1, I1, r1, q1⟩ => ?_) hs rfl))
  obtain ⟨a, xs, ex, q1⟩ := q1
  subst ex
  cases r1 with
  | cons r rr =>
    cases rr
    cases r
    have fps : ∀ b, b ∈ [z.heap.objs.size + 1, z.heap.objs.size] → FpOk X pins H1 b := fun b hb => by
      have hle : z.heap.objs.size ≤ b := by
        have e' : b = z.heap.objs.size + 1 ∨ b = z.heap.objs.size := by simpa using hb
        omega
      exact I1.fpOk hle (I1.hok.fresh hle)
    rcases q1 with ⟨hq, q⟩ | ⟨hq, q⟩
    · obtain ⟨its, rv, p', hz⟩ := I1.list hq
      refine callEnumOne (begins_list a its.toArray) p'.isList fun h' he hit hk => wpAny_pyIter_enum he ?_
      have I2 : Inv X pins σ H1 { z with heap := h' } := I1.kept (t' := z.toks) hk
      exact ⟨z.heap.objs.size + 1, [z.heap.objs.size + 1, z.heap.objs.size], _, _, H1, rfl, I2, turn_enum a _ _, ⟨⟨.none, he⟩, ⟨_, hit, rfl, rfl⟩, Nat.succ_ne_self _⟩, fps, q⟩
    · obtain ⟨its, rv, p', hz⟩ := I1.tuple hq
      have la : a < z.heap.objs.size := by
        obtain ⟨_, q, _⟩ := p'
        exact Heap.lt_size q
      refine callEnumOne (begins_tuple a its.toArray) p' fun h' he hit hk => wpAny_pyIter_enum he ?_
      have I2 : Inv X pins σ H1 { z with heap := h' } := I1.kept (t' := z.toks) hk
      exact ⟨z.heap.objs.size + 1, [z.heap.objs.size + 1, z.heap.objs.size], _, _, H1, rfl, I2, turnEnumT a _ _, ⟨⟨.none, he⟩, ⟨_, hit, rfl, rfl⟩, Nat.succ_ne_self _, Nat.ne_of_lt la, Nat.ne_of_lt (Nat.lt_succ_of_lt la)⟩, fps, q⟩
end DL

namespace DL
open PySem PySem.Spec PyProof.Rows L2
/-! ### what is walked -/
def SrcOk : List (Nat × List D) → Sto → Prop
  | [], _ => True
  | p :: r, st => st[p.1]? = some p.2 ∧ SrcOk r st
structure DWk (K : PySem.W.Frag) (J : It) (w : Wd) (xs : List D) (src : List (Nat × List D)) : Prop where
  goes : ∀ (i : Nat) (w1 : Wd) (st1 : Sto) (H1 : Hp), i < xs.length → Le0 w w1 → Wld K w1 st1 H1 → SrcOk src st1 → J.go i H1
  stops : ∀ (w1 : Wd) (st1 : Sto) (H1 : Hp), Le0 w w1 → Wld K w1 st1 H1 → SrcOk src st1 → J.stop xs.length H1
  yields : ∀ (i : Nat) (w1 : Wd) (st1 : Sto) (H1 : Hp) (v : V) (H2 : Hp), i < xs.length → Le0 w w1 → Wld K w1 st1 H1 → SrcOk src st1 → J.yld i H1 v H2 →
    ∃ (w2 : Wd) (d : D), Le w1 w2 ∧ Wld K w2 st1 H2 ∧ xs[i]? = some d ∧ Rep K w2 d v
abbrev DIk := List D → List (Nat × List D) → Sto → Prop
abbrev DI := Env → Sto → DIk → Prop
def tDI (K : PySem.W.Frag) (t : DI) : TI := fun σ H R => ∃ w env st kk, Wld K w st H ∧ EnvR K w env σ ∧ t env st kk ∧ ∀ xs src st' w' H' J, kk xs src st' → Le w w' → Wld K w' st' H' → DWk K J w' xs src → R J H'
abbrev PDI (X : Cx) (tg e : Expr) (t : DI) : Prop := PI X tg e (tDI X.K t)
theorem _root_.L2.PI.wk {X : Cx} {tg e : Expr} {t t' : TI} (h : PI X tg e t) (i : ∀ σ H R, t' σ H R → t σ H R) : PI X tg e t' := ⟨fun pins s σ H R I q => h.run pins s σ H R I (i σ H R q)⟩
def srcOf (d : D) (xs : List D) : List (Nat × List D) := match d with
  | .obj i => [(i, xs)]
  | _ => []
section
variable {K : PySem.W.Frag} {w w' w1 : Wd} {st st1 : Sto} {H H1 : Hp}
theorem src_seq {d : D} {a : Addr} {xs : List D} (R : Rep K w d (.ref a)) (e : deref st d = .lst xs) (l : Le0 w w1) (W1 : Wld K w1 st1 H1) (s : SrcOk (srcOf d xs) st1) : ∃ vs, SqL K H1 a vs ∧ Reps K w1 xs vs := by
  have e1 : deref st1 d = .lst xs := by
    cases d with
    | obj i =>
      have s' : st1[i]? = some xs := s.1
      show (match st1[i]? with | some xs => D.lst xs | none => D.obj i) = .lst xs
      rw [s']
    | _ => exact e
  obtain ⟨a', vs, ea, q, r, _⟩ := rep_lst W1 (Rep.mono' l.same l.pre _ _ R) e1
  cases ea
  exact ⟨vs, q, r⟩
theorem tup_seq {d : D} {a : Addr} {xs : List D} (R : Rep K w d (.ref a)) (e : deref st d = .tup xs) (l : Le0 w w1) (W1 : Wld K w1 st1 H1) : ∃ vs, SqT K H1 a vs ∧ Reps K w1 xs vs := by
  obtain ⟨a', vs, ea, q, r, _⟩ := rep_tup W1 (Rep.mono' l.same l.pre _ _ R) (deref_tups e st1)
  cases ea
  exact ⟨vs, q, r⟩
theorem wk_list {d : D} {a : Addr} {xs : List D} (R : Rep K w d (.ref a)) (e : deref st d = .lst xs) : DWk K (Itl K a) w xs (srcOf d xs) where
  goes := fun i w1 st1 H1 hi l W1 s => by
    obtain ⟨vs, q, r⟩ := src_seq R e l W1 s
    exact (walk_list (xs := vs)).goes i H1 (by rw [r.length]; exact hi) q
  stops := fun w1 st1 H1 l W1 s => by
    obtain ⟨vs, q, r⟩ := src_seq R e l W1 s
    rw [← r.length]
    exact (walk_list (xs := vs)).stops H1 q
  yields := fun i w1 st1 H1 v H2 hi l W1 s y => by
    obtain ⟨vs, q, r⟩ := src_seq R e l W1 s
    obtain ⟨rfl, h⟩ := (walk_list (xs := vs)).yields i H1 v H2 (by rw [r.length]; exact hi) q y
    obtain ⟨d', h1, h2⟩ := r.getv h
    exact ⟨w1, d', .refl _, W1, h1, h2⟩
theorem wk_tup {d : D} {a : Addr} {xs : List D} (R : Rep K w d (.ref a)) (e : deref st d = .tup xs) : DWk K (Itt K a) w xs [] where
  goes := fun i w1 st1 H1 hi l W1 s => by
    obtain ⟨vs, q, r⟩ := tup_seq R e l W1
    exact (walk_tup (xs := vs)).goes i H1 (by rw [r.length]; exact hi) q
  stops := fun w1 st1 H1 l W1 s => by
    obtain ⟨vs, q, r⟩ := tup_seq R e l W1
    rw [← r.length]
    exact (walk_tup (xs := vs)).stops H1 q
  yields := fun i w1 st1 H1 v H2 hi l W1 s y => by
    obtain ⟨vs, q, r⟩ := tup_seq R e l W1
    obtain ⟨rfl, h⟩ := (walk_tup (xs := vs)).yields i H1 v H2 (by rw [r.length]; exact hi) q y
    obtain ⟨d', h1, h2⟩ := r.getv h
    exact ⟨w1, d', .refl _, W1, h1, h2⟩
def signs (z : Str) : List D := z.cps.toList.map fun c => .str ⟨#[c]⟩
theorem signs_length (z : Str) : (signs z).length = z.cps.size := by unfold signs; rw [List.length_map, Array.length_toList]
theorem wk_str {z : Str} : DWk K (Its z) w (signs z) [] where
  goes := fun i w1 st1 H1 hi l W1 s => walk_str.goes i H1 (by rw [signs_length] at hi; exact hi) trivial
  stops := fun w1 st1 H1 l W1 s => by
    rw [signs_length]
    exact walk_str.stops H1 trivial
  yields := fun i w1 st1 H1 v H2 hi l W1 s y => by
    rw [signs_length] at hi
    obtain ⟨rfl, c, h1, rfl⟩ := walk_str.yields i H1 v H2 hi trivial y
    refine ⟨w1, .str ⟨#[c]⟩, .refl _, W1, ?_, rep_str⟩
    unfold signs
    rw [List.getElem?_map, Array.getElem?_toList, h1]
    rfl
/-- lo, lo + 1, .. -/
def rangeD (lo : Int) (n : Nat) : List D := (List.range n).map fun i => .int (lo + (i : Nat))
theorem rangeD_length (lo : Int) (n : Nat) : (rangeD lo n).length = n := by simp [rangeD]
theorem wk_range {lo : Int} {n : Nat} : DWk K (Itr lo n) w (rangeD lo n) [] where
  goes := fun i w1 st1 H1 hi l W1 s => walk_range.goes i H1 (by rw [rangeD_length] at hi; exact hi) trivial
  stops := fun w1 st1 H1 l W1 s => by
    rw [rangeD_length]
    exact walk_range.stops H1 trivial
  yields := fun i w1 st1 H1 v H2 hi l W1 s y => by
    rw [rangeD_length] at hi
    obtain ⟨rfl, rfl⟩ := walk_range.yields i H1 v H2 hi trivial y
    refine ⟨w1, .int (lo + (i : Nat)), .refl _, W1, ?_, rep_int⟩
    unfold rangeD
    rw [List.getElem?_map, List.getElem?_range hi]
    rfl
def stepD (lo c : Int) (n : Nat) : List D := (List.range n).map fun i => .int (lo + (i : Nat) * c)
theorem stepD_length (lo c : Int) (n : Nat) : (stepD lo c n).length = n := by simp [stepD]
theorem wk_step {lo c : Int} {n : Nat} : DWk K (Itc lo c n) w (stepD lo c n) [] where
  goes := fun i w1 st1 H1 hi l W1 s => walk_rangeC.goes i H1 (by rw [stepD_length] at hi; exact hi) trivial
  stops := fun w1 st1 H1 l W1 s => by
    rw [stepD_length]
    exact walk_rangeC.stops H1 trivial
  yields := fun i w1 st1 H1 v H2 hi l W1 s y => by
    rw [stepD_length] at hi
    obtain ⟨rfl, rfl⟩ := walk_rangeC.yields i H1 v H2 hi trivial y
    refine ⟨w1, .int (lo + (i : Nat) * c), .refl _, W1, ?_, rep_int⟩
    unfold stepD
    rw [List.getElem?_map, List.getElem?_range hi]
    rfl
/-- a new pair of what is represented -/
theorem pair_put (W : Wld K w st H) {T : Addr} {x y : V} {d e : D} (hT : H T = none) (r1 : Rep K w d x) (r2 : Rep K w e y) :
    ∃ w2, Le w w2 ∧ Wld K w2 st (upd H T (.tup [x, y])) ∧ Rep K w2 (.tup [d, e]) (.ref T) := by
  have l := Le.put (w := w) (o := .tup [x, y]) (W.free hT)
  refine ⟨w.put T (.tup [x, y]), l, W.put hT (by show 2 ≤ sizeLine; decide), ?_⟩
  simp only [Rep]
  exact ⟨T, [x, y], rfl, upd_same, .cons (Rep.mono l _ _ r1) (.cons (Rep.mono l _ _ r2) .nil)⟩
def enumD : Nat → List D → List D
  | _, [] => []
  | n, x :: r => .tup [.int (n : Nat), x] :: enumD (n + 1) r
theorem enumD_length : ∀ (n : Nat) (xs : List D), (enumD n xs).length = xs.length
  | _, [] => rfl
  | n, x :: r => by simp [enumD, enumD_length (n + 1) r]
theorem enumD_get : ∀ (n : Nat) (xs : List D) (i : Nat) (d : D), xs[i]? = some d → (enumD n xs)[i]? = some (.tup [.int ((n + i : Nat) : Int), d])
  | _, [], _, _, h => by simp at h
  | n, x :: r, 0, d, h => by
    simp at h
    subst h
    simp [enumD]
  | n, x :: r, i + 1, d, h => by
    have := enumD_get (n + 1) r i d (by simpa using h)
    simp only [enumD, List.getElem?_cons_succ]
    rw [this]
    have e : n + 1 + i = n + (i + 1) := by omega
    rw [e]
theorem wk_enum {d : D} {a : Addr} {xs : List D} (R : Rep K w d (.ref a)) (e : deref st d = .lst xs) : DWk K (Ite K a) w (enumD 0 xs) (srcOf d xs) where
  goes := fun i w1 st1 H1 hi l W1 s => by
    obtain ⟨vs, q, r⟩ := src_seq R e l W1 s
    rw [enumD_length] at hi
    exact (walk_enum (xs := vs)).goes i H1 (by rw [r.length]; exact hi) q
  stops := fun w1 st1 H1 l W1 s => by
    obtain ⟨vs, q, r⟩ := src_seq R e l W1 s
    rw [enumD_length, ← r.length]
    exact (walk_enum (xs := vs)).stops H1 q
  yields := fun i w1 st1 H1 v H2 hi l W1 s y => by
    obtain ⟨vs, q, r⟩ := src_seq R e l W1 s
    rw [enumD_length] at hi
    obtain ⟨T, x, y, rfl, hT, rfl, h1, h2⟩ := (walk_enum (xs := vs)).yields i H1 v H2 (by rw [r.length]; exact hi) q y
    cases h1
    obtain ⟨d', g1, g2⟩ := r.getv h2
    obtain ⟨w2, l2, W2, R2⟩ := pair_put W1 hT (rep_int (a := (i : Nat))) g2
    refine ⟨w2, _, l2, W2, ?_, R2⟩
    rw [enumD_get 0 xs i d' g1, Nat.zero_add]
theorem wk_enumT {d : D} {a : Addr} {xs : List D} (R : Rep K w d (.ref a)) (e : deref st d = .tup xs) : DWk K (IteT K a) w (enumD 0 xs) [] where
  goes := fun i w1 st1 H1 hi l W1 s => by
    obtain ⟨vs, q, r⟩ := tup_seq R e l W1
    rw [enumD_length] at hi
    exact ⟨vs, vs[i]'(by rw [r.length]; exact hi), q, List.getElem?_eq_getElem _⟩
  stops := fun w1 st1 H1 l W1 s => by
    obtain ⟨vs, q, r⟩ := tup_seq R e l W1
    rw [enumD_length, ← r.length]
    exact ⟨vs, q, rfl⟩
  yields := fun i w1 st1 H1 v H2 hi l W1 s y => by
    obtain ⟨vs, q, r⟩ := tup_seq R e l W1
    rw [enumD_length] at hi
    obtain ⟨T, y, rfl, hT, rfl, h2⟩ := y
    obtain ⟨d', g1, g2⟩ := r.getv (h2 vs q)
    obtain ⟨w2, l2, W2, R2⟩ := pair_put W1 hT (rep_int (a := (i : Nat))) g2
    refine ⟨w2, _, l2, W2, ?_, R2⟩
    rw [enumD_get 0 xs i d' g1, Nat.zero_add]
def zipD : List D → List D → List D
  | x :: r, y :: s => .tup [x, y] :: zipD r s
  | _, _ => []
theorem zipD_length : ∀ (xs ys : List D), (zipD xs ys).length = min xs.length ys.length
  | [], _ => by simp [zipD]
  | _ :: _, [] => by simp [zipD]
  | x :: r, y :: s => by simp only [zipD, List.length_cons, zipD_length r s]; omega
theorem zipD_get : ∀ (xs ys : List D) (i : Nat) (d e : D), xs[i]? = some d → ys[i]? = some e → (zipD xs ys)[i]? = some (.tup [d, e])
  | [], _, _, _, _, h, _ => by simp at h
  | _ :: _, [], _, _, _, _, h => by simp at h
  | x :: r, y :: s, 0, d, e, h, g => by
    simp at h g
    subst h g
    simp [zipD]
  | x :: r, y :: s, i + 1, d, e, h, g => by
    simp only [zipD, List.getElem?_cons_succ]
    exact zipD_get r s i d e (by simpa using h) (by simpa using g)
theorem SrcOk.split {a b : List (Nat × List D)} {st : Sto} : SrcOk (a ++ b) st → SrcOk a st ∧ SrcOk b st := by
  induction a with
  | nil => intro h; exact ⟨trivial, h⟩
  | cons p r ih => intro h; exact ⟨⟨h.1, (ih h.2).1⟩, (ih h.2).2⟩
theorem wk_zip {d e : D} {a b : Addr} {xs ys : List D} (R : Rep K w d (.ref a)) (hd : deref st d = .lst xs) (R' : Rep K w e (.ref b)) (he : deref st e = .lst ys) : DWk K (Itz K a b) w (zipD xs ys) (srcOf d xs ++ srcOf e ys) where
  goes := fun i w1 st1 H1 hi l W1 s => by
    obtain ⟨vs, q, r⟩ := src_seq R hd l W1 s.split.1
    obtain ⟨us, q', r'⟩ := src_seq R' he l W1 s.split.2
    rw [zipD_length, ← r.length, ← r'.length] at hi
    exact (walk_zip (xs := vs) (ys := us) rfl).goes i H1 hi ⟨q, q'⟩
  stops := fun w1 st1 H1 l W1 s => by
    obtain ⟨vs, q, r⟩ := src_seq R hd l W1 s.split.1
    obtain ⟨us, q', r'⟩ := src_seq R' he l W1 s.split.2
    rw [zipD_length, ← r.length, ← r'.length]
    exact (walk_zip (xs := vs) (ys := us) rfl).stops H1 ⟨q, q'⟩
  yields := fun i w1 st1 H1 v H2 hi l W1 s y => by
    obtain ⟨vs, q, r⟩ := src_seq R hd l W1 s.split.1
    obtain ⟨us, q', r'⟩ := src_seq R' he l W1 s.split.2
    rw [zipD_length, ← r.length, ← r'.length] at hi
    obtain ⟨T, x, y, rfl, hT, rfl, h1, h2⟩ := (walk_zip (xs := vs) (ys := us) rfl).yields i H1 v H2 hi ⟨q, q'⟩ y
    obtain ⟨d', g1, g2⟩ := r.getv h1
    obtain ⟨e', g3, g4⟩ := r'.getv h2
    obtain ⟨w2, l2, W2, R2⟩ := pair_put W1 hT g2 g4
    exact ⟨w2, _, l2, W2, zipD_get _ _ _ _ _ g1 g3, R2⟩
theorem wk_zipT {d e : D} {a b : Addr} {xs ys : List D} (R : Rep K w d (.ref a)) (hd : deref st d = .tup xs) (R' : Rep K w e (.ref b)) (he : deref st e = .tup ys) : DWk K (RZ.ItzT K a b) w (zipD xs ys) [] where
  goes := fun i w1 st1 H1 hi l W1 s => by
    obtain ⟨vs, q, r⟩ := tup_seq R hd l W1
    obtain ⟨us, q', r'⟩ := tup_seq R' he l W1
    rw [zipD_length, ← r.length, ← r'.length] at hi
    have h1 : i < vs.length := by omega
    have h2 : i < us.length := by omega
    exact ⟨vs, us, vs[i], us[i], q, q', by simp [h1], by simp [h2]⟩
  stops := fun w1 st1 H1 l W1 s => by
    obtain ⟨vs, q, r⟩ := tup_seq R hd l W1
    obtain ⟨us, q', r'⟩ := tup_seq R' he l W1
    rw [zipD_length, ← r.length, ← r'.length]
    exact ⟨vs, us, q, q', by omega⟩
  yields := fun i w1 st1 H1 v H2 hi l W1 s y => by
    obtain ⟨vs, q, r⟩ := tup_seq R hd l W1
    obtain ⟨us, q', r'⟩ := tup_seq R' he l W1
    obtain ⟨T, x, y, rfl, hT, rfl, h1, h2⟩ := y
    obtain ⟨d', g1, g2⟩ := r.getv (h1 vs q)
    obtain ⟨e', g3, g4⟩ := r'.getv (h2 us q')
    obtain ⟨w2, l2, W2, R2⟩ := pair_put W1 hT g2 g4
    exact ⟨w2, _, l2, W2, zipD_get _ _ _ _ _ g1 g3, R2⟩
end
section
variable {X : Cx} {tg e e2 : Expr} {pos p : Pos} {ta tb : DE}
def rIt (K : PySem.W.Frag) (x : V) (H : Hp) (R : It → Hp → Prop) : Prop :=
  (∃ a xs, x = .ref a ∧ SqL K H a xs ∧ R (Itl K a) H) ∨ (∃ a xs, x = .ref a ∧ SqT K H a xs ∧ R (Itt K a) H) ∨ ∃ z, x = .str z ∧ R (Its z) H
theorem pi_any {tl : TE} (hl : PE X e tl) : PI X tg e (fun σ H R => tl σ H fun x H1 => rIt X.K x H1 R) := by
  refine ⟨fun pins s σ H R I h => thn (hl.run pins s σ H _ I h) fun v s1 ⟨x, H1, I1, r1, q1⟩ => ?_⟩
  rcases q1 with ⟨a, xs, rfl, hq, q⟩ | ⟨a, xs, rfl, hq, q⟩ | ⟨z, rfl, q⟩
  · cases r1
    obtain ⟨its, rv, pl, hz⟩ := I1.list hq
    exact wpAny_pyIter_list pl.isList (pi_one (tk := s1.toks) I1 _ (turn_list a _) ⟨_, Heap.get?_push_size _ rfl, rfl, rfl⟩ q)
  · cases r1
    obtain ⟨its, rv, pl, hz⟩ := I1.tuple hq
    exact wpAny_pyIter_tuple (show s1.heap.IsTuple a its.toArray from pl) (pi_one (tk := s1.toks) I1 _ (turn_tuple a _) ⟨_, Heap.get?_push_size _ rfl, rfl, rfl⟩ q)
  · obtain ⟨t, rfl⟩ := r1
    by_cases ha : z.cps.all (· < 128) = true
    · exact wpAny_pyIter_ascii ha (pi_one (tk := s1.toks) I1 _ (turn_str _ z t "str_ascii_iterator" (.inl rfl)) ⟨_, Heap.get?_push_size _ rfl, rfl, rfl⟩ q)
    · exact wpAny_pyIter_wide (by simpa using ha) (pi_one (tk := s1.toks) I1 _ (turn_str _ z t "str_iterator" (.inr rfl)) ⟨_, Heap.get?_push_size _ rfl, rfl, rfl⟩ q)
def dIter (t : DE) : DI := fun env st kk => t env st fun d s1 => match deref s1 d with
  | .lst xs => xs.length ≤ 16777216 → kk xs (srcOf d xs) s1
  | .tup xs => xs.length ≤ 16777216 → kk xs [] s1
  | .str z => kk (signs z) [] s1
  | _ => False
theorem line_of {n : Nat} (h : n ≤ sizeLine) : n ≤ 16777216 := by rw [sizeLine_eq] at h; exact h
theorem pdi_any (h : PD X e ta) : PDI X tg e (dIter ta) := by
  refine (pi_any h).wk fun σ H R ⟨w, env, st, kk, W, E, h, fo⟩ => ?_
  refine ⟨w, env, st, _, W, E, h, fun d st1 v w1 H1 h1 l1 W1 R1 => ?_⟩
  split at h1
  · rename_i xs hd
    obtain ⟨a, vs, rfl, q, r, n⟩ := rep_lst W1 R1 hd
    exact .inl ⟨a, vs, rfl, q, fo _ _ _ _ _ _ (h1 (by rw [← r.length]; exact line_of n)) l1 W1 (wk_list R1 hd)⟩
  · rename_i xs hd
    obtain ⟨a, vs, rfl, q, r, n⟩ := rep_tup W1 R1 hd
    exact .inr (.inl ⟨a, vs, rfl, q, fo _ _ _ _ _ _ (h1 (by rw [← r.length]; exact line_of n)) l1 W1 (wk_tup R1 hd)⟩)
  · rename_i z hd
    have e0 := deref_self hd (fun _ z => by cases z) (fun _ z => by cases z)
    subst e0
    simp only [Rep] at R1
    exact .inr (.inr ⟨z, R1, fo _ _ _ _ _ _ h1 l1 W1 wk_str⟩)
  · exact h1.elim
def dRng1 (t : DE) : DI := fun env st kk => t env st fun d s1 => match d with
  | .int j => (-(2 ^ 62) ≤ j ∧ j < 2 ^ 62) ∧ kk (rangeD 0 j.toNat) [] s1
  | _ => False
def dRng2 (t u : DE) : DI := fun env st kk => t env st fun d s1 => u env s1 fun e s2 => match d, e with
  | .int i, .int j => (-(2 ^ 62) ≤ i ∧ i < 2 ^ 62 ∧ -(2 ^ 62) ≤ j ∧ j < 2 ^ 62) ∧ kk (rangeD i (j - i).toNat) [] s2
  | _, _ => False
theorem pdi_range1 (hm : X.mg "range" = none) (ha : PD X e ta) (hg : Gl X "range" := by rfl) (hs : starEach [e] X.env = [(false, eval e X.env)] := by rfl) : PDI X tg (.Call (.Name "range" p) [e] [] pos) (dRng1 ta) := by
  refine (pi_range1 hg hm (pa_cons ha pa_nil hs) hs).wk fun σ H R ⟨w, env, st, kk, W, E, h, fo⟩ => ?_
  refine ⟨w, env, st, _, W, E, h, fun d st1 v w1 H1 h1 l1 W1 R1 => ?_⟩
  split at h1
  · simp only [Rep] at R1
    subst R1
    exact ⟨_, rfl, h1.1.1, h1.1.2, fo _ _ _ _ _ _ h1.2 l1 W1 wk_range⟩
  · exact h1.elim
theorem pdi_range2 (hm : X.mg "range" = none) (ha : PD X e ta) (hb : PD X e2 tb) (hg : Gl X "range" := by rfl) (hs : starEach [e, e2] X.env = [(false, eval e X.env), (false, eval e2 X.env)] := by rfl) (hs2 : starEach [e2] X.env = [(false, eval e2 X.env)] := by rfl) : PDI X tg (.Call (.Name "range" p) [e, e2] [] pos) (dRng2 ta tb) := by
  refine (pi_range2 hg hm (pa_cons ha (pa_cons hb pa_nil hs2) (hs.trans (by rw [hs2]))) hs hs2).wk fun σ H R ⟨w, env, st, kk, W, E, h, fo⟩ => ?_
  refine ⟨w, env, st, _, W, E, h, fun d st1 v w1 H1 h1 l1 W1 R1 => ⟨w1, env, st1, _, W1, E.mono l1, h1, fun e' st2 u w2 H2 h2 l2 W2 R2 => ?_⟩⟩
  split at h2
  · simp only [Rep] at R1 R2
    subst R1 R2
    exact ⟨_, _, rfl, h2.1, fo _ _ _ _ _ _ h2.2 (l1.trans l2) W2 wk_range⟩
  · exact h2.elim
def dEnum (t : DE) : DI := fun env st kk => t env st fun d s1 => match deref s1 d with
  | .lst xs => xs.length ≤ 16777216 → kk (enumD 0 xs) (srcOf d xs) s1
  | .tup xs => xs.length ≤ 16777216 → kk (enumD 0 xs) [] s1
  | _ => False
theorem pdi_enum {elts : List Expr} {k : Nat} {tpos : Pos} (hm : X.mg "enumerate" = none) (ha : PD X e ta) (hg : Gl X "enumerate" := by rfl) (hs : starEach [e] X.env = [(false, eval e X.env)] := by rfl) :
    PDI X (.Tuple elts k tpos) (.Call (.Name "enumerate" p) [e] [] pos) (dEnum ta) := by
  refine (piEnumA hg hm (pa_cons ha pa_nil hs) hs).wk fun σ H R ⟨w, env, st, kk, W, E, h, fo⟩ => ?_
  refine ⟨w, env, st, _, W, E, h, fun d st1 v w1 H1 h1 l1 W1 Rv => ?_⟩
  split at h1
  · rename_i xs hd
    obtain ⟨a, vs, rfl, q, r, n⟩ := rep_lst W1 Rv hd
    exact ⟨a, vs, rfl, .inl ⟨q, fo _ _ _ _ _ _ (h1 (by rw [← r.length]; exact line_of n)) l1 W1 (wk_enum Rv hd)⟩⟩
  · rename_i xs hd
    obtain ⟨a, vs, rfl, q, r, n⟩ := rep_tup W1 Rv hd
    exact ⟨a, vs, rfl, .inr ⟨q, fo _ _ _ _ _ _ (h1 (by rw [← r.length]; exact line_of n)) l1 W1 (wk_enumT Rv hd)⟩⟩
  · exact h1.elim
def dZip (t u : DE) : DI := fun env st kk => t env st fun d s1 => u env s1 fun e s2 => match deref s2 d, deref s2 e with
  | .lst xs, .lst ys => xs.length ≤ 16777216 → kk (zipD xs ys) (srcOf d xs ++ srcOf e ys) s2
  | .tup xs, .tup ys => xs.length ≤ 16777216 → kk (zipD xs ys) [] s2
  | _, _ => False
theorem pdi_zip {elts : List Expr} {k : Nat} {tpos : Pos} (hm : X.mg "zip" = none) (ha : PD X e ta) (hb : PD X e2 tb) (hg : Gl X "zip" := by rfl) (hs : starEach [e, e2] X.env = (false, eval e X.env) :: starEach [e2] X.env := by rfl) (hpl : (backTo pos (starEach [e2] X.env)).any (·.1) = false := by rfl) (hs2 : starEach [e2] X.env = [(false, eval e2 X.env)] := by rfl) :
    PDI X (.Tuple elts k tpos) (.Call (.Name "zip" p) [e, e2] [] pos) (dZip ta tb) := by
  refine (RZ.pi_zipA hg hm (pa_cons ha (pa_cons hb pa_nil hs2) hs) hs hpl).wk fun σ H R ⟨w, env, st, kk, W, E, h, fo⟩ => ?_
  refine ⟨w, env, st, _, W, E, h, fun d st1 v w1 H1 h1 l1 W1 R1 => ⟨w1, env, st1, _, W1, E.mono l1, h1, fun e' st2 u w2 H2 h2 l2 W2 R2 => ?_⟩⟩
  have R1' := Rep.mono l2 _ _ R1
  split at h2
  · rename_i xs ys hd he
    obtain ⟨a, vs, rfl, q, r, n⟩ := rep_lst W2 R1' hd
    obtain ⟨b, us, rfl, q', r', n'⟩ := rep_lst W2 R2 he
    exact ⟨a, b, vs, us, rfl, .inl ⟨q, q', fo _ _ _ _ _ _ (h2 (by rw [← r.length]; exact line_of n)) (l1.trans l2) W2 (wk_zip R1' hd R2 he)⟩⟩
  · rename_i xs ys hd he
    obtain ⟨a, vs, rfl, q, r, n⟩ := rep_tup W2 R1' hd
    obtain ⟨b, us, rfl, q', r', n'⟩ := rep_tup W2 R2 he
    exact ⟨a, b, vs, us, rfl, .inr ⟨q, q', fo _ _ _ _ _ _ (h2 (by rw [← r.length]; exact line_of n)) (l1.trans l2) W2 (wk_zipT R1' hd R2 he)⟩⟩
  · exact h2.elim

/-! ### loops -/
def goFor (src : List (Nat × List D)) (g : DG) (b : DS) (E : DEnds) : List D → Env → Sto → Prop
  | [], env, st => SrcOk src st ∧ E.nx env st
  | x :: r, env, st => SrcOk src st ∧ g x env st fun env' st' => b { E with nx := fun env2 st2 => goFor src g b E r env2 st2 } env' st'
def dFor (di : DI) (g : DG) (b : DS) : DS := fun E env st => di env st fun xs src s1 => goFor src g b E xs env s1
theorem pds_for {iter : Expr} {body : List Stmt} {di : DI} {g : DG} {b : DS} (hp : PassesOwn (model X.prog X.w) X.A X.env X.xe) (hc : X.calm = true) (hi : PDI X tg iter di) (hg : PDG X tg g) (hb : PDSs X body b)
    (hs : ∀ x, foldedSetIterable iter X.env x = pure x := by intro _; rfl) : PDS X (.For tg iter body [] pos) (dFor di g b) := by
  refine (ps_for hp hc hi hg hb hs).wk fun Ed σ H ⟨w, env, st, E0, W, E, h, fn, fr⟩ => ?_
  refine ⟨w, env, st, _, W, E, h, fun xs src st1 w1 H1 J h1 l1 W1 wk => ?_⟩
  refine ⟨fun i m σ2 H2 => m = xs.length - i ∧ i ≤ xs.length ∧ ∃ w2 env2 st2, Le w1 w2 ∧ Wld X.K w2 st2 H2 ∧ EnvR X.K w2 env2 σ2 ∧ goFor src g b E0 (xs.drop i) env2 st2,
    ⟨xs.length, by simp, Nat.zero_le _, w1, env, st1, .refl _, W1, E.mono l1, by simpa using h1⟩, ?_⟩
  rintro i m σ2 H2 ⟨rfl, hi, w2, env2, st2, l2, W2, E2, q⟩
  by_cases hlt : i < xs.length
  · rw [List.drop_eq_getElem_cons hlt] at q
    obtain ⟨so, q⟩ := q
    refine .inr ⟨wk.goes i w2 st2 H2 hlt l2.toLe0 W2 so, fun σ' H' => ∃ w3 env3 st3, Le w1 w3 ∧ Wld X.K w3 st3 H' ∧ EnvR X.K w3 env3 σ' ∧ goFor src g b E0 (xs.drop (i + 1)) env3 st3, fun σ' H' pv => ⟨xs.length - (i + 1), by omega, rfl, hlt, pv⟩, fun v H3 y => ?_⟩
    obtain ⟨w3, d, l3, W3, e3, R3⟩ := wk.yields i w2 st2 H2 v H3 hlt l2.toLe0 W2 so y
    have ed : d = xs[i] := by
      rw [List.getElem?_eq_getElem hlt] at e3
      exact (Option.some.inj e3).symm
    rw [← ed] at q
    refine ⟨w3, env2, st2, d, _, W3, E2.mono l3, R3, q, fun env4 st4 σ4 w4 H4 h4 l4 W4 E4 => ?_⟩
    have l14 := (l2.trans l3).trans l4
    exact ⟨w4, env4, st4, _, W4, E4, h4, fun env5 st5 σ5 w5 H5 h5 l5 W5 E5 => ⟨w5, env5, st5, l14.trans l5, W5, E5, h5⟩, fr.le (l1.trans l14)⟩
  · have hie : i = xs.length := by omega
    subst hie
    rw [List.drop_length] at q
    exact .inl ⟨wk.stops w2 st2 H2 l2.toLe0 W2 q.1, fn _ _ _ _ _ q.2 (l1.trans l2) W2 E2⟩
def dWhile (c : DT) (b : DS) : DS := fun E env st => ∃ I : Nat → Env → Sto → Prop, (∃ m, I m env st) ∧ ∀ m env st, I m env st →
  c env st fun k s1 => if k = true then b { E with nx := fun env2 st2 => ∃ m', m' < m ∧ I m' env2 st2 } env s1 else E.nx env s1
theorem pds_while {c : Expr} {body : List Stmt} {tc : DT} {b : DS} (hp : PassesOwn (model X.prog X.w) X.A X.env X.xe) (hc : PDT X c tc) (hb : PDSs X body b) : PDS X (.While c body [] pos) (dWhile tc b) := by
  refine (ps_while hp hc hb).wk fun Ed σ H ⟨w, env, st, E0, W, E, ⟨I, ⟨m0, h0⟩, turn⟩, fn, fr⟩ => ?_
  refine ⟨fun m σ2 H2 => ∃ w2 env2 st2, Le w w2 ∧ Wld X.K w2 st2 H2 ∧ EnvR X.K w2 env2 σ2 ∧ I m env2 st2, ⟨m0, w, env, st, .refl _, W, E, h0⟩, ?_⟩
  rintro m σ2 H2 ⟨w2, env2, st2, l2, W2, E2, q⟩
  refine ⟨w2, env2, st2, _, W2, E2, turn m env2 st2 q, fun k st3 w3 H3 h3 l3 W3 => ?_⟩
  cases k with
  | true =>
    simp only [↓reduceIte] at h3 ⊢
    refine ⟨fun σ' H' => ∃ m', m' < m ∧ ∃ w4 env4 st4, Le w w4 ∧ Wld X.K w4 st4 H' ∧ EnvR X.K w4 env4 σ' ∧ I m' env4 st4, fun σ' H' pv => pv, ?_⟩
    exact ⟨w3, env2, st3, _, W3, E2.mono l3, h3, fun env5 st5 σ5 w5 H5 ⟨m', hm, h5⟩ l5 W5 E5 => ⟨m', hm, w5, env5, st5, (l2.trans l3).trans l5, W5, E5, h5⟩, fr.le (l2.trans l3)⟩
  | false =>
    simp only [Bool.false_eq_true, ↓reduceIte] at h3 ⊢
    exact fn _ _ _ _ _ h3 (l2.trans l3) W3 (E2.mono l3)

/-! ### list comprehensions -/
def wipeE (env : Env) : List Nat → Env
  | [] => env
  | v :: vs => (wipeE env vs).set v none
theorem EnvR.wipe {K : PySem.W.Frag} {w : Wd} {env : Env} {σ : L2.St} (h : EnvR K w env σ) : ∀ vs : List Nat, EnvR K w (wipeE env vs) (wipe σ vs)
  | [] => h
  | v :: vs => (h.wipe vs).unset v
def goLc (src : List (Nat × List D)) (g : DG) (tt : DT) (te : DE) (vs : List Nat) (env : Env) (k : List D → Sto → Prop) : List D → List D → Sto → Prop
  | [], acc, st => SrcOk src st ∧ k acc st
  | x :: r, acc, st => SrcOk src st ∧ g x (wipeE env vs) st fun env' st' => tt env' st' fun b s1 =>
      if b = true then te env' s1 fun d s2 => goLc src g tt te vs env k r (acc ++ [d]) s2 else goLc src g tt te vs env k r acc s1
/-- a comprehension's list: nobody changes it -/
def dLc (di : DI) (g : DG) (tt : DT) (te : DE) (vs : List Nat) : DE := fun env st k => di env st fun xs src s1 => xs.length ≤ 16777216 ∧ goLc src g tt te vs env (fun acc s2 => k (.lst acc) s2) xs [] s1
theorem Reps.rh {K : PySem.W.Frag} {w : Wd} {ds : List D} {vs : List V} (h : Reps K w ds vs) (l : List (Addr × List V)) : Reps K ⟨w.G, w.as, l, w.dk, w.lk⟩ ds vs := Reps.mono' (w := w) (w' := ⟨w.G, w.as, l, w.dk, w.lk⟩) (Same.refl w.G) (.eq rfl rfl) _ _ h
theorem Rep.rh {K : PySem.W.Frag} {w : Wd} {d : D} {v : V} (h : Rep K w d v) (l : List (Addr × List V)) : Rep K ⟨w.G, w.as, l, w.dk, w.lk⟩ d v := Rep.mono' (w := w) (w' := ⟨w.G, w.as, l, w.dk, w.lk⟩) (Same.refl w.G) (.eq rfl rfl) _ _ h
theorem EntR.rh {K : PySem.W.Frag} {w : Wd} {k : Option Kd} {L : Lk} {xs : List D} {o : HO} (h : EntR K w k L xs o) (l : List (Addr × List V)) : EntR K ⟨w.G, w.as, l, w.dk, w.lk⟩ k L xs o := EntR.mono' (w := w) (w' := ⟨w.G, w.as, l, w.dk, w.lk⟩) (Same.refl w.G) (.eq rfl rfl) h
theorem EntR.rg {K : PySem.W.Frag} {w : Wd} {k : Option Kd} {L : Lk} {xs : List D} {o : HO} (h : EntR K w k L xs o) {G : Hp} (s : Same w.G G) (l : List (Addr × List V)) : EntR K ⟨G, w.as, l, w.dk, w.lk⟩ k L xs o := EntR.mono' (w := w) (w' := ⟨G, w.as, l, w.dk, w.lk⟩) s (.eq rfl rfl) h
theorem Reps.rg {K : PySem.W.Frag} {w : Wd} {ds : List D} {vs : List V} (h : Reps K w ds vs) {G : Hp} (s : Same w.G G) (l : List (Addr × List V)) : Reps K ⟨G, w.as, l, w.dk, w.lk⟩ ds vs := Reps.mono' (w := w) (w' := ⟨G, w.as, l, w.dk, w.lk⟩) s (.eq rfl rfl) _ _ h
/-- a list in the making is laid -/
theorem Wld.hide {K : PySem.W.Frag} {w : Wd} {st : Sto} {H : Hp} (W : Wld K w st H) {p : Addr} {vs : List V} (h : H p = none) : Wld K ⟨w.G, w.as, (p, vs) :: w.hid, w.dk, w.lk⟩ st (upd H p (.lst vs)) where
  same := fun b u e => by
    have ne : b ≠ p := fun z => by
      have e' : w.G b = some u := e
      rw [z, W.free h] at e'
      cases e'
    rw [upd_ne ne]
    exact W.same b u e
  len := W.len
  nd := W.nd
  at_ := fun i a e => by
    obtain ⟨g, xs, us, h1, h2, h3⟩ := W.at_ i a e
    have ne : a ≠ p := fun z => by rw [z, h] at h2; cases h2
    exact ⟨g, xs, us, h1, by rw [upd_ne ne]; exact h2, h3.rh _⟩
  small := W.small
  hidd := fun a us m => by
    rcases List.mem_cons.mp m with z | z
    · cases z
      exact ⟨W.free h, W.nas h, upd_same⟩
    · obtain ⟨g, n, h1⟩ := W.hidd a us z
      have ne : a ≠ p := fun z => by rw [z, h] at h1; cases h1
      exact ⟨g, n, by rw [upd_ne ne]; exact h1⟩
  hnd := by
    show (p :: w.hid.map (·.1)).Nodup
    refine List.nodup_cons.mpr ⟨fun m => ?_, W.hnd⟩
    obtain ⟨⟨a, us⟩, m1, m2⟩ := List.mem_map.mp m
    have m2' : a = p := m2
    subst m2'
    have := (W.hidd a us m1).2.2
    rw [h] at this
    cases this
/-- the list in the making has grown -/
theorem Wld.regrow {K : PySem.W.Frag} {w : Wd} {st : Sto} {H : Hp} {p : Addr} {vs us : List V} {r : List (Addr × List V)} (W : Wld K w st H) (hh : w.hid = (p, vs) :: r) : Wld K ⟨w.G, w.as, (p, us) :: r, w.dk, w.lk⟩ st (upd H p (.lst us)) := by
  obtain ⟨g0, n0, h0⟩ := W.hidd p vs (by rw [hh]; exact List.mem_cons_self)
  have hnd := W.hnd
  rw [hh] at hnd
  have hnd' : (p :: r.map (·.1)).Nodup := hnd
  refine ⟨fun b u e => ?_, W.len, W.nd, fun i a e => ?_, W.small, fun a zs m => ?_, hnd'⟩
  · have ne : b ≠ p := fun z => by
      have e' : w.G b = some u := e
      rw [z, g0] at e'
      cases e'
    rw [upd_ne ne]
    exact W.same b u e
  · obtain ⟨g, xs, zs, h1, h2, h3⟩ := W.at_ i a e
    have ne : a ≠ p := fun z => n0 (by rw [← z]; exact List.mem_of_getElem? e)
    exact ⟨g, xs, zs, h1, by rw [upd_ne ne]; exact h2, h3.rh _⟩
  · rcases List.mem_cons.mp m with z | z
    · cases z
      exact ⟨g0, n0, upd_same⟩
    · obtain ⟨g, n, h1⟩ := W.hidd a zs (by rw [hh]; exact List.mem_cons_of_mem _ z)
      have ne : a ≠ p := fun q => (List.nodup_cons.mp hnd').1 (by rw [← q]; exact List.mem_map.mpr ⟨_, z, rfl⟩)
      exact ⟨g, n, by rw [upd_ne ne]; exact h1⟩
/-- the list in the making is done: frozen -/
theorem Wld.done {K : PySem.W.Frag} {w : Wd} {st : Sto} {H : Hp} {p : Addr} {vs : List V} {r : List (Addr × List V)} (W : Wld K w st H) (hh : w.hid = (p, vs) :: r) (n : vs.length ≤ sizeLine) : Wld K ⟨upd w.G p (.lst vs), w.as, r, w.dk, w.lk⟩ st H := by
  obtain ⟨g0, n0, h0⟩ := W.hidd p vs (by rw [hh]; exact List.mem_cons_self)
  have hnd := W.hnd
  rw [hh] at hnd
  have hnd' : (p :: r.map (·.1)).Nodup := hnd
  have s : Same w.G (upd w.G p (.lst vs)) := fun b u e => by
    rw [upd_ne (ne_of_none e g0)]
    exact e
  refine ⟨fun b u e => ?_, W.len, W.nd, fun i a e => ?_, fun a u e => ?_, fun a zs m => ?_, (List.nodup_cons.mp hnd').2⟩
  · have e' : upd w.G p (.lst vs) b = some u := e
    by_cases hb : b = p
    · subst hb
      rw [upd_same] at e'
      cases e'
      exact h0
    · rw [upd_ne hb] at e'
      exact W.same b u e'
  · obtain ⟨g, xs, zs, h1, h2, h3⟩ := W.at_ i a e
    have ne : a ≠ p := fun z => n0 (by rw [← z]; exact List.mem_of_getElem? e)
    refine ⟨?_, xs, zs, h1, h2, h3.rg s _⟩
    show upd w.G p (.lst vs) a = none
    rw [upd_ne ne]
    exact g
  · have e' : upd w.G p (.lst vs) a = some u := e
    by_cases ha : a = p
    · subst ha
      rw [upd_same] at e'
      cases e'
      exact n
    · rw [upd_ne ha] at e'
      exact W.small a u e'
  · obtain ⟨g, n, h1⟩ := W.hidd a zs (by rw [hh]; exact List.mem_cons_of_mem _ m)
    have ne : a ≠ p := fun q => (List.nodup_cons.mp hnd').1 (by rw [← q]; exact List.mem_map.mpr ⟨_, m, rfl⟩)
    refine ⟨?_, n, h1⟩
    show upd w.G p (.lst vs) a = none
    rw [upd_ne ne]
    exact g
theorem wipe_get (σ : L2.St) (j : Nat) : ∀ vs : List Nat, (wipe σ vs)[j]? = if j ∈ vs then σ[j]?.map (fun _ => none) else σ[j]?
  | [] => by simp [wipe]
  | v :: vs => by
    show ((wipe σ vs).set v none)[j]? = _
    by_cases hj : v = j
    · subst hj
      rw [if_pos List.mem_cons_self]
      by_cases hl : v < σ.length
      · rw [List.getElem?_set_self (by rw [wipe_length]; exact hl), List.getElem?_eq_getElem hl]
        rfl
      · rw [List.getElem?_eq_none (by simp [wipe_length]; omega), List.getElem?_eq_none (by omega)]
        rfl
    · rw [List.getElem?_set_ne hj, wipe_get σ j vs]
      by_cases hm : j ∈ vs
      · rw [if_pos hm, if_pos (List.mem_cons_of_mem _ hm)]
      · rw [if_neg hm, if_neg (fun z => by rcases List.mem_cons.mp z with z | z; exact hj z.symm; exact hm z)]
theorem wipe_set {σ : L2.St} {i : Nat} {x : Option V} {vs : List Nat} (h : i ∈ vs) : wipe (σ.set i x) vs = wipe σ vs := by
  refine List.ext_getElem? fun j => ?_
  rw [wipe_get, wipe_get]
  by_cases hj : j = i
  · subst hj
    rw [if_pos h, if_pos h]
    by_cases hl : j < σ.length
    · rw [List.getElem?_set_self hl, List.getElem?_eq_getElem hl]
      rfl
    · rw [List.getElem?_eq_none (by simp; omega), List.getElem?_eq_none (by omega)]
  · rw [List.getElem?_set_ne (Ne.symm hj)]
theorem wipe_wipe (σ : L2.St) (vs : List Nat) : wipe (wipe σ vs) vs = wipe σ vs := by
  refine List.ext_getElem? fun j => ?_
  rw [wipe_get, wipe_get]
  split
  · cases σ[j]? <;> rfl
  · rfl
/-- a target that is the block's own -/
def tDGo (K : PySem.W.Frag) (vs : List Nat) (g : DG) : TG := fun v σ H Q => ∃ w env st d nx, Wld K w st H ∧ EnvR K w env σ ∧ Rep K w d v ∧ g d env st nx ∧
  ∀ env' st' σ' w' H', nx env' st' → Le w w' → Wld K w' st' H' → EnvR K w' env' σ' → wipe σ' vs = wipe σ vs → Q σ' H'
def tDGso (K : PySem.W.Frag) (vs : List Nat) (g : DGs) : TGs := fun us σ H Q => ∃ w env st ds nx, Wld K w st H ∧ EnvR K w env σ ∧ Reps K w ds us ∧ g ds env st nx ∧
  ∀ env' st' σ' w' H', nx env' st' → Le w w' → Wld K w' st' H' → EnvR K w' env' σ' → wipe σ' vs = wipe σ vs → Q σ' H'
abbrev PDGo (X : Cx) (vs : List Nat) (e : Expr) (g : DG) : Prop := PG X e (tDGo X.K vs g)
abbrev PDGso (X : Cx) (vs : List Nat) (e : List Expr) (g : DGs) : Prop := PGs X e (tDGso X.K vs g)
theorem pdgo_name (i : Nat) {vs : List Nat} {x : Str} (hN : X.N.Nodup) (hi : X.N[i]? = some x := by rfl) (hx : Loc X.env.scope x := by first | exact Or.inl rfl | exact Or.inr rfl) (hf : X.fn x = true ∨ X.env.scope.names.lookup x = some .local := by first | exact .inl rfl | exact .inr rfl | assumption) (hv : i ∈ vs := by decide) : PDGo X vs (.Name x pos) (dgName i) := by
  refine L2.PG.wk (pg_name hN hi hx hf) fun v σ H Q ⟨w, env, st, d, nx, W, E, R, h, fn⟩ => ?_
  exact fn _ _ _ _ _ h (.refl _) W (E.set i R) (wipe_set hv)
theorem pdgso_nil {vs : List Nat} : PDGso X vs [] dgNil := by
  refine L2.PGs.wk pgs_nil fun v σ H Q ⟨w, env, st, ds, nx, W, E, R, h, fn⟩ => ?_
  cases ds with
  | nil => exact ⟨R.inv0, fn _ _ _ _ _ h (.refl _) W E rfl⟩
  | cons _ _ => exact h.elim
theorem pdgso_cons {vs : List Nat} {es : List Expr} {t : DG} {u : DGs} (h1 : PDGo X vs e t) (h2 : PDGso X vs es u)
    (hs : (assignEach (e :: es) X.env).map (·.2) = assign e X.env :: (assignEach es X.env).map (·.2) := by rfl) : PDGso X vs (e :: es) (dgCons t u) := by
  refine L2.PGs.wk (pgs_cons h1 h2 hs) fun v σ H Q ⟨w, env, st, ds, nx, W, E, R, h, fn⟩ => ?_
  cases ds with
  | nil => exact h.elim
  | cons d r =>
    obtain ⟨v, vr, rfl, R1, R2⟩ := R.inv
    exact ⟨v, vr, rfl, w, env, st, d, _, W, E, R1, h, fun env1 st1 σ1 w1 H1 h1 l1 W1 E1 ew => ⟨w1, env1, st1, r, nx, W1, E1, Reps.mono l1 _ _ R2, h1,
      fun env2 st2 σ2 w2 H2 h2 l2 W2 E2 ew2 => fn _ _ _ _ _ h2 (l1.trans l2) W2 E2 (ew2.trans ew)⟩⟩
theorem pdgo_tup {vs : List Nat} {es : List Expr} {kk : Nat} {t : DGs} {n : Nat} (hc : X.calm = true) (h : PDGso X vs es t)
    (hn : (assignEach es X.env).length = n := by rfl) (hst : (assignEach es X.env).findIdx? (·.1) = none := by rfl) : PDGo X vs (.Tuple es kk pos) (dgTup n t) := by
  refine L2.PG.wk (pg_tup hc h hn hst) fun v σ H Q ⟨w, env, st, d, nx, W, E, R, h, fn⟩ => ?_
  unfold dgTup at h
  split at h
  · rename_i xs e
    obtain ⟨a, us, rfl, q, r, _⟩ := rep_tup W R e
    exact ⟨a, us, rfl, q, by rw [r.length]; exact h.1, w, env, st, xs, nx, W, E, r, h.2, fn⟩
  · exact h.elim
def dYes : DT := fun _ st k => k true st
abbrev PDTs (X : Cx) (ifs : List Expr) (t : DT) : Prop := PTs X ifs (tDT X.K t)
theorem pdts_nil : PDTs X [] dYes := ⟨fun pins s σ H Q I ⟨w, env, st, kk, W, E, h, fo⟩ => pts_nil.run pins s σ H Q I (fo _ _ _ _ h (.refl _) W)⟩
theorem pdts_one {c : Expr} {t : DT} (h : PDT X c t) : PDTs X [c] t := pts_one h
theorem lc_in {K : PySem.W.Frag} {di : DI} {g : DG} {tt : DT} {te : DE} {vs : List Nat} {σ : L2.St} {H : Hp} {Q : VK} {w : Wd} {env : Env} {st : Sto} {k : List D → Sto → Prop} (W : Wld K w st H) (E : EnvR K w env σ)
    (h : di env st fun xs src s1 => xs.length ≤ 16777216 ∧ goLc src g tt te vs env k xs [] s1)
    (fin : ∀ (acc : List D) (st2 : Sto) (D : Addr) (us : List V) (w2 : Wd) (H2 : Hp), w2.hid = (D, us) :: w.hid → Le0 w w2 → Wld K w2 st2 H2 → Reps K w2 acc us → us.length ≤ sizeLine → k acc st2 → Q (.ref D) H2) :
    tLc (tDI K di) (tDGo K vs g) (tDT K tt) (tD K te) vs σ H Q := by
  refine ⟨w, env, st, _, W, E, h, fun xs src st1 w1 H1 J ⟨hlen, h1⟩ l1 W1 wk D hD => ?_⟩
  refine ⟨fun i m H2 => m = xs.length - i ∧ i ≤ xs.length ∧ ∃ w2 st2 acc us, w2.hid = (D, us) :: w.hid ∧ Le0 w1 w2 ∧ Wld K w2 st2 H2 ∧ Reps K w2 acc us ∧ us.length ≤ i ∧ goLc src g tt te vs env k (xs.drop i) acc st2,
    ⟨xs.length, by simp, Nat.zero_le _, ⟨w1.G, w1.as, (D, []) :: w1.hid, w1.dk, w1.lk⟩, st1, [], [], by rw [← l1.hid], ⟨Same.refl w1.G, .eq rfl rfl, fun _ _ => rfl⟩, W1.hide (vs := []) hD, .nil, Nat.le_refl _, by simpa using h1⟩, ?_⟩
  rintro i m H2 ⟨rfl, hi, w2, st2, acc, us, hh, l2, W2, R2, hu, q⟩
  by_cases hlt : i < xs.length
  · rw [List.drop_eq_getElem_cons hlt] at q
    obtain ⟨so, q⟩ := q
    refine .inr ⟨wk.goes i w2 st2 H2 hlt l2 W2 so, fun H' => ∃ w3 st3 acc us, w3.hid = (D, us) :: w.hid ∧ Le0 w1 w3 ∧ Wld K w3 st3 H' ∧ Reps K w3 acc us ∧ us.length ≤ i + 1 ∧ goLc src g tt te vs env k (xs.drop (i + 1)) acc st3, fun H' pv => ⟨xs.length - (i + 1), by omega, rfl, hlt, pv⟩, fun v H3 y => ?_⟩
    obtain ⟨w3, d, l3, W3, e3, R3⟩ := wk.yields i w2 st2 H2 v H3 hlt l2 W2 so y
    have ed : d = xs[i] := by
      rw [List.getElem?_eq_getElem hlt] at e3
      exact (Option.some.inj e3).symm
    rw [← ed] at q
    have l03 : Le0 w w3 := (l1.toLe0.trans l2).trans l3.toLe0
    refine ⟨w3, wipeE env vs, st2, d, _, W3, (E.mono0 l03).wipe vs, R3, q, fun env4 st4 σ4 w4 H4 h4 l4 W4 E4 ew => ⟨ew.trans (wipe_wipe σ vs), ?_⟩⟩
    refine ⟨w4, env4, st4, _, W4, E4, h4, fun b st5 w5 H5 h5 l5 W5 => ?_⟩
    have l25 := (l3.trans l4).trans l5
    cases b with
    | true =>
      simp only [↓reduceIte] at h5 ⊢
      refine ⟨w5, env4, st5, _, W5, E4.mono l5, h5, fun d6 st6 v6 w6 H6 h6 l6 W6 R6 => ?_⟩
      have l26 := l25.trans l6
      have h6h : w6.hid = (D, us) :: w.hid := l26.hid.trans hh
      refine ⟨us, (W6.hidd D us (by rw [h6h]; exact List.mem_cons_self)).2.2, by rw [sizeLine_eq]; omega, ⟨w6.G, w6.as, (D, us ++ [v6]) :: w.hid, w6.dk, w6.lk⟩, st6, acc ++ [d6], us ++ [v6], rfl, ?_, W6.regrow h6h, ?_, by simp; omega, h6⟩
      · exact ⟨(l2.trans l26.toLe0).same, ⟨(l2.trans l26.toLe0).pre.as, (l2.trans l26.toLe0).pre.dk⟩, (l2.trans l26.toLe0).lk⟩
      · exact ((Reps.mono l26 _ _ R2).rh _).append (.cons (R6.rh _) .nil)
    | false =>
      simp only [Bool.false_eq_true, ↓reduceIte] at h5 ⊢
      exact ⟨w5, st5, acc, us, l25.hid.trans hh, l2.trans l25.toLe0, W5, Reps.mono l25 _ _ R2, Nat.le_succ_of_le hu, h5⟩
  · have hie : i = xs.length := by omega
    subst hie
    rw [List.drop_length] at q
    exact .inl ⟨wk.stops w2 st2 H2 l2 W2 q.1, fin acc st2 D us w2 H2 hh (l1.toLe0.trans l2) W2 R2 (by rw [sizeLine_eq]; omega) q.2⟩
theorem lc_fin {K : PySem.W.Frag} {w : Wd} {kk : DK} {Q : VK} (fo : Fol K w kk Q) (acc : List D) (st2 : Sto) (p : Addr) (us : List V) (w2 : Wd) (H2 : Hp) (hh : w2.hid = (p, us) :: w.hid) (l : Le0 w w2) (W2 : Wld K w2 st2 H2) (R : Reps K w2 acc us) (n : us.length ≤ sizeLine) (k : kk (.lst acc) st2) : Q (.ref p) H2 := by
  have g0 := (W2.hidd p us (by rw [hh]; exact List.mem_cons_self)).1
  have s : Same w2.G (upd w2.G p (.lst us)) := fun b u e => by
    rw [upd_ne (ne_of_none e g0)]
    exact e
  refine fo _ _ _ ⟨upd w2.G p (.lst us), w2.as, w.hid, w2.dk, w2.lk⟩ _ k ⟨⟨l.same.trans s, ⟨l.pre.as, l.pre.dk⟩, l.lk⟩, rfl⟩ (W2.done hh n) ?_
  simp only [Rep]
  exact ⟨p, us, rfl, upd_same, R.rg s _⟩
variable {elt iter : Expr} {ifs : List Expr} {scope : Scope} {own : List (Str × Nat)} {di : DI} {g : DG} {tt : DT} {te : DE}
theorem pd_lc (own : List (Str × Nat)) (hc : X.calm = true) (hN : X.N.Nodup) (hi : PDI X tg iter di) (ok : BlkOk X.N X.env.scope scope own)
    (hg : ∀ (s : Shared) (H : Hp) (C : Addr) (cl : List (Str × Addr)) (fp : List Addr), PDGo (X.blk s H scope (compEnvC scope cl C X.env) fp) (own.map (·.2)) tg g) (ht : ∀ (s : Shared) (H : Hp) (C : Addr) (cl : List (Str × Addr)) (fp : List Addr), PDTs (X.blk s H scope (compEnvC scope cl C X.env) fp) ifs tt)
    (he : ∀ (s : Shared) (H : Hp) (C : Addr) (cl : List (Str × Addr)) (fp : List Addr), PD (X.blk s H scope (compEnvC scope cl C X.env) fp) elt te) (hs : ∀ x, foldedSetIterable iter X.env x = pure x := by intro _; rfl) :
    PD X (.ListComp elt [⟨tg, iter, ifs, 0⟩] scope pos) (dLc di g tt te (own.map (·.2))) :=
  (L2.pe_lc hc hN hi ok hg ht he hs).wk fun σ H Q ⟨w, env, st, kk, W, E, h, fo⟩ => lc_in W E h (lc_fin fo)
/-- y = [..], y a local -/
theorem pds_setLc (i : Nat) (own : List (Str × Nat)) {y : Str} {py spos : Pos} (hc : X.calm = true) (hN : X.N.Nodup) (hi : PDI X tg iter di) (ok : BlkOk X.N X.env.scope scope own)
    (hg : ∀ (s : Shared) (H : Hp) (C : Addr) (cl : List (Str × Addr)) (fp : List Addr), PDGo (X.blk s H scope (compEnvC scope cl C X.env) fp) (own.map (·.2)) tg g) (ht : ∀ (s : Shared) (H : Hp) (C : Addr) (cl : List (Str × Addr)) (fp : List Addr), PDTs (X.blk s H scope (compEnvC scope cl C X.env) fp) ifs tt)
    (he : ∀ (s : Shared) (H : Hp) (C : Addr) (cl : List (Str × Addr)) (fp : List Addr), PD (X.blk s H scope (compEnvC scope cl C X.env) fp) elt te)
    (hsw : swapsWith (.ListComp elt [⟨tg, iter, ifs, 0⟩] scope pos) (some (.Name y py)) spos.line X.env = pure true) (hy : X.N[i]? = some y := by rfl) (hyl : X.env.scope.names.lookup y = some .local := by rfl) (hs : ∀ x, foldedSetIterable iter X.env x = pure x := by intro _; rfl) :
    PDS X (.Assign [.Name y py] (.ListComp elt [⟨tg, iter, ifs, 0⟩] scope pos) spos) (dAsg (dLc di g tt te (own.map (·.2))) (dgName i)) := by
  refine (L2.ps_setLc (g := tDGo X.K (own.map (·.2)) g) (tt := tDT X.K tt) (te := tD X.K te) hc hN hy hyl hsw hi ok hg ht he hs).wk fun Ed σ H ⟨w, env, st, E0, W, E, h, fn, fr⟩ => ?_
  exact lc_in W E h (lc_fin (kk := fun d s1 => dgName i d env s1 E0.nx) fun d st1 v w1 H1 h1 l1 W1 R1 => fn _ _ _ _ _ h1 l1 W1 ((E.mono l1).set i R1))
end
end DL

namespace DL
open PySem PySem.Spec PyProof.Rows L2
section
variable {X : Cx} {tg e e2 o i : Expr} {es : List Expr} {pos p : Pos} {ta tb to ti : DE}
/-! ### methods of lists -/
abbrev FM := D → List D → Sto → DK → Prop
def rDM (K : PySem.W.Frag) (f : FM) : V → List V → Hp → VK → Prop := fun x vs H Q => ∃ w st d ds kk, Wld K w st H ∧ Rep K w d x ∧ Reps K w ds vs ∧ f d ds st kk ∧ Fol K w kk Q
def isLst (st : Sto) (d : D) : Bool := match deref st d with
  | .lst _ => true
  | _ => false
def dMeth (f : FM) (to : DE) (ta : DA) : DE := fun env st k => to env st fun d s1 => isLst s1 d = true ∧ ta env s1 fun ds s2 => f d ds s2 k
theorem isLst_rep {K : PySem.W.Frag} {w : Wd} {st : Sto} {H : Hp} {d : D} {v : V} (W : Wld K w st H) (R : Rep K w d v) (h : isLst st d = true) : tyV K "list" v H := by
  unfold isLst at h
  split at h
  · rename_i xs hd
    obtain ⟨a, vs, rfl, q, _⟩ := rep_lst W R hd
    exact .inl ⟨rfl, vs, q⟩
  · cases h
theorem pd_bm {nm : Str} {idn : String} {apos cpos : Pos} {f : FM} {t : DA} (slot : Slot "list" nm idn) (hty : typeOf (.builtin idn) = pure (.type "method_descriptor")) (hm : MtR X idn (rDM X.K f)) (ho : PD X o to) (ha : PDA X (e :: es) t)
    (hbase : attributeBase o nm X.env (eval o X.env) = eval o X.env := by rfl)
    (hfew : ((backTo cpos (starEach (e :: es) X.env)).all (fun x => !x.1) && (backToKw cpos (keywordEach [] X.env)).all (fun x => x.1.isSome)
      && decide ((e :: es).length + ([] : List Keyword).length + (if ([] : List Keyword).isEmpty then 0 else 1) < 30)) = true := by rfl)
    (hline : (apos.endLine == cpos.line) = true := by rfl) (hs : starEach (e :: es) X.env = (false, eval e X.env) :: starEach es X.env := by rfl) (hplain : (backTo cpos (starEach es X.env)).any (·.1) = false := by rfl) :
    PD X (.Call (.Attribute o nm apos) (e :: es) [] cpos) (dMeth f to t) := by
  refine (pe_bm PySem.F.plainAttrs_list slot hty hm ho ha hbase hfew hline hs hplain).wk fun σ H Q ⟨w, env, st, kk, W, E, h, fo⟩ => ?_
  refine ⟨w, env, st, _, W, E, h, fun d st1 v w1 H1 h1 l1 W1 R1 => ⟨isLst_rep W1 R1 h1.1, ?_⟩⟩
  exact ⟨w1, env, st1, _, W1, E.mono l1, h1.2, fun ds st2 vs w2 H2 h2 l2 W2 R2 => ⟨w2, st2, d, ds, kk, W2, Rep.mono l2 _ _ R1, R2, h2, fo.le (l1.trans l2)⟩⟩
def mAppend : FM := fun d ds st k => match d, ds with
  | .obj i, [x] => match st[i]? with
    | some xs => xs.length < 16777216 ∧ k .non (st.set i (xs ++ [x]))
    | none => False
  | _, _ => False
theorem obj_rep {K : PySem.W.Frag} {w : Wd} {st : Sto} {H : Hp} {i : Nat} {v : V} {xs : List D} (W : Wld K w st H) (R : Rep K w (.obj i) v) (h : st[i]? = some xs) :
    ∃ a vs, v = .ref a ∧ (w.as[i]? = some a ∧ w.dk a = none) ∧ H a = some (.lst vs) ∧ Reps K w xs vs ∧ vs.length ≤ sizeLine := by
  simp only [Rep] at R
  obtain ⟨a, e1, q, q2⟩ := R
  obtain ⟨g, ys, o, h1, h2, h3⟩ := W.at_ i a q
  rw [h] at h1
  cases h1
  rw [q2] at h3
  obtain ⟨vs, rfl, n3, h4⟩ := h3.lst
  exact ⟨a, vs, e1, ⟨q, q2⟩, h2, h4, n3⟩
theorem md_append : MtR X "list.append" (rDM X.K mAppend) := by
  rintro pins s σ H x xs v us Q I rx rs ⟨w, st, d, ds, kk, W, R1, R2, q, fo⟩
  unfold mAppend at q
  split at q
  · rename_i j y
    split at q
    · rename_i ys hj
      obtain ⟨a, vs, rfl, ha, hH, r, n⟩ := obj_rep W R1 hj
      obtain ⟨yv, rfl, ry⟩ := one_rep R2
      have n' : vs.length < sizeLine := by rw [r.length, sizeLine_eq]; exact q.1
      refine mt_append pins s σ H _ _ v us Q I rx rs ⟨a, vs, yv, rfl, rfl, hH, n', ?_⟩
      exact fo _ _ _ _ _ q.2 (.refl _) (W.wr ha.1 ha.2 (r.append (.cons ry .nil)) (by rw [List.length_append]; exact n')) rep_non
    · exact q.elim
  · exact q.elim
/-! ### o[i] = v -/
def setD (o i v : D) (st : Sto) (k : Sto → Prop) : Prop := match o, i with
  | .obj j, .int n => match st[j]? with
    | some xs => ∃ m, ixN xs.length n = some m ∧ k (st.set j (xs.set m v))
    | none => False
  | _, _ => False
def dgSub (to ti : DE) : DG := fun v env st k => to env st fun o s1 => ti env s1 fun i s2 => setD o i v s2 fun s3 => k env s3
theorem pdg_sub (ho : PD X o to) (hi : PD X i ti)
    (ha : ∀ v, assign (.Subscript o i pos) X.env v = (do
      let ov ← holding [v] (eval o X.env)
      let iv ← holding [v, ov] (eval i X.env)
      standAt pos
      holding [v, ov, iv] (setItem ov iv v)
      release [v, ov, iv] []) := by intro _; rfl) : PDG X (.Subscript o i pos) (dgSub to ti) := by
  refine L2.PG.wk (pg_sub ho hi set_list ha) fun v σ H Q ⟨w, env, st, d, nx, W, E, R, h, fn⟩ => ?_
  refine ⟨w, env, st, _, W, E, h, fun d1 st1 v1 w1 H1 h1 l1 W1 R1 => ⟨w1, env, st1, _, W1, E.mono l1, h1, fun d2 st2 v2 w2 H2 h2 l2 W2 R2 => ?_⟩⟩
  unfold setD at h2
  split at h2
  · rename_i j n
    split at h2
    · rename_i xs hj
      obtain ⟨m, hm, h2⟩ := h2
      obtain ⟨a, vs, rfl, ha, hH, r, nn⟩ := obj_rep W2 (Rep.mono l2 _ _ R1) hj
      simp only [Rep] at R2
      subst R2
      refine ⟨a, vs, n, m, rfl, rfl, hH, by rw [r.length]; exact hm, ?_⟩
      refine fn _ _ _ _ _ h2 (l1.trans l2) (W2.wr ha.1 ha.2 (r.set m (Rep.mono (l1.trans l2) _ _ R)) (by rw [List.length_set]; exact nn)) (E.mono (l1.trans l2))
    · exact h2.elim
  · exact h2.elim
/-- x op= e -/
def dAug (i : Nat) (t : DE) (f : F2) : DS := fun D env st => match env[i]? with
  | some (some d) => t env st fun e s1 => f d e s1 fun z s2 => D.nx (env.set i (some z)) s2
  | _ => False
theorem pds_aug (i : Nat) {x : Str} {op : Operator} {f : F2} {pos' : Pos} (hN : X.N.Nodup) (he : PD X e ta) (ho : OpR X (inplaceOp op) (rD X.K f)) (hi : X.N[i]? = some x := by rfl) (hx : Loc X.env.scope x := by first | exact Or.inl rfl | exact Or.inr rfl) (hf : X.fn x = true ∨ X.env.scope.names.lookup x = some .local := by first | exact .inl rfl | exact .inr rfl | assumption) :
    PDS X (.AugAssign (.Name x pos') op e pos) (dAug i ta f) := by
  refine (ps_aug (ti := rD X.K f) hN hi hx he ho hf).wk fun Ed σ H ⟨w, env, st, E0, W, E, h, fn, fr⟩ => ?_
  unfold dAug at h
  split at h
  · rename_i d hd
    obtain ⟨v, e1, r⟩ := E.2 i d hd
    refine ⟨v, e1, w, env, st, _, W, E, h, fun e st1 u w1 H1 h1 l1 W1 R1 => ?_⟩
    exact ⟨w1, st1, d, e, _, W1, Rep.mono l1 _ _ r, R1, h1, fun z st2 y w2 H2 h2 l2 W2 R2 => fn _ _ _ _ _ h2 (l1.trans l2) W2 (((E.mono l1).mono l2).set i R2)⟩
  · exact h.elim
def iaddD : F2 := fun d e st k => match d, e with
  | .int a, .int b => k (.int (a + b)) st
  | _, _ => False
theorem iop_addD : OpR X (inplaceOp .Add) (rD X.K iaddD) := by
  refine OpR.by_ fun x y H Q w st d e kk W R1 R2 q fo => ?_
  unfold iaddD at q
  split at q
  · simp only [Rep] at R1 R2
    exact ⟨_, iop_add, _, _, R1, R2, fo.id q W rep_int⟩
  · exact q.elim
/-! ### isinstance -/
def tyD : D → String
  | .non => "NoneType"
  | .bl _ => "bool"
  | .int _ => "int"
  | .str _ => "str"
  | .lst _ => "list"
  | .klst _ => "list"
  | .tup _ => "tuple"
  | .obj _ => "list"
  | .dic _ _ => "dict"
  | .fdic _ _ => "dict"
  | .gtup _ => "tuple"
/-- is a value of the type a one of the type b -/
def subTy (a b : String) : Bool := a == b || (a == "bool" && b == "int")
theorem kit_all : (["NoneType", "bool", "int", "str", "list", "tuple", "dict"].all fun a => okTy.all fun b => kitB a b == some (subTy a b)) = true := by decide +kernel
theorem kit_at (d : D) {b : String} (hb : b ∈ okTy) : kitB (tyD d) b = some (subTy (tyD d) b) := by
  have h := List.all_eq_true.mp kit_all (tyD d) (by cases d <;> simp [tyD])
  exact eq_of_beq (List.all_eq_true.mp h b hb)
/-- a value's type, as isinstance needs it; of a dict with keys of tuples, too -/
def TyZ (K : PySem.W.Frag) (H : Hp) (v : V) (t : Value) : Prop := TyX K H v t ∨ (t = .type "dict" ∧ ∃ a b ys vs, v = .ref a ∧ (H a = some (ndO b ys vs) ∨ ∃ ob, H a = some (.frz ob (ndO b ys vs))))
theorem nd_self {P : Program} {wo : World} {H : Hp} {h : Heap} {a b : Addr} {ys : List PySem.NestedKey} {vs : List V} (x : ObjOk P wo H h a (ndO b ys vs)) : b = a := by
  obtain ⟨z, _, st⟩ := x
  refine Classical.byContradiction fun ne => ?_
  obtain ⟨G, g1, g2⟩ := restrict h fun c => decide (c ≠ b)
  have y := st h G z fun o e => by rw [g1 a (decide_eq_true (Ne.symm ne))]; exact e
  obtain ⟨us, _, ⟨o, es, ep, e, _⟩, _⟩ := y
  rw [g2 b (by simp)] at e
  cases e
theorem nd_at {P : Program} {wo : World} {H : Hp} {h : Heap} {a b : Addr} {ys : List PySem.NestedKey} {vs : List V} (x : ObjOk P wo H h a (ndO b ys vs)) : ∃ us, Vals vs us ∧ NdRaw h a ys us ∧ (a == sysModules) = false ∧ ys.Nodup ∧ vs.length ≤ 2 * sizeLine := by
  have e := nd_self x
  subst e
  exact x.1
theorem kit_ofZ {X : Cx} {pins : List (Addr × Obj)} {σ : L2.St} {H : Hp} {s : Shared} {x : V} {u t : Value} (I : Inv X pins σ H s) (rx : RelV x u) (ty : TyZ X.K H x t) : ∃ P : Heap → Prop, PySem.W.KitX X.K u t P ∧ P s.heap ∧ u ≠ .builtin "__main__.__loader__#opaque" := by
  rcases ty with ty | ⟨rfl, a, b, ys, vs, rfl, h⟩
  · exact kit_of I rx ty
  · obtain ⟨us, _, ⟨o, es, ep, e, ex, _⟩, _⟩ := nd_at (P := X.prog) (wo := X.w) (H := H) (h := s.heap) (a := a) (b := b) (ys := ys) (vs := vs) (by
      rcases h with h | ⟨ob, h⟩
      · exact I.hok a _ h
      · exact (I.hok a _ h).2)
    obtain rfl : u = Value.ref a := rx
    exact ⟨_, PySem.W.kitx_dict, ⟨o, e, ex.1⟩, fun z => nomatch z⟩
/-- isinstance(x, c), isinstance(x, (c1, c2)) -/
def rIsiZ (K : PySem.W.Frag) : List V → Hp → VK → Prop := fun xs H Q => ∃ (x c : V) (t u : Value) (b : Bool), xs = [x, c] ∧ ClsV c u ∧ TyZ K H x t ∧ PySem.W.kitOne K t u = some b ∧ Q (.bl b) H
def rIsiTZ (K : PySem.W.Frag) : List V → Hp → VK → Prop := fun xs H Q => ∃ (x : V) (p : Addr) (cs : List V) (t : Value) (us : List Value) (b : Bool), xs = [x, .ref p] ∧ H p = some (.tup cs) ∧ Paired ClsV cs us ∧ TyZ K H x t ∧ PySem.W.kitAny K t us = some b ∧ Q (.bl b) H
theorem call_isiZ {X : Cx} : CallR X (.builtin "isinstance") (rIsiZ X.K) := by
  rintro pins s σ H _ ws Q I r ⟨x, c, t, u, b, rfl, k, ty, e, q⟩
  obtain ⟨w1, w2, rfl, r1, r2⟩ := vals2 r
  obtain ⟨P, Z, p, hx⟩ := kit_ofZ I r1 ty
  rw [k.eq r2]
  exact PySem.W.kia_one Z I.kIn p e hx fun tk => ⟨.bl b, _, I.tok tk, rfl, q⟩
theorem call_isiTZ {X : Cx} : CallR X (.builtin "isinstance") (rIsiTZ X.K) := by
  rintro pins s σ H _ ws Q I r ⟨x, p0, cs, t, us, b, rfl, hT, k, ty, e, q⟩
  obtain ⟨w1, w2, rfl, r1, r2⟩ := vals2 r
  obtain rfl : w2 = Value.ref p0 := r2
  obtain ⟨P, Z, p, hx⟩ := kit_ofZ I r1 ty
  have ok := I.hok p0 _ hT
  obtain ⟨_, its, rv, ⟨c, dd, dat, sl⟩, h1, h2, n, h3⟩ := ok
  obtain rfl : c = _ := h2
  obtain rfl : dat = _ := h3
  obtain rfl := ClsV.all k rv
  exact PySem.W.kia_tup Z I.kIn p h1 e hx fun tk => ⟨.bl b, _, I.tok tk, rfl, q⟩
def TyI (K : PySem.W.Frag) (H : Hp) (v : V) (y : String) : Prop := ∃ t, TyZ K H v t ∧ ∀ b ∈ okTy, PySem.W.kitOne K t (.type b) = some (subTy y b)
theorem tyI_of {K : PySem.W.Frag} {H : Hp} {v : V} (d : D) (h : TyX K H v (.type (tyD d))) : TyI K H v (tyD d) := ⟨_, .inl h, fun _ hb => kit_ty (kit_at d hb)⟩
theorem dict_no : ∀ b ∈ okTy, subTy "dict" b = false := by decide +kernel
theorem tyI_ins {K : PySem.W.Frag} {H : Hp} {a dx : Addr} {fs : List (Str × V)} {c : Str} (h : H a = some (.ins (He.ga K c) dx fs)) (q : ClsT K c) : TyI K H (.ref a) "dict" :=
  ⟨_, .inl (.base (.ins h q.cls q.ha q.hn q.htk q.hm)), fun b hb => by rw [q.no b hb, dict_no b hb]⟩
theorem tyI_nd {K : PySem.W.Frag} {H : Hp} {a b : Addr} {ys : List PySem.NestedKey} {vs : List V} (h : H a = some (ndO b ys vs)) : TyI K H (.ref a) "dict" :=
  ⟨_, .inr ⟨rfl, a, b, ys, vs, rfl, .inl h⟩, fun _ hb => kit_ty (kit_at (.dic .n 0) hb)⟩
theorem tyI_ndf {K : PySem.W.Frag} {H : Hp} {a b : Addr} {ob : Obj} {ys : List PySem.NestedKey} {vs : List V} (h : H a = some (.frz ob (ndO b ys vs))) : TyI K H (.ref a) "dict" :=
  ⟨_, .inr ⟨rfl, a, b, ys, vs, rfl, .inr ⟨ob, h⟩⟩, fun _ hb => kit_ty (kit_at (.dic .n 0) hb)⟩
theorem tyX_rep {K : PySem.W.Frag} {w : Wd} {st : Sto} {H : Hp} {d : D} {v : V} (W : Wld K w st H) (R : Rep K w d v) : TyI K H v (tyD d) := by
  have lst : ∀ {a : Addr} {vs : List V}, SqL K H a vs → TyX K H (.ref a) (.type "list") := fun {a vs} q => by
    rcases q with (h | ⟨o, h⟩) | ⟨o, its, n, h, hc, _⟩
    · exact .base (.lst h)
    · exact .base (.frz h)
    · exact .kList h hc
  cases d with
  | non => simp only [Rep] at R; subst R; exact tyI_of .non (.base .non)
  | bl b => simp only [Rep] at R; subst R; exact tyI_of (.bl b) (.base (.bl b))
  | int b => simp only [Rep] at R; subst R; exact tyI_of (.int b) (.base (.int b))
  | str b => simp only [Rep] at R; subst R; exact tyI_of (.str b) (.base (.str b))
  | lst xs => simp only [Rep] at R; obtain ⟨a, vs, rfl, q, _⟩ := R; exact tyI_of (.lst xs) (.base (.lst (W.same _ _ q)))
  | klst xs => simp only [Rep] at R; obtain ⟨a, vs, rfl, q, _⟩ := R; exact tyI_of (.klst xs) (lst (W.same.seq q))
  | tup xs =>
    simp only [Rep] at R
    obtain ⟨a, vs, rfl, q, _⟩ := R
    exact tyI_of (.tup xs) (.base (.tup (W.same _ _ q)))
  | gtup xs =>
    simp only [Rep] at R
    obtain ⟨a, vs, rfl, q, _⟩ := R
    rcases seqT_mono W.same q with (h | ⟨o, h⟩) | ⟨o, its, n, h, hc, _⟩
    · exact tyI_of (.gtup xs) (.base (.tup h))
    · exact tyI_of (.gtup xs) (.fTuple h)
    · exact tyI_of (.gtup xs) (.kTuple h hc)
  | obj i =>
    simp only [Rep] at R
    obtain ⟨a, rfl, q, q2⟩ := R
    obtain ⟨_, _, o, _, h, h3⟩ := W.at_ i a q
    rw [q2] at h3
    obtain ⟨vs, rfl, _⟩ := h3.lst
    exact tyI_of (.obj i) (.base (.lst h))
  | dic t i =>
    simp only [Rep] at R
    obtain ⟨a, rfl, q, q2, q3⟩ := R
    obtain ⟨_, _, o, _, h, h3⟩ := W.at_ i a q
    rw [q2] at h3
    rcases t with (_ | _) | c | _
    · rcases h3 with ⟨_, vs, rfl, _⟩ | ⟨_, _, _, _, _, _, rfl, _⟩ | ⟨z, _⟩
      · exact tyI_of (.dic false i) (.base (.dK h))
      · exact tyI_of (.dic false i) (.fDict h)
      · cases z
    · obtain ⟨vs, rfl, _⟩ := h3.dT
      exact tyI_of (.dic true i) (.base (.dT h))
    · obtain ⟨dx, kvs, rfl, _⟩ := h3.ins
      exact tyI_ins h q3
    · rcases h3 with ⟨_, b, ys, vs, rfl, _⟩ | ⟨z, _⟩ | ⟨_, rows, ob, b, ys, vs, _, _, rfl, _⟩
      · exact tyI_nd h
      · cases z
      · exact tyI_ndf h
  | fdic t rows =>
    rcases t with (_ | _) | c | _
    · simp only [Rep] at R
      obtain ⟨a, kvs, rfl, q, _⟩ := R
      exact tyI_of (.fdic false rows) (.base (.dK (W.same _ _ q)))
    · simp only [Rep] at R
      obtain ⟨a, kvs, rfl, q, _⟩ := R
      exact tyI_of (.fdic true rows) (.base (.dT (W.same _ _ q)))
    · simp only [Rep] at R
      obtain ⟨a, dx, kvs, rfl, q, q3, _⟩ := R
      exact tyI_ins (W.same _ _ q) q3
    · simp only [Rep] at R
      obtain ⟨a, b, ys, vs, rfl, q, _⟩ := R
      exact tyI_nd (W.same _ _ q)
def dIsi (t : DE) (ts : List String) : DE := fun env st k => t env st fun d s1 => k (.bl (ts.any (subTy (tyD d)))) s1
theorem pd_isi {x : Str} {T : String} {q1 q2 : Pos} (hm : X.mg "isinstance" = none) (ha : PD X e ta) (hmx : X.mg x = none) (hv : bootBuiltins x = some (.type T)) (hT : T ∈ okTy := by decide)
    (hg : Gl X "isinstance" := by rfl) (hgx : Gl X x := by rfl) (hn : x ≠ "__name__" := by decide) (hdb : (x == ("__debug__" : Str)) = false := by decide)
    (he : starEach [e, .Name x q1] X.env = (false, eval e X.env) :: starEach [.Name x q1] X.env := by rfl) (he2 : starEach [.Name x q1] X.env = [(false, eval (.Name x q1) X.env)] := by rfl) (hpl : (backTo pos (starEach [.Name x q1] X.env)).any (·.1) = false := by rfl) :
    PD X (.Call (.Name "isinstance" q2) [e, .Name x q1] [] pos) (dIsi ta [T]) := by
  refine (pe_callB call_isiZ hg hm (by decide +kernel) (pa_cons ha (pa_cons (pe_bltn (v := .ty T) hgx hmx hv rfl hn hdb) pa_nil he2) he) (by decide) (by decide) he hpl).wk fun σ H Q ⟨w, env, st, kk, W, E, h, fo⟩ => ?_
  refine ⟨w, env, st, _, W, E, h, fun d st1 v w1 H1 h1 l1 W1 R1 => ?_⟩
  obtain ⟨ty, hty, hto⟩ := tyX_rep W1 R1
  refine ⟨v, .ty T, _, _, _, rfl, .ty T, hty, hto T hT, ?_⟩
  have h2 : kk (.bl (subTy (tyD d) T || false)) st1 := h1
  rw [Bool.or_false] at h2
  exact fo _ _ _ _ _ h2 l1 W1 rep_bl
theorem Wld.other {K : PySem.W.Frag} {w : Wd} {st : Sto} {H : Hp} (W : Wld K w st H) {p : Addr} {o : HO} (h : H p = none) : Wld K w st (upd H p o) where
  same := fun b u e => by rw [upd_ne (ne_of_none (W.same b u e) h)]; exact W.same b u e
  len := W.len
  nd := W.nd
  at_ := fun i a e => by
    obtain ⟨g, xs, vs, h1, h2, h3⟩ := W.at_ i a e
    exact ⟨g, xs, vs, h1, by rw [upd_ne (ne_of_none h2 h)]; exact h2, h3⟩
  small := W.small
  hidd := fun a vs m => by
    obtain ⟨g, n, h1⟩ := W.hidd a vs m
    exact ⟨g, n, by rw [upd_ne (ne_of_none h1 h)]; exact h1⟩
  hnd := W.hnd
theorem pd_isi2 {x y : Str} {T U : String} {q1 q2 q3 : Pos} {k0 : Nat} {q4 : Pos} (hm : X.mg "isinstance" = none) (ha : PD X e ta) (hmx : X.mg x = none) (hv : bootBuiltins x = some (.type T)) (hmy : X.mg y = none) (hvy : bootBuiltins y = some (.type U)) (hT : T ∈ okTy := by decide) (hU : U ∈ okTy := by decide)
    (hg : Gl X "isinstance" := by rfl) (hgx : Gl X x := by rfl) (hn : x ≠ "__name__" := by decide) (hdb : (x == ("__debug__" : Str)) = false := by decide) (hgy : Gl X y := by rfl) (hny : y ≠ "__name__" := by decide) (hdby : (y == ("__debug__" : Str)) = false := by decide)
    (he : starEach [e, .Tuple [.Name x q1, .Name y q3] k0 q4] X.env = (false, eval e X.env) :: starEach [.Tuple [.Name x q1, .Name y q3] k0 q4] X.env := by rfl) (he2 : starEach [.Tuple [.Name x q1, .Name y q3] k0 q4] X.env = [(false, eval (.Tuple [.Name x q1, .Name y q3] k0 q4) X.env)] := by rfl)
    (he3 : starEach [.Name x q1, .Name y q3] X.env = (false, eval (.Name x q1) X.env) :: starEach [.Name y q3] X.env := by rfl) (he4 : starEach [.Name y q3] X.env = [(false, eval (.Name y q3) X.env)] := by rfl) (hpl : (backTo pos (starEach [.Tuple [.Name x q1, .Name y q3] k0 q4] X.env)).any (·.1) = false := by rfl) :
    PD X (.Call (.Name "isinstance" q2) [e, .Tuple [.Name x q1, .Name y q3] k0 q4] [] pos) (dIsi ta [T, U]) := by
  refine (pe_callB call_isiTZ hg hm (by decide +kernel) (pa_cons ha (pa_cons (pe_tup (pa_cons (pe_bltn (v := .ty T) hgx hmx hv rfl hn hdb) (pa_cons (pe_bltn (v := .ty U) hgy hmy hvy rfl hny hdby) pa_nil he4) he3)) pa_nil he2) he) (by decide) (by decide) he hpl).wk fun σ H Q ⟨w, env, st, kk, W, E, h, fo⟩ => ?_
  refine ⟨w, env, st, _, W, E, h, fun d st1 v w1 H1 h1 l1 W1 R1 => ⟨by show 2 ≤ sizeLine; decide, fun t ht => ?_⟩⟩
  have W2 := W1.other (o := .tup [.ty T, .ty U]) ht
  obtain ⟨ty, hty, hto⟩ := tyX_rep W2 R1
  refine ⟨v, t, [.ty T, .ty U], _, [.type T, .type U], _, rfl, upd_same, .cons (.ty T) (.cons (.ty U) .nil), hty, ?_, fo _ _ _ _ _ h1 l1 W2 rep_bl⟩
  show PySem.W.kitAny X.K ty [.type T, .type U] = some ([T, U].any (subTy (tyD d)))
  refine kitAny_cons (hto T hT) (fun e1 => kitAny_cons (hto U hU) (fun e2 => ?_) (fun e2 => ?_)) (fun e1 => ?_)
  · simp [List.any, e1, e2, kitAny_nil]
  · simp [List.any, e1, e2]
  · simp [List.any, e1]

/-! ### calls with keywords -/
/-- the values in the parameters' order: the written ones, then the keywords' -/
def kperm {α : Type} (ix : List Nat) (us ws : List α) : List α := ix.filterMap fun i => (us ++ ws)[i]?
theorem kperm_vals (ix : List Nat) {vs zs : List V} {us ws : List Value} (r1 : Vals vs us) (r2 : Vals zs ws) : Vals (kperm ix vs zs) (kperm ix us ws) := by
  have r := r1.append r2
  unfold kperm
  induction ix with
  | nil => exact .nil
  | cons j js ih =>
    cases e : (vs ++ zs)[j]? with
    | none => rw [List.filterMap_cons, List.filterMap_cons, e, r.none_of e]; exact ih
    | some v =>
      obtain ⟨u, e1, rv⟩ := r.get e
      rw [List.filterMap_cons, List.filterMap_cons, e, e1]
      exact .cons rv ih
theorem kperm_reps {K : PySem.W.Frag} {w : Wd} (ix : List Nat) {ds es : List D} {vs us : List V} (r1 : Reps K w ds vs) (r2 : Reps K w es us) : Reps K w (kperm ix ds es) (kperm ix vs us) := by
  have r := r1.append r2
  unfold kperm
  induction ix with
  | nil => exact .nil
  | cons j js ih =>
    cases e : (ds ++ es)[j]? with
    | none =>
      have e1 : (vs ++ us)[j]? = none := by
        rw [List.getElem?_eq_none_iff] at e ⊢
        rw [r.length]
        exact e
      rw [List.filterMap_cons, List.filterMap_cons, e, e1]
      exact ih
    | some d =>
      obtain ⟨u, e1, rv⟩ := r.get e
      rw [List.filterMap_cons, List.filterMap_cons, e, e1]
      exact .cons rv ih
theorem kbn_of {K : PySem.W.Frag} {x qual : Str} {params : Arguments} {body : List Stmt} {scope : Scope} {kws : List (Str × V)} {f : Addr} {fd : FuncData} {ps : List Str} (n : Nat) (ks : List Str) (ix : List Nat) (F : FunD K x qual params body scope [] kws f fd)
    (h : ∀ (kV doc pm : Value) (an : Option Addr) (cdv ct : Value) (us ws : List Value), us.length = n → ws.length = ks.length → bindArgs (PySem.W.fnOf x qual params body scope .none kV doc pm an cdv ct) ⟨us, ks.zip ws⟩ = pure (ps.zip (kperm ix us ws))) :
    KBn K fd ps n ks (kperm ix) (kperm ix) where
  to := fun s us ws X l1 l2 => by
    obtain ⟨oc, od, dV, kV, doc, pm, an, cdv, ct, osl, rfl, _, _, hD, _⟩ := F.ex
    rcases hD with ⟨_, rfl⟩ | ⟨hne, _⟩
    · exact .of_eq (h kV doc pm an cdv ct us ws l1 l2)
    · exact absurd rfl hne
  rel := fun r1 r2 => kperm_vals ix r1 r2
abbrev PDK (X : Cx) (kws : List Keyword) (t : DA) : Prop := PK X kws (tDA X.K t)
theorem _root_.L2.PK.wk {X : Cx} {kws : List Keyword} {t t' : TA} (h : PK X kws t) (i : ∀ σ H Q, t' σ H Q → t σ H Q) : PK X kws t' := ⟨fun ps pins s σ H Q I q => h.run ps pins s σ H Q I (i σ H Q q)⟩
theorem pdk_nil : PDK X [] dNil := pk_nil.wk fun σ H Q ⟨w, env, st, kk, W, E, h, fo⟩ => fo _ _ _ _ _ h (.refl _) W .nil
theorem pdk_cons {nm : Option Str} {kpos : Pos} {kws : List Keyword} {t : DE} {u : DA} (ha : PD X e t) (hr : PDK X kws u) : PDK X (⟨nm, e, kpos⟩ :: kws) (dCons t u) := by
  refine (pk_cons ha hr).wk fun σ H Q ⟨w, env, st, kk, W, E, h, fo⟩ => ?_
  exact ⟨w, env, st, _, W, E, h, fun d st1 v w1 H1 h1 l1 W1 R1 => ⟨w1, env, st1, _, W1, E.mono l1, h1, fun ds st2 vs w2 H2 h2 l2 W2 R2 =>
    fo _ _ _ _ _ h2 (l1.trans l2) W2 (.cons (Rep.mono l2 _ _ R1) R2)⟩⟩
def dCallK (n m : Nat) (ix : List Nat) (sp : SpD) (t tk : DA) : DE := fun env st k => t env st fun ds s1 => tk env s1 fun es s2 => ds.length = n ∧ es.length = m ∧ sp (kperm ix ds es) s2 k
variable {k : Nat} {f : Addr} {fd : FuncData} {ps ks : List Str} {sp : SpD} {x : Str} {kws : List Keyword}
theorem pd_callK0 {ix : List Nat} {tk : DA} (F : FnG X.prog X.w X.K X.mg X.base CX0 k f fd ps (spD X.K sp)) (hr : RoomG k X.A) (hm : X.mg x = some (.ref f)) (hk : PySem.W.keepIn X.K (.ref f) = true) (hb : KBn X.K fd ps 0 ks (kperm ix) (kperm ix))
    (hkw : PDK X kws tk) (hg : Gl X x := by rfl) (hall : (backToKw pos (keywordEach kws X.env)).all (·.1.isSome) = true := by rfl) (hks : (backToKw pos (keywordEach kws X.env)).filterMap (·.1) = ks := by rfl)
    (hdb : (x == ("__debug__" : Str)) = false := by decide)
    (hpl : ((backTo pos (starEach [] X.env)).any (·.1) || (backToKw pos (keywordEach kws X.env)).any (·.1.isNone)) = false := by rfl) :
    PD X (.Call (.Name x p) [] kws pos) (dCallK 0 ks.length ix sp dNil tk) := by
  refine ⟨fun pins s σ H Q I ⟨w, env, st, kk, W, E, h, fo⟩ => ?_⟩
  refine wpAny_Call_Name_kw (ld_glob I hg hm ?_ hdb)
  refine PySem.W.callWith_KW0 (h₀ := X.base) I.ok.mod.kin hk hall ?_ hpl
  refine thn (hkw.run pos pins s σ H (fun zs H2 => zs.length = ks.length ∧ spD X.K sp (kperm ix [] zs) H2 Q E0) I ⟨w, env, st, _, W, E, h, fun es st2 us w2 H2 h2 l2 W2 R2 => ?_⟩) fun ws s2 ⟨zs, H2, I2, rz, l2, q2⟩ => ⟨I2.kIn, ?_⟩
  · exact ⟨R2.length.trans h2.2.1, w2, st2, _, kk, W2, kperm_reps ix .nil R2, h2.2.2, fo.le l2⟩
  · rw [hks]
    exact run_fnG F hr pass0 I2 (hb.to s2 [] ws I2.kIn rfl (rz.length.symm.trans l2)) (hb.rel .nil rz) q2
end

/-! ### behind a def: its own lists are frozen -/
mutual
def sub (n : Nat) (a : List D) : D → D
  | .non => .non
  | .bl b => .bl b
  | .int b => .int b
  | .str b => .str b
  | .lst xs => .lst (subs n a xs)
  | .klst xs => .klst (subs n a xs)
  | .tup xs => .tup (subs n a xs)
  | .obj i => if i = n then .lst a else .obj i
  | .dic t i => if i = n then .fdic t a else .dic t i
  | .fdic t rows => .fdic t (subs n a rows)
  | .gtup xs => .gtup (subs n a xs)
def subs (n : Nat) (a : List D) : List D → List D
  | [] => []
  | x :: xs => sub n a x :: subs n a xs
end
mutual
def below (n : Nat) : D → Bool
  | .lst xs => belows n xs
  | .klst xs => belows n xs
  | .tup xs => belows n xs
  | .obj i => decide (i < n)
  | .dic _ i => decide (i < n)
  | .fdic .n rows => belows n rows
  | .fdic (.b _) rows => okRows rows && belows n rows
  | .fdic (.ins _) rows => okRows rows && belows n rows
  | .gtup xs => belows n xs
  | _ => true
def belows (n : Nat) : List D → Bool
  | [] => true
  | x :: xs => below n x && belows n xs
end
theorem subs_map (n : Nat) (a : List D) : ∀ xs : List D, subs n a xs = xs.map (sub n a)
  | [] => rfl
  | x :: xs => by simp only [subs, List.map_cons, subs_map n a xs]
mutual
theorem sub_below {n : Nat} {a : List D} : ∀ d : D, below n d = true → sub n a d = d
  | .non, _ => by simp only [sub]
  | .bl _, _ => by simp only [sub]
  | .int _, _ => by simp only [sub]
  | .str _, _ => by simp only [sub]
  | .lst xs, h => by simp only [below] at h; simp only [sub, subs_below xs h]
  | .klst xs, h => by simp only [below] at h; simp only [sub, subs_below xs h]
  | .tup xs, h => by simp only [below] at h; simp only [sub, subs_below xs h]
  | .obj i, h => by
    simp only [below, decide_eq_true_eq] at h
    simp only [sub]
    rw [if_neg (by omega)]
  | .dic t i, h => by
    simp only [below, decide_eq_true_eq] at h
    simp only [sub]
    rw [if_neg (by omega)]
  | .fdic .n rows, h => by simp only [below] at h; simp only [sub, subs_below rows h]
  | .fdic (.b _) rows, h => by simp only [below, Bool.and_eq_true] at h; simp only [sub, subs_below rows h.2]
  | .fdic (.ins _) rows, h => by simp only [below, Bool.and_eq_true] at h; simp only [sub, subs_below rows h.2]
  | .gtup rows, h => by simp only [below] at h; simp only [sub, subs_below rows h]
theorem subs_below {n : Nat} {a : List D} : ∀ ds : List D, belows n ds = true → subs n a ds = ds
  | [], _ => by simp only [subs]
  | x :: xs, h => by
    simp only [belows, Bool.and_eq_true] at h
    simp only [subs, sub_below x h.1, subs_below xs h.2]
end
mutual
theorem below_mono {n m : Nat} (l : n ≤ m) : ∀ d : D, below n d = true → below m d = true
  | .non, _ => by simp only [below]
  | .bl _, _ => by simp only [below]
  | .int _, _ => by simp only [below]
  | .str _, _ => by simp only [below]
  | .lst xs, h => by simp only [below] at h ⊢; exact belows_mono l xs h
  | .klst xs, h => by simp only [below] at h ⊢; exact belows_mono l xs h
  | .tup xs, h => by simp only [below] at h ⊢; exact belows_mono l xs h
  | .obj i, h => by
    simp only [below, decide_eq_true_eq] at h ⊢
    omega
  | .dic t i, h => by
    simp only [below, decide_eq_true_eq] at h ⊢
    omega
  | .fdic .n rows, h => by simp only [below] at h ⊢; exact belows_mono l rows h
  | .fdic (.b _) rows, h => by simp only [below, Bool.and_eq_true] at h ⊢; exact ⟨h.1, belows_mono l rows h.2⟩
  | .fdic (.ins _) rows, h => by simp only [below, Bool.and_eq_true] at h ⊢; exact ⟨h.1, belows_mono l rows h.2⟩
  | .gtup rows, h => by simp only [below] at h ⊢; exact belows_mono l rows h
theorem belows_mono {n m : Nat} (l : n ≤ m) : ∀ ds : List D, belows n ds = true → belows m ds = true
  | [], _ => by simp only [belows]
  | x :: xs, h => by
    simp only [belows, Bool.and_eq_true] at h ⊢
    exact ⟨below_mono l x h.1, belows_mono l xs h.2⟩
end
theorem rowsK_okRows {K : PySem.W.Frag} {w : Wd} : ∀ {ds : List D} {kvs : List (Key × V)}, RowsK K w ds kvs → okRows ds = true
  | [], _, _ => rfl
  | .tup [k, d] :: ds, kvs, h => by
    simp only [RowsK] at h
    obtain ⟨y, v, r, _, _, _, h3⟩ := h
    simp only [okRows]
    exact rowsK_okRows h3
  | .tup [] :: _, _, h => by simp only [RowsK] at h
  | .tup [_] :: _, _, h => by simp only [RowsK] at h
  | .tup (_ :: _ :: _ :: _) :: _, _, h => by simp only [RowsK] at h
  | .non :: _, _, h => by simp only [RowsK] at h
  | .bl _ :: _, _, h => by simp only [RowsK] at h
  | .int _ :: _, _, h => by simp only [RowsK] at h
  | .str _ :: _, _, h => by simp only [RowsK] at h
  | .lst _ :: _, _, h => by simp only [RowsK] at h
  | .klst _ :: _, _, h => by simp only [RowsK] at h
  | .obj _ :: _, _, h => by simp only [RowsK] at h
  | .dic _ _ :: _, _, h => by simp only [RowsK] at h
  | .fdic _ _ :: _, _, h => by simp only [RowsK] at h
  | .gtup _ :: _, _, h => by simp only [RowsK] at h
theorem rowsT_okRows {K : PySem.W.Frag} {w : Wd} : ∀ {ds : List D} {kvs : List (List Key × V)}, RowsT K w ds kvs → okRows ds = true
  | [], _, _ => rfl
  | .tup [k, d] :: ds, kvs, h => by
    simp only [RowsT] at h
    obtain ⟨y, v, r, _, _, _, h3⟩ := h
    simp only [okRows]
    exact rowsT_okRows h3
  | .tup [] :: _, _, h => by simp only [RowsT] at h
  | .tup [_] :: _, _, h => by simp only [RowsT] at h
  | .tup (_ :: _ :: _ :: _) :: _, _, h => by simp only [RowsT] at h
  | .non :: _, _, h => by simp only [RowsT] at h
  | .bl _ :: _, _, h => by simp only [RowsT] at h
  | .int _ :: _, _, h => by simp only [RowsT] at h
  | .str _ :: _, _, h => by simp only [RowsT] at h
  | .lst _ :: _, _, h => by simp only [RowsT] at h
  | .klst _ :: _, _, h => by simp only [RowsT] at h
  | .obj _ :: _, _, h => by simp only [RowsT] at h
  | .dic _ _ :: _, _, h => by simp only [RowsT] at h
  | .fdic _ _ :: _, _, h => by simp only [RowsT] at h
  | .gtup _ :: _, _, h => by simp only [RowsT] at h
theorem key_below {n : Nat} {d : D} {y : Key} (h : keyD d = some y) : below n d = true := by
  cases d <;> first | rfl | (simp only [below]; done) | simp [keyD] at h
theorem keys_below {n : Nat} : ∀ {ds : List D} {ys : List Key}, keysD ds = some ys → belows n ds = true
  | [], _, _ => rfl
  | d :: r, ys, h => by
    unfold keysD at h
    cases h1 : keyD d with
    | none => rw [h1] at h; cases h
    | some y =>
      cases h2 : keysD r with
      | none => rw [h1, h2] at h; cases h
      | some zs => simp only [belows, key_below h1, keys_below h2, Bool.and_true]
theorem tkey_below {n : Nat} {d : D} {y : List Key} (h : tkeyD d = some y) : below n d = true := by
  cases d with
  | tup xs => simp only [below]; exact keys_below h
  | _ => cases h
section
variable {K : PySem.W.Frag} {w w' : Wd} {st : Sto} {H : Hp}
mutual
theorem rep_below : ∀ (d : D) (v : V), Rep K w d v → below w.as.length d = true
  | .non, _, _ => by simp only [below]
  | .bl _, _, _ => by simp only [below]
  | .int _, _, _ => by simp only [below]
  | .str _, _, _ => by simp only [below]
  | .lst xs, v, h => by
    simp only [Rep] at h
    obtain ⟨a, vs, _, _, r⟩ := h
    simp only [below]
    exact reps_below xs vs r
  | .klst xs, v, h => by
    simp only [Rep] at h
    obtain ⟨a, vs, _, _, r⟩ := h
    simp only [below]
    exact reps_below xs vs r
  | .tup xs, v, h => by
    simp only [Rep] at h
    obtain ⟨a, vs, _, _, r⟩ := h
    simp only [below]
    exact reps_below xs vs r
  | .gtup xs, v, h => by
    simp only [Rep] at h
    obtain ⟨a, vs, _, _, r⟩ := h
    simp only [below]
    exact reps_below xs vs r
  | .obj i, v, h => by
    simp only [Rep] at h
    obtain ⟨a, _, q, _⟩ := h
    simp only [below, decide_eq_true_eq]
    exact (List.getElem?_eq_some_iff.mp q).1
  | .dic t i, v, h => by
    simp only [Rep] at h
    obtain ⟨a, _, q, _⟩ := h
    simp only [below, decide_eq_true_eq]
    exact (List.getElem?_eq_some_iff.mp q).1
  | .fdic .n rows, v, h => by
    simp only [Rep] at h
    obtain ⟨a, b, ys, vs, _, _, _, r⟩ := h
    simp only [below]
    exact reps_below rows vs r
  | .fdic (.ins c) rows, v, h => by
    simp only [Rep] at h
    obtain ⟨a, dx, kvs, _, _, _, r⟩ := h
    simp only [below, Bool.and_eq_true]
    exact ⟨rowsK_okRows r, rowsK_below rows kvs r⟩
  | .fdic (.b false) rows, v, h => by
    simp only [Rep] at h
    obtain ⟨a, kvs, _, _, _, r⟩ := h
    simp only [below, Bool.and_eq_true]
    exact ⟨rowsK_okRows r, rowsK_below rows kvs r⟩
  | .fdic (.b true) rows, v, h => by
    simp only [Rep] at h
    obtain ⟨a, kvs, _, _, _, r⟩ := h
    simp only [below, Bool.and_eq_true]
    exact ⟨rowsT_okRows r, rowsT_below rows kvs r⟩
theorem rowsK_below : ∀ (ds : List D) (kvs : List (Key × V)), RowsK K w ds kvs → belows w.as.length ds = true
  | [], _, _ => by simp only [belows]
  | .tup [k, d] :: ds, kvs, h => by
    simp only [RowsK] at h
    obtain ⟨y, v, r, _, h1, h2, h3⟩ := h
    simp only [belows, below, Bool.and_true, Bool.and_eq_true]
    exact ⟨⟨key_below h1, rep_below d v h2⟩, rowsK_below ds r h3⟩
  | .tup [] :: _, _, h => by simp only [RowsK] at h
  | .tup [_] :: _, _, h => by simp only [RowsK] at h
  | .tup (_ :: _ :: _ :: _) :: _, _, h => by simp only [RowsK] at h
  | .non :: _, _, h => by simp only [RowsK] at h
  | .bl _ :: _, _, h => by simp only [RowsK] at h
  | .int _ :: _, _, h => by simp only [RowsK] at h
  | .str _ :: _, _, h => by simp only [RowsK] at h
  | .lst _ :: _, _, h => by simp only [RowsK] at h
  | .klst _ :: _, _, h => by simp only [RowsK] at h
  | .obj _ :: _, _, h => by simp only [RowsK] at h
  | .dic _ _ :: _, _, h => by simp only [RowsK] at h
  | .fdic _ _ :: _, _, h => by simp only [RowsK] at h
  | .gtup _ :: _, _, h => by simp only [RowsK] at h
theorem rowsT_below : ∀ (ds : List D) (kvs : List (List Key × V)), RowsT K w ds kvs → belows w.as.length ds = true
  | [], _, _ => by simp only [belows]
  | .tup [k, d] :: ds, kvs, h => by
    simp only [RowsT] at h
    obtain ⟨y, v, r, _, h1, h2, h3⟩ := h
    simp only [belows, below, Bool.and_true, Bool.and_eq_true]
    exact ⟨⟨tkey_below h1, rep_below d v h2⟩, rowsT_below ds r h3⟩
  | .tup [] :: _, _, h => by simp only [RowsT] at h
  | .tup [_] :: _, _, h => by simp only [RowsT] at h
  | .tup (_ :: _ :: _ :: _) :: _, _, h => by simp only [RowsT] at h
  | .non :: _, _, h => by simp only [RowsT] at h
  | .bl _ :: _, _, h => by simp only [RowsT] at h
  | .int _ :: _, _, h => by simp only [RowsT] at h
  | .str _ :: _, _, h => by simp only [RowsT] at h
  | .lst _ :: _, _, h => by simp only [RowsT] at h
  | .klst _ :: _, _, h => by simp only [RowsT] at h
  | .obj _ :: _, _, h => by simp only [RowsT] at h
  | .dic _ _ :: _, _, h => by simp only [RowsT] at h
  | .fdic _ _ :: _, _, h => by simp only [RowsT] at h
  | .gtup _ :: _, _, h => by simp only [RowsT] at h
theorem reps_below : ∀ (ds : List D) (vs : List V), Reps K w ds vs → belows w.as.length ds = true
  | [], _, _ => by simp only [belows]
  | x :: xs, vs, h => by
    obtain ⟨v, r, rfl, h1, h2⟩ := h.inv
    simp only [belows, Bool.and_eq_true]
    exact ⟨rep_below x v h1, reps_below xs r h2⟩
end
theorem entR_ok {k : Option Kd} {L : Lk} {xs : List D} {o : HO} (h : EntR K w k L xs o) : ∀ d ∈ xs, below w.as.length d = true ∨ d = lockD := by
  have mem : ∀ {xs : List D} {d : D}, belows w.as.length xs = true → d ∈ xs → below w.as.length d = true := by
    intro xs
    induction xs with
    | nil => intro d _ m; cases m
    | cons x xs ih =>
      intro d h m
      simp only [belows, Bool.and_eq_true] at h
      rcases List.mem_cons.mp m with e | m
      · rw [e]; exact h.1
      · exact ih h.2 m
  intro d hd
  rcases h with ⟨_, h⟩ | ⟨_, rows, ob, kvs, _, e, _, _, r⟩ | ⟨_, rows, ob, b, ys, vs, _, e, _, _, r⟩
  · left
    refine mem ?_ hd
    match k, h with
    | none, ⟨vs, _, _, r⟩ => exact reps_below _ _ r
    | some (.b false), ⟨vs, _, _, r⟩ => exact rowsK_below _ _ r
    | some (.b true), ⟨vs, _, _, r⟩ => exact rowsT_below _ _ r
    | some (.ins c), ⟨dx, vs, _, r⟩ => exact rowsK_below _ _ r
    | some .n, ⟨b, ys, vs, _, _, r⟩ => exact reps_below _ _ r
  · rw [e] at hd
    rcases List.mem_append.mp hd with z | z
    · exact .inl (mem (rowsK_below _ _ r) z)
    · exact .inr (List.mem_singleton.mp z)
  · rw [e] at hd
    rcases List.mem_append.mp hd with z | z
    · exact .inl (mem (reps_below _ _ r) z)
    · exact .inr (List.mem_singleton.mp z)
theorem belows_lock {n : Nat} {rows : List D} : belows n (rows ++ [lockD]) = false := by
  induction rows with
  | nil => simp only [List.nil_append, belows, lockD, below, okRows, Bool.false_and]
  | cons x r ih => simp only [List.cons_append, belows, ih, Bool.and_false]
mutual
theorem nkD_below {n : Nat} : ∀ (d : D) (y : PySem.NestedKey), nkD d = some y → below n d = true
  | .non, _, _ => rfl
  | .bl _, _, _ => rfl
  | .int _, _, _ => rfl
  | .tup xs, y, h => by
    simp only [nkD] at h
    simp only [below]
    cases e : nkDs xs with
    | none => rw [e] at h; cases h
    | some ks => exact nkDs_below xs ks e
  | .str _, _, h => by simp only [nkD] at h; cases h
  | .lst _, _, h => by simp only [nkD] at h; cases h
  | .klst _, _, h => by simp only [nkD] at h; cases h
  | .obj _, _, h => by simp only [nkD] at h; cases h
  | .dic _ _, _, h => by simp only [nkD] at h; cases h
  | .fdic _ _, _, h => by simp only [nkD] at h; cases h
  | .gtup _, _, h => by simp only [nkD] at h; cases h
theorem nkDs_below {n : Nat} : ∀ (ds : List D) (ys : List PySem.NestedKey), nkDs ds = some ys → belows n ds = true
  | [], _, _ => rfl
  | x :: r, ys, h => by
    simp only [nkDs] at h
    cases e : nkD x with
    | none => rw [e] at h; cases h
    | some k =>
      cases e2 : nkDs r with
      | none => rw [e, e2] at h; cases h
      | some ks => simp only [belows, nkD_below x k e, nkDs_below r ks e2, Bool.and_self]
end
theorem nkT_nkD {d : D} {y : PySem.NestedKey} (h : nkT d = some y) : nkD d = some y ∧ y.depth ≤ 8 ∧ ∃ xs, d = .tup xs := by
  unfold nkT at h
  cases d <;> try (cases h; done)
  rename_i xs
  simp only at h
  cases e : nkD (.tup xs) with
  | none => rw [e] at h; cases h
  | some z =>
    rw [e] at h
    simp only at h
    split at h
    · rename_i q
      cases h
      exact ⟨rfl, q, xs, rfl⟩
    · cases h
theorem nks_cons {k d : D} {r : List D} {zs : List PySem.NestedKey} (h : nks (k :: d :: r) = some zs) : ∃ y ys, zs = y :: ys ∧ nkT k = some y ∧ nks r = some ys := by
  simp only [nks] at h
  cases e : nkT k with
  | none => rw [e] at h; cases h
  | some y =>
    cases e2 : nks r with
    | none => rw [e, e2] at h; cases h
    | some ys =>
      rw [e, e2] at h
      cases h
      exact ⟨y, ys, rfl, rfl, rfl⟩
theorem nks_sub {n : Nat} {a : List D} : ∀ {ds : List D} {ys : List PySem.NestedKey}, nks ds = some ys → nks (subs n a ds) = some ys
  | [], _, h => by simpa only [subs] using h
  | [_], _, h => by simp only [nks] at h; cases h
  | k :: d :: r, zs, h => by
    obtain ⟨y, ys, rfl, h1, h2⟩ := nks_cons h
    obtain ⟨h3, _, _⟩ := nkT_nkD h1
    simp only [subs, nks]
    rw [sub_below k (nkD_below k y h3), h1, nks_sub h2]
mutual
/-- the last object of the store frozen: what is represented -/
theorem rep_sub {p : Addr} {o : HO} {a : List D} {as : List Addr} (e : w.as = as ++ [p]) (e' : w'.as = as) (ed : w'.dk = w.dk) (s : Same w.G w'.G) (g : w'.G p = some o) (r : EntP K w' (w.dk p) a o) : ∀ (d : D) (v : V), Rep K w d v → Rep K w' (sub as.length a d) v
  | .non, _, h => by simpa only [Rep, sub] using h
  | .bl _, _, h => by simpa only [Rep, sub] using h
  | .int _, _, h => by simpa only [Rep, sub] using h
  | .str _, _, h => by simpa only [Rep, sub] using h
  | .lst xs, v, h => by
    simp only [Rep] at h
    obtain ⟨b, vs, e1, q, r1⟩ := h
    simp only [sub, Rep]
    exact ⟨b, vs, e1, s _ _ q, reps_sub e e' ed s g r xs vs r1⟩
  | .klst xs, v, h => by
    simp only [Rep] at h
    obtain ⟨b, vs, e1, q, r1⟩ := h
    simp only [sub, Rep]
    exact ⟨b, vs, e1, s.seq q, reps_sub e e' ed s g r xs vs r1⟩
  | .tup xs, v, h => by
    simp only [Rep] at h
    obtain ⟨b, vs, e1, q, r1⟩ := h
    simp only [sub, Rep]
    exact ⟨b, vs, e1, s _ _ q, reps_sub e e' ed s g r xs vs r1⟩
  | .gtup xs, v, h => by
    simp only [Rep] at h
    obtain ⟨b, vs, e1, q, r1⟩ := h
    simp only [sub, Rep]
    exact ⟨b, vs, e1, seqT_mono s q, reps_sub e e' ed s g r xs vs r1⟩
  | .obj i, v, h => by
    simp only [Rep] at h
    obtain ⟨b, e1, q, q2⟩ := h
    simp only [sub]
    rw [e] at q
    by_cases hi : i = as.length
    · subst hi
      rw [List.getElem?_concat_length] at q
      cases q
      rw [if_pos rfl]
      rw [q2] at r
      obtain ⟨us, rfl, _, r⟩ := r
      simp only [Rep]
      exact ⟨p, us, e1, g, r⟩
    · rw [if_neg hi]
      simp only [Rep]
      refine ⟨b, e1, ?_, by rw [ed]; exact q2⟩
      have hlt : i < (as ++ [p]).length := (List.getElem?_eq_some_iff.mp q).1
      rw [List.length_append, List.length_singleton] at hlt
      rw [List.getElem?_append_left (by omega)] at q
      rw [e']
      exact q
  | .dic t i, v, h => by
    simp only [Rep] at h
    obtain ⟨b, e1, q, q2, q3⟩ := h
    simp only [sub]
    rw [e] at q
    by_cases hi : i = as.length
    · subst hi
      rw [List.getElem?_concat_length] at q
      cases q
      rw [if_pos rfl]
      rw [q2] at r
      rcases t with (_ | _) | c | _
      · obtain ⟨kvs, rfl, n, r⟩ := r
        simp only [Rep]
        exact ⟨p, kvs, e1, g, n, r⟩
      · obtain ⟨kvs, rfl, n, r⟩ := r
        simp only [Rep]
        exact ⟨p, kvs, e1, g, n, r⟩
      · obtain ⟨dx, kvs, rfl, r⟩ := r
        simp only [Rep]
        exact ⟨p, dx, kvs, e1, g, q3, r⟩
      · obtain ⟨b0, ys, vs, rfl, n, r⟩ := r
        simp only [Rep]
        exact ⟨p, b0, ys, vs, e1, g, n, r⟩
    · rw [if_neg hi]
      simp only [Rep]
      refine ⟨b, e1, ?_, by rw [ed]; exact q2, q3⟩
      have hlt : i < (as ++ [p]).length := (List.getElem?_eq_some_iff.mp q).1
      rw [List.length_append, List.length_singleton] at hlt
      rw [List.getElem?_append_left (by omega)] at q
      rw [e']
      exact q
  | .fdic .n rows, v, h => by
    simp only [Rep] at h
    obtain ⟨b, b0, ys, vs, e1, q, n, r1⟩ := h
    simp only [sub, Rep]
    exact ⟨b, b0, ys, vs, e1, s _ _ q, nks_sub n, reps_sub e e' ed s g r rows vs r1⟩
  | .fdic (.ins c) rows, v, h => by
    simp only [Rep] at h
    obtain ⟨b, dx, kvs, e1, q, n, r1⟩ := h
    simp only [sub, Rep]
    exact ⟨b, dx, kvs, e1, s _ _ q, n, rowsK_sub e e' ed s g r rows kvs r1⟩
  | .fdic (.b false) rows, v, h => by
    simp only [Rep] at h
    obtain ⟨b, kvs, e1, q, n, r1⟩ := h
    simp only [sub, Rep]
    exact ⟨b, kvs, e1, s _ _ q, n, rowsK_sub e e' ed s g r rows kvs r1⟩
  | .fdic (.b true) rows, v, h => by
    simp only [Rep] at h
    obtain ⟨b, kvs, e1, q, n, r1⟩ := h
    simp only [sub, Rep]
    exact ⟨b, kvs, e1, s _ _ q, n, rowsT_sub e e' ed s g r rows kvs r1⟩
theorem rowsK_sub {p : Addr} {o : HO} {a : List D} {as : List Addr} (e : w.as = as ++ [p]) (e' : w'.as = as) (ed : w'.dk = w.dk) (s : Same w.G w'.G) (g : w'.G p = some o) (r : EntP K w' (w.dk p) a o) : ∀ (ds : List D) (kvs : List (Key × V)), RowsK K w ds kvs → RowsK K w' (subs as.length a ds) kvs
  | [], _, h => by simpa only [RowsK, subs] using h
  | .tup [k, d] :: ds, kvs, h => by
    simp only [RowsK] at h
    obtain ⟨y, v, r1, e1, h1, h2, h3⟩ := h
    simp only [subs, sub, RowsK]
    exact ⟨y, v, r1, e1, by rw [sub_below k (key_below h1)]; exact h1, rep_sub e e' ed s g r d v h2, rowsK_sub e e' ed s g r ds r1 h3⟩
  | .tup [] :: _, _, h => by simp only [RowsK] at h
  | .tup [_] :: _, _, h => by simp only [RowsK] at h
  | .tup (_ :: _ :: _ :: _) :: _, _, h => by simp only [RowsK] at h
  | .non :: _, _, h => by simp only [RowsK] at h
  | .bl _ :: _, _, h => by simp only [RowsK] at h
  | .int _ :: _, _, h => by simp only [RowsK] at h
  | .str _ :: _, _, h => by simp only [RowsK] at h
  | .lst _ :: _, _, h => by simp only [RowsK] at h
  | .klst _ :: _, _, h => by simp only [RowsK] at h
  | .obj _ :: _, _, h => by simp only [RowsK] at h
  | .dic _ _ :: _, _, h => by simp only [RowsK] at h
  | .fdic _ _ :: _, _, h => by simp only [RowsK] at h
  | .gtup _ :: _, _, h => by simp only [RowsK] at h
theorem rowsT_sub {p : Addr} {o : HO} {a : List D} {as : List Addr} (e : w.as = as ++ [p]) (e' : w'.as = as) (ed : w'.dk = w.dk) (s : Same w.G w'.G) (g : w'.G p = some o) (r : EntP K w' (w.dk p) a o) : ∀ (ds : List D) (kvs : List (List Key × V)), RowsT K w ds kvs → RowsT K w' (subs as.length a ds) kvs
  | [], _, h => by simpa only [RowsT, subs] using h
  | .tup [k, d] :: ds, kvs, h => by
    simp only [RowsT] at h
    obtain ⟨y, v, r1, e1, h1, h2, h3⟩ := h
    simp only [subs, sub, RowsT]
    exact ⟨y, v, r1, e1, by rw [sub_below k (tkey_below h1)]; exact h1, rep_sub e e' ed s g r d v h2, rowsT_sub e e' ed s g r ds r1 h3⟩
  | .tup [] :: _, _, h => by simp only [RowsT] at h
  | .tup [_] :: _, _, h => by simp only [RowsT] at h
  | .tup (_ :: _ :: _ :: _) :: _, _, h => by simp only [RowsT] at h
  | .non :: _, _, h => by simp only [RowsT] at h
  | .bl _ :: _, _, h => by simp only [RowsT] at h
  | .int _ :: _, _, h => by simp only [RowsT] at h
  | .str _ :: _, _, h => by simp only [RowsT] at h
  | .lst _ :: _, _, h => by simp only [RowsT] at h
  | .klst _ :: _, _, h => by simp only [RowsT] at h
  | .obj _ :: _, _, h => by simp only [RowsT] at h
  | .dic _ _ :: _, _, h => by simp only [RowsT] at h
  | .fdic _ _ :: _, _, h => by simp only [RowsT] at h
  | .gtup _ :: _, _, h => by simp only [RowsT] at h
theorem reps_sub {p : Addr} {o : HO} {a : List D} {as : List Addr} (e : w.as = as ++ [p]) (e' : w'.as = as) (ed : w'.dk = w.dk) (s : Same w.G w'.G) (g : w'.G p = some o) (r : EntP K w' (w.dk p) a o) : ∀ (ds : List D) (vs : List V), Reps K w ds vs → Reps K w' (subs as.length a ds) vs
  | [], _, h => by simpa only [Reps, subs] using h
  | x :: xs, vs, h => by
    obtain ⟨v, r1, rfl, h1, h2⟩ := h.inv
    simp only [subs]
    exact .cons (rep_sub e e' ed s g r x v h1) (reps_sub e e' ed s g r xs r1 h2)
end
mutual
theorem rep_low {as m : List Addr} (e : w.as = as ++ m) (e' : w'.as = as) (ed : w'.dk = w.dk) (s : Same w.G w'.G) : ∀ (d : D) (v : V), below as.length d = true → Rep K w d v → Rep K w' d v
  | .non, _, _, h => by simpa only [Rep] using h
  | .bl _, _, _, h => by simpa only [Rep] using h
  | .int _, _, _, h => by simpa only [Rep] using h
  | .str _, _, _, h => by simpa only [Rep] using h
  | .lst xs, v, l, h => by
    simp only [below] at l
    simp only [Rep] at h ⊢
    obtain ⟨b, vs, e1, q, r1⟩ := h
    exact ⟨b, vs, e1, s _ _ q, reps_low e e' ed s xs vs l r1⟩
  | .klst xs, v, l, h => by
    simp only [below] at l
    simp only [Rep] at h ⊢
    obtain ⟨b, vs, e1, q, r1⟩ := h
    exact ⟨b, vs, e1, s.seq q, reps_low e e' ed s xs vs l r1⟩
  | .tup xs, v, l, h => by
    simp only [below] at l
    simp only [Rep] at h ⊢
    obtain ⟨b, vs, e1, q, r1⟩ := h
    exact ⟨b, vs, e1, s _ _ q, reps_low e e' ed s xs vs l r1⟩
  | .gtup xs, v, l, h => by
    simp only [below] at l
    simp only [Rep] at h ⊢
    obtain ⟨b, vs, e1, q, r1⟩ := h
    exact ⟨b, vs, e1, seqT_mono s q, reps_low e e' ed s xs vs l r1⟩
  | .obj i, v, l, h => by
    simp only [below, decide_eq_true_eq] at l
    simp only [Rep] at h ⊢
    obtain ⟨b, e1, q, q2⟩ := h
    refine ⟨b, e1, ?_, by rw [ed]; exact q2⟩
    rw [e, List.getElem?_append_left l] at q
    rw [e']
    exact q
  | .dic t i, v, l, h => by
    simp only [below, decide_eq_true_eq] at l
    simp only [Rep] at h ⊢
    obtain ⟨b, e1, q, q2, q3⟩ := h
    refine ⟨b, e1, ?_, by rw [ed]; exact q2, q3⟩
    rw [e, List.getElem?_append_left l] at q
    rw [e']
    exact q
  | .fdic .n rows, v, l, h => by
    simp only [below] at l
    simp only [Rep] at h ⊢
    obtain ⟨b, b0, ys, vs, e1, q, n, r1⟩ := h
    exact ⟨b, b0, ys, vs, e1, s _ _ q, n, reps_low e e' ed s rows vs l r1⟩
  | .fdic (.ins c) rows, v, l, h => by
    simp only [below, Bool.and_eq_true] at l
    simp only [Rep] at h ⊢
    obtain ⟨b, dx, kvs, e1, q, n, r1⟩ := h
    exact ⟨b, dx, kvs, e1, s _ _ q, n, rowsK_low e e' ed s rows kvs l.2 r1⟩
  | .fdic (.b false) rows, v, l, h => by
    simp only [below, Bool.and_eq_true] at l
    simp only [Rep] at h ⊢
    obtain ⟨b, kvs, e1, q, n, r1⟩ := h
    exact ⟨b, kvs, e1, s _ _ q, n, rowsK_low e e' ed s rows kvs l.2 r1⟩
  | .fdic (.b true) rows, v, l, h => by
    simp only [below, Bool.and_eq_true] at l
    simp only [Rep] at h ⊢
    obtain ⟨b, kvs, e1, q, n, r1⟩ := h
    exact ⟨b, kvs, e1, s _ _ q, n, rowsT_low e e' ed s rows kvs l.2 r1⟩
theorem rowsK_low {as m : List Addr} (e : w.as = as ++ m) (e' : w'.as = as) (ed : w'.dk = w.dk) (s : Same w.G w'.G) : ∀ (ds : List D) (kvs : List (Key × V)), belows as.length ds = true → RowsK K w ds kvs → RowsK K w' ds kvs
  | [], _, _, h => by simpa only [RowsK] using h
  | .tup [k, d] :: ds, kvs, l, h => by
    simp only [belows, below, Bool.and_true, Bool.and_eq_true] at l
    simp only [RowsK] at h ⊢
    obtain ⟨y, v, r1, e1, h1, h2, h3⟩ := h
    exact ⟨y, v, r1, e1, h1, rep_low e e' ed s d v l.1.2 h2, rowsK_low e e' ed s ds r1 l.2 h3⟩
  | .tup [] :: _, _, _, h => by simp only [RowsK] at h
  | .tup [_] :: _, _, _, h => by simp only [RowsK] at h
  | .tup (_ :: _ :: _ :: _) :: _, _, _, h => by simp only [RowsK] at h
  | .non :: _, _, _, h => by simp only [RowsK] at h
  | .bl _ :: _, _, _, h => by simp only [RowsK] at h
  | .int _ :: _, _, _, h => by simp only [RowsK] at h
  | .str _ :: _, _, _, h => by simp only [RowsK] at h
  | .lst _ :: _, _, _, h => by simp only [RowsK] at h
  | .klst _ :: _, _, _, h => by simp only [RowsK] at h
  | .obj _ :: _, _, _, h => by simp only [RowsK] at h
  | .dic _ _ :: _, _, _, h => by simp only [RowsK] at h
  | .fdic _ _ :: _, _, _, h => by simp only [RowsK] at h
  | .gtup _ :: _, _, _, h => by simp only [RowsK] at h
theorem rowsT_low {as m : List Addr} (e : w.as = as ++ m) (e' : w'.as = as) (ed : w'.dk = w.dk) (s : Same w.G w'.G) : ∀ (ds : List D) (kvs : List (List Key × V)), belows as.length ds = true → RowsT K w ds kvs → RowsT K w' ds kvs
  | [], _, _, h => by simpa only [RowsT] using h
  | .tup [k, d] :: ds, kvs, l, h => by
    simp only [belows, below, Bool.and_true, Bool.and_eq_true] at l
    simp only [RowsT] at h ⊢
    obtain ⟨y, v, r1, e1, h1, h2, h3⟩ := h
    exact ⟨y, v, r1, e1, h1, rep_low e e' ed s d v l.1.2 h2, rowsT_low e e' ed s ds r1 l.2 h3⟩
  | .tup [] :: _, _, _, h => by simp only [RowsT] at h
  | .tup [_] :: _, _, _, h => by simp only [RowsT] at h
  | .tup (_ :: _ :: _ :: _) :: _, _, _, h => by simp only [RowsT] at h
  | .non :: _, _, _, h => by simp only [RowsT] at h
  | .bl _ :: _, _, _, h => by simp only [RowsT] at h
  | .int _ :: _, _, _, h => by simp only [RowsT] at h
  | .str _ :: _, _, _, h => by simp only [RowsT] at h
  | .lst _ :: _, _, _, h => by simp only [RowsT] at h
  | .klst _ :: _, _, _, h => by simp only [RowsT] at h
  | .obj _ :: _, _, _, h => by simp only [RowsT] at h
  | .dic _ _ :: _, _, _, h => by simp only [RowsT] at h
  | .fdic _ _ :: _, _, _, h => by simp only [RowsT] at h
  | .gtup _ :: _, _, _, h => by simp only [RowsT] at h
theorem reps_low {as m : List Addr} (e : w.as = as ++ m) (e' : w'.as = as) (ed : w'.dk = w.dk) (s : Same w.G w'.G) : ∀ (ds : List D) (vs : List V), belows as.length ds = true → Reps K w ds vs → Reps K w' ds vs
  | [], _, _, h => by simpa only [Reps] using h
  | x :: xs, vs, l, h => by
    simp only [belows, Bool.and_eq_true] at l
    obtain ⟨v, r1, rfl, h1, h2⟩ := h.inv
    exact .cons (rep_low e e' ed s x v l.1 h1) (reps_low e e' ed s xs r1 l.2 h2)
end
theorem entR_low {as m : List Addr} (e : w.as = as ++ m) (e' : w'.as = as) (ed : w'.dk = w.dk) (s : Same w.G w'.G) {k : Option Kd} {L : Lk} {xs : List D} {o : HO} (l : belows as.length xs = true) (h : EntR K w k L xs o) : EntP K w' k xs o := by
  rcases h with ⟨_, h⟩ | ⟨_, rows, ob, kvs, _, e1, _⟩ | ⟨_, rows, _, _, _, _, _, e1, _⟩
  · match k, h with
    | none, ⟨vs, z, n, r⟩ => exact ⟨vs, z, n, reps_low e e' ed s _ _ l r⟩
    | some (.b false), ⟨vs, z, n, r⟩ => exact ⟨vs, z, n, rowsK_low e e' ed s _ _ l r⟩
    | some (.b true), ⟨vs, z, n, r⟩ => exact ⟨vs, z, n, rowsT_low e e' ed s _ _ l r⟩
    | some (.ins c), ⟨dx, vs, z, r⟩ => exact ⟨dx, vs, z, rowsK_low e e' ed s _ _ l r⟩
    | some .n, ⟨b, ys, vs, z, n, r⟩ => exact ⟨b, ys, vs, z, n, reps_low e e' ed s _ _ l r⟩
  · rw [e1, belows_lock] at l
    cases l
  · rw [e1, belows_lock] at l
    cases l
theorem entR_sub {p : Addr} {o : HO} {a : List D} {as : List Addr} (e : w.as = as ++ [p]) (e' : w'.as = as) (ed : w'.dk = w.dk) (s : Same w.G w'.G) (g : w'.G p = some o) (r : EntP K w' (w.dk p) a o) {k : Option Kd} {L : Lk} {xs : List D} {u : HO} (h : EntR K w k L xs u) : EntR K w' k L (xs.map (sub as.length a)) u := by
  rw [← subs_map]
  rcases h with ⟨hL, h⟩ | ⟨hk, rows, ob, kvs, e0, e1, e2, n, q⟩ | ⟨hk, rows, ob, b, ys, vs, e0, e1, e2, n, q⟩
  · refine .inl ⟨hL, ?_⟩
    match k, h with
    | none, ⟨vs, z, n, q⟩ => exact ⟨vs, z, n, reps_sub e e' ed s g r _ _ q⟩
    | some (.b false), ⟨vs, z, n, q⟩ => exact ⟨vs, z, n, rowsK_sub e e' ed s g r _ _ q⟩
    | some (.b true), ⟨vs, z, n, q⟩ => exact ⟨vs, z, n, rowsT_sub e e' ed s g r _ _ q⟩
    | some (.ins c), ⟨dx, vs, z, q⟩ => exact ⟨dx, vs, z, rowsK_sub e e' ed s g r _ _ q⟩
    | some .n, ⟨b, ys, vs, z, n, q⟩ => exact ⟨b, ys, vs, z, nks_sub n, reps_sub e e' ed s g r _ _ q⟩
  · refine .inr (.inl ⟨hk, subs as.length a rows, ob, kvs, e0, ?_, e2, n, rowsK_sub e e' ed s g r _ _ q⟩)
    rw [e1, subs_map, List.map_append, ← subs_map, List.map_singleton]
    simp only [lockD, sub, subs]
  · refine .inr (.inr ⟨hk, subs as.length a rows, ob, b, ys, vs, e0, ?_, e2, nks_sub n, reps_sub e e' ed s g r _ _ q⟩)
    rw [e1, subs_map, List.map_append, ← subs_map, List.map_singleton]
    simp only [lockD, sub, subs]
theorem entR_small {k : Option Kd} {L : Lk} {xs : List D} {o : HO} (h : EntR K w k L xs o) : SizeOk o := by
  rcases h with ⟨_, h⟩ | ⟨_, _, _, _, _, _, rfl, _⟩ | ⟨_, _, _, _, _, _, _, _, rfl, _⟩
  · cases k with
    | none =>
      obtain ⟨vs, rfl, n, _⟩ := h
      exact n
    | some t =>
      rcases t with (_ | _) | c | _
      · obtain ⟨vs, rfl, _⟩ := h
        trivial
      · obtain ⟨vs, rfl, _⟩ := h
        trivial
      · obtain ⟨dx, vs, rfl, _⟩ := h
        trivial
      · obtain ⟨b, ys, vs, rfl, _⟩ := h
        trivial
  · trivial
  · trivial
theorem frz_one {sx : Sto} {b : List D} (W : Wld K w (sx ++ [b]) H) (hb : belows sx.length b = true) :
    ∃ w', (∃ m, w.as = w'.as ++ m) ∧ Same w.G w'.G ∧ (w'.hid = w.hid ∧ w'.dk = w.dk ∧ w'.lk = w.lk) ∧ Wld K w' (sx.map (List.map (sub sx.length b))) H ∧ ∀ d v, Rep K w d v → Rep K w' (sub sx.length b d) v := by
  have hlen : w.as.length = sx.length + 1 := by rw [W.len, List.length_append, List.length_singleton]
  obtain ⟨as, p, e⟩ : ∃ as p, w.as = as ++ [p] := by
    refine ⟨w.as.dropLast, w.as.getLast (fun z => by rw [z] at hlen; simp at hlen), ?_⟩
    rw [List.dropLast_concat_getLast]
  have elen : as.length = sx.length := by
    rw [e, List.length_append, List.length_singleton] at hlen
    omega
  obtain ⟨g, xs, us, h1, h2, h3⟩ := W.at_ as.length p (by rw [e, List.getElem?_concat_length])
  have exs : xs = b := by
    rw [elen, List.getElem?_concat_length] at h1
    exact (Option.some.inj h1).symm
  subst exs
  have s : Same w.G (upd w.G p us) := fun c u q => by
    rw [upd_ne (ne_of_none q g)]
    exact q
  have R0 : EntP K ⟨upd w.G p us, as, w.hid, w.dk, w.lk⟩ (w.dk p) xs us := entR_low (w' := ⟨upd w.G p us, as, w.hid, w.dk, w.lk⟩) e rfl rfl s (by rw [elen]; exact hb) h3
  have conv : ∀ d v, Rep K w d v → Rep K ⟨upd w.G p us, as, w.hid, w.dk, w.lk⟩ (sub sx.length xs d) v := fun d v h => by
    rw [← elen]
    exact rep_sub (w' := ⟨upd w.G p us, as, w.hid, w.dk, w.lk⟩) e rfl rfl s upd_same R0 d v h
  have convs : ∀ {k : Option Kd} {L : Lk} {ds : List D} {u : HO}, EntR K w k L ds u → EntR K ⟨upd w.G p us, as, w.hid, w.dk, w.lk⟩ k L (ds.map (sub sx.length xs)) u := fun h => by
    rw [← elen]
    exact entR_sub (w' := ⟨upd w.G p us, as, w.hid, w.dk, w.lk⟩) e rfl rfl s upd_same R0 h
  have nd : (as ++ [p]).Nodup := by rw [← e]; exact W.nd
  have pas : p ∉ as := fun z => (List.nodup_append.mp nd).2.2 p z p (by simp) rfl
  have inas : p ∈ w.as := by rw [e]; simp
  refine ⟨⟨upd w.G p us, as, w.hid, w.dk, w.lk⟩, ⟨[p], e⟩, s, ⟨rfl, rfl, rfl⟩, ⟨fun c u q => ?_, by rw [List.length_map]; exact elen, (List.nodup_append.mp nd).1, fun i a q => ?_, fun c u q => ?_, fun c vs m => ?_, W.hnd⟩, conv⟩
  · have q' : upd w.G p us c = some u := q
    by_cases hc : c = p
    · subst hc
      rw [upd_same] at q'
      cases q'
      exact h2
    · rw [upd_ne hc] at q'
      exact W.same c u q'
  · have hlt : i < as.length := (List.getElem?_eq_some_iff.mp q).1
    obtain ⟨g', ys, vs, k1, k2, k3⟩ := W.at_ i a (by rw [e, List.getElem?_append_left hlt]; exact q)
    have ne : a ≠ p := fun z => pas (by rw [← z]; exact List.mem_of_getElem? q)
    rw [List.getElem?_append_left (by omega)] at k1
    refine ⟨?_, ys.map (sub sx.length xs), vs, by rw [List.getElem?_map, k1]; rfl, k2, convs k3⟩
    show upd w.G p us a = none
    rw [upd_ne ne]
    exact g'
  · have q' : upd w.G p us c = some u := q
    by_cases hc : c = p
    · subst hc
      rw [upd_same] at q'
      cases q'
      exact entR_small h3
    · rw [upd_ne hc] at q'
      exact W.small c u q'
  · obtain ⟨g', n, k1⟩ := W.hidd c vs m
    have ne : c ≠ p := fun z => n (by rw [z]; exact inas)
    refine ⟨?_, fun z => n (by rw [e]; exact List.mem_append_left _ z), k1⟩
    show upd w.G p us c = none
    rw [upd_ne ne]
    exact g'
/-- the store's lists from place n on, frozen in what is told -/
def frzs : Nat → List (List D) → D → D
  | _, [], d => d
  | n, a :: r, d => sub n (a.map (frzs (n + 1) r)) (frzs (n + 1) r d)
def SafeLoc : Nat → List (List D) → Prop
  | _, [] => True
  | n, a :: r => belows n (a.map (frzs (n + 1) r)) = true ∧ SafeLoc (n + 1) r
theorem frz_loc : ∀ (loc : List (List D)) (w : Wd) (s1 : Sto), Wld K w (s1 ++ loc) H → SafeLoc s1.length loc →
    ∃ w', (∃ m, w.as = w'.as ++ m) ∧ Same w.G w'.G ∧ (w'.hid = w.hid ∧ w'.dk = w.dk ∧ w'.lk = w.lk) ∧ Wld K w' (s1.map (List.map (frzs s1.length loc))) H ∧ ∀ d v, Rep K w d v → Rep K w' (frzs s1.length loc d) v
  | [], w, s1, W, _ => by
    refine ⟨w, ⟨[], by simp⟩, Same.refl _, ⟨rfl, rfl, rfl⟩, ?_, fun d v h => h⟩
    have e : s1.map (List.map (frzs s1.length [])) = s1 := by
      have : List.map (frzs s1.length []) = id := by
        funext xs
        show xs.map (fun d => d) = xs
        simp
      rw [this, List.map_id]
    rw [e]
    rw [List.append_nil] at W
    exact W
  | a :: r, w, s1, W, h => by
    have W' : Wld K w ((s1 ++ [a]) ++ r) H := by rw [List.append_assoc]; exact W
    have n1 : (s1 ++ [a]).length = s1.length + 1 := by simp
    obtain ⟨w1, p1, g1, hd1, W1, c1⟩ := frz_loc r w (s1 ++ [a]) W' (by rw [n1]; exact h.2)
    rw [n1] at W1 c1
    rw [List.map_append, List.map_singleton] at W1
    have n2 : (s1.map (List.map (frzs (s1.length + 1) r))).length = s1.length := by simp
    obtain ⟨w2, p2, g2, hd2, W2, c2⟩ := frz_one W1 (by rw [n2]; exact h.1)
    rw [n2] at W2 c2
    refine ⟨w2, ?_, g1.trans g2, ⟨hd2.1.trans hd1.1, hd2.2.1.trans hd1.2.1, hd2.2.2.trans hd1.2.2⟩, ?_, fun d v q => c2 _ _ (c1 d v q)⟩
    · obtain ⟨m1, e1⟩ := p1
      obtain ⟨m2, e2⟩ := p2
      exact ⟨m2 ++ m1, by rw [e1, e2, List.append_assoc]⟩
    · have e : s1.map (List.map (frzs s1.length (a :: r))) = (s1.map (List.map (frzs (s1.length + 1) r))).map (List.map (sub s1.length (a.map (frzs (s1.length + 1) r)))) := by
        rw [List.map_map]
        congr 1
        funext xs
        show xs.map (frzs s1.length (a :: r)) = (xs.map (frzs (s1.length + 1) r)).map (sub s1.length (a.map (frzs (s1.length + 1) r)))
        rw [List.map_map]
        rfl
      rw [e]
      exact W2
theorem frzs_below : ∀ (loc : List (List D)) (n : Nat) (d : D), below n d = true → frzs n loc d = d
  | [], _, _, _ => rfl
  | a :: r, n, d, h => by
    show sub n _ (frzs (n + 1) r d) = d
    rw [frzs_below r (n + 1) d (below_mono (Nat.le_succ n) d h)]
    exact sub_below d h
theorem frzs_lock : ∀ (loc : List (List D)) (n : Nat), frzs n loc lockD = lockD
  | [], _ => rfl
  | a :: r, n => by
    show sub n _ (frzs (n + 1) r lockD) = lockD
    rw [frzs_lock r (n + 1)]
    simp only [lockD, sub, subs]
theorem belows_mem {n : Nat} : ∀ {xs : List D} {d : D}, belows n xs = true → d ∈ xs → below n d = true
  | [], _, _, m => by cases m
  | x :: xs, d, h, m => by
    simp only [belows, Bool.and_eq_true] at h
    rcases List.mem_cons.mp m with rfl | m
    · exact h.1
    · exact belows_mem h.2 m
/-- what a def leaves: st1 in the place of the callers' store, loc its own lists -/
def Frz (st : Sto) (d : D) (st' : Sto) (kk : DK) : Prop := ∃ st1 loc, st' = st1 ++ loc ∧ st1.length = st.length ∧ (∀ (i : Nat) (xs : List D), st1[i]? = some xs → st[i]? = some xs ∨ belows st.length xs = true) ∧ SafeLoc st.length loc ∧ kk (frzs st.length loc d) st1
theorem Frz.none {st : Sto} {d : D} {kk : DK} (h : kk d st) : Frz st d st kk := ⟨st, [], by simp, rfl, fun _ _ e => .inl e, trivial, h⟩
theorem Frz.one {st : Sto} {a : List D} {d : D} {kk : DK} (hb : belows st.length a = true) (h : kk (sub st.length a d) st) : Frz st d (st ++ [a]) kk := by
  have e : a.map (frzs (st.length + 1) []) = a := by
    show a.map (fun d => d) = a
    simp
  refine ⟨st, [a], rfl, rfl, fun _ _ e => .inl e, ⟨?_, trivial⟩, ?_⟩
  · rw [e]; exact hb
  · show kk (sub st.length (a.map (frzs (st.length + 1) [])) d) st
    rw [e]
    exact h
theorem fol_frz {kk : DK} {Q : VK} (W : Wld K w st H) (fo : Fol K w kk Q) : Fol K w (fun d st' => Frz st d st' kk) Q := by
  rintro d st' v w1 H' ⟨st1, loc, rfl, hl, hs, hloc, k⟩ l1 W1 R1
  rw [← hl] at hloc
  obtain ⟨w2, p2, g2, hd2, W2, c2⟩ := frz_loc loc w1 st1 W1 hloc
  have low : ∀ xs ∈ st1, ∀ d ∈ xs, below st1.length d = true ∨ d = lockD := fun xs m => by
    obtain ⟨i, hi⟩ := List.getElem?_of_mem m
    rcases hs i xs hi with h | h
    · have hi' : i < w.as.length := by
        rw [W.len, ← hl]
        exact (List.getElem?_eq_some_iff.mp hi).1
      obtain ⟨_, ys, vs, k1, _, k4⟩ := W.at_ i w.as[i] (by rw [List.getElem?_eq_getElem hi'])
      rw [h] at k1
      cases k1
      rw [hl, ← W.len]
      exact entR_ok k4
    · rw [hl]; exact fun d md => .inl (belows_mem h md)
  have est : st1.map (List.map (frzs st1.length loc)) = st1 := by
    have : ∀ xs ∈ st1, List.map (frzs st1.length loc) xs = xs := fun xs m => by
      have : ∀ d ∈ xs, frzs st1.length loc d = d := fun d md => by
        rcases low xs m d md with z | z
        · exact frzs_below loc _ d z
        · rw [z]
          exact frzs_lock loc _
      rw [List.map_congr_left this]
      simp
    rw [List.map_congr_left this]
    simp
  rw [est] at W2
  have eas : w2.as = w.as := by
    obtain ⟨m1, e1⟩ := l1.pre.as
    obtain ⟨m2, e2⟩ := p2
    have n2 : w2.as.length = w.as.length := by rw [W2.len, hl, W.len]
    have h : w2.as ++ m2 = w.as ++ m1 := by rw [← e2, e1]
    exact (List.append_inj h n2).1
  refine fo _ _ v w2 H' k ⟨⟨l1.same.trans g2, ⟨⟨[], by rw [eas]; simp⟩, fun a ha => by rw [hd2.2.1]; exact l1.pre.dk a ha⟩, fun a ha => by rw [hd2.2.2]; exact l1.lk a ha⟩, hd2.1.trans l1.hid⟩ W2 ?_
  rw [← hl]
  exact c2 d v R1
end

/-! ### a def keeps its promise -/
def startD (N : List Str) (ds : List D) : Env := ds.map some ++ List.replicate (N.length - ds.length) none
theorem startD_rep {K : PySem.W.Frag} {w : Wd} {N : List Str} {ds : List D} {vs : List V} (R : Reps K w ds vs) : EnvR K w (startD N ds) (L2.start N vs) := by
  unfold startD L2.start
  refine ⟨by simp [R.length], fun i d e => ?_⟩
  by_cases hi : i < ds.length
  · rw [List.getElem?_append_left (by simpa using hi), List.getElem?_map, List.getElem?_eq_getElem hi] at e
    obtain ⟨v, h1, h2⟩ := R.get (i := i) (d := d) (by rw [List.getElem?_eq_getElem hi]; simpa using e)
    refine ⟨v, ?_, h2⟩
    rw [List.getElem?_append_left (by rw [List.length_map, R.length]; exact hi), List.getElem?_map, h1]
    rfl
  · rw [List.getElem?_append_right (by simpa using hi), List.getElem?_replicate] at e
    split at e <;> cases e
section
variable {P : Program} {wo : World} {K : PySem.W.Frag} {mg : Str → Option Value} {base : Heap} {x qual : Str} {params : Arguments} {body : List Stmt} {scope : Scope} {kws : List (Str × V)} {f : Addr} {fd : FuncData} {N ps : List Str} {k : Nat} {sp : SpD} {t : DS}
/-- what the body reads to: frozen (fz) or as it stands -/
def BodyD (fz : Bool) (N : List Str) (sp : SpD) (t : DS) : Prop := ∀ ds st kk, sp ds st kk →
  t ⟨fun _ st' => if fz = true then Frz st .non st' kk else kk .non st', fun d st' => if fz = true then Frz st d st' kk else kk d st'⟩ (startD N ds) st
theorem fnD (fz : Bool) (F : FunD K x qual params body scope [] kws f fd) (S : FnScope N ps scope) (len : ∀ ds st kk, sp ds st kk → ds.length = ps.length)
    (hd : ∀ (cdv : Value) (A : Around) (outer : List PySem.Env) (s : Shared) (H : Hp) (E : XK), RoomG k (A.deeper (envOfC qual scope s.heap.objs.size f cdv)) → PDSs (cxOf CX0 P wo K mg base N qual scope f cdv A outer s H E).nox body t)
    (hp : BodyD fz N sp t) : FnG P wo K mg base CX0 (k + 1) f fd ps (spD K sp) := by
  refine fnG_body F S (fun vs H Q E ⟨w, st, ds, kk, W, R, q, fo⟩ => R.length.trans (len ds st kk q)) fun cdv A outer s H vs Q E hr ⟨w, st, ds, kk, W, R, q, fo⟩ => ?_
  refine ⟨_, PSs.nox (hd cdv A outer s H E hr), w, startD N ds, st, _, W, startD_rep R, hp ds st kk q, ?_, ?_⟩
  · intro env' st' σ' w' H' h l W' E'
    cases fz with
    | true => exact fol_frz W fo _ _ _ _ _ h l W' rep_non
    | false => exact fo _ _ _ _ _ h l W' rep_non
  · cases fz with
    | true => exact fol_frz W fo
    | false => exact fo
end

/-! ### the law -/
/-- what is promised of a law: True, whatever numbers the script has -/
def spLaw : SpD := fun ds st kk => ∃ ns : List Int, ds = [.klst (ns.map D.int)] ∧ ns.length ≤ 63 ∧ (∀ z ∈ ns, Builtin.Int.intBits z ≤ 1048576) ∧ st = [] ∧ ∀ st', kk (.bl true) st'
theorem law_start {K : PySem.W.Frag} {H : Hp} {a : Addr} {ns : List Int} (hn : ns.length ≤ 63) (hb : ∀ z ∈ ns, Builtin.Int.intBits z ≤ 1048576) (hS : SqL K H a (ns.map V.int)) : spD K spLaw [.ref a] H (fun v _ => v = .bl true) fun _ _ _ => False := by
  have small : (ns.map V.int).length ≤ sizeLine := by rw [List.length_map, sizeLine_eq]; omega
  have fin : ∀ G : Hp, Same G H → (∀ a u, G a = some u → SizeOk u) → SqL K G a (ns.map V.int) → spD K spLaw [.ref a] H (fun v _ => v = .bl true) fun _ _ _ => False := fun G s sm q => by
    refine ⟨⟨G, [], [], fun _ => none, fun _ => none⟩, [], [.klst (ns.map D.int)], fun d _ => d = .bl true, ⟨s, rfl, List.nodup_nil, fun i a e => (by simp at e), sm, fun a vs m => (by cases m), List.nodup_nil⟩, .cons ?_ .nil, ⟨ns, rfl, hn, hb, rfl, fun _ => rfl⟩, fun d st' v w' H' e _ _ R => ?_⟩
    · simp only [Rep]
      exact ⟨a, _, rfl, q, Reps.of_ints ns⟩
    · subst e
      simpa only [Rep] using R
  rcases hS with (h | ⟨o, h⟩) | h
  · refine fin (fun b => if b = a then some (.lst (ns.map V.int)) else none) (fun b u e => ?_) (fun b u e => ?_) (.of (if_pos rfl))
    · by_cases hb : b = a
      · subst hb
        have e' := (if_pos rfl).symm.trans e
        cases e'
        exact h
      · have e' := (if_neg hb).symm.trans e
        cases e'
    · by_cases hb : b = a
      · have e' := (if_pos hb).symm.trans e
        cases e'
        exact small
      · have e' := (if_neg hb).symm.trans e
        cases e'
  · refine fin (fun b => if b = a then some (.frz o (.lst (ns.map V.int))) else none) (fun b u e => ?_) (fun b u e => ?_) (.inl (.inr ⟨o, if_pos rfl⟩))
    · by_cases hb : b = a
      · subst hb
        have e' := (if_pos rfl).symm.trans e
        cases e'
        exact h
      · have e' := (if_neg hb).symm.trans e
        cases e'
    · by_cases hb : b = a
      · have e' := (if_pos hb).symm.trans e
        cases e'
        exact small
      · have e' := (if_neg hb).symm.trans e
        cases e'
  · exact fin (fun _ => none) (fun b u e => by cases e) (fun b u e => by cases e) (.inr h)
/-- the end of a law's proof, the script's sizes told -/
theorem law_end {l : PySem.W.OpenLaw} {k : Nat} {q : Program} {loose : List Str} {XP : (Str → Option Value) → Heap → Prop} {YP : World → Heap → Prop} {d : DefRec} {x : Str}
    (hn : l.most = some 63) (hdf : d.params.defaults = []) (hr : RoomG k callerA)
    (F : ∀ (w : World) (mg : Str → Option Value) (fa : Addr) (h : Heap), YP w h → h.Ns mainGlobals mg → mg d.name = some (.ref fa) →
      ∃ (K : PySem.W.Frag) (fd : FuncData), K.In h ∧ (∀ (s : Shared) (u : Value), BindsTo s fd ⟨[u], []⟩ [(x, u)]) ∧
        ∀ base : Heap, K.In base → base.Ns mainGlobals mg → FnG l.prog w K mg base CX0 k fa fd [x] (spD K spLaw)) :
    PySem.W.WalkO q loose XP YP l.row.toRowW d [] (fun f vs => PySem.call f vs) := by
  refine Att.attach_callB hn hdf ?_
  intro w s₀ s₁ mg mb fa o pm cd doc a vs ns G Y ho hd hcd hmg hobj hints hlen hbits hg
  obtain ⟨K, fd, KX, hb, hF⟩ := F w mg fa _ Y G.T.g hmg
  refine law_callG KX G.T.g G.T.b G.T.builtins G.T.nolimit hg hobj hints (Nat.le_trans hlen (by decide)) hr hF hb ?_ ?_
  · exact fun H _ hS => law_start hlen hbits hS
  · exact fun H e s' z => z
end DL

namespace DL
open PySem PySem.Spec PyProof.Rows L2
/-! ### callees, as a def's derivation takes them -/
def Cal (P : Program) (wo : World) (K : PySem.W.Frag) (mg : Str → Option Value) (base : Heap) (k : Nat) (nm : Str) (ps : List Str) (sp : SpD) : Prop :=
  ∃ f fd, mg nm = some (.ref f) ∧ PySem.W.keepIn K (.ref f) = true ∧ FnG P wo K mg base CX0 k f fd ps (spD K sp) ∧ Binds K fd ps []
def Calk (P : Program) (wo : World) (K : PySem.W.Frag) (mg : Str → Option Value) (base : Heap) (k : Nat) (nm : Str) (ps : List Str) (sp : SpD) (n : Nat) (ks : List Str) (ix : List Nat) : Prop :=
  ∃ f fd, mg nm = some (.ref f) ∧ PySem.W.keepIn K (.ref f) = true ∧ FnG P wo K mg base CX0 k f fd ps (spD K sp) ∧ KBn K fd ps n ks (kperm ix) (kperm ix)
section
variable {P : Program} {wo : World} {K : PySem.W.Frag} {mg : Str → Option Value} {base : Heap} {k j : Nat} {nm : Str} {ps : List Str} {sp : SpD}
theorem Cal.up (c : Cal P wo K mg base k nm ps sp) (h : k ≤ j) : Cal P wo K mg base j nm ps sp :=
  let ⟨f, fd, a, b, F, d⟩ := c; ⟨f, fd, a, b, F.mono h, d⟩
theorem Calk.up {n : Nat} {ks : List Str} {ix : List Nat} (c : Calk P wo K mg base k nm ps sp n ks ix) (h : k ≤ j) : Calk P wo K mg base j nm ps sp n ks ix :=
  let ⟨f, fd, a, b, F, d⟩ := c; ⟨f, fd, a, b, F.mono h, d⟩
variable {X : Cx} {e : Expr} {es : List Expr} {p pos : Pos} {t tk : DA}
theorem pd_callC (c : Cal X.prog X.w X.K X.mg X.base k nm ps sp) (hr : RoomG j X.A)
    (ha : PDA X (e :: es) t) (hkj : k ≤ j := by decide) (hg : Gl X nm := by rfl) (hdb : (nm == ("__debug__" : Str)) = false := by decide) (he : starEach (e :: es) X.env = (false, eval e X.env) :: starEach es X.env := by rfl) (hpl : (backTo pos (starEach es X.env)).any (·.1) = false := by rfl) :
    PD X (.Call (.Name nm p) (e :: es) [] pos) (dCall sp t) := by
  obtain ⟨f, fd, a, b, F, d⟩ := c
  exact pd_call F (hr.mono hkj) a b d ha hg hdb he hpl
theorem pd_callC2 {m : Nat} {ks : List Str} {ix : List Nat} {kws : List Keyword} (c : Calk X.prog X.w X.K X.mg X.base k nm ps sp 0 ks ix) (hr : RoomG j X.A)
    (hkw : PDK X kws tk) (hm : ks.length = m := by rfl) (hkj : k ≤ j := by decide) (hg : Gl X nm := by rfl) (hall : (backToKw pos (keywordEach kws X.env)).all (·.1.isSome) = true := by rfl) (hks : (backToKw pos (keywordEach kws X.env)).filterMap (·.1) = ks := by rfl)
    (hdb : (nm == ("__debug__" : Str)) = false := by decide)
    (hpl : ((backTo pos (starEach [] X.env)).any (·.1) || (backToKw pos (keywordEach kws X.env)).any (·.1.isNone)) = false := by rfl) : PD X (.Call (.Name nm p) [] kws pos) (dCallK 0 m ix sp dNil tk) := by
  subst hm
  obtain ⟨f, fd, a, b, F, d⟩ := c
  exact pd_callK0 F (hr.mono hkj) a b d hkw hg hall hks hdb hpl
end
/-- a def without defaults as it stands behind the top -/
abbrev FnP (K : PySem.W.Frag) (x : Str) (st : Stmt) (f : Addr) (fd : FuncData) : Prop := FunD K x x (defArgs st) (defBody st) (defScope st) [] [] f fd
/-- a promise that is the body's own reading: nothing is said of it -/
def inl (fz : Bool) (N : List Str) (n : Nat) (t : DS) : SpD := fun ds st kk => ds.length = n ∧
  t ⟨fun _ st' => if fz = true then Frz st .non st' kk else kk .non st', fun d st' => if fz = true then Frz st d st' kk else kk d st'⟩ (startD N ds) st
end DL

/-! readings evaluated: one equation a form -/
namespace DL
open PySem PySem.Spec PyProof.Rows L2
def testK (k : Bool → Sto → Prop) : DK := fun d s1 => match d with
  | .bl b => k b s1
  | _ => False
def truK (k : Bool → Sto → Prop) : DK := fun d s1 => OkTru s1 d ∧ k (truD s1 d) s1
def andK (u : DE) (env : DL.Env) (k : DK) : DK := fun d s1 => match d with
  | .bl b => if b = true then u env s1 k else k (.bl false) s1
  | _ => False
def notK (k : DK) : DK := fun d s1 => match d with
  | .bl b => k (.bl (!b)) s1
  | _ => False
def someK (k : Option Int → Sto → Prop) : DK := fun d s1 => match d with
  | .int i => k (some i) s1
  | _ => False
def iterK (kk : DIk) : DK := fun d s1 => match deref s1 d with
  | .lst xs => xs.length ≤ 16777216 → kk xs (srcOf d xs) s1
  | .tup xs => xs.length ≤ 16777216 → kk xs [] s1
  | .str z => kk (signs z) [] s1
  | _ => False
def enumK (kk : DIk) : DK := fun d s1 => match deref s1 d with
  | .lst xs => xs.length ≤ 16777216 → kk (enumD 0 xs) (srcOf d xs) s1
  | .tup xs => xs.length ≤ 16777216 → kk (enumD 0 xs) [] s1
  | _ => False
def zipK (kk : DIk) (d : D) : DK := fun e s2 => match deref s2 d, deref s2 e with
  | .lst xs, .lst ys => xs.length ≤ 16777216 → kk (zipD xs ys) (srcOf d xs ++ srcOf e ys) s2
  | .tup xs, .tup ys => xs.length ≤ 16777216 → kk (zipD xs ys) [] s2
  | _, _ => False
def rng1K (kk : DIk) : DK := fun d s1 => match d with
  | .int j => (-(2 ^ 62) ≤ j ∧ j < 2 ^ 62) ∧ kk (rangeD 0 j.toNat) [] s1
  | _ => False
def rng2K (kk : DIk) (d : D) : DK := fun e s2 => match d, e with
  | .int i, .int j => (-(2 ^ 62) ≤ i ∧ i < 2 ^ 62 ∧ -(2 ^ 62) ≤ j ∧ j < 2 ^ 62) ∧ kk (rangeD i (j - i).toNat) [] s2
  | _, _ => False
def parK (i j : Nat) (env : DL.Env) (nx : DL.Env → Sto → Prop) : List D → Sto → Prop := fun ds s1 => match ds with
  | [d, e] => dgName i d env s1 fun env1 s2 => dgName j e env1 s2 nx
  | _ => False
section
variable {env r : DL.Env} {st : Sto} {k : DK} {kt : Bool → Sto → Prop} {ka : List D → Sto → Prop} {kg : DL.Env → Sto → Prop} {kk : DIk} {d e : D} {ds es : List D} {a : Option D} {n m i j : Nat} {t u v : DE} {c c2 : DT} {ta tb : DA} {f g : F2} {f1 : F1} {fb : FB} {fm : FM} {sp : SpD} {E : DEnds} {s1 s2 : DS} {tg : DG} {tgs : DGs} {di : DI} {o o2 : DO} {fc : D → Option Int → Option Int → Sto → DK → Prop}
theorem e_v0 : dVar 0 (some d :: r) st k = k d st := rfl
theorem e_vs : dVar (n + 1) (a :: r) st k = dVar n r st k := rfl
theorem e_c : dC d env st k = k d st := rfl
theorem e_op : dOp f t u env st k = t env st fun x s1 => u env s1 fun y s2 => f x y s2 k := rfl
theorem e_un : dUn f1 t env st k = t env st fun x s1 => f1 x s1 k := rfl
theorem e_test : dTest t env st kt = t env st (testK kt) := rfl
theorem e_testK {b : Bool} : testK kt (.bl b) st = kt b st := rfl
theorem e_tru : dTru t env st kt = t env st (truK kt) := rfl
theorem e_truL : truK kt (.lst ds) st = kt (!ds.isEmpty) st := by simp [truK, OkTru, truD, deref]
theorem e_truT : truK kt (.tup ds) st = kt (!ds.isEmpty) st := by simp [truK, OkTru, truD, deref]
theorem e_truB {b : Bool} : truK kt (.bl b) st = kt b st := by simp [truK, OkTru, truD, deref]
theorem e_truI {b : Int} : truK kt (.int b) st = kt (b != 0) st := by simp [truK, OkTru, truD, deref]
theorem e_truN : truK kt .non st = kt false st := by simp [truK, OkTru, truD, deref]
theorem e_truS {x : Str} : truK kt (.str x) st = (x.length ≤ sizeLine ∧ kt ((x.length : Int) != 0) st) := by simp [truK, OkTru, truD, deref]
theorem e_not : dNot c env st kt = c env st fun b s1 => kt (!b) s1 := rfl
theorem e_or : dOr c c2 env st kt = c env st fun b s1 => if b = true then kt true s1 else c2 env s1 kt := rfl
theorem e_andv : dAndV t u env st k = t env st (andK u env k) := rfl
theorem e_notv : dNotV t env st k = t env st (notK k) := rfl
theorem e_andK {b : Bool} : andK u env k (.bl b) st = if b = true then u env st k else k (.bl false) st := rfl
theorem e_notK {b : Bool} : notK k (.bl b) st = k (.bl (!b)) st := rfl
theorem e_if : dIf c t u env st k = c env st fun b s1 => if b = true then t env s1 k else u env s1 k := rfl
theorem e_nil : dNil env st ka = ka [] st := rfl
theorem e_cons : dCons t ta env st ka = t env st fun d s1 => ta env s1 fun ds s2 => ka (d :: ds) s2 := rfl
theorem e_tup : dTup ta env st k = ta env st fun ds s1 => ds.length ≤ 16777216 ∧ k (.tup ds) s1 := rfl
theorem e_lst : dLst ta env st k = ta env st fun ds s1 => ds.length ≤ 16777216 ∧ k (.lst ds) s1 := rfl
theorem e_new : dNew ta env st k = ta env st fun ds s1 => ds.length ≤ 16777216 ∧ k (.obj s1.length) (s1 ++ [ds]) := rfl
theorem e_call : dCall sp ta env st k = ta env st fun ds s1 => sp ds s1 k := rfl
theorem e_callK {ix : List Nat} : dCallK n m ix sp ta tb env st k = ta env st fun ds s1 => tb env s1 fun es s2 => ds.length = n ∧ es.length = m ∧ sp (kperm ix ds es) s2 k := rfl
theorem e_drop : dDrop t E env st = t env st fun _ s1 => E.nx env s1 := rfl
theorem e_ret : dRet t E env st = t env st E.rt := rfl
theorem e_pass : dPass E env st = E.nx env st := rfl
theorem e_ifS : dIfS c s1 s2 E env st = c env st fun b s => if b = true then s1 E env s else s2 E env s := rfl
theorem e_g0 : dgName 0 d (a :: r) st kg = kg (some d :: r) st := rfl
theorem e_gs : dgName (n + 1) d (a :: r) st kg = dgName n d r st fun env' st' => kg (a :: env') st' := rfl
theorem e_gnil : dgNil [] env st kg = kg env st := rfl
theorem e_gcons : dgCons tg tgs (d :: ds) env st kg = tg d env st fun env' st' => tgs ds env' st' kg := rfl
theorem e_gtup : dgTup n tgs (.tup ds) env st kg = (ds.length = n ∧ tgs ds env st kg) := rfl
theorem e_asg : dAsg t tg E env st = t env st fun d s1 => tg d env s1 E.nx := rfl
theorem e_par : dPar i j ta E env st = ta env st (parK i j env E.nx) := by
  unfold dPar
  congr 1
theorem e_parK : parK i j env kg [d, e] st = dgName i d env st fun env1 s2 => dgName j e env1 s2 kg := rfl
theorem e_no {ko : Option Int → Sto → Prop} : dNo env st ko = ko none st := rfl
theorem e_some {ko : Option Int → Sto → Prop} : dSome t env st ko = t env st (someK ko) := rfl
theorem e_someK {ko : Option Int → Sto → Prop} {b : Int} : someK ko (.int b) st = ko (some b) st := rfl
theorem e_cut : dCut fc t o o2 env st k = t env st fun d s1 => o env s1 fun lo s2 => o2 env s2 fun hi s3 => fc d lo hi s3 k := rfl
theorem e_b : dB fb ta env st k = ta env st fun ds s1 => fb ds s1 k := rfl
theorem e_iter : dIter t env st kk = t env st (iterK kk) := rfl
theorem e_iterL : iterK kk (.lst ds) st = (ds.length ≤ 16777216 → kk ds [] st) := rfl
theorem e_iterT : iterK kk (.tup ds) st = (ds.length ≤ 16777216 → kk ds [] st) := rfl
theorem e_iterS {x : Str} : iterK kk (.str x) st = kk (signs x) [] st := rfl
theorem e_iterO {xs : List D} (h : st[i]? = some xs) : iterK kk (.obj i) st = (xs.length ≤ 16777216 → kk xs [(i, xs)] st) := by simp [iterK, deref, srcOf, h]
theorem e_rng1 : dRng1 t env st kk = t env st (rng1K kk) := rfl
theorem e_rng1K {b : Int} : rng1K kk (.int b) st = ((-(2 ^ 62) ≤ b ∧ b < 2 ^ 62) ∧ kk (rangeD 0 b.toNat) [] st) := rfl
theorem e_rng2 : dRng2 t u env st kk = t env st fun d s1 => u env s1 (rng2K kk d) := rfl
theorem e_rng2K {a b : Int} : rng2K kk (.int a) (.int b) st = ((-(2 ^ 62) ≤ a ∧ a < 2 ^ 62 ∧ -(2 ^ 62) ≤ b ∧ b < 2 ^ 62) ∧ kk (rangeD a (b - a).toNat) [] st) := rfl
theorem e_enum : dEnum t env st kk = t env st (enumK kk) := rfl
theorem e_enumL : enumK kk (.lst ds) st = (ds.length ≤ 16777216 → kk (enumD 0 ds) [] st) := rfl
theorem e_enumT : enumK kk (.tup ds) st = (ds.length ≤ 16777216 → kk (enumD 0 ds) [] st) := rfl
theorem e_zip : dZip t u env st kk = t env st fun d s1 => u env s1 (zipK kk d) := rfl
theorem e_zipL : zipK kk (.lst ds) (.lst es) st = (ds.length ≤ 16777216 → kk (zipD ds es) [] st) := rfl
theorem e_zipT : zipK kk (.tup ds) (.tup es) st = (ds.length ≤ 16777216 → kk (zipD ds es) [] st) := rfl
theorem e_for : dFor di tg s1 E env st = di env st fun xs src s => goFor src tg s1 E xs env s := rfl
theorem e_lc {vs : List Nat} : dLc di tg c t vs env st k = di env st fun xs src s1 => xs.length ≤ 16777216 ∧ goLc src tg c t vs env (fun acc s2 => k (.lst acc) s2) xs [] s1 := rfl
theorem e_forN {src : List (Nat × List D)} : goFor src tg s1 E [] env st = (SrcOk src st ∧ E.nx env st) := rfl
theorem e_forC {src : List (Nat × List D)} {x : D} {xs : List D} : goFor src tg s1 E (x :: xs) env st = (SrcOk src st ∧ tg x env st fun env' st' => s1 ⟨fun env2 st2 => goFor src tg s1 E xs env2 st2, E.rt⟩ env' st') := rfl
theorem e_lcN {src : List (Nat × List D)} {vs : List Nat} : goLc src tg c t vs env ka [] ds st = (SrcOk src st ∧ ka ds st) := rfl
theorem e_lcC {src : List (Nat × List D)} {vs : List Nat} {x : D} {xs : List D} : goLc src tg c t vs env ka (x :: xs) ds st = (SrcOk src st ∧ tg x (wipeE env vs) st fun env' st' => c env' st' fun b s1 =>
      if b = true then t env' s1 fun d s2 => goLc src tg c t vs env ka xs (ds ++ [d]) s2 else goLc src tg c t vs env ka xs ds s1) := rfl
theorem e_srcN : SrcOk [] st = True := rfl
theorem e_srcC {p : Nat × List D} {r : List (Nat × List D)} : SrcOk (p :: r) st = (st[p.1]? = some p.2 ∧ SrcOk r st) := rfl
theorem e_meth : dMeth fm t ta env st k = t env st fun d s1 => isLst s1 d = true ∧ ta env s1 fun ds s2 => fm d ds s2 k := rfl
theorem e_isL : isLst st (.lst ds) = true := rfl
theorem e_isO {xs : List D} (h : st[i]? = some xs) : isLst st (.obj i) = true := by simp [isLst, deref, h]
theorem e_app {xs : List D} (h : st[i]? = some xs) : mAppend (.obj i) [d] st k = (xs.length < 16777216 ∧ k .non (st.set i (xs ++ [d]))) := by simp [mAppend, h]
theorem e_sub {to ti : DE} : dgSub to ti d env st kg = to env st fun o s1 => ti env s1 fun i s2 => setD o i d s2 fun s3 => kg env s3 := rfl
theorem e_setO {xs : List D} {b : Int} {ks : Sto → Prop} (h : st[i]? = some xs) : setD (.obj i) (.int b) d st ks = ∃ m, ixN xs.length b = some m ∧ ks (st.set i (xs.set m d)) := by simp [setD, h]
def augK (t : DE) (f : F2) (i : Nat) (env : DL.Env) (nx : DL.Env → Sto → Prop) (d : D) : Sto → Prop := fun st => t env st fun e s1 => f d e s1 fun z s2 => dgName i z env s2 nx
theorem e_aug : dAug i t f E env st = match env[i]? with
    | some (some d) => augK t f i env E.nx d st
    | _ => False := rfl
theorem e_augK : augK t f i env kg d st = t env st fun e s1 => f d e s1 fun z s2 => dgName i z env s2 kg := rfl
theorem e_isi {ts : List String} : dIsi t ts env st k = t env st fun d s1 => k (.bl (ts.any (subTy (tyD d)))) s1 := rfl
theorem e_yes : dYes env st kt = kt true st := rfl
-- operators
theorem e_addI {a b : Int} : addD (.int a) (.int b) st k = k (.int (a + b)) st := rfl
theorem e_addB {a : Int} {b : Bool} : addD (.int a) (.bl b) st k = k (.int (a + b2i b)) st := rfl
theorem e_addBI {a : Bool} {b : Int} : addD (.bl a) (.int b) st k = k (.int (b2i a + b)) st := rfl
theorem e_subBI {a : Bool} {b : Int} : subD (.bl a) (.int b) st k = k (.int (b2i a - b)) st := rfl
theorem e_subIB {a : Int} {b : Bool} : subD (.int a) (.bl b) st k = k (.int (a - b2i b)) st := rfl
theorem e_addS {a b : Str} : addD (.str a) (.str b) st k = (a.length + b.length ≤ 16777216 ∧ k (.str (a ++ b)) st) := rfl
theorem e_addT {a b : List D} : addD (.tup a) (.tup b) st k = (a.length + b.length ≤ 16777216 ∧ k (.tup (a ++ b)) st) := rfl
theorem e_addL {a b : List D} : addD (.lst a) (.lst b) st k = (a.length + b.length ≤ 16777216 ∧ k (.lst (a ++ b)) st) := rfl
theorem e_subI {a b : Int} : subD (.int a) (.int b) st k = k (.int (a - b)) st := rfl
theorem e_mulI {a b : Int} : mulD (.int a) (.int b) st k = (MulOk a b ∧ k (.int (a * b)) st) := rfl
theorem e_mulT {a : List D} {b : Int} : mulD (.tup a) (.int b) st k = (a ≠ [] ∧ 1 ≤ b ∧ b ≤ 1000 ∧ a.length ≤ 1000 ∧ k (.tup (List.replicate b.toNat a).flatten) st) := rfl
theorem e_mulL {a : List D} {b : Int} : mulD (.lst a) (.int b) st k = (-(2 ^ 63) ≤ b ∧ b < 2 ^ 63 ∧ a.length * b.toNat ≤ 16777216 ∧ k (.lst (List.replicate b.toNat a).flatten) st) := rfl
theorem e_divI {a b : Int} : divD (.int a) (.int b) st k = (DivOk b ∧ k (.int (a / b)) st) := rfl
theorem e_modI {a b : Int} : modD (.int a) (.int b) st k = (0 < b ∧ k (.int (a % b)) st) := rfl
theorem e_powI {a b : Int} : powD (.int a) (.int b) st k = (PowOk a b ∧ k (.int (a ^ b.toNat)) st) := rfl
theorem e_negI {a : Int} : negD (.int a) st k = k (.int (-a)) st := rfl
theorem e_iadd {a b : Int} : iaddD (.int a) (.int b) st k = k (.int (a + b)) st := rfl
theorem e_cmpI {p : Int → Int → Bool} {a b : Int} : cmpI p (.int a) (.int b) st k = k (.bl (p a b)) st := rfl
theorem e_eq : eqOp false d e st k = (okD 60 (deref st d) = true ∧ okD 60 (deref st e) = true ∧ k (.bl (eqD (deref st d) (deref st e))) st) := rfl
theorem e_ne : eqOp true d e st k = (okD 60 (deref st d) = true ∧ okD 60 (deref st e) = true ∧ k (.bl (!eqD (deref st d) (deref st e))) st) := rfl
theorem e_isn : isOp false d .non st k = k (.bl (isNon d)) st := rfl
theorem e_isb {a b neg : Bool} : isOp neg (.bl a) (.bl b) st k = k (.bl (if neg then !(a == b) else a == b)) st := rfl
theorem e_isnn : isOp true d .non st k = k (.bl (!isNon d)) st := rfl
theorem e_ixL {a : List D} {b : Int} : ixD (.lst a) (.int b) st k = ∃ x, atI a b = some x ∧ k x st := rfl
theorem e_ixKL {a : List D} {b : Int} : ixD (.klst a) (.int b) st k = ∃ x, atI a b = some x ∧ k x st := rfl
theorem e_ixT {a : List D} {b : Int} : ixD (.tup a) (.int b) st k = ∃ x, atI a b = some x ∧ k x st := rfl
theorem e_ixO {a : List D} {b : Int} (h : st[i]? = some a) : ixD (.obj i) (.int b) st k = ∃ x, atI a b = some x ∧ k x st := by simp [ixD, deref, h]
theorem e_cutL {a : List D} {lo hi : Option Int} : cutOp (.lst a) lo hi st k = k (.lst (cutD a lo hi)) st := rfl
theorem e_cutKL {a : List D} {lo hi : Option Int} : cutOp (.klst a) lo hi st k = k (.lst (cutD a lo hi)) st := rfl
theorem e_cutT {a : List D} {lo hi : Option Int} : cutOp (.tup a) lo hi st k = k (.tup (cutD a lo hi)) st := rfl
theorem e_lenL : bLen [.lst ds] st k = k (.int ds.length) st := rfl
theorem e_lenKL : bLen [.klst ds] st k = k (.int ds.length) st := rfl
theorem e_lenT : bLen [.tup ds] st k = k (.int ds.length) st := rfl
theorem e_lenO {xs : List D} (h : st[i]? = some xs) : bLen [.obj i] st k = k (.int xs.length) st := by simp [bLen, deref, h]
theorem e_abs {a : Int} : bAbs [.int a] st k = k (.int (if a < 0 then -a else a)) st := rfl
theorem e_intI {a : Int} : bInt [.int a] st k = k (.int a) st := rfl
theorem e_intB {b : Bool} : bInt [.bl b] st k = k (.int (if b = true then 1 else 0)) st := rfl
theorem e_min2 {a b : Int} : bMin2 [.int a, .int b] st k = k (.int (if b < a then b else a)) st := rfl
theorem e_listNL : bListNew [.lst ds] st k = k (.obj st.length) (st ++ [ds]) := rfl
theorem e_listNT : bListNew [.tup ds] st k = k (.obj st.length) (st ++ [ds]) := rfl
theorem e_tupL : bTuple [.lst ds] st k = k (.tup ds) st := rfl
theorem e_tupT : bTuple [.tup ds] st k = k (.tup ds) st := rfl
theorem e_tupO {xs : List D} (h : st[i]? = some xs) : bTuple [.obj i] st k = k (.tup xs) st := by simp [bTuple, deref, h]
theorem e_all {bs : List Bool} (h : blsD ds = some bs) : bAll [.lst ds] st k = k (.bl (bs.all id)) st := by simp [bAll, deref, h]
theorem e_drI {b : Int} : deref st (.int b) = .int b := rfl
theorem e_drB {b : Bool} : deref st (.bl b) = .bl b := rfl
theorem e_drS {b : Str} : deref st (.str b) = .str b := rfl
theorem e_drN : deref st .non = .non := rfl
theorem e_drL : deref st (.lst ds) = .lst ds := rfl
theorem e_drT : deref st (.tup ds) = .tup ds := rfl
theorem e_seq : dSeq s1 s2 E env st = s1 ⟨s2 E, E.rt⟩ env st := rfl
end
theorem okDs_int (n : Nat) : ∀ xs : List Int, okDs n (xs.map D.int) = true
  | [] => by simp only [List.map_nil, okDs]
  | x :: r => by simp only [List.map_cons, okDs, okD, Bool.true_and]; exact okDs_int n r
end DL

/-! tests by chains of any length -/
namespace DL
open PySem PySem.Spec PyProof.Rows L2
abbrev DCh := D → DL.Env → Sto → (Bool → Sto → Prop) → Prop
section
variable {X : Cx} {a b : Expr} {ta tb : DE}
end
section
variable {env : DL.Env} {st : Sto} {k : Bool → Sto → Prop} {f : F2} {t : DE} {c : DCh} {x : D} {b : Bool}
theorem q_okI {n : Nat} {i : Int} : okD n (.int i) = true := by cases n <;> rfl
theorem q_okB {n : Nat} {i : Bool} : okD n (.bl i) = true := by cases n <;> rfl
theorem q_okN {n : Nat} : okD n .non = true := by cases n <;> rfl
theorem q_okS {n : Nat} {s : Str} : okD n (.str s) = PyData.strOk s := by cases n <;> rfl
theorem q_okL {n : Nat} {ds : List D} : okD (n + 1) (.lst ds) = okDs n ds := by simp only [okD]
theorem q_okT {n : Nat} {ds : List D} : okD (n + 1) (.tup ds) = okDs n ds := by simp only [okD]
theorem q_oks0 {n : Nat} : okDs n [] = true := by simp only [okDs]
theorem q_oks1 {n : Nat} {d : D} {ds : List D} : okDs n (d :: ds) = (okD n d && okDs n ds) := by simp only [okDs]
theorem q_eqII {i j : Int} : eqD (.int i) (.int j) = (i == j) := by simp only [eqD]
theorem q_eqBB {i j : Bool} : eqD (.bl i) (.bl j) = (i == j) := by simp only [eqD]
theorem q_eqSS {i j : Str} : eqD (.str i) (.str j) = (i == j) := by simp only [eqD]
theorem q_eqLL {i j : List D} : eqD (.lst i) (.lst j) = eqDs i j := by simp only [eqD]
theorem q_eqTT {i j : List D} : eqD (.tup i) (.tup j) = eqDs i j := by simp only [eqD]
theorem q_eqNN : eqD .non .non = true := by simp only [eqD]
theorem q_eqNI {i : Int} : eqD .non (.int i) = false := by simp only [eqD]
theorem q_eqIN {i : Int} : eqD (.int i) .non = false := by simp only [eqD]
theorem q_eqs0 : eqDs [] [] = true := by simp only [eqDs]
theorem q_eqs1 {d e : D} {ds es : List D} : eqDs (d :: ds) (e :: es) = (eqD d e && eqDs ds es) := by simp only [eqDs]
end
end DL

/-! sum, max, min of a list or a tuple of ints -/
namespace DL
open PySem PySem.Spec PyProof.Rows L2
section
variable {prog : Program} {w : World} {A : Around} {E : Value → Shared → Prop} {s : Shared} {l : Addr} {its : List Value} {ns : List Int} {Q : Value → Shared → Prop}
end
section
variable {X : Cx}
variable {st : Sto} {k : DK} {ns : List Int}
end
section
variable {X : Cx} {tg e e2 e3 : Expr} {ta tb tc : DE} {p pos : Pos}
def rng3K (kk : DIk) (d e : D) : DK := fun f s3 => match d, e, f with
  | .int i, .int j, .int c => ∃ n, RgC i j c n ∧ kk (stepD i c n) [] s3
  | _, _, _ => False
def dRng3 (t u v : DE) : DI := fun env st kk => t env st fun d s1 => u env s1 fun e s2 => v env s2 (rng3K kk d e)
theorem pdi_range3 (hm : X.mg "range" = none) (ha : PD X e ta) (hb : PD X e2 tb) (hc : PD X e3 tc) (hg : Gl X "range" := by rfl) (hs : starEach [e, e2, e3] X.env = (false, eval e X.env) :: starEach [e2, e3] X.env := by rfl) (hpl : (backTo pos (starEach [e2, e3] X.env)).any (·.1) = false := by rfl)
    (hs2 : starEach [e2, e3] X.env = (false, eval e2 X.env) :: starEach [e3] X.env := by rfl) (hs3 : starEach [e3] X.env = [(false, eval e3 X.env)] := by rfl) : PDI X tg (.Call (.Name "range" p) [e, e2, e3] [] pos) (dRng3 ta tb tc) := by
  refine (pi_range3 hg hm (pa_cons ha (pa_cons hb (pa_cons hc pa_nil hs3) hs2) hs) hs hpl).wk fun σ H R ⟨w, env, st, kk, W, E, h, fo⟩ => ?_
  refine ⟨w, env, st, _, W, E, h, fun d st1 v w1 H1 h1 l1 W1 R1 => ⟨w1, env, st1, _, W1, E.mono l1, h1, fun e' st2 u w2 H2 h2 l2 W2 R2 => ⟨w2, env, st2, _, W2, (E.mono l1).mono l2, h2, fun f' st3 x w3 H3 h3 l3 W3 R3 => ?_⟩⟩⟩
  unfold rng3K at h3
  split at h3
  · simp only [Rep] at R1 R2 R3
    subst R1 R2 R3
    obtain ⟨n, hn, h3⟩ := h3
    exact ⟨_, _, _, n, rfl, hn, fo _ _ _ _ _ _ h3 ((l1.trans l2).trans l3) W3 wk_step⟩
  · exact h3.elim
variable {env : DL.Env} {st : Sto} {kk : DIk} {i j c : Int}
theorem e_rng3 : dRng3 ta tb tc env st kk = ta env st fun d s1 => tb env s1 fun e s2 => tc env s2 (rng3K kk d e) := rfl
theorem e_rng3K : rng3K kk (.int i) (.int j) (.int c) st = ∃ n, RgC i j c n ∧ kk (stepD i c n) [] st := rfl
end
end DL

/-! bit_length; reversed -/
namespace DL
open PySem PySem.Spec PyProof.Rows L2
section
variable {X : Cx} {o : Expr} {to : DE}
variable {env : DL.Env} {st : Sto} {k : DK} {i : Int}
end
def par3K (i j l : Nat) (env : DL.Env) (nx : DL.Env → Sto → Prop) : List D → Sto → Prop := fun ds s1 => match ds with
  | [d, e, f] => dgName i d env s1 fun env1 s2 => dgName j e env1 s2 fun env2 s3 => dgName l f env2 s3 nx
  | _ => False
def dPar3 (i j l : Nat) (t : DA) : DS := fun E env st => t env st (par3K i j l env E.nx)
section
variable {X : Cx} {a b c : Expr} {pos : Pos}
theorem pds_par3 (i j l : Nat) {x y z : Str} {t : DA} {px py pz pt : Pos} {kt k2 pt2} (hc : X.calm = true) (hN : X.N.Nodup) (ha : PDA X [a, b, c] t) (hi : X.N[i]? = some x := by rfl) (hj : X.N[j]? = some y := by rfl) (hl : X.N[l]? = some z := by rfl) (hij : i ≠ j := by decide) (hil : i ≠ l := by decide) (hjl : j ≠ l := by decide)
    (hx : X.env.scope.names.lookup x = some .local := by rfl) (hy : X.env.scope.names.lookup y = some .local := by rfl) (hz : X.env.scope.names.lookup z = some .local := by rfl)
    (hw : swappedStores [.Tuple [.Name x px, .Name y py, .Name z pz] kt pt] (.Tuple [a, b, c] k2 pt2) X.env = pure (some [x, y, z]) := by rfl)
    (hs : swapsWithSole [.Tuple [.Name x px, .Name y py, .Name z pz] kt pt] (.Tuple [a, b, c] k2 pt2) pos.line X.env = pure false := by rfl) :
    PDS X (.Assign [.Tuple [.Name x px, .Name y py, .Name z pz] kt pt] (.Tuple [a, b, c] k2 pt2) pos) (dPar3 i j l t) := by
  refine (ps_par3 hc hN hi hj hl hij hil hjl hx hy hz ha hw hs).wk fun Ed σ H ⟨w, env, st, D, W, E, h, fn, fr⟩ => ?_
  refine ⟨w, env, st, _, W, E, h, fun ds st1 vs w1 H1 h1 l1 W1 R1 => ?_⟩
  match ds, h1, R1 with
  | [d, e, f], h1, R1 =>
    obtain ⟨v, r, rfl, Rv, R2⟩ := R1.inv
    obtain ⟨u, r', rfl, Ru, R3⟩ := R2.inv
    obtain ⟨q, r'', rfl, Rq, R4⟩ := R3.inv
    rw [R4.inv0]
    exact ⟨v, u, q, rfl, fn _ _ _ _ _ h1 l1 W1 ((((E.mono l1).set i Rv).set j Ru).set l Rq)⟩
  | [], h1, _ => exact h1.elim
  | [_], h1, _ => exact h1.elim
  | [_, _], h1, _ => exact h1.elim
  | _ :: _ :: _ :: _ :: _, h1, _ => exact h1.elim
variable {i j l : Nat} {t : DA} {E : DEnds} {env : DL.Env} {st : Sto} {d e f : D} {kg : DL.Env → Sto → Prop}
theorem e_par3 : dPar3 i j l t E env st = t env st (par3K i j l env E.nx) := rfl
theorem e_par3K : par3K i j l env kg [d, e, f] st = dgName i d env st fun env1 s2 => dgName j e env1 s2 fun env2 s3 => dgName l f env2 s3 kg := rfl
end
end DL

/-! zip(.., strict=True) of a list and a tuple of one length -/
namespace DL
open PySem PySem.Spec PyProof.Rows L2
section
variable {pr : Program} {w : World} {A : Around} {E : Value → Shared → Prop} {z : Shared} {zz TI TO j1 j2 : Addr} {f1 f2 : List Addr} {m1 m2 i : Nat} {P1 P2 : Nat → Value → Prop} {S1 S2 : Nat → Heap → Prop} {c1 c2 : Value}
end
end DL

/-! for .. in zip(a, b, strict=True), by data -/
namespace DL
open PySem PySem.Spec PyProof.Rows L2
section
variable {K : PySem.W.Frag} {w : Wd} {st : Sto}
end
section
variable {X : Cx} {e e2 : Expr} {ta tb : DE} {p pos kp : Pos}
variable {env : DL.Env} {st : Sto} {kk : DIk} {ds es : List D} {i : Nat}
end
end DL

/-! zip of a list and a tuple, not strict -/
namespace DL
open PySem PySem.Spec PyProof.Rows L2
section
variable {K : PySem.W.Frag} {w : Wd} {st : Sto}
end
section
variable {X : Cx} {e e2 : Expr} {ta tb : DE} {p pos : Pos}
variable {env : DL.Env} {st : Sto} {kk : DIk} {ds es : List D} {i : Nat}
end
end DL

/-! The data layer: what is taken backwards, sorted lists and sets of ints, lists of ranges, divmod, ranges backwards. -/
namespace DLA
open PySem PySem.Spec PyProof.Rows L2 HT
section
variable {prog : Program} {w : World} {A : Around} {E : Value → Shared → Prop} {s : Shared}
end
end DLA
namespace DLA
open PySem PySem.Spec PyProof.Rows L2
section
variable {P : Program} {w : World} {A : Around} {E : Value → Shared → Prop} {s : Shared}
end
end DLA
namespace DL
open PySem PySem.Spec PyProof.Rows L2
/-! ### sorted ints -/
section
variable {X : Cx} {e e2 e3 : Expr} {ta tb tc : DE} {p p2 pos pos2 : Pos}
variable {st : Sto} {k : DK} {ns : List Int} {env : DL.Env}
/-! ### divmod -/
theorem DivOk.plain {i j : Int} (h : DivOk j) : CDivP i j := by
  refine ⟨h.1, ?_⟩
  have h2 := h.2
  unfold Builtin.divisionGoesByPylong
  have e : ¬ (300 < if j = 0 then 0 else j.natAbs.log2 / 30 + 1) := by
    split <;> omega
  simp
  exact fun q => absurd q e
/-! ### what is taken backwards -/
end
end DL
namespace DLA
open PySem PySem.Spec PyProof.Rows L2
variable {X : Cx}
/-! ### lists of ranges with a step -/
end DLA
namespace DL
open PySem PySem.Spec PyProof.Rows L2
section
variable {X : Cx} {tg e e2 e3 : Expr} {ta tb tc : DE} {p p2 pos pos2 : Pos}
variable {env : DL.Env} {st : Sto} {k : DK} {kk : DIk} {i j c : Int} {xs : List D} {ns : List Int}
/-! ### list(range(..)) -/
/-! ### reversed(range(n)) -/
/-! ### sorted(set(xs)), len(set(xs)) of a list of ints -/
end
end DL

/-! Loops by an invariant, comprehensions by what each turn tells, the tape of draws. -/
namespace DL
open PySem PySem.Spec PyProof.Rows L2
theorem set_same {st : Sto} {i : Nat} {xs : List D} (h : st[i]? = some xs) : st.set i xs = st := by
  obtain ⟨hi, e⟩ := List.getElem?_eq_some_iff.mp h
  rw [← e]
  exact List.set_getElem_self ..
def Tape (n : Nat) (xs : List D) : Prop := ∃ a b c : Int, xs = [.int a, .int b, .int c] ∧ 0 ≤ b ∧ b < 4611686018427387904 ∧ 0 ≤ c ∧ c ≤ n
def Tp (i n : Nat) (st : Sto) : Prop := ∃ xs, st[i]? = some xs ∧ Tape n xs
theorem Tp.mono {i n m : Nat} {st : Sto} (h : Tp i n st) (l : n ≤ m) : Tp i m st := by
  obtain ⟨xs, e, a, b, c, r, h1, h2, h3, h4⟩ := h
  exact ⟨xs, e, a, b, c, r, h1, h2, h3, by omega⟩
theorem Tp.app {i n : Nat} {st : Sto} (h : Tp i n st) (ys : Sto) : Tp i n (st ++ ys) := by
  obtain ⟨xs, e, t⟩ := h
  exact ⟨xs, by rw [List.getElem?_append_left (List.getElem?_eq_some_iff.mp e).1]; exact e, t⟩
theorem Tp.set {i n j : Nat} {st : Sto} (h : Tp i n st) (ys : List D) (ne : j ≠ i) : Tp i n (st.set j ys) := by
  obtain ⟨xs, e, t⟩ := h
  exact ⟨xs, by rw [List.getElem?_set_ne ne]; exact e, t⟩
theorem Tp.lt {i n : Nat} {st : Sto} (h : Tp i n st) : i < st.length := by
  obtain ⟨xs, e, _⟩ := h
  exact (List.getElem?_eq_some_iff.mp e).1
theorem Tp.same {i n : Nat} {st : Sto} (h : Tp i n st) : ∃ xs, st.set i xs = st := by
  obtain ⟨xs, e, _⟩ := h
  exact ⟨xs, set_same e⟩
section
variable {α β : Type} {src : List (Nat × List D)} {g : DG} {b : DS} {e : DE} {tt : DT} {own : List Nat} {env : DL.Env} {kk : DL.Env → Sto → Prop} {rt : DK} {k : List D → Sto → Prop}
/-- a loop by an invariant over what is left -/
theorem go_for (f : α → D) (I : List α → DL.Env → Sto → Prop)
    (step : ∀ x r env st (nx : DL.Env → Sto → Prop), I (x :: r) env st → (∀ e s, I r e s → nx e s) → SrcOk src st ∧ g (f x) env st fun e s => b ⟨nx, rt⟩ e s)
    (done : ∀ env st, I [] env st → SrcOk src st ∧ kk env st) : ∀ xs env st, I xs env st → goFor src g b ⟨kk, rt⟩ (xs.map f) env st
  | [], env, st, h => done env st h
  | x :: r, env, st, h => step x r env st _ h fun e s q => go_for f I step done r e s q
/-- a loop over 0, 1, .. by an invariant -/
theorem go_range (n : Nat) (I : Nat → DL.Env → Sto → Prop)
    (step : ∀ j env st (nx : DL.Env → Sto → Prop), j < n → I j env st → (∀ e s, I (j + 1) e s → nx e s) → SrcOk src st ∧ g (.int (j : Nat)) env st fun e s => b ⟨nx, rt⟩ e s)
    (done : ∀ env st, I n env st → SrcOk src st ∧ kk env st) (env : DL.Env) (st : Sto) (h : I 0 env st) : goFor src g b ⟨kk, rt⟩ (rangeD 0 n) env st := by
  have e : rangeD 0 n = (List.range n).map fun i => D.int (i : Nat) := by
    unfold rangeD
    refine List.map_congr_left fun x _ => ?_
    rw [Int.zero_add]
  rw [e]
  refine go_for (fun i : Nat => D.int (i : Nat)) (fun r env st => ∃ j, r = (List.range n).drop j ∧ j ≤ n ∧ I j env st) ?_ ?_ _ env st ⟨0, rfl, Nat.zero_le _, h⟩
  · rintro x r env st nx ⟨j, hr, hj, hI⟩ q
    have lt : j < n := by
      apply Nat.lt_of_not_le
      intro z
      rw [List.drop_eq_nil_of_le (by rw [List.length_range]; exact z)] at hr
      cases hr
    have hd := List.drop_eq_getElem_cons (l := List.range n) (i := j) (by rw [List.length_range]; exact lt)
    rw [hd] at hr
    injection hr with h1 h2
    rw [List.getElem_range] at h1
    subst h1
    exact step x env st nx lt hI fun e s hi => q e s ⟨x + 1, h2, lt, hi⟩
  · rintro env st ⟨j, hr, hj, hI⟩
    have : j = n := by
      have := congrArg List.length hr
      rw [List.length_nil, List.length_drop, List.length_range] at this
      omega
    subst this
    exact done env st hI
/-- a while by an invariant with a measure -/
theorem go_while {c : DT} {E : DEnds} {env : DL.Env} {st : Sto} (I : Nat → DL.Env → Sto → Prop) (m : Nat) (h : I m env st)
    (step : ∀ m env st, I m env st → c env st fun q s1 => if q = true then b ⟨fun e s => ∃ m', m' < m ∧ I m' e s, E.rt⟩ env s1 else E.nx env s1) :
    (∃ I : Nat → DL.Env → Sto → Prop, (∃ m, I m env st) ∧ ∀ m env st, I m env st → c env st fun q s1 => if q = true then b ⟨fun e s => ∃ m', m' < m ∧ I m' e s, E.rt⟩ env s1 else E.nx env s1) := ⟨I, ⟨m, h⟩, step⟩
/-- each turn tells one thing, the store stays -/
theorem lc_eachD (st : Sto) (hs : SrcOk src st) : ∀ (xs ys acc : List D), xs.length = ys.length → (∀ x y, (x, y) ∈ xs.zip ys → ∀ kd : DK, kd y st → g x (wipeE env own) st fun e1 s1 => e e1 s1 kd) → k (acc ++ ys) st → goLc src g dYes e own env k xs acc st
  | [], [], acc, _, _, h => ⟨hs, by simpa using h⟩
  | [], _ :: _, _, q, _, _ => by cases q
  | _ :: _, [], _, q, _, _ => by cases q
  | x :: xs, y :: ys, acc, q, f, h => by
    refine ⟨hs, ?_⟩
    refine f x y (by simp) (fun d s2 => goLc src g dYes e own env k xs (acc ++ [d]) s2) ?_
    refine lc_eachD st hs xs ys (acc ++ [y]) (by simpa using q) (fun a b m => f a b (by simp [m])) ?_
    rw [List.append_assoc]
    exact h
theorem lc_map (f h : α → D) (xs : List α) (st : Sto) (hs : SrcOk src st) (acc : List D) (step : ∀ x ∈ xs, ∀ kd : DK, kd (h x) st → g (f x) (wipeE env own) st fun e1 s1 => e e1 s1 kd) (q : k (acc ++ xs.map h) st) : goLc src g dYes e own env k (xs.map f) acc st := by
  refine lc_eachD st hs _ _ _ (by rw [List.length_map, List.length_map]) (fun x y m kd hk => ?_) q
  rw [List.zip_map'] at m
  obtain ⟨a, ha, e⟩ := List.mem_map.mp m
  cases e
  exact step a ha kd hk
theorem lc_mapM (f : α → D) (m : α → β) (h : β → D) (xs : List α) (st : Sto) (hs : SrcOk src st) (acc : List D) (step : ∀ x ∈ xs, ∀ kd : DK, kd (h (m x)) st → g (f x) (wipeE env own) st fun e1 s1 => e e1 s1 kd) (q : k (acc ++ (xs.map m).map h) st) : goLc src g dYes e own env k (xs.map f) acc st := by
  rw [List.map_map] at q
  exact lc_map f _ xs st hs acc step q
theorem lc_filter (f h : α → D) (p : α → Bool) (st : Sto) (hs : SrcOk src st) : ∀ (xs : List α) (acc : List D), (∀ x ∈ xs, ∀ (k1 : DK) (k2 : Sto → Prop), (p x = true → k1 (h x) st) → (p x = false → k2 st) → g (f x) (wipeE env own) st fun e1 s1 => tt e1 s1 fun b s2 => if b = true then e e1 s2 k1 else k2 s2) →
    k (acc ++ (xs.filter p).map h) st → goLc src g tt e own env k (xs.map f) acc st
  | [], acc, _, q => ⟨hs, by simpa using q⟩
  | x :: xs, acc, step, q => by
    refine ⟨hs, ?_⟩
    refine step x List.mem_cons_self (fun d s2 => goLc src g tt e own env k (xs.map f) (acc ++ [d]) s2) (fun s2 => goLc src g tt e own env k (xs.map f) acc s2) (fun hp => ?_) (fun hp => ?_)
    · refine lc_filter f h p st hs xs _ (fun y hy => step y (List.mem_cons_of_mem _ hy)) ?_
      rw [List.filter_cons, if_pos hp, List.map_cons] at q
      rw [List.append_assoc]
      exact q
    · refine lc_filter f h p st hs xs _ (fun y hy => step y (List.mem_cons_of_mem _ hy)) ?_
      rw [List.filter_cons, if_neg (by simp [hp])] at q
      exact q
/-- each turn draws -/
theorem lc_draws (f : α → D) (P : α → Prop) (i c B : Nat) (step : ∀ x n st (kd : DK), Tp i n st → n < B → (∀ a ys, P a → Tp i (n + c) (st.set i ys) → kd (f a) (st.set i ys)) → g x (wipeE env own) st fun e1 s1 => e e1 s1 kd) :
    ∀ (xs : List D) (n : Nat) (st : Sto) (acc : List D), Tp i n st → n + c * xs.length < B →
    (∀ (as : List α) ys, as.length = xs.length → (∀ a ∈ as, P a) → Tp i (n + c * xs.length) (st.set i ys) → k (acc ++ as.map f) (st.set i ys)) → goLc [] g dYes e own env k xs acc st
  | [], n, st, acc, ht, _, h => by
    obtain ⟨xs, hx, hT⟩ := id ht
    have q := set_same hx
    refine ⟨trivial, ?_⟩
    have := h [] xs rfl (fun _ m => by cases m) (by rw [q]; exact ht)
    rw [q] at this
    simpa using this
  | x :: r, n, st, acc, ht, hn, h => by
    simp only [List.length_cons, Nat.mul_add] at hn
    refine ⟨trivial, ?_⟩
    refine step x n st (fun d s2 => goLc [] g dYes e own env k r (acc ++ [d]) s2) ht (by omega) fun a ys ha t => ?_
    refine lc_draws f P i c B step r (n + c) _ _ t (by omega) fun as zs hl hp t' => ?_
    rw [List.set_set] at t' ⊢
    rw [List.append_assoc]
    refine h (a :: as) zs (by simp [hl]) (fun y hy => ?_) (t'.mono ?_)
    · rcases List.mem_cons.mp hy with rfl | hy
      · exact ha
      · exact hp y hy
    · rw [List.length_cons, Nat.mul_add]
      omega
theorem atI_pick {ns : List Int} {r : Int} (h0 : 0 ≤ r) (h1 : r < ns.length) : ∃ x ∈ ns, atI (ns.map D.int) r = some (.int x) := by
  refine ⟨ns[r.toNat]'(by omega), List.getElem_mem _, ?_⟩
  unfold atI ixN
  rw [if_pos h0, if_pos (by rw [List.length_map]; exact h1)]
  show (ns.map D.int)[r.toNat]? = _
  rw [List.getElem?_map, List.getElem?_eq_getElem (by omega)]
  rfl
end
end DL

/-! The plain law of a balance: falls, runs, what stays. No program in sight. -/
namespace DL
open PySem
def sd (s : Int) : Str := if s < 0 then "left" else "right"
def fallI (s w : Int) : Int := if s < 0 then s + 2 * w else s - 2 * w
def fsides : Int → List Int → List Str
  | _, [] => []
  | s, w :: r => sd s :: fsides (fallI s w) r
def flast : Int → List Int → Int
  | s, [] => s
  | s, w :: r => flast (fallI s w) r
theorem odd_fall {s : Int} (h : s % 2 = 1) (w : Int) : fallI s w % 2 = 1 := by
  unfold fallI
  split <;> omega
theorem lr_ne : ¬ (("right" : Str) = "left") := by decide +kernel
theorem sd_lr (s : Int) : sd s = "left" ∨ sd s = "right" := by
  unfold sd
  split
  · exact .inl rfl
  · exact .inr rfl
theorem fsides_app : ∀ (a b : List Int) (s : Int), fsides s (a ++ b) = fsides s a ++ fsides (flast s a) b ∧ flast s (a ++ b) = flast (flast s a) b
  | [], b, s => ⟨rfl, rfl⟩
  | w :: r, b, s => by
    obtain ⟨h1, h2⟩ := fsides_app r b (fallI s w)
    simp only [List.cons_append, fsides, flast, h1, h2]
    exact ⟨trivial, trivial⟩
theorem flast_odd' : ∀ (ws : List Int) (s : Int), s % 2 = 1 → flast s ws % 2 = 1
  | [], _, h => h
  | w :: r, s, h => flast_odd' r (fallI s w) (odd_fall h w)
theorem sd_left (s : Int) : (sd s = "left") ↔ s < 0 := by
  unfold sd
  split
  · simp_all
  · simp_all [lr_ne]
theorem sd_fall (s w : Int) : (if sd s = "left" then s + 2 * w else s - 2 * w) = fallI s w := by
  unfold fallI
  by_cases h : s < 0
  · rw [if_pos h, if_pos ((sd_left s).mpr h)]
  · rw [if_neg h, if_neg (fun z => h ((sd_left s).mp z))]
def foldR (r : Int × Int) (w : Int) : Int × Int :=
  if r.1 < 2 * w ∧ 2 * w < r.2 then (1, if r.2 - 2 * w > 2 * w - r.1 then r.2 - 2 * w else 2 * w - r.1)
  else if r.2 < 2 * w then (2 * w - r.2, 2 * w - r.1) else (r.1 - 2 * w, r.2 - 2 * w)
def foldsR : Int × Int → List Int → Int × Int
  | r, [] => r
  | r, w :: ws => foldsR (foldR r w) ws
def OkRun (r : Int × Int) : Prop := 1 ≤ r.1 ∧ r.1 ≤ r.2 ∧ r.1 % 2 = 1 ∧ r.2 % 2 = 1
def wholeR : Int × Int → List Int → Bool
  | _, [] => true
  | r, w :: ws => if r.1 < 2 * w ∧ 2 * w < r.2 then false else wholeR (foldR r w) ws
def ChainR (ws : List Int) : Int × Int → List (Int × Int) → Prop
  | r, [] => foldsR r ws = r
  | r, q :: rest => foldsR r ws = q ∧ q ≠ r ∧ ChainR ws q rest
def MaxOf (m : Int) (ws : List Int) : Prop := m ∈ ws ∧ ∀ y ∈ ws, y ≤ m
theorem MaxOf.eq {m m' : Int} {ws : List Int} (h : MaxOf m ws) (h1 : m' ∈ ws) (h2 : ∀ y, y ∈ ws → y ≤ m') : m' = m := by
  have a1 := h.2 _ h1
  have a2 := h2 _ h.1
  omega
theorem MaxOf.pos {m : Int} {ws : List Int} (h : MaxOf m ws) : 0 < ws.length := List.length_pos_of_mem h.1
/-- the runs to the staying one -/
structure RunsTo (ws : List Int) (m : Int) (rest : List (Int × Int)) : Prop where
  mx : MaxOf m ws
  ch : ChainR ws (1, 2 * m - 1) rest
  sz : rest.length ≤ 1000
def spotR (r : Int × Int) : Int := (r.2 - r.1) / 2 + 1
def halvR (r : Int × Int) : Int := (r.1 - 1) / 2 + spotR r / 2
def ResetC : Int × Int → List Int → Prop
  | r, [] => ¬ 1 < spotR r
  | r, h :: hs => 1 < spotR r ∧ h = halvR r ∧ ResetC (foldR r h) hs
instance decReset : ∀ (hs : List Int) (r : Int × Int), Decidable (ResetC r hs)
  | [], r => inferInstanceAs (Decidable (¬ 1 < spotR r))
  | h :: hs, r => by
    have := decReset hs (foldR r h)
    exact inferInstanceAs (Decidable (1 < spotR r ∧ h = halvR r ∧ ResetC (foldR r h) hs))
/-! ### sizes, runs -/
def sz (s : Int) : Int := if s < 0 then -s else s
def absd (x w : Int) : Int := if x - 2 * w < 0 then -(x - 2 * w) else x - 2 * w
def InR (x : Int) (r : Int × Int) : Prop := r.1 ≤ x ∧ x ≤ r.2 ∧ x % 2 = 1
def Sub (r q : Int × Int) : Prop := q.1 ≤ r.1 ∧ r.2 ≤ q.2
theorem sz_odd {s : Int} (h : s % 2 = 1) : sz s % 2 = 1 := by unfold sz; split <;> omega
theorem sz_pos {s : Int} (h : s % 2 = 1) : 1 ≤ sz s := by unfold sz; split <;> omega
theorem sz_fall (s w : Int) : sz (fallI s w) = absd (sz s) w := by
  unfold sz fallI absd
  by_cases z : s < 0
  · simp only [if_pos z]
    split <;> split <;> omega
  · simp only [if_neg z]
theorem fold_ok {r : Int × Int} (h : OkRun r) (w : Int) : OkRun (foldR r w) := by
  obtain ⟨h1, h2, h3, h4⟩ := h
  unfold foldR
  split
  · refine ⟨?_, ?_, ?_, ?_⟩ <;> dsimp only
    · omega
    · split <;> omega
    · decide
    · split <;> omega
  · split
    · refine ⟨?_, ?_, ?_, ?_⟩ <;> (try dsimp only) <;> omega
    · refine ⟨?_, ?_, ?_, ?_⟩ <;> (try dsimp only) <;> omega
theorem folds_ok : ∀ (ws : List Int) {r : Int × Int}, OkRun r → OkRun (foldsR r ws)
  | [], _, h => h
  | w :: ws, _, h => folds_ok ws (fold_ok h w)
theorem mem_fold {r : Int × Int} (h : OkRun r) (w y : Int) : InR y (foldR r w) ↔ ∃ x, InR x r ∧ y = absd x w := by
  obtain ⟨h1, h2, h3, h4⟩ := h
  unfold foldR InR absd
  constructor
  · intro ⟨a, b, c⟩
    split at a
    · rename_i p
      rw [if_pos p] at b
      dsimp only at a b
      by_cases q : y ≤ 2 * w - r.1
      · exact ⟨2 * w - y, ⟨by omega, by omega, by omega⟩, by split <;> omega⟩
      · refine ⟨2 * w + y, ⟨by omega, ?_, by omega⟩, by split <;> omega⟩
        split at b <;> omega
    · rename_i p
      rw [if_neg p] at b
      split at a
      · rename_i q
        rw [if_pos q] at b
        dsimp only at a b
        exact ⟨2 * w - y, ⟨by omega, by omega, by omega⟩, by split <;> omega⟩
      · rename_i q
        rw [if_neg q] at b
        dsimp only at a b
        exact ⟨2 * w + y, ⟨by omega, by omega, by omega⟩, by split <;> omega⟩
  · rintro ⟨x, ⟨a, b, c⟩, rfl⟩
    split
    · rename_i p
      refine ⟨?_, ?_, ?_⟩ <;> (try dsimp only)
      · split <;> omega
      · split <;> split <;> omega
      · split <;> omega
    · split
      · refine ⟨?_, ?_, ?_⟩ <;> (try dsimp only) <;> split <;> omega
      · refine ⟨?_, ?_, ?_⟩ <;> (try dsimp only) <;> split <;> omega
theorem fold_sub {r q : Int × Int} (hr : OkRun r) (hq : OkRun q) (s : Sub r q) (w : Int) : Sub (foldR r w) (foldR q w) := by
  have fr := fold_ok hr w
  have e1 := (mem_fold hr w (foldR r w).1).mp ⟨Int.le_refl _, fr.2.1, fr.2.2.1⟩
  have e2 := (mem_fold hr w (foldR r w).2).mp ⟨fr.2.1, Int.le_refl _, fr.2.2.2⟩
  obtain ⟨x, hx, e1⟩ := e1
  obtain ⟨y, hy, e2⟩ := e2
  have up : ∀ x, InR x r → InR x q := fun x h => ⟨Int.le_trans s.1 h.1, Int.le_trans h.2.1 s.2, h.2.2⟩
  have g1 := (mem_fold hq w _).mpr ⟨x, up x hx, e1⟩
  have g2 := (mem_fold hq w _).mpr ⟨y, up y hy, e2⟩
  exact ⟨g1.1, g2.2.1⟩
theorem folds_sub : ∀ (ws : List Int) {r q : Int × Int}, OkRun r → OkRun q → Sub r q → Sub (foldsR r ws) (foldsR q ws)
  | [], _, _, _, _, h => h
  | w :: ws, _, _, hr, hq, h => folds_sub ws (fold_ok hr w) (fold_ok hq w) (fold_sub hr hq h w)
theorem fold_low {r : Int × Int} (h : OkRun r) {m w : Int} (hr : r.2 ≤ 2 * m - 1) (h1 : 1 ≤ w) (h2 : w ≤ m) : (foldR r w).2 ≤ 2 * m - 1 := by
  obtain ⟨_, _, _, _⟩ := h
  unfold foldR
  split
  · dsimp only
    split <;> omega
  · split <;> dsimp only <;> omega
theorem folds_low (m : Int) : ∀ (ws : List Int) {r : Int × Int}, OkRun r → r.2 ≤ 2 * m - 1 → (∀ w ∈ ws, 1 ≤ w ∧ w ≤ m) → (foldsR r ws).2 ≤ 2 * m - 1
  | [], _, _, h, _ => h
  | w :: ws, _, ho, h, hw => folds_low m ws (fold_ok ho w) (fold_low ho h (hw w List.mem_cons_self).1 (hw w List.mem_cons_self).2) fun v hv => hw v (List.mem_cons_of_mem _ hv)
theorem run0_ok {m : Int} (h : 1 ≤ m) : OkRun (1, 2 * m - 1) := ⟨Int.le_refl _, by dsimp only; omega, rfl, by dsimp only; omega⟩
theorem folds_in0 {m : Int} {ws : List Int} (h : 1 ≤ m) (hw : ∀ w ∈ ws, 1 ≤ w ∧ w ≤ m) : Sub (foldsR (1, 2 * m - 1) ws) (1, 2 * m - 1) :=
  ⟨(folds_ok ws (run0_ok h)).1, folds_low m ws (run0_ok h) (Int.le_refl _) hw⟩
theorem spot_lt {r q : Int × Int} (hr : OkRun r) (hq : OkRun q) (s : Sub q r) (ne : q ≠ r) : spotR q < spotR r := by
  obtain ⟨a, b⟩ := r
  obtain ⟨c, d⟩ := q
  obtain ⟨h1, h2, h3, h4⟩ := hr
  obtain ⟨g1, g2, g3, g4⟩ := hq
  obtain ⟨s1, s2⟩ := s
  dsimp only at *
  unfold spotR
  dsimp only
  have : ¬ (c = a ∧ d = b) := fun z => ne (by rw [z.1, z.2])
  omega
theorem spot_pos {r : Int × Int} (h : OkRun r) : 1 ≤ spotR r := by
  have := h.2.1
  unfold spotR
  omega
/-- the chain of a word's runs -/
theorem chain_ex (ws : List Int) : ∀ (n : Nat) (r : Int × Int), OkRun r → Sub (foldsR r ws) r → spotR r ≤ n → ∃ rest, ChainR ws r rest ∧ (rest.length : Int) + 1 ≤ spotR r ∧ (∀ q ∈ rest, OkRun q ∧ Sub q r)
  | 0, r, h, _, hn => by have := spot_pos h; omega
  | n + 1, r, h, hs, hn => by
    by_cases e : foldsR r ws = r
    · exact ⟨[], e, by have := spot_pos h; simp; omega, fun _ m => by cases m⟩
    · have hq := folds_ok ws h
      have lt := spot_lt h hq hs e
      obtain ⟨rest, h1, h2, h3⟩ := chain_ex ws n (foldsR r ws) hq (folds_sub ws hq h hs) (by omega)
      refine ⟨foldsR r ws :: rest, ⟨rfl, e, h1⟩, by simp only [List.length_cons]; omega, fun q m => ?_⟩
      rcases List.mem_cons.mp m with rfl | m
      · exact ⟨hq, hs⟩
      · exact ⟨(h3 q m).1, Int.le_trans hs.1 (h3 q m).2.1, Int.le_trans (h3 q m).2.2 hs.2⟩
def WOk (m : Int) (ws : List Int) : Prop := MaxOf m ws ∧ ∀ w ∈ ws, 1 ≤ w
theorem WOk.all {m : Int} {ws : List Int} (h : WOk m ws) : ∀ w ∈ ws, 1 ≤ w ∧ w ≤ m := fun w hw => ⟨h.2 w hw, h.1.2 w hw⟩
theorem WOk.one {m : Int} {ws : List Int} (h : WOk m ws) : 1 ≤ m := h.2 m h.1.1
theorem max_ex : ∀ (ws : List Int), ws ≠ [] → ∃ m, MaxOf m ws
  | [], h => (h rfl).elim
  | [w], _ => ⟨w, List.mem_cons_self, fun y hy => by rw [List.mem_singleton.mp hy]; exact Int.le_refl _⟩
  | w :: v :: r, _ => by
    obtain ⟨m, h1, h2⟩ := max_ex (v :: r) (by simp)
    by_cases h : w ≤ m
    · exact ⟨m, List.mem_cons_of_mem _ h1, fun y hy => by
        rcases List.mem_cons.mp hy with rfl | hy
        · exact h
        · exact h2 y hy⟩
    · exact ⟨w, List.mem_cons_self, fun y hy => by
        rcases List.mem_cons.mp hy with rfl | hy
        · exact Int.le_refl _
        · have := h2 y hy
          omega⟩
theorem runs_ex {m : Int} {ws : List Int} (h : WOk m ws) (hm : m ≤ 1000) : ∃ rest, RunsTo ws m rest ∧ (rest.length : Int) ≤ m - 1 ∧ ∀ q ∈ (1, 2 * m - 1) :: rest, OkRun q ∧ Sub q (1, 2 * m - 1) := by
  have h1 := h.one
  have e : spotR (1, 2 * m - 1) = m := by
    unfold spotR
    dsimp only
    omega
  obtain ⟨rest, c1, c2, c3⟩ := chain_ex ws m.toNat (1, 2 * m - 1) (run0_ok h1) (folds_in0 h1 h.all) (by omega)
  rw [e] at c2
  refine ⟨rest, ⟨h.1, c1, by omega⟩, by omega, fun q hq => ?_⟩
  rcases List.mem_cons.mp hq with rfl | hq
  · exact ⟨run0_ok h1, Int.le_refl _, Int.le_refl _⟩
  · exact c3 q hq
/-- a fold never makes more spots; fewer, where it parts -/
theorem spot_fold {r : Int × Int} (h : OkRun r) (w : Int) : spotR (foldR r w) ≤ spotR r ∧ (r.1 < 2 * w ∧ 2 * w < r.2 → spotR (foldR r w) < spotR r) := by
  obtain ⟨h1, h2, h3, h4⟩ := h
  unfold foldR spotR
  constructor
  · split
    · dsimp only
      split <;> omega
    · split <;> dsimp only <;> omega
  · intro p
    rw [if_pos p]
    dsimp only
    split <;> omega
theorem spot_folds : ∀ (ws : List Int) {r : Int × Int}, OkRun r → spotR (foldsR r ws) ≤ spotR r
  | [], _, _ => Int.le_refl _
  | w :: ws, _, h => Int.le_trans (spot_folds ws (fold_ok h w)) (spot_fold h w).1
theorem whole_of : ∀ (ws : List Int) {r : Int × Int}, OkRun r → spotR (foldsR r ws) = spotR r → wholeR r ws = true
  | [], _, _, _ => rfl
  | w :: ws, r, h, e => by
    have a := spot_folds ws (fold_ok h w)
    have b := spot_fold h w
    simp only [foldsR] at e
    unfold wholeR
    by_cases p : r.1 < 2 * w ∧ 2 * w < r.2
    · have := b.2 p
      omega
    · rw [if_neg p]
      exact whole_of ws (fold_ok h w) (by omega)
/-! ### rounds -/
theorem fall_neg {s : Int} (h : s % 2 = 1) (w : Int) : fallI (0 - s) w = 0 - fallI s w := by
  unfold fallI
  by_cases z : s < 0
  · rw [if_neg (show ¬ 0 - s < 0 by omega), if_pos z]
    omega
  · rw [if_pos (show 0 - s < 0 by omega), if_neg z]
    omega
theorem flast_neg : ∀ (ws : List Int) {s : Int}, s % 2 = 1 → flast (0 - s) ws = 0 - flast s ws
  | [], _, _ => rfl
  | w :: r, s, h => by
    simp only [flast]
    rw [fall_neg h, flast_neg r (odd_fall h w)]
theorem sz_neg (s : Int) : sz (0 - s) = sz s := by unfold sz; split <;> split <;> omega
/-- the run that stays -/
structure Stays (ws : List Int) (T : Int × Int) : Prop where
  ok : OkRun T
  fix : foldsR T ws = T
theorem Stays.whole {ws : List Int} {T : Int × Int} (h : Stays ws T) : wholeR T ws = true := whole_of ws h.ok (by rw [h.fix])
/-! ### far off -/
theorem sum_pos {m : Int} {ws : List Int} (h : WOk m ws) : m ≤ ws.sum := by
  have : ∀ r : List Int, (∀ w ∈ r, 1 ≤ w) → ∀ w ∈ r, w ≤ r.sum := by
    intro r
    induction r with
    | nil => intro _ w hw; cases hw
    | cons a r ih =>
      intro q w hw
      rw [List.sum_cons]
      have q1 := q a List.mem_cons_self
      have p : 0 ≤ r.sum := by
        clear ih hw
        have q2 : ∀ x ∈ r, 1 ≤ x := fun x hx => q x (List.mem_cons_of_mem _ hx)
        clear q
        induction r with
        | nil => simp
        | cons b r ih => rw [List.sum_cons]; have := ih fun x hx => q2 x (List.mem_cons_of_mem _ hx); have := q2 b List.mem_cons_self; omega
      rcases List.mem_cons.mp hw with rfl | hw
      · omega
      · have := ih (fun x hx => q x (List.mem_cons_of_mem _ hx)) w hw
        omega
  exact this ws h.2 m h.1.1
theorem below_round {m : Int} : ∀ (ws : List Int) {s : Int}, (∀ w ∈ ws, 1 ≤ w ∧ w ≤ m) → s % 2 = 1 → (sz s ≤ 2 * m - 1 ∨ sz s - 1 < 2 * ws.sum) → sz (flast s ws) ≤ 2 * m - 1
  | [], s, _, hs, h => by
    have := sz_pos hs
    rw [List.sum_nil] at h
    simp only [flast]
    omega
  | w :: r, s, hw, hs, h => by
    simp only [flast]
    have p := sz_pos hs
    obtain ⟨w1, w2⟩ := hw w List.mem_cons_self
    refine below_round r (fun x hx => hw x (List.mem_cons_of_mem _ hx)) (odd_fall hs w) ?_
    rw [sz_fall, List.sum_cons] at *
    unfold absd
    by_cases z : sz s ≤ 2 * m - 1
    · left
      split <;> omega
    · right
      rw [if_neg (by omega)]
      omega
/-! ### pounds -/
/-! ### the sizes of a run, one by one -/
def oddsR (r : Int × Int) : List Int := (List.range (spotR r).toNat).map fun i => r.1 + (i : Nat) * 2
theorem stepD_odds (r : Int × Int) : stepD r.1 2 (spotR r).toNat = (oddsR r).map D.int := by
  unfold stepD oddsR
  rw [List.map_map]
  rfl
theorem oddsR_length (r : Int × Int) : (oddsR r).length = (spotR r).toNat := by unfold oddsR; rw [List.length_map, List.length_range]
theorem mem_odds {r : Int × Int} (h : OkRun r) (x : Int) : x ∈ oddsR r ↔ InR x r := by
  obtain ⟨h1, h2, h3, h4⟩ := h
  unfold oddsR InR spotR
  rw [List.mem_map]
  constructor
  · rintro ⟨i, hi, rfl⟩
    have := List.mem_range.mp hi
    exact ⟨by omega, by omega, by omega⟩
  · rintro ⟨a, b, c⟩
    exact ⟨((x - r.1) / 2).toNat, List.mem_range.mpr (by omega), by omega⟩
end DL

/-! x in xs, x not in xs: lists and tuples of data of any depth. -/
namespace DL
open PySem PySem.Spec PyProof.Rows L2
def inD (d : D) (ys : List D) : Bool := ys.any fun z => eqD z d
def inK (neg : Bool) (x : D) (ys : List D) (st : Sto) (k : DK) : Prop := okD 60 x = true ∧ okDs 59 ys = true ∧ k (.bl (if neg = true then !inD x ys else inD x ys)) st
section
variable {X : Cx}
variable {neg : Bool} {d : D} {ys : List D} {st : Sto} {k : DK} {i : Nat}
theorem e_inFlat : inK neg d ys st k = (okD 60 d = true ∧ okDs 59 ys = true ∧ k (.bl (if neg = true then !inD d ys else inD d ys)) st) := rfl
theorem e_drK : deref st (.klst ys) = .lst ys := rfl
end
section
variable {X : Cx} {es : List Expr} {pos : Pos}
variable {n : Nat} {g : DGs} {xs : List D} {env : DL.Env} {st : Sto} {k : DL.Env → Sto → Prop} {i : Nat}
end
end DL

/-! len(set(xs)), xs a list of tuples of ints. -/
namespace DL
open PySem PySem.Spec PyProof.Rows L2
section
variable {X : Cx}
variable {e : Expr} {ta : DE} {p p2 pos2 pos : Pos}
end
end DL

namespace DL
open PySem PySem.Spec PyProof.Rows L2

/-! ### a Hook with looks of one's own beside the head's facts -/
abbrev AlX : Type := Bool × He.AlD
def obsX (ex : List (PySem.W.Frag → Bool)) (fa : List He.Fa) (fn : List He.DefD) (K : PySem.W.Frag) : AlX := (ex.all fun g => g K, He.obsD fa fn K)
def valX (fn : List He.DefD) : AlX := (true, He.valD fn)
def SaysX (ex : List (PySem.W.Frag → Bool)) (fa : List He.Fa) (fn : List He.DefD) (K : PySem.W.Frag) : Prop := obsX ex fa fn K = valX fn
def obsXG (n : Nat) (ex : List (PySem.W.Frag → Bool)) (fa : List He.Fa) (fn : List He.DefD) (g : Addr → Option Obj) : AlX := obsX ex fa fn (He.frG g (He.asD g n))
def hookX (n : Nat) (ex : List (PySem.W.Frag → Bool)) (fa : List He.Fa) (fn : List He.DefD) : PySem.W.Hook where
  α := AlX
  obs := fun s => obsXG n ex fa fn s.heap.get?
  val := fun _ => valX fn
  says := fun _ h => ∃ K : PySem.W.Frag, K.In h ∧ SaysX ex fa fn K
  of := fun _ _ e => ⟨_, He.frG_in, e⟩
  keeps := fun _ _ _ ⟨K, inK, c⟩ kp => ⟨K, PySem.W.Frag.In.keeps inK kp, c⟩
theorem obsXG_eq {n : Nat} {ex : List (PySem.W.Frag → Bool)} {fa : List He.Fa} {fn : List He.DefD} {g : Addr → Option Obj} {s : Shared} (h : ∀ a, g a = s.heap.get? a) : obsXG n ex fa fn g = (hookX n ex fa fn).obs s := by
  rw [show g = s.heap.get? from funext h]
  rfl
section
variable {ex : List (PySem.W.Frag → Bool)} {fa : List He.Fa} {fn : List He.DefD} {K : PySem.W.Frag}
theorem SaysX.d (c : SaysX ex fa fn K) : He.SaysD fa fn K := congrArg (fun z : AlX => z.2) c
theorem SaysX.own (c : SaysX ex fa fn K) (i : Nat) {g : PySem.W.Frag → Bool} (h : ex[i]? = some g := by rfl) : g K = true := by
  have c1 : (ex.all fun g => g K) = true := congrArg (fun z : AlX => z.1) c
  exact List.all_eq_true.mp c1 g (List.mem_of_getElem? h)
end

/-! ### a tuple of the module's head -/
section
variable {X : Cx} {x : Str} {pos : Pos} {ds : List D}
end

/-! ### repr -/
section
variable {X : Cx}
end
/-! ### signs of a text that is shown are signs -/
section
variable {st : Sto} {k : DK} {xs : List D}
end
end DL

/-! enumerate(tuple, s0) -/
namespace DL
open PySem PySem.Spec PyProof.Rows L2
section
variable {K : PySem.W.Frag} {w : Wd} {st : Sto}
end
section
variable {X : Cx} {e : Expr} {ta : DE} {p pos : Pos}
end
end DL

/-! DLI: dicts of the store. -/
namespace DL
open PySem PySem.Spec PyProof.Rows L2
/-- a key, whatever the dict's kind -/
def ky (t : Bool) (d : D) : Option (List Key) := if t = true then tkeyD d else (keyD d).map fun k => [k]
def valR (t : Bool) : List D → D → Option D
  | .tup [k', d] :: r, k => if ky t k' = ky t k then some d else valR t r k
  | _, _ => none
def dicOf (st : Sto) : D → Option (Bool × List D)
  | .dic (.b t) i => (st[i]?).map fun xs => (t, xs)
  | .fdic (.b t) rows => some (t, rows)
  | _ => none
section
variable {K : PySem.W.Frag} {w : Wd} {st : Sto} {H : Hp}
end

/-! ### readings -/
def getD (d y : D) (st : Sto) (k : DK) : Prop := match dicOf st d with
  | some (t, rows) => (ky t y).isSome = true ∧ ∃ x, valR t rows y = some x ∧ k x st
  | none => False
section
variable {X : Cx} {o i e f : Expr} {pos apos cpos : Pos} {to ti td ty tx : DE}
end
end DL

/-! DLJ: sorted of a dict's keys and of its values. -/
namespace DL
open PySem PySem.Spec PyProof.Rows L2
section
variable {K : PySem.W.Frag} {w : Wd} {st : Sto} {H : Hp} {X : Cx}
/-! ### evaluation -/
variable {kk : DK} {i : Nat} {rows : List D} {y x d : D} {t : Bool}
theorem e_dgetF : getD (.fdic t rows) y st kk = ((ky t y).isSome = true ∧ ∃ x, valR t rows y = some x ∧ kk x st) := rfl
theorem e_drG {ds : List D} : deref st (.gtup ds) = .tup ds := rfl
theorem e_kyI {n : Int} : (ky false (.int n)).isSome = true := rfl
theorem e_kyS {n : Str} : (ky false (.str n)).isSome = true := rfl
end
/-! ### tables -/
section
variable {κ α : Type} [DecidableEq κ]
variable {t : Bool} {e : κ → D} {f : α → D}
end
/-! ### a def's own objects -/
theorem belows_0 {n : Nat} {xs : List D} (h : belows 0 xs = true) : belows n xs = true := belows_mono (Nat.zero_le n) xs h
theorem frzs_closed {n : Nat} {loc : List (List D)} {d : D} (h : below 0 d = true) : frzs n loc d = d := frzs_below loc n d (below_mono (Nat.zero_le n) d h)
theorem map_closed {n : Nat} {loc : List (List D)} {xs : List D} (h : belows 0 xs = true) : xs.map (frzs n loc) = xs := by
  have : ∀ d ∈ xs, frzs n loc d = id d := fun d m => frzs_closed (belows_mem h m)
  rw [List.map_congr_left this, List.map_id]
theorem safe_closed : ∀ (loc : List (List D)) (n : Nat), (∀ c ∈ loc, belows 0 c = true) → SafeLoc n loc
  | [], _, _ => trivial
  | b :: r, n, hc => by
    refine ⟨?_, safe_closed r (n + 1) fun c m => hc c (List.mem_cons_of_mem _ m)⟩
    have hb := hc b List.mem_cons_self
    rw [map_closed hb]
    exact belows_0 hb
theorem frz_locs {st loc : Sto} {d : D} {kk : DK} (hs : SafeLoc st.length loc) (h : kk (frzs st.length loc d) st) : Frz st d (st ++ loc) kk := ⟨st, loc, rfl, rfl, fun i xs e => .inl e, hs, h⟩
end DL

/-! DLK: len(set(xs)) of a list of numbers. -/
namespace DL
open PySem PySem.Spec PyProof.Rows L2
section
variable {X : Cx} {e : Expr} {ta : DE} {p p2 pos2 pos : Pos}
/-! a sum of lists that is changed later: a list of the store -/
end
end DL

/-! DLL: texts joined. -/
namespace DL
open PySem PySem.Spec PyProof.Rows L2
section
variable {X : Cx} {o e : Expr} {td te : DE}
theorem e_cutS {a : Str} {lo hi : Option Int} {st : Sto} {k : DK} : cutOp (.str a) lo hi st k = (a.length ≤ 16777216 ∧ k (.str (L2.cutS a lo hi)) st) := rfl
theorem e_mulS {a : Str} {b : Int} {st : Sto} {k : DK} : mulD (.str a) (.int b) st k = (0 ≤ b ∧ b ≤ 1 ∧ k (.str (if b < 1 then Str.empty else a)) st) := rfl
/-! texts compared, a sign in a text: readings that take either -/
end
end DL

/-! DLM: list.remove, sorted pairs, d.values() sorted and summed, dict(pairs), lists put together again and again, o[i] += e. -/
namespace DL
open PySem PySem.Spec PyProof.Rows L2
section
variable {X : Cx} {tg e e2 o i : Expr} {es : List Expr} {pos p : Pos} {ta tb to ti td : DE}
/-! ### xs.remove(y) -/
/-! ### sorted(xs), pairs of numbers: the same ones in some order -/
def pairD (p : Int × Int) : D := .tup [.int p.1, .int p.2]
/-! ### [..] * n, a list of the store -/
/-! ### dict(pairs) -/
/-! ### o[i] op= e -/
theorem e_iaddI {a b : Int} {st : Sto} {k : DK} : iaddD (.int a) (.int b) st k = k (.int (a + b)) st := rfl
end

/-! ### d.values() -/
section
variable {X : Cx} {o : Expr} {p pos apos mpos : Pos} {td : TE}
end
/-! readings -/
section
variable {K : PySem.W.Frag} {w : Wd} {st : Sto} {H : Hp} {X : Cx} {o : Expr} {p pos apos mpos : Pos} {td : DE}
end
end DL

/-! DLN: tuple.index of a text. -/
namespace DL
open PySem PySem.Spec PyProof.Rows L2
section
variable {X : Cx} {e : Expr} {x : Str} {p apos cpos : Pos} {te : DE} {ds : List D}
end
end DL

/-! DLP: sorted({e for x in xs for y in ys if ..}), the members texts. -/
namespace DL
open PySem PySem.Spec PyProof.Rows L2
open PySem.Froz (SD TxOk sObj addTx tailTx is_str)
/-! ### a set of texts -/
structure TPay (P : Program) (w : World) (D : SD) (ks : List Str) : Prop where
  tx : TxOk P w D ks
  ris : Ris D.2.2.place.toList
  led : w.params.followText "set-order" = true ∨ D.2.2.led = true
  nd : ks.Nodup
section
variable {P : Program} {w : World} {A : Around} {E : Value → Shared → Prop} {s : Shared} {a : Addr} {ks : List Str} {k : Str} {u : Tok}
theorem tail_keeps {ep : Nat} {es1 : Array (Int × Value)} {t2 : SetTable} {wd b : Bool} (r : Ris t2.place.toList) (l : b = true ∨ t2.led = true) : Ris (tailTx ep es1 t2 wd).2.2.place.toList ∧ (b = true ∨ (tailTx ep es1 t2 wd).2.2.led = true) := by
  unfold tailTx
  split
  · refine ⟨relayAll_ris _ _ _, l.imp id fun z => ?_⟩
    dsimp only
    rw [relayAll_led]
    exact z
  · exact ⟨r, l⟩
theorem TPay.more {D : SD} (T : TPay P w D ks) (u : Tok) (hk : k ∉ ks) : TPay P w (addTx (hashStr w k) (.str k u) D) (k :: ks) := by
  obtain ⟨es, ep, t⟩ := D
  have r1 := layNew_ris t es (hashStr w k) (.str k u) T.ris
  have l1 := T.led.imp id fun z => (layNew_led t es (hashStr w k) (.str k u)).trans z
  have q := tail_keeps (ep := ep) (es1 := (layNew t es (hashStr w k) (.str k u)).1) (wd := (layNew t es (hashStr w k) (.str k u)).2.2.1)
    (t2 := if (layNew t es (hashStr w k) (.str k u)).2.1.plain = true then { (layNew t es (hashStr w k) (.str k u)).2.1 with plain := false } else (layNew t es (hashStr w k) (.str k u)).2.1) (b := w.params.followText "set-order") (by split <;> exact r1) (by split <;> exact l1)
  exact ⟨PySem.Froz.add_ok u T.tx, q.1, q.2, List.nodup_cons.mpr ⟨hk, T.nd⟩⟩
end
/-! ### the comprehension of two clauses -/
section
variable {prog : Program} {w : World} {A : Around} {R : Result → Shared → Prop} {s : Shared} {elt t0 i0 t1 i1 : Expr} {c0 c1 : List Expr} {sc : Scope} {pos : Pos} {it acc : Value} {env : PySem.Env}
end
/-! ### over data -/
theorem _root_.L2.FpOk.more {X : Cx} {pins pins' : List (Addr × Obj)} {H : Hp} {b : Addr} (h : FpOk X pins H b) (n : ∀ p ∈ pins', p.1 ≠ b) : FpOk X pins' H b :=
  ⟨h.1, h.2.1, h.2.2.1, h.2.2.2.1, h.2.2.2.2.1, fun p hp => (List.mem_append.mp hp).elim (fun z => h.2.2.2.2.2 p (List.mem_append_left _ z)) (n p)⟩
theorem _root_.L2.FpOk.pins {X : Cx} {pins pins' : List (Addr × Obj)} {H : Hp} {b : Addr} (h : FpOk X pins H b) (n : ∀ p ∈ pins', p.1 ≠ b) : FpOk X pins' H b := h.more n
theorem _root_.L2.FpOk.at {X : Cx} {pins : List (Addr × Obj)} {H H' : Hp} {b : Addr} (h : FpOk X pins H b) (n : H' b = none) : FpOk X pins H' b := ⟨n, h.2⟩
theorem _root_.L2.Inv.only {X : Cx} {pins pins' : List (Addr × Obj)} {σ : L2.St} {H : Hp} {s : Shared} (I : Inv X pins σ H s) (h : ∀ p ∈ pins', p ∈ pins) : Inv X pins' σ H s := I.pins_of fun p hp => I.pin p (List.mem_append_right _ (h p hp))
section
variable {X : Cx} {elt tg iter tg1 iter1 : Expr} {ifs ifs1 : List Expr} {scope : Scope} {own : List (Str × Nat)} {di di1 : DI} {g g1 : DG} {tt tt1 : DT} {te : DE} {vs1 : List Nat} {pos p cpos : Pos}
end
/-! ### sorted(set(xs)) of a list of texts -/
section
variable {P : Program} {w : World} {A : Around} {E : Value → Shared → Prop} {s : Shared} {a : Addr} {ks : List Str} {k : Str} {u : Tok}
end
section
variable {X : Cx} {e : Expr} {te : DE} {p p2 q pos : Pos} {env : DL.Env} {st : Sto} {k : DK} {zs : List Str}
end
/-! ### a sorted list of different texts is one -/
end DL

/-! zip of a tuple and a list, not strict -/
namespace DL
open PySem PySem.Spec PyProof.Rows L2
section
variable {K : PySem.W.Frag} {w : Wd} {st : Sto}
end
section
variable {X : Cx} {e e2 : Expr} {ta tb : DE} {p pos : Pos}
variable {env : DL.Env} {st : Sto} {kk : DIk} {ds es : List D} {i : Nat}
end
end DL

/-! DLR: dicts walked (locked), displayed, copied, made by comprehension; their text keys sorted. -/
namespace DL
open PySem PySem.Spec PyProof.Rows L2
/-! ### a dict is locked -/
def Wd.lock (w : Wd) (a : Addr) (L : Lk) : Wd := ⟨w.G, w.as, w.hid, w.dk, fun b => if b = a then L else w.lk b⟩
section
variable {K : PySem.W.Frag} {w w1 : Wd} {st : Sto} {H : Hp}
theorem Rep.lock {d : D} {v : V} (a : Addr) (L : Lk) (h : Rep K w d v) : Rep K (w.lock a L) d v := Rep.mono' (w := w) (w' := w.lock a L) (Same.refl w.G) (.eq rfl rfl) _ _ h
theorem RowsK.lock {ds : List D} {kvs : List (Key × V)} (a : Addr) (L : Lk) (h : RowsK K w ds kvs) : RowsK K (w.lock a L) ds kvs := RowsK.mono' (w := w) (w' := w.lock a L) (Same.refl w.G) (.eq rfl rfl) _ _ h
theorem EntR.lock {k : Option Kd} {M : Lk} {xs : List D} {o : HO} (a : Addr) (L : Lk) (h : EntR K w k M xs o) : EntR K (w.lock a L) k M xs o := EntR.mono' (w := w) (w' := w.lock a L) (Same.refl w.G) (.eq rfl rfl) h
theorem EnvR.lock {env : DL.Env} {σ : L2.St} (a : Addr) (L : Lk) (h : EnvR K w env σ) : EnvR K (w.lock a L) env σ := ⟨h.1, fun i d e => let ⟨v, e1, r⟩ := h.2 i d e; ⟨v, e1, r.lock a L⟩⟩
theorem Wld.wrL (W : Wld K w st H) {i : Nat} {a : Addr} {xs : List D} {o : HO} {L : Lk} (ha : w.as[i]? = some a) (r : EntR K w (w.dk a) L xs o) : Wld K (w.lock a L) (st.set i xs) (upd H a o) := by
  obtain ⟨g, ys, us, h1, h2, h3⟩ := W.at_ i a ha
  refine ⟨fun b u e => ?_, by rw [List.length_set]; exact W.len, W.nd, fun j b e => ?_, W.small, fun b vs e => ?_, W.hnd⟩
  · have e : w.G b = some u := e
    have ne : b ≠ a := fun z => by rw [z, g] at e; cases e
    rw [upd_ne ne]
    exact W.same b u e
  · have e : w.as[j]? = some b := e
    by_cases hj : j = i
    · subst hj
      rw [ha] at e
      cases e
      refine ⟨g, xs, o, List.getElem?_set_self (List.getElem?_eq_some_iff.mp h1).1, upd_same, ?_⟩
      have el : (w.lock a L).lk a = L := if_pos rfl
      rw [el]
      exact r.lock a L
    · obtain ⟨g', zs, ws, k1, k2, k3⟩ := W.at_ j b e
      have ne : b ≠ a := fun z => by
        subst z
        exact hj (nd_ix W.nd e ha)
      have el : (w.lock a L).lk b = w.lk b := if_neg ne
      refine ⟨g', zs, ws, by rw [List.getElem?_set_ne (Ne.symm hj)]; exact k1, by rw [upd_ne ne]; exact k2, ?_⟩
      rw [el]
      exact k3.lock a L
  · obtain ⟨g', n, h'⟩ := W.hidd b vs e
    have ne : b ≠ a := fun z => n (by rw [z]; exact List.mem_of_getElem? ha)
    exact ⟨g', n, by rw [upd_ne ne]; exact h'⟩
/-- behind the lock -/
theorem un_le {a : Addr} {L : Lk} (l : Le (w.lock a L) w1) (h0 : w.lk a = none) : Le w (w1.lock a none) := by
  refine ⟨⟨l.same, ⟨l.pre.as, l.pre.dk⟩, fun b hb => ?_⟩, l.hid⟩
  by_cases e : b = a
  · subst e
    rw [h0]
    exact if_pos rfl
  · have e1 : (w1.lock a none).lk b = w1.lk b := if_neg e
    rw [e1]
    have e2 : (w.lock a L).lk b = w.lk b := if_neg e
    rw [← e2]
    exact l.lk b hb
end
section
variable {X : Cx}
/-! ### what is walked of a locked dict -/
/-! ### sorted(d), keys texts -/
/-! ### dict(d) -/
/-! ### {k: v, ..} -/
def dPairs : List (DE × DE) → DL.Env → Sto → (List (D × D) → Sto → Prop) → Prop
  | [], _, st, k => k [] st
  | (tk, tv) :: r, env, st, k => tk env st fun x s1 => tv env s1 fun y s2 => dPairs r env s2 fun ps s3 => k ((x, y) :: ps) s3
structure PDPs (X : Cx) (pos : Pos) (keys : List (Option Expr)) (values : List Expr) (ts : List (DE × DE)) : Prop where
  run : PPs X pos keys values (ts.map fun p => (tD X.K p.1, tD X.K p.2))
theorem pdps_nil {pos : Pos} : PDPs X pos [] [] [] := ⟨pps_nil⟩
theorem pdps_cons {pos : Pos} {k v : Expr} {ks : List (Option Expr)} {vs : List Expr} {tk tv : DE} {ts : List (DE × DE)} (hk : PD X k tk) (hv : PD X v tv) (hr : PDPs X pos ks vs ts) : PDPs X pos (some k :: ks) (v :: vs) ((tk, tv) :: ts) := ⟨pps_cons hk hv hr.run⟩
inductive PRep (K : PySem.W.Frag) (w : Wd) : List (D × D) → List (V × V) → Prop
  | nil : PRep K w [] []
  | cons {x y : D} {u v : V} {ps : List (D × D)} {qs : List (V × V)} : Rep K w x u → Rep K w y v → PRep K w ps qs → PRep K w ((x, y) :: ps) ((u, v) :: qs)
theorem pairs_in {K : PySem.W.Frag} : ∀ (ts : List (DE × DE)) (w : Wd) (env : DL.Env) (st : Sto) (σ : L2.St) (H : Hp) (k : List (D × D) → Sto → Prop) (Q : List (V × V) → Hp → Prop), Wld K w st H → EnvR K w env σ → dPairs ts env st k →
    (∀ ps st1 qs w1 H1, k ps st1 → Le w w1 → Wld K w1 st1 H1 → PRep K w1 ps qs → Q qs H1) → tPairs (ts.map fun p => (tD K p.1, tD K p.2)) σ H Q
  | [], w, env, st, σ, H, k, Q, W, E, h, fo => fo _ _ _ _ _ h (.refl _) W .nil
  | (tk, tv) :: r, w, env, st, σ, H, k, Q, W, E, h, fo => by
    refine ⟨w, env, st, _, W, E, h, fun x st1 u w1 H1 h1 l1 W1 R1 => ⟨w1, env, st1, _, W1, E.mono l1, h1, fun y st2 v w2 H2 h2 l2 W2 R2 => ?_⟩⟩
    refine pairs_in r w2 env st2 σ H2 _ _ W2 ((E.mono l1).mono l2) h2 fun ps st3 qs w3 H3 h3 l3 W3 R3 => ?_
    exact fo _ _ _ _ _ h3 ((l1.trans l2).trans l3) W3 (.cons (Rep.mono (l2.trans l3) _ _ R1) (Rep.mono l3 _ _ R2) R3)
/-! ### {k: v for x in xs} -/
variable {tg iter kx vx : Expr} {ifs : List Expr} {scope : Scope} {own : List (Str × Nat)} {pos : Pos} {di : DI} {g : DG} {tt : DT} {tk tv : DE}
end
/-! ### equations -/
section
variable {env : DL.Env} {st : Sto} {k : DK}
theorem e_pairs0 {kk : List (D × D) → Sto → Prop} : dPairs [] env st kk = kk [] st := rfl
theorem e_pairs1 {tk tv : DE} {r : List (DE × DE)} {kk : List (D × D) → Sto → Prop} : dPairs ((tk, tv) :: r) env st kk = tk env st fun x s1 => tv env s1 fun y s2 => dPairs r env s2 fun ps s3 => kk ((x, y) :: ps) s3 := rfl
end
end DL

/-! DLS: set(xs) != set([c]) of ints. -/
namespace DL
open PySem PySem.Spec PyProof.Rows L2
section
variable {prog : Program} {w : World} {A : Around} {E : Value → Shared → Prop} {s : Shared}
end
end DL
namespace DLA
open PySem PySem.Spec PyProof.Rows L2
section
variable {prog : Program} {w : World} {A : Around} {E : Value → Shared → Prop} {s : Shared}
end
end DLA
namespace DL
open PySem PySem.Spec PyProof.Rows L2
section
variable {X : Cx} {e e2 : Expr} {ta : DE} {te : TE} {p p2 p3 pos2 pos3 pos4 pos : Pos} {c : Int}
/-! lists of lists of the store, shown -/
end
end DL

/-! DLU: instances of one's own classes: fields, methods, new ones. -/
namespace DL
open PySem PySem.Spec PyProof.Rows L2
section
variable {K : PySem.W.Frag} {w : Wd}
theorem fs_len : ∀ kvs : List (Key × V), (fsOf kvs).length ≤ kvs.length
  | [] => Nat.le_refl _
  | (.inr s, v) :: r => by
    have := fs_len r
    simp only [fsOf, List.length_cons]
    omega
  | (.inl s, v) :: r => by
    have := fs_len r
    simp only [fsOf, List.length_cons]
    omega
end
section
variable {X : Cx} {e o value : Expr} {es : List Expr} {pos pos' apos p : Pos} {t to tv : DE} {ta tk : DA} {c f m x : Str} {k : Nat} {g : Addr} {fd : FuncData} {ps ks : List Str} {sp : SpD} {kws : List Keyword}
/-- the world with a new instance -/
theorem Wld.ins {K : PySem.W.Frag} {w : Wd} {st : Sto} {H : Hp} (W : Wld K w st H) {x dx : Addr} (hx : H x = none) (hd : H dx = none) (ne : dx ≠ x) (q : ClsT K c) :
    Wld K (w.addK x (some (.ins c))) (st ++ [[]]) (upd (upd H dx (.own x)) x (.ins (He.ga K c) dx [])) ∧ Le w (w.addK x (some (.ins c))) ∧ Rep K (w.addK x (some (.ins c))) (.dic (.ins c) st.length) (.ref x) := by
  have W1 := W.other (o := .own x) hd
  have hx1 : upd H dx (.own x) x = none := by rw [upd_ne (Ne.symm ne)]; exact hx
  refine ⟨W1.addK hx1 ⟨dx, [], rfl, by simp only [RowsK]⟩, Le.addK (W.nas hx), ?_⟩
  simp only [Rep]
  refine ⟨x, rfl, ?_, if_pos rfl, q⟩
  show (w.as ++ [x])[st.length]? = some x
  rw [← W.len, List.getElem?_concat_length]
end
/-! ### packages -/
section
variable {X : Cx} {e o : Expr} {es : List Expr} {pos apos p : Pos} {to : DE} {ta tk : DA} {c m : Str} {k j : Nat} {ps ks : List Str} {sp : SpD} {kws : List Keyword}
/-! ### equations -/
variable {env : Env} {st : Sto} {kk : DK} {f : Str} {i : Nat} {rows : List D} {t u : DE} {dd : DEnds} {dfl : List D}
end
end DL

/-! DLV: sorted(d.items()) of texts and numbers, shifts. -/
namespace DL
open PySem PySem.Spec PyProof.Rows L2
section
variable {X : Cx}
/-! ### shifts -/
end
/-! ### sorted(d.items()) -/
section
variable {X : Cx} {o : Expr} {p pos apos mpos : Pos} {td : TE}
end
/-! readings -/
section
variable {K : PySem.W.Frag} {w : Wd} {st : Sto} {H : Hp} {X : Cx} {o : Expr} {p pos apos mpos : Pos} {td : DE}
end
end DL

/-! DLW: a dict that lies in a list is walked. -/
namespace DL
open PySem PySem.Spec PyProof.Rows L2
section
variable {K : PySem.W.Frag} {w : Wd} {st : Sto} {H : Hp}
end
section
variable {X : Cx}
/-! ### the walk -/
end

/-! ### y = {k: v for x in xs}, y a local -/
section
variable {X : Cx}
variable {tg iter kx vx : Expr} {ifs : List Expr} {scope : Scope} {own : List (Str × Nat)} {pos : Pos} {di : DI} {g : DG} {tt : DT} {tk tv : DE}
end
end DL

/-! DLO: every so manieth of a list; a dict put into a dict. -/
namespace DLO
open PySem PySem.Spec PyProof.Rows L2
variable {X : Cx}
/-! ### d.update(e) -/
end DLO
namespace DL
open PySem PySem.Spec PyProof.Rows L2
section
variable {X : Cx} {e o : Expr} {ta td te : DE}
/-! d.update(e) -/
variable {env : DL.Env} {st : Sto} {k : DK}
end
end DL

/-! DMA: sorted([(text, number), ..]), sorted([(text, (number, number)), ..]). -/
namespace DL
open PySem PySem.Spec PyProof.Rows L2
section
variable {X : Cx}
/-! readings -/
end
end DL

/-! DMB: [e for x in xs if .. for y in ys if ..], list.count. -/
namespace DL
open PySem PySem.Spec PyProof.Rows L2
section
variable {X : Cx} {elt tg iter tg1 iter1 : Expr} {ifs ifs1 : List Expr} {scope : Scope} {own : List (Str × Nat)} {di di1 : DI} {g g1 : DG} {tt tt1 : DT} {te : DE} {vs1 : List Nat} {pos p cpos : Pos}
end
end DL

/-! DMC: list.count, list.index of data. -/
namespace DL
open PySem PySem.Spec PyProof.Rows L2
section
variable {X : Cx}
/-! ### for v in d.values() -/
/-! ### a statement that is never reached -/
/-! ### xs.pop(k) -/
/-! ### max of three numbers -/
end
end DL

/-! DMD: a text in a text. -/
namespace DL
open PySem PySem.Spec PyProof.Rows L2
section
variable {X : Cx}
end
end DL

/-! DME: dicts whose keys are tuples of numbers, truths, tuples (kind n). -/
namespace DL
open PySem PySem.Spec PyProof.Rows L2
mutual
theorem hash_nk : ∀ (d : D) (y : NestedKey) (wo : World), nkD d = some y → y.hash wo = hN y
  | .non, y, _, h => by simp only [nkD] at h; cases h; simp only [NestedKey.hash, hN]
  | .bl b, y, _, h => by simp only [nkD] at h; cases h; simp only [NestedKey.hash, hN]
  | .int i, y, _, h => by simp only [nkD] at h; cases h; simp only [NestedKey.hash, hN]
  | .tup xs, y, wo, h => by
    simp only [nkD] at h
    cases e : nkDs xs with
    | none => rw [e] at h; cases h
    | some ks =>
      rw [e] at h
      cases h
      simp only [NestedKey.hash, hN]
      rw [hashes_nk xs ks wo e]
  | .str _, _, _, h => by simp only [nkD] at h; cases h
  | .lst _, _, _, h => by simp only [nkD] at h; cases h
  | .klst _, _, _, h => by simp only [nkD] at h; cases h
  | .obj _, _, _, h => by simp only [nkD] at h; cases h
  | .dic _ _, _, _, h => by simp only [nkD] at h; cases h
  | .fdic _ _, _, _, h => by simp only [nkD] at h; cases h
  | .gtup _, _, _, h => by simp only [nkD] at h; cases h
theorem hashes_nk : ∀ (ds : List D) (ys : List NestedKey) (wo : World), nkDs ds = some ys → NestedKey.hashes wo ys = hNs ys
  | [], ys, _, h => by simp only [nkDs] at h; cases h; simp only [NestedKey.hashes, hNs]
  | x :: r, ys, wo, h => by
    simp only [nkDs] at h
    cases e : nkD x with
    | none => rw [e] at h; cases h
    | some k =>
      cases e2 : nkDs r with
      | none => rw [e, e2] at h; cases h
      | some ks =>
        rw [e, e2] at h
        cases h
        simp only [NestedKey.hashes, hNs]
        rw [hash_nk x k wo e, hashes_nk r ks wo e2]
end
section
variable {P : Program} {wo : World} {K : PySem.W.Frag} {w : Wd} {st : Sto} {H : Hp} {h : Heap}
mutual
theorem nk_is (W : Same w.G H) (ok : HOk P wo H h) : ∀ (d : D) (y : NestedKey) (v : V) (u : Value), nkD d = some y → Rep K w d v → RelV v u → NestedIs h y u
  | .non, y, v, u, e, R, r => by
    simp only [nkD] at e
    simp only [Rep] at R
    cases e
    subst R
    cases (show u = Value.none from r)
    exact .none
  | .bl b, y, v, u, e, R, r => by
    simp only [nkD] at e
    simp only [Rep] at R
    cases e
    subst R
    cases (show u = Value.bool b from r)
    exact .bool rfl
  | .int i, y, v, u, e, R, r => by
    simp only [nkD] at e
    simp only [Rep] at R
    cases e
    subst R
    obtain ⟨t, rfl⟩ := (show ∃ t, u = Value.int i t from r)
    exact .int i t
  | .tup xs, y, v, u, e, R, r => by
    simp only [nkD] at e
    simp only [Rep] at R
    obtain ⟨a, vs, rfl, g, R⟩ := R
    cases (show u = Value.ref a from r)
    cases e2 : nkDs xs with
    | none => rw [e2] at e; cases e
    | some ks =>
      rw [e2] at e
      cases e
      obtain ⟨_, its, rv, ⟨c, dd, dat, sl⟩, h1, h2, n, h3⟩ := ok a _ (W _ _ g)
      exact .tup h1 h2 h3 (by simpa using nks_is W ok xs ks vs its e2 R rv)
  | .str _, _, _, _, h, _, _ => by simp only [nkD] at h; cases h
  | .lst _, _, _, _, h, _, _ => by simp only [nkD] at h; cases h
  | .klst _, _, _, _, h, _, _ => by simp only [nkD] at h; cases h
  | .obj _, _, _, _, h, _, _ => by simp only [nkD] at h; cases h
  | .dic _ _, _, _, _, h, _, _ => by simp only [nkD] at h; cases h
  | .fdic _ _, _, _, _, h, _, _ => by simp only [nkD] at h; cases h
  | .gtup _, _, _, _, h, _, _ => by simp only [nkD] at h; cases h
theorem nks_is (W : Same w.G H) (ok : HOk P wo H h) : ∀ (ds : List D) (ys : List NestedKey) (vs : List V) (us : List Value), nkDs ds = some ys → Reps K w ds vs → Vals vs us → NestedAll h ys us
  | [], ys, vs, us, e, R, r => by
    simp only [nkDs] at e
    cases e
    have := R.inv0
    subst this
    cases r
    exact .nil
  | x :: xs, ys, vs, us, e, R, r => by
    simp only [nkDs] at e
    obtain ⟨v, vr, rfl, R1, R2⟩ := R.inv
    cases r with
    | cons r1 r2 =>
      cases e1 : nkD x with
      | none => rw [e1] at e; cases e
      | some k =>
        cases e2 : nkDs xs with
        | none => rw [e1, e2] at e; cases e
        | some ks =>
          rw [e1, e2] at e
          cases e
          exact .cons (nk_is W ok x k v _ e1 R1 r1) (nks_is W ok xs ks vr _ e2 R2 r2)
end
/-- the entries of such a dict, with their keys' addresses -/
def ZR (K : PySem.W.Frag) (w : Wd) : List D → List (NestedKey × Addr × Value) → Prop
  | [], zs => zs = []
  | [_], _ => False
  | k :: d :: r, zs => ∃ y b v u zr, zs = (y, b, u) :: zr ∧ nkT k = some y ∧ Rep K w k (.ref b) ∧ Rep K w d v ∧ RelV v u ∧ ZR K w r zr
theorem tup_ref {d : D} {v : V} {y : NestedKey} (e : nkT d = some y) (R : Rep K w d v) : ∃ b, v = .ref b := by
  obtain ⟨_, _, xs, rfl⟩ := nkT_nkD e
  simp only [Rep] at R
  obtain ⟨a, _, rfl, _⟩ := R
  exact ⟨a, rfl⟩
theorem zr_of (wo : World) : ∀ {ds : List D} {vs : List V} {us : List Value} {ys : List NestedKey}, Reps K w ds vs → Vals vs us → nks ds = some ys → ∃ zs, ZR K w ds zs ∧ zs.map (·.1) = ys ∧ entN ys us = zs.map (entryOfKey (nestedKind P wo))
  | [], vs, us, ys, R, r, e => by
    simp only [nks] at e
    cases e
    exact ⟨[], rfl, rfl, by simp [entN]⟩
  | [_], _, _, _, _, _, e => by simp only [nks] at e; cases e
  | k :: d :: ds, vs, us, ys, R, r, e => by
    obtain ⟨y, yr, rfl, e1, e2⟩ := nks_cons e
    obtain ⟨v1, vr, rfl, R1, R2⟩ := R.inv
    obtain ⟨v2, vr, rfl, R2, R3⟩ := R2.inv
    cases r with
    | cons r1 r =>
      cases r with
      | cons r2 r =>
        obtain ⟨b, rfl⟩ := tup_ref e1 R1
        cases r1
        obtain ⟨zs, z1, z2, z3⟩ := zr_of wo R3 r e2
        refine ⟨(y, b, _) :: zs, ⟨y, b, v2, _, zs, rfl, e1, R1, R2, r2, z1⟩, by rw [List.map_cons, z2], ?_⟩
        simp only [entN, List.map_cons, entryOfKey, z3]
        congr 2
        exact (hash_nk k y wo (nkT_nkD e1).1).symm
theorem zr_back (wo : World) : ∀ {ds : List D} {zs : List (NestedKey × Addr × Value)}, ZR K w ds zs → ∃ vs us, Reps K w ds vs ∧ Vals vs us ∧ nks ds = some (zs.map (·.1)) ∧ entN (zs.map (·.1)) us = zs.map (entryOfKey (nestedKind P wo)) ∧ vs.length = 2 * zs.length
  | [], zs, h => by
    simp only [ZR] at h
    subst h
    exact ⟨[], [], .nil, .nil, rfl, rfl, rfl⟩
  | [_], _, h => by simp only [ZR] at h
  | k :: d :: ds, zs, h => by
    simp only [ZR] at h
    obtain ⟨y, b, v, u, zr, rfl, e1, R1, R2, r2, z⟩ := h
    obtain ⟨vs, us, R3, r3, e3, e4, l⟩ := zr_back wo z
    refine ⟨.ref b :: v :: vs, .ref b :: u :: us, .cons R1 (.cons R2 R3), .cons rfl (.cons r2 r3), by simp only [nks, e1, e3, List.map_cons], ?_, by simp only [List.length_cons, l]; omega⟩
    simp only [entN, List.map_cons, entryOfKey, e4]
    congr 2
    exact (hash_nk k y wo (nkT_nkD e1).1).symm
theorem zr_is (W : Same w.G H) (ok : HOk P wo H h) : ∀ {ds : List D} {zs : List (NestedKey × Addr × Value)}, ZR K w ds zs → ∀ z ∈ zs, (nestedKind P wo).is h z.1 z.2.1
  | [], zs, q, z, m => by
    simp only [ZR] at q
    subst q
    cases m
  | [_], _, q, _, _ => by simp only [ZR] at q
  | k :: d :: ds, zs, q, z, m => by
    simp only [ZR] at q
    obtain ⟨y, b, v, u, zr, rfl, e1, R1, R2, r2, q⟩ := q
    rcases List.mem_cons.mp m with e | m
    · subst e
      obtain ⟨n1, n2, _⟩ := nkT_nkD e1
      exact ⟨nk_is W ok k y (.ref b) (.ref b) n1 R1 rfl, n2⟩
    · exact zr_is W ok q z m
/-! what such a dict holds -/
def valN : List D → D → Option D
  | k' :: d :: r, k => if nkT k' = nkT k then some d else valN r k
  | _, _ => none
def putN : List D → D → D → List D
  | k' :: d' :: r, k, d => if nkT k' = nkT k then k' :: d :: r else k' :: d' :: putN r k d
  | _, k, d => [k, d]
def OptZ (K : PySem.W.Frag) (w : Wd) : Option D → Option (Addr × Value) → Prop
  | some d, some p => ∃ v, Rep K w d v ∧ RelV v p.2
  | none, none => True
  | _, _ => False
theorem atKey_cons {k : NestedKey} {z : NestedKey × Addr × Value} {zs : List (NestedKey × Addr × Value)} : atKey (z :: zs) k = if z.1 = k then some z.2 else atKey zs k := by
  by_cases h : z.1 = k <;> simp [atKey, h]
theorem zr_val {k : D} {y : NestedKey} (hk : nkT k = some y) : ∀ {ds : List D} {zs : List (NestedKey × Addr × Value)}, ZR K w ds zs → OptZ K w (valN ds k) (atKey zs y)
  | [], zs, q => by
    simp only [ZR] at q
    subst q
    trivial
  | [_], _, q => by simp only [ZR] at q
  | k' :: d :: ds, zs, q => by
    simp only [ZR] at q
    obtain ⟨y', b, v, u, zr, rfl, e1, R1, R2, r2, q⟩ := q
    unfold valN
    rw [atKey_cons, e1, hk]
    by_cases z : y' = y
    · rw [if_pos (by rw [z]), if_pos z]
      exact ⟨v, R2, r2⟩
    · rw [if_neg (fun h => z (Option.some.inj h)), if_neg z]
      exact zr_val hk q
theorem map_putAt {y : NestedKey} {u : Value} : ∀ {zs : List (NestedKey × Addr × Value)}, y ∉ zs.map (·.1) → zs.map (putAt y u) = zs
  | [], _ => rfl
  | z :: zs, h => by
    rw [List.map_cons, List.mem_cons, not_or] at h
    rw [List.map_cons, map_putAt h.2]
    unfold putAt
    rw [if_neg (fun e => h.1 e.symm)]
theorem storedH_cons_ne {y : NestedKey} {b : Addr} {u : Value} {z : NestedKey × Addr × Value} {zs : List (NestedKey × Addr × Value)} (ne : z.1 ≠ y) : storedH (z :: zs) y b u = z :: storedH zs y b u := by
  unfold storedH
  rw [atKey_cons, if_neg ne]
  split
  · rw [List.map_cons]
    unfold putAt
    rw [if_neg ne]
  · rfl
theorem zr_put {k d : D} {y : NestedKey} {b : Addr} {v : V} {u : Value} (hk : nkT k = some y) (R1 : Rep K w k (.ref b)) (R2 : Rep K w d v) (r2 : RelV v u) : ∀ {ds : List D} {zs : List (NestedKey × Addr × Value)}, ZR K w ds zs → (zs.map (·.1)).Nodup → ZR K w (putN ds k d) (storedH zs y b u)
  | [], zs, q, _ => by
    simp only [ZR] at q
    subst q
    show ZR K w [k, d] [(y, b, u)]
    exact ⟨y, b, v, u, [], rfl, hk, R1, R2, r2, rfl⟩
  | [_], _, q, _ => by simp only [ZR] at q
  | k' :: d' :: ds, zs, q, nd => by
    simp only [ZR] at q
    obtain ⟨y', b', v', u', zr, rfl, e1, R1', R2', r2', q⟩ := q
    rw [List.map_cons, List.nodup_cons] at nd
    unfold putN
    rw [e1, hk]
    by_cases z : y' = y
    · subst z
      rw [if_pos rfl, storedH_old (p := (b', u')) (by rw [atKey_cons, if_pos rfl]), List.map_cons, map_putAt nd.1]
      refine ⟨y', b', v, u, zr, ?_, e1, R1', R2, r2, q⟩
      unfold putAt
      rw [if_pos rfl]
    · rw [if_neg (fun h => z (Option.some.inj h)), storedH_cons_ne z]
      exact ⟨y', b', v', u', _, rfl, e1, R1', R2', r2', zr_put hk R1 R2 r2 q nd.2⟩
/-- such a dict's object -/
theorem nd_obj {d : D} {v : V} {i : Nat} {rows : List D} (W : Wld K w st H) (R : Rep K w (.dic .n i) v) (e : st[i]? = some rows) (ev : rows.length % 2 = 0) (ok : HOk P wo H h) : ∃ a zs, v = .ref a ∧ w.as[i]? = some a ∧ w.dk a = some .n ∧ w.lk a = none ∧ Mut (H a) ∧ (a == sysModules) = false ∧
    ZR K w rows zs ∧ h.DictOfH (nestedKind P wo) a zs ∧ zs.length ≤ sizeLine := by
  simp only [Rep] at R
  obtain ⟨a, rfl, q, q2, _⟩ := R
  obtain ⟨g, ys, o, h1, h2, h3⟩ := W.at_ i a q
  rw [e] at h1
  cases h1
  rw [q2] at h3
  obtain ⟨hl, b, ys, vs, rfl, n, r⟩ := h3.nd ev
  obtain ⟨us, rv, ⟨ob, es, ep, g1, g2, g3, g4⟩, hs, nd, ln⟩ := nd_at (ok a _ h2)
  obtain ⟨zs, z1, z2, z3⟩ := zr_of (P := P) wo r rv n
  have lz : 2 * zs.length = vs.length := by
    obtain ⟨vs2, _, R2, _, _, _, l2⟩ := zr_back (P := P) wo z1
    have := R2.length
    have := r.length
    omega
  refine ⟨a, zs, rfl, q, q2, hl, by rw [h2]; trivial, hs, z1, ⟨ob, es, ep, g1, g2, g3, by rw [g4, z3], zr_is W.same ok z1, by rw [z2]; exact nd⟩, by omega⟩
/-- .. laid anew -/
theorem nd_ok {a : Addr} {zs : List (NestedKey × Addr × Value)} {rows : List D} (z : ZR K w rows zs) (D : h.DictOfH (nestedKind P wo) a zs) (hs : (a == sysModules) = false) (ln : zs.length ≤ sizeLine) : ∃ vs, EntP K w (some .n) rows (ndO a (zs.map (·.1)) vs) ∧ ∀ H', ObjOk P wo H' h a (ndO a (zs.map (·.1)) vs) := by
  obtain ⟨ob, es, ep, g1, g2, g3, g4, g5, nd⟩ := D
  obtain ⟨vs, us, R, rv, n, e, l⟩ := zr_back (P := P) wo z
  refine ⟨vs, ⟨a, _, vs, rfl, n, R⟩, fun H' => ⟨⟨us, rv, ⟨ob, es, ep, g1, g2, g3, by rw [g4, e]⟩, hs, nd, by omega⟩, ⟨ob, g1⟩, ?_⟩⟩
  rintro h1 h2 ⟨us, rv, ⟨o, es, ep, e1, e2⟩, r⟩ k
  exact ⟨us, rv, ⟨o, es, ep, k o e1, e2⟩, r⟩
end
/-! ### readings -/
def getN (d y : D) (st : Sto) (k : DK) : Prop := match d with
  | .dic .n i => match st[i]? with
    | some rows => rows.length % 2 = 0 ∧ (nkT y).isSome = true ∧ ∃ x, valN rows y = some x ∧ k x st
    | none => False
  | _ => False
def inN (neg : Bool) (y d : D) (st : Sto) (k : DK) : Prop := match d with
  | .dic .n i => match st[i]? with
    | some rows => rows.length % 2 = 0 ∧ (nkT y).isSome = true ∧ k (.bl (if neg then !(valN rows y).isSome else (valN rows y).isSome)) st
    | none => False
  | _ => False
def putDN (o i v : D) (st : Sto) (k : Sto → Prop) : Prop := match o with
  | .dic .n j => match st[j]? with
    | some rows => rows.length % 2 = 0 ∧ (nkT i).isSome = true ∧ rows.length < 16777216 ∧ k (st.set j (putN rows i v))
    | none => False
  | _ => False
def dgPutN (to ti : DE) : DG := fun v env st k => to env st fun o s1 => ti env s1 fun i s2 => putDN o i v s2 fun s3 => k env s3
def keysN : List (D × D) → Prop
  | [] => True
  | p :: r => (nkT p.1).isSome = true ∧ keysN r
def mergeN (rows : List D) (ps : List (D × D)) : List D := ps.foldl (fun acc p => putN acc p.1 p.2) rows
def dDispN (ts : List (DE × DE)) : DE := fun env st k => dPairs ts env (st ++ [[]]) fun ps s1 => s1[st.length]? = some [] ∧ keysN ps ∧ ps.length ≤ 15 ∧ k (.dic .n st.length) (s1.set st.length (mergeN [] ps))
section
variable {X : Cx} {o i e f : Expr} {pos : Pos} {to ti : DE}
theorem roomN {A : Around} (hu : A.units + 64 < cLine) : (nestedKind P wo).room A.in1 := by
  show A.in1.units + 8 < cLine
  have : A.in1.units ≤ A.units + 1 := Nat.le_refl _
  omega
theorem keyN_is {pins : List (Addr × Obj)} {σ : L2.St} {H : Hp} {s : Shared} {w : Wd} {st : Sto} {d : D} {y : NestedKey} {v : V} {u : Value} (I : Inv X pins σ H s) (W : Wld X.K w st H) (e : nkT d = some y) (R : Rep X.K w d v) (r : RelV v u) : ∃ b, v = .ref b ∧ u = .ref b ∧ (nestedKind X.prog X.w).is s.heap y b := by
  obtain ⟨b, rfl⟩ := tup_ref e R
  cases (show u = Value.ref b from r)
  obtain ⟨n1, n2, _⟩ := nkT_nkD e
  exact ⟨b, rfl, rfl, nk_is W.same I.hok d y _ _ n1 R rfl, n2⟩
theorem some_nk {d : D} (h : (nkT d).isSome = true) : ∃ y, nkT d = some y := Option.isSome_iff_exists.mp h
theorem optZ_some {K : PySem.W.Frag} {w : Wd} {a : Option D} {b : Option (Addr × Value)} (h : OptZ K w a b) : a.isSome = b.isSome := by
  cases a <;> cases b <;> first | rfl | exact h.elim
theorem dop_notinN (hu : X.A.units + 64 < cLine) : OpR X (compareOp .NotIn) (rD X.K (inN true)) := by
  rintro pins s σ H x y v u Q I rx ry ⟨w, st, d, e, kk, W, R1, R2, q, fo⟩
  unfold inN at q
  split at q
  · split at q
    · rename_i j rows hj
      obtain ⟨y0, hy⟩ := some_nk q.2.1
      obtain ⟨a, zs, rfl, _, _, _, _, hs, z, hD, _⟩ := nd_obj (d := .non) W R2 hj q.1 I.hok
      cases (show u = Value.ref a from ry)
      obtain ⟨b, rfl, rfl, hk⟩ := keyN_is I W hy R1 rx
      have ov := optZ_some (zr_val hy z)
      show wpAny _ _ (do return Value.bool (!(← contains (.ref a) (.ref b)))) _ _ s
      refine wpAny_bind (wpAny_contains_heap (roomN hu) hk hs hD (wpAny_pure ⟨.bl (!(atKey zs y0).isSome), H, I.tok _, rfl, fo _ _ _ _ _ q.2.2 (.refl _) W ?_⟩))
      rw [if_pos rfl, ov]
      exact rep_bl
    · exact q.elim
  · exact q.elim
theorem pd_dgetN (hu : X.A.units + 64 < cLine) (ho : PD X o to) (hi : PD X i ti) (hs : NoSl i := by exact fun _ _ => rfl) : PD X (.Subscript o i pos) (dOp getN to ti) := by
  refine ⟨fun pins s σ H Q I ⟨w, env, st, kk, W, E, h, fo⟩ => ?_⟩
  refine subD_of PySem.F.slot_dict_getitem.lookup hs (thn (ho.run pins s σ H (fun v H1 => ∃ w1 st1 d, Le w w1 ∧ Wld X.K w1 st1 H1 ∧ Rep X.K w1 d v ∧ EnvR X.K w1 env σ ∧ ti env st1 fun y s2 => getN d y s2 kk) I ⟨w, env, st, _, W, E, h, fun d st1 v w1 H1 h1 l1 W1 R1 => ⟨w1, st1, d, l1, W1, R1, E.mono l1, h1⟩⟩) fun u0 s1 ⟨v, H1, I1, rv, w1, st1, d, l1, W1, R1, E1, h1⟩ => ?_)
  refine thn (hi.run pins s1 σ H1 (fun u H2 => ∃ w2 st2 y, Le w1 w2 ∧ Wld X.K w2 st2 H2 ∧ Rep X.K w2 y u ∧ getN d y st2 kk) I1 ⟨w1, env, st1, _, W1, E1, h1, fun y st2 u w2 H2 h2 l2 W2 R2 => ⟨w2, st2, y, l2, W2, R2, h2⟩⟩) fun u1 s2 ⟨u, H2, I2, ru, w2, st2, y, l2, W2, R2, h2⟩ => ?_
  have R1 := Rep.mono l2 _ _ R1
  unfold getN at h2
  split at h2
  · split at h2
    · rename_i j rows hj
      obtain ⟨hev, hn, x, hx, h2⟩ := h2
      obtain ⟨y0, hy⟩ := some_nk hn
      obtain ⟨a, zs, rfl, _, _, _, _, hs', z, hD, _⟩ := nd_obj (d := .non) W2 R1 hj hev I2.hok
      cases (show u0 = Value.ref a from rv)
      obtain ⟨b, rfl, rfl, hk⟩ := keyN_is I2 W2 hy R2 ru
      have ov := zr_val hy z
      rw [hx] at ov
      cases ea : atKey zs y0 with
      | none => rw [ea] at ov; exact ov.elim
      | some p =>
        rw [ea] at ov
        obtain ⟨vx, Rx, rx⟩ := ov
        exact ⟨hD.typeIs, wpAny_getItem_heap (roomN hu) hk hD ea ⟨vx, H2, I2.tok _, rx, fo _ _ _ _ _ h2 (l1.trans l2) W2 Rx⟩⟩
    · exact h2.elim
  · exact h2.elim
theorem storedH_len (xs : List (NestedKey × Addr × Value)) (k : NestedKey) (a : Addr) (v : Value) : (storedH xs k a v).length ≤ xs.length + 1 := storedH_length xs k a v
theorem zr_len {K : PySem.W.Frag} {w : Wd} : ∀ {ds : List D} {zs : List (NestedKey × Addr × Value)}, ZR K w ds zs → ds.length = 2 * zs.length
  | [], zs, q => by
    simp only [ZR] at q
    subst q
    rfl
  | [_], _, q => by simp only [ZR] at q
  | k :: d :: ds, zs, q => by
    simp only [ZR] at q
    obtain ⟨y, b, v, u, zr, rfl, _, _, _, _, q⟩ := q
    have := zr_len q
    simp only [List.length_cons]
    omega
/-- d[y] = v -/
def rSetN (K : PySem.W.Frag) : TSet := fun x y v H Q => ∃ (w : Wd) (st : Sto) (j : Nat) (rows : List D) (i d : D) (nx : Sto → Prop), Wld K w st H ∧ Rep K w (.dic .n j) x ∧ Rep K w i y ∧ Rep K w d v ∧ st[j]? = some rows ∧ rows.length % 2 = 0 ∧ (nkT i).isSome = true ∧ rows.length < 16777216 ∧ ∀ H', Wld K w (st.set j (putN rows i d)) H' → Q H'
theorem set_dictN (hu : X.A.units + 64 < cLine) : PSet X (rSetN X.K) := by
  rintro pins s σ H x y v xv yv u Q I rx ry rv ⟨w, st, j, rows, i, d, nx, W, R1, R2, R3, hj, hev, hn, hl, q⟩
  obtain ⟨y0, hy⟩ := some_nk hn
  obtain ⟨a, zs, rfl, ha, hd, hlk, mu, hs, z, hD, ln⟩ := nd_obj (d := .non) W R1 hj hev I.hok
  cases (show xv = Value.ref a from rx)
  obtain ⟨b, rfl, rfl, hk⟩ := keyN_is I W hy R2 ry
  have lz := zr_len z
  refine wpAny_setItem_heap (hsz := ln) (roomN hu) hk hD fun h' hD' sb => ?_
  obtain ⟨_, _, _, _, _, _, _, _, nd⟩ := id hD
  have zz := zr_put hy R2 R3 rv z nd
  obtain ⟨vs, e1, e2⟩ := nd_ok zz hD' hs (by have := storedH_len zs y0 b u; rw [sizeLine_eq] at *; omega)
  have he : ∃ q, h'.get? a = some q := let ⟨q, _, _, hq, _⟩ := hD'; ⟨q, hq⟩
  refine ⟨_, d_write I mu sb he (e2 _), q _ (W.wrK ha ?_)⟩
  rw [hd, hlk]
  exact .inl ⟨rfl, e1⟩
theorem pdg_putN (hu : X.A.units + 64 < cLine) (ho : PD X o to) (hi : PD X i ti)
    (ha : ∀ v, assign (.Subscript o i pos) X.env v = (do
      let ov ← holding [v] (eval o X.env)
      let iv ← holding [v, ov] (eval i X.env)
      standAt pos
      holding [v, ov, iv] (setItem ov iv v)
      release [v, ov, iv] []) := by intro _; rfl) : PDG X (.Subscript o i pos) (dgPutN to ti) := by
  refine L2.PG.wk (pg_sub ho hi (set_dictN hu) ha) fun v σ H Q ⟨w, env, st, d, nx, W, E, R, h, fn⟩ => ?_
  refine ⟨w, env, st, _, W, E, h, fun d1 st1 v1 w1 H1 h1 l1 W1 R1 => ⟨w1, env, st1, _, W1, E.mono l1, h1, fun d2 st2 v2 w2 H2 h2 l2 W2 R2 => ?_⟩⟩
  unfold putDN at h2
  split at h2
  · split at h2
    · rename_i j rows hj
      obtain ⟨hev, hk, hn, h2⟩ := h2
      exact ⟨w2, st2, _, rows, d2, d, fun _ => True, W2, Rep.mono l2 _ _ R1, R2, Rep.mono (l1.trans l2) _ _ R, hj, hev, hk, hn, fun H' W3 => fn _ _ _ _ _ h2 (l1.trans l2) W3 (E.mono (l1.trans l2))⟩
    · exact h2.elim
  · exact h2.elim
theorem storedH_nd {zs : List (NestedKey × Addr × Value)} {y : NestedKey} {b : Addr} {u : Value} (nd : (zs.map (·.1)).Nodup) : ((storedH zs y b u).map (·.1)).Nodup := by
  unfold storedH
  split
  · have : (zs.map (putAt y u)).map (·.1) = zs.map (·.1) := by
      rw [List.map_map]
      refine List.map_congr_left fun x _ => ?_
      show (putAt y u x).1 = x.1
      unfold putAt
      split <;> rfl
    rw [this]
    exact nd
  · rename_i h
    rw [List.map_append, List.nodup_append]
    refine ⟨nd, by simp, fun a ha b hb e => ?_⟩
    rw [List.map_singleton, List.mem_singleton] at hb
    subst hb e
    refine h ?_
    obtain ⟨x, hx, rfl⟩ := List.mem_map.mp ha
    clear h nd ha
    induction zs with
    | nil => cases hx
    | cons z zs ih =>
      rw [atKey_cons]
      by_cases q : z.1 = x.1
      · rw [if_pos q]; rfl
      · rw [if_neg q]
        rcases List.mem_cons.mp hx with e | hx
        · exact absurd (by rw [e]) q
        · exact ih hx
theorem prepN {K : PySem.W.Frag} {w : Wd} {P : Program} {wo : World} {H : Hp} {h : Heap} (W : Same w.G H) (ok : HOk P wo H h) {ps : List (D × D)} {qs : List (V × V)} (r : PRep K w ps qs) : ∀ {ws : List (Value × Value)}, VV qs ws → keysN ps →
    ∃ ms, CarriesH (nestedKind P wo) h ws ms ∧ ms.length = ps.length ∧ ∀ (rows : List D) (zs : List (NestedKey × Addr × Value)), ZR K w rows zs → (zs.map (·.1)).Nodup → ZR K w (mergeN rows ps) (storedAllH zs ms) := by
  induction r with
  | nil =>
    intro ws rv _
    cases rv
    exact ⟨[], trivial, rfl, fun _ _ z _ => z⟩
  | @cons x y u v ps qs r1 r2 r ih =>
    intro ws rv hk
    obtain ⟨k1, k2⟩ := hk
    cases rv with
    | @cons _ wv _ ws' rr rv =>
      obtain ⟨rr1, rr2⟩ := rr
      obtain ⟨ms, c, l, m⟩ := ih rv k2
      obtain ⟨y0, hy⟩ := some_nk k1
      obtain ⟨b, rfl⟩ := tup_ref hy r1
      obtain ⟨w1, w2⟩ := wv
      have e1 : w1 = Value.ref b := rr1
      obtain ⟨n1, n2, _⟩ := nkT_nkD hy
      refine ⟨(y0, b, w2) :: ms, ⟨e1, rfl, ⟨nk_is W ok x y0 _ _ n1 r1 rfl, n2⟩, c⟩, by rw [List.length_cons, List.length_cons, l], fun rows zs z nd => ?_⟩
      exact m _ _ (zr_put hy r1 r2 rr2 z nd) (storedH_nd nd)
theorem nd_nil {P : Program} {wo : World} {H : Hp} (h : Heap) (hb : sysModules < h.objs.size) : ObjOk P wo H (h.push { cls := .type "dict", data := .dict #[] }) h.objs.size (ndO h.objs.size [] []) := by
  refine ⟨⟨[], .nil, ⟨_, #[], 0, Heap.get?_push_size _ rfl, ⟨rfl, rfl, rfl⟩, rfl, rfl⟩, beq_eq_false_iff_ne.mpr (Ne.symm (Nat.ne_of_lt hb)), List.nodup_nil, Nat.zero_le _⟩, ⟨_, Heap.get?_push_size _ rfl⟩, ?_⟩
  rintro h1 h2 ⟨us, rv, ⟨o, es, ep, e1, e2⟩, r⟩ k
  exact ⟨us, rv, ⟨o, es, ep, k o e1, e2⟩, r⟩
theorem storedAllH_len : ∀ (ms zs : List (NestedKey × Addr × Value)), (storedAllH zs ms).length ≤ zs.length + ms.length
  | [], zs => Nat.le_refl _
  | m :: ms, zs => by
    have h1 := storedAllH_len ms (storedH zs m.1 m.2.1 m.2.2)
    have h2 := storedH_len zs m.1 m.2.1 m.2.2
    show (storedAllH (storedH zs m.1 m.2.1 m.2.2) ms).length ≤ _
    rw [List.length_cons]
    omega
theorem pd_dispN {keys : List (Option Expr)} {values : List Expr} {ts : List (DE × DE)} (hu : X.A.units + 64 < cLine) (h : PDPs X pos keys values ts) (hall : keys.all (·.isSome) = true := by rfl) (hl : keys.length = values.length := by rfl) (h0 : keys ≠ [] := by intro z; cases z)
    (h15 : keys.length ≤ 15 := by decide) : PD X (.Dict keys values pos) (dDispN ts) := by
  refine ⟨fun pins s σ H Q I ⟨w, env, st, kk, W, E, q, fo⟩ => ?_⟩
  have hn := I.hok.fresh (Nat.le_refl s.heap.objs.size)
  have I1 := I.laid (a := s.heap.objs.size) (o := ndO s.heap.objs.size [] []) (h' := s.heap.push { cls := .type "dict", data := .dict #[] }) (t' := s.toks) (fun _ _ q => Heap.get?_push_of_some _ q) (Nat.le_refl _) (nd_nil s.heap I.big)
  have l0 : Le w (w.addK s.heap.objs.size (some .n)) := Le.addK (W.nas hn)
  have W0 := W.addK hn (k := some .n) (xs := []) (o := ndO s.heap.objs.size [] []) ⟨_, [], [], rfl, rfl, .nil⟩
  have q0 : (w.addK s.heap.objs.size (some .n)).as[st.length]? = some s.heap.objs.size := by
    show (w.as ++ [s.heap.objs.size])[st.length]? = some s.heap.objs.size
    rw [← W.len, List.getElem?_concat_length]
  have hln := pairTrees_length keys values X.env pos hall hl
  have hne : pairTrees keys values X.env pos ≠ [] := fun he => by
    rw [he] at hln
    exact h0 (List.length_eq_zero_iff.mp hln.symm)
  rw [arm_eval_Dict, zip_pairTrees keys values X.env pos hall hl, dictDisplay_pairs _ hne (by omega)]
  refine wpAny_bind (wpAny_standAt (wpAny_bind (wpAny_subDictH (knd := nestedKind X.prog X.w) (by show X.A.units + 8 < cLine; omega) (by omega) (thn (h.run.run pins _ σ _ (fun qs H2 => ∃ ps st1 w1, Le (w.addK s.heap.objs.size (some .n)) w1 ∧ Wld X.K w1 st1 H2 ∧ PRep X.K w1 ps qs ∧ st1[st.length]? = some [] ∧ keysN ps ∧ ps.length ≤ 15 ∧ kk (.dic .n st.length) (st1.set st.length (mergeN [] ps))) I1 ?_) fun ws s2 hq => ?_))))
  · exact pairs_in ts _ env _ σ _ _ _ W0 (E.mono l0) q fun ps st1 qs w1 H1 ⟨e0, kok, n15, h1⟩ l1 W1 R1 => ⟨ps, st1, w1, l1, W1, R1, e0, kok, n15, h1⟩
  · obtain ⟨qs, H2, I2, rv, ps, st1, w1, l1, W1, R1, e0, kok, n15, h1⟩ := hq
    have q1 : w1.as[st.length]? = some s.heap.objs.size := as_get l1.pre q0
    have k1 : w1.dk s.heap.objs.size = some .n := (l1.pre.dk _ (List.mem_of_getElem? q0)).trans (if_pos rfl)
    have Rd : Rep X.K w1 (.dic .n st.length) (.ref s.heap.objs.size) := by
      simp only [Rep]
      exact ⟨_, rfl, q1, k1, trivial⟩
    obtain ⟨a, zs, ea, ha, _, hlk, mu, hs, z, hD, _⟩ := nd_obj (d := .non) W1 Rd e0 rfl I2.hok
    cases ea
    simp only [ZR] at z
    subst z
    obtain ⟨ms, c, lm, m⟩ := prepN W1.same I2.hok R1 rv kok
    refine ⟨ms, c, hD, fun h' tk hD' sb => wpAny_pure ?_⟩
    have zz := m [] [] rfl List.nodup_nil
    have ln := storedAllH_len ms []
    obtain ⟨vs, e1, e2⟩ := nd_ok zz hD' hs (by rw [sizeLine_eq]; rw [List.length_nil] at ln; omega)
    have he : ∃ q, h'.get? s.heap.objs.size = some q := let ⟨q, _, _, hq, _⟩ := hD'; ⟨q, hq⟩
    refine ⟨.ref s.heap.objs.size, _, d_write I2 mu sb he (e2 _), rfl, fo _ _ _ w1 _ h1 (l0.trans l1) (W1.wrK q1 ?_) Rd⟩
    rw [k1, hlk]
    exact .inl ⟨rfl, e1⟩
variable {st : Sto} {rows : List D} {env : DL.Env} {k : DK}
theorem e_dispN {ts : List (DE × DE)} : dDispN ts env st k = dPairs ts env (st ++ [[]]) fun ps s1 => s1[st.length]? = some [] ∧ keysN ps ∧ ps.length ≤ 15 ∧ k (.dic .n st.length) (s1.set st.length (mergeN [] ps)) := rfl
theorem e_putN {to ti : DE} {d : D} {kg : DL.Env → Sto → Prop} : dgPutN to ti d env st kg = to env st fun o s1 => ti env s1 fun i s2 => putDN o i d s2 fun s3 => kg env s3 := rfl
theorem e_getN {j : Nat} {y : D} (h : st[j]? = some rows) : getN (.dic .n j) y st k = (rows.length % 2 = 0 ∧ (nkT y).isSome = true ∧ ∃ x, valN rows y = some x ∧ k x st) := by simp [getN, h]
theorem e_inN {j : Nat} {y : D} {neg : Bool} (h : st[j]? = some rows) : inN neg y (.dic .n j) st k = (rows.length % 2 = 0 ∧ (nkT y).isSome = true ∧ k (.bl (if neg then !(valN rows y).isSome else (valN rows y).isSome)) st) := by simp [inN, h]
theorem e_putNs {j : Nat} {i v : D} {ks : Sto → Prop} (h : st[j]? = some rows) : putDN (.dic .n j) i v st ks = (rows.length % 2 = 0 ∧ (nkT i).isSome = true ∧ rows.length < 16777216 ∧ ks (st.set j (putN rows i v))) := by simp [putDN, h]
/-! ### a tuple no or so many times -/
end
end DL

/-! DMF: the values of a dict whose keys are tuples are walked. -/
namespace DL
open PySem PySem.Spec PyProof.Rows L2
/-! ### the lock -/
def lockAtN (i : Nat) (env : DL.Env) (st : Sto) (p : Nat → List D → Prop) : Prop := match env[i]? with
  | some (some (.dic .n j)) => match st[j]? with
    | some rows => rows.length % 2 = 0 ∧ p j rows
    | none => False
  | _ => False
theorem lockAtN_of {i j : Nat} {env : DL.Env} {st : Sto} {rows : List D} {p : Nat → List D → Prop} (h1 : env[i]? = some (some (.dic .n j))) (h2 : st[j]? = some rows) (ok : rows.length % 2 = 0) (h : p j rows) : lockAtN i env st p := by
  unfold lockAtN
  rw [h1]
  simp only [h2]
  exact ⟨ok, h⟩
theorem lockAtN_in {i : Nat} {env : DL.Env} {st : Sto} {p : Nat → List D → Prop} (h : lockAtN i env st p) : ∃ j rows, env[i]? = some (some (.dic .n j)) ∧ st[j]? = some rows ∧ rows.length % 2 = 0 ∧ p j rows := by
  unfold lockAtN at h
  split at h
  · rename_i j e
    split at h
    · rename_i rows e2
      exact ⟨j, rows, e, e2, h.1, h.2⟩
    · exact h.elim
  · exact h.elim
def dLockEN (i : Nat) (t : DE) : DE := fun env st k => lockAtN i env st fun j rows => t env (st.set j (rows ++ [lockD])) fun d st' => k d (st'.set j rows)
section
variable {X : Cx}
theorem lk_frzN {K : PySem.W.Frag} {w : Wd} {st : Sto} {H : Hp} {j : Nat} {a : Addr} {ob : Obj} {u : HO} (W : Wld K w st H) (ha : w.as[j]? = some a) (hL : w.lk a = some (ob, u)) (hk : w.dk a = some .n) : H a = some (.frz ob u) := by
  obtain ⟨g, xs, o, h1, h2, h3⟩ := W.at_ j a ha
  rw [hL, hk] at h3
  rcases h3 with ⟨z, _⟩ | ⟨z, _⟩ | ⟨_, rows, ob', b, ys, vs', e, _, e2, _⟩
  · cases z
  · cases z
  · cases e
    rw [e2] at h2
    exact h2
theorem lock_openN {K : PySem.W.Frag} {w : Wd} {env : DL.Env} {st : Sto} {σ : L2.St} {H : Hp} {i j : Nat} {rows : List D} (W : Wld K w st H) (E : EnvR K w env σ) (h1 : env[i]? = some (some (.dic .n j))) (h2 : st[j]? = some rows) (ok : rows.length % 2 = 0) :
    ∃ a u, H a = some u ∧ Mut (some u) ∧ ∀ od, Wld K (w.lock a (some (od, u))) (st.set j (rows ++ [lockD])) (upd H a (.frz od u)) ∧
      ∀ (w1 : Wd) (st1 : Sto) (H1 : Hp), Le (w.lock a (some (od, u))) w1 → Wld K w1 st1 H1 → H1 a = some (.frz od u) ∧ Le w (w1.lock a none) ∧ Wld K (w1.lock a none) (st1.set j rows) (upd H1 a u) := by
  obtain ⟨v, _, R⟩ := E.2 i _ h1
  simp only [Rep] at R
  obtain ⟨a, _, q, q2, _⟩ := R
  obtain ⟨g, ys, o, k1, k2, k3⟩ := W.at_ j a q
  rw [h2] at k1
  cases k1
  rw [q2] at k3
  obtain ⟨hl, b, ks, vs, rfl, n, r⟩ := k3.nd ok
  refine ⟨a, _, k2, trivial, fun od => ⟨W.wrL q ?_, fun w1 st1 H1 l W1 => ?_⟩⟩
  · rw [q2]
    exact .inr (.inr ⟨rfl, rows, od, b, ks, vs, rfl, rfl, rfl, n, r⟩)
  · have q1 : w1.as[j]? = some a := as_get l.pre (w := w.lock a (some (od, ndO b ks vs))) q
    have ma : a ∈ (w.lock a (some (od, ndO b ks vs))).as := List.mem_of_getElem? q
    have e1 : w1.lk a = some (od, ndO b ks vs) := (l.lk a ma).trans (if_pos rfl)
    have e2 : w1.dk a = some .n := (l.pre.dk a ma).trans q2
    refine ⟨lk_frzN W1 q1 e1 e2, un_le l hl, W1.wrL q1 ?_⟩
    rw [e2]
    exact .inl ⟨rfl, b, ks, vs, rfl, n, Reps.mono' (w := w) l.same ⟨l.pre.as, l.pre.dk⟩ _ _ r⟩
theorem pd_lockN {e : Expr} {t : DE} (i : Nat) (h : PD X e t) : PD X e (dLockEN i t) := by
  refine (pe_lock h).wk fun σ H Q ⟨w, env, st, kk, W, E, h, fo⟩ => ?_
  obtain ⟨j, rows, h1, h2, ok, h⟩ := lockAtN_in h
  obtain ⟨a, u, hH, mu, op⟩ := lock_openN W E h1 h2 ok
  refine ⟨a, u, hH, mu, fun od => ?_⟩
  obtain ⟨W', cl⟩ := op od
  refine ⟨w.lock a (some (od, u)), env, _, _, W', E.lock a _, h, fun d st' v w1 H1 k l W1 R1 => ?_⟩
  obtain ⟨c1, c2, c3⟩ := cl w1 st' H1 l W1
  exact ⟨c1, fo _ _ _ _ _ k c2 c3 (R1.lock a none)⟩
/-! ### what is walked -/
def valsN : List D → List D
  | _ :: d :: r => d :: valsN r
  | _ => []
/-- the values of the locked dict at d -/
def ItN (d : Addr) (o : Obj) (b : Addr) (ys : List NestedKey) (vs : List V) : It :=
  ⟨fun i H => H d = some (.frz o (ndO b ys vs)) ∧ 2 * i + 1 < vs.length, fun i H x H' => H' = H ∧ vs[2 * i + 1]? = some x, fun i H => H d = some (.frz o (ndO b ys vs)) ∧ vs.length ≤ 2 * i + 1⟩
theorem entN_at : ∀ {ys : List NestedKey} {us : List Value} {i : Nat}, us.length = 2 * ys.length → (entN ys us).length = ys.length ∧ ∀ e, (entN ys us)[i]? = some e → us[2 * i + 1]? = some e.val
  | [], us, i, h => ⟨by simp [entN], fun e z => by simp [entN] at z⟩
  | y :: ys, [], i, h => by simp at h
  | y :: ys, [_], i, h => by simp only [List.length_cons, List.length_nil] at h; omega
  | y :: ys, k :: u :: us, i, h => by
    have h' : us.length = 2 * ys.length := by simp only [List.length_cons] at h; omega
    refine ⟨by simp only [entN, List.length_cons, (entN_at (i := 0) h').1], fun e z => ?_⟩
    simp only [entN] at z
    cases i with
    | zero =>
      simp at z
      subst z
      rfl
    | succ i =>
      rw [List.getElem?_cons_succ] at z
      have := (entN_at (i := i) h').2 e z
      rw [show 2 * (i + 1) + 1 = (2 * i + 1) + 1 + 1 from by omega, List.getElem?_cons_succ, List.getElem?_cons_succ]
      exact this
theorem Inv.frzN {pins : List (Addr × Obj)} {σ : L2.St} {H : Hp} {s : Shared} {d b : Addr} {o : Obj} {ys : List NestedKey} {vs : List V} (I : Inv X pins σ H s) (hl : vs.length = 2 * ys.length) (h : H d = some (.frz o (ndO b ys vs))) :
    (d == sysModules) = false ∧ s.heap.get? d = some o ∧ o.ExactDict ∧ ∃ es ep us, o.data = .dict es ep ∧ Vals vs us ∧ s.heap.DictRaw d es ep ∧ 2 * es.size = vs.length ∧ ∀ (i : Nat) (hi : i < es.size), us[2 * i + 1]? = some es[i].val := by
  obtain ⟨hd, z⟩ := I.hok d _ h
  obtain ⟨us, rv, ⟨o', es, ep, ho, hx, hdt, he⟩, hs, _, _⟩ := nd_at z
  rw [hd] at ho
  cases ho
  have lu : us.length = 2 * ys.length := by rw [← rv.length]; exact hl
  have le : es.size = ys.length := by
    rw [← Array.length_toList, he]
    exact (entN_at (i := 0) lu).1
  refine ⟨hs, hd, hx, es, ep, us, hdt, rv, ⟨o, hd, hx, hdt⟩, by omega, fun i hi => ?_⟩
  refine (entN_at (i := i) lu).2 _ ?_
  rw [← he, Array.getElem?_toList, Array.getElem?_eq_getElem hi]
theorem turn_valsN {P : Program} {w : World} {K : PySem.W.Frag} {tg : Expr} {d b : Addr} {o : Obj} {es : Array DictEntry} {ep n : Nat} {ys : List NestedKey} {vs : List V} (it : Addr) (hod : o.data = .dict es ep) (hl : vs.length = 2 * ys.length) (hn : es.size = n) :
    Turn P w K tg (ItN d o b ys vs) [it] it (fun i h => h.IsValIter it d i n ep) where
  mem := by simp
  obj := fun i h st b hb => by
    have e : b = it := by simpa using hb
    subst e
    obtain ⟨oi, e, c, dd⟩ := st
    exact ⟨oi, e, fun v z => by rw [dd] at z; cases z⟩
  keep := fun i h h' st k => st.at fun oi e => k it (by simp) oi e
  item := by
    intro X hP hw hK hc i pins s σ H E I hf st hg
    subst hP hw hK
    obtain ⟨hd, hi⟩ := hg
    obtain ⟨f0, f1, f2, f3, f4, f5⟩ := hf it (by simp)
    obtain ⟨hs, hgd, hx, es', ep', us, hdt, rv, hm, hsz, ha⟩ := Inv.frzN I hl hd
    obtain ⟨rfl, rfl⟩ := dict_ep hod hdt
    subst hn
    have hlt : i < es'.size := by omega
    obtain ⟨v, hv⟩ : ∃ v, vs[2 * i + 1]? = some v := ⟨vs[2 * i + 1], List.getElem?_eq_getElem hi⟩
    obtain ⟨u, hu, ru⟩ := paired_get rv hv
    rw [ha i hlt] at hu
    cases hu
    refine wpAny_pyNext_values_item_raw st hm hlt fun h' st' sb => ?_
    have I1 : Inv X pins σ H { s with heap := h' } := I.turned (t' := s.toks) (fun b ob hb e => (sb.2 b hb).trans e) f0 f1 f3 f4 f5
    obtain ⟨oi, e, c, dd⟩ := id st'
    exact ⟨_, rfl, go_of (s := { s with heap := h' }) e c dd (by decide) ⟨v, H, I1, ru, ⟨rfl, hv⟩, st', fun b hb => (hf b hb).1⟩⟩
  done := by
    intro X hP hw hK hc i pins s σ H E I hf st hg
    subst hP hw hK
    obtain ⟨hd, hi⟩ := hg
    obtain ⟨f0, f1, f2, f3, f4, f5⟩ := hf it (by simp)
    obtain ⟨hs, hgd, hx, es', ep', us, hdt, rv, hm, hsz, ha⟩ := Inv.frzN I hl hd
    obtain ⟨rfl, rfl⟩ := dict_ep hod hdt
    subst hn
    exact wpAny_pyNext_values_end_raw (I.ok.hd hc) st hm (by omega) fun h' eb => ⟨rfl, I.turned (t' := s.toks) (fun b ob hb e => eb b ob hb e) f0 f1 f3 f4 f5⟩
  self := fun A i s Q E st h => wpAny_pyIter_valiter st h
def iValsN (td : TE) : TI := fun σ H R => td σ H fun x H1 => ∃ d o b ys vs, x = .ref d ∧ H1 d = some (.frz o (ndO b ys vs)) ∧ vs.length = 2 * ys.length ∧ R (ItN d o b ys vs) H1
theorem pi_valuesN {tg e : Expr} {td : TE} {apos cpos : Pos} (he : PE X e td) (hbase : attributeBase e "values" X.env (eval e X.env) = eval e X.env := by rfl) (hline : (apos.endLine == cpos.line) = true := by rfl) : PI X tg (.Call (.Attribute e "values" apos) [] [] cpos) (iValsN td) := by
  refine ⟨fun pins s σ H R I h => ?_⟩
  refine wpAny_Call_method (T := "dict") (id := "dict.values") hbase rfl hline F.plainAttrs_dict F.slot_dict_values F.type_dict_values (thn (he.run pins s σ H _ I h) fun u s1 ⟨x, H1, I1, rx, d, o, b, ys, vs, ex, hd, hl, q⟩ => ?_)
  subst ex
  obtain rfl : u = Value.ref d := rx
  obtain ⟨hs, hgd, hx, es, ep, us, hdt, rv, hm, hsz, _⟩ := Inv.frzN I1 hl hd
  refine ⟨⟨o, hgd, hx.1⟩, fun b e => by cases e; exact ⟨o, hgd, hx.2.1⟩, ?_⟩
  have I2 : Inv X pins σ H1 { s1 with heap := s1.heap.push { cls := .type "dict_values", data := .fields #[.ref d] } } := I1.kept (t' := s1.toks) fun b ob q => Heap.get?_push_of_some _ q
  have fin : wpAny (model X.prog X.w) X.A (pyIter (.ref s1.heap.objs.size)) (PIE X pins σ tg R) X.xe { s1 with heap := s1.heap.push { cls := .type "dict_values", data := .fields #[.ref d] } } := by
    refine wpAny_pyIter_values_raw (d := d) ⟨_, Heap.get?_push_size _ rfl, rfl, rfl⟩ (hm.push _) (pi_one (tk := s1.toks) I2 _ (turn_valsN _ hdt hl rfl) ⟨_, Heap.get?_push_size _ rfl, rfl, ?_⟩ q)
    rfl
  show wpAny _ _ (callWith cpos (.builtin "dict.values") [.ref d] [] []) _ X.xe s1
  exact method_meetsIn F.slot_dict_values F.entry_dict_values rfl (PySem.evalArgs_none ⟨rfl, ⟨o, hgd, hx.1⟩, F.args_dict_values_1 _, _, meets_dict_values_raw d hs, ⟨es, ep, hm⟩, fin⟩)
/-! ### .. over data -/
theorem nks_len : ∀ (n : Nat) {rows : List D} {ys : List NestedKey}, rows.length = n → nks rows = some ys → rows.length = 2 * ys.length := by
  intro n
  induction n using Nat.strongRecOn with
  | ind n ih =>
    intro rows ys e h
    match rows, e, h with
    | [], _, h => cases h; rfl
    | [_], _, h => cases h
    | a :: b :: r, e, h =>
      obtain ⟨y, ys', rfl, _, h2⟩ := nks_cons h
      have := ih r.length (by simp only [List.length_cons] at e; omega) rfl h2
      simp only [List.length_cons]
      omega
theorem valsN_at : ∀ (i : Nat) {rows : List D}, (valsN rows)[i]? = if 2 * i + 1 < rows.length then rows[2 * i + 1]? else none
  | i, [] => by simp [valsN]
  | i, [_] => by simp [valsN]
  | 0, a :: b :: r => by simp [valsN]
  | i + 1, a :: b :: r => by
    rw [show valsN (a :: b :: r) = b :: valsN r from rfl, List.getElem?_cons_succ, valsN_at i, show 2 * (i + 1) + 1 = 2 * i + 1 + 1 + 1 from by omega, List.getElem?_cons_succ, List.getElem?_cons_succ]
    simp only [List.length_cons]
    by_cases h : 2 * i + 1 < r.length
    · rw [if_pos h, if_pos (by omega)]
    · rw [if_neg h, if_neg (by omega)]
theorem valsN_len (n : Nat) : ∀ {rows : List D}, rows.length = n → 2 * (valsN rows).length ≤ rows.length ∧ rows.length ≤ 2 * (valsN rows).length + 1 := by
  induction n using Nat.strongRecOn with
  | ind n ih =>
    intro rows e
    match rows, e with
    | [], _ => exact ⟨Nat.le_refl _, Nat.zero_le _⟩
    | [_], _ => exact ⟨by simp [valsN], by simp [valsN]⟩
    | a :: b :: r, e =>
      obtain ⟨h1, h2⟩ := ih r.length (by simp only [List.length_cons] at e; omega) (rows := r) rfl
      simp only [valsN, List.length_cons]
      omega
theorem wk_valsN {K : PySem.W.Frag} {w : Wd} {j : Nat} {a b : Addr} {ob : Obj} {ys : List NestedKey} {vs : List V} {rows : List D} (ha : w.as[j]? = some a) (hL : w.lk a = some (ob, ndO b ys vs)) (hk : w.dk a = some .n) (hl : rows.length = 2 * ys.length) (r : Reps K w rows vs) : DWk K (ItN a ob b ys vs) w (valsN rows) [] where
  goes := fun i w1 st1 H1 hi l W1 _ => ⟨lk_frzN W1 (as_get l.pre ha) ((l.lk a (List.mem_of_getElem? ha)).trans hL) ((l.pre.dk a (List.mem_of_getElem? ha)).trans hk), by
    have := r.length
    have := (valsN_len _ (rows := rows) rfl).1
    omega⟩
  stops := fun w1 st1 H1 l W1 _ => ⟨lk_frzN W1 (as_get l.pre ha) ((l.lk a (List.mem_of_getElem? ha)).trans hL) ((l.pre.dk a (List.mem_of_getElem? ha)).trans hk), by
    have := r.length
    have := (valsN_len _ (rows := rows) rfl).2
    omega⟩
  yields := fun i w1 st1 H1 v H2 hi l W1 _ y => by
    obtain ⟨rfl, h1⟩ := y
    obtain ⟨d, e1, r1⟩ := Reps.getv (Reps.mono' l.same l.pre _ _ r) h1
    refine ⟨w1, d, .refl _, W1, ?_, r1⟩
    rw [valsN_at, if_pos (List.getElem?_eq_some_iff.mp e1).1, e1]
def lockedN (xs : List D) (p : List D → Prop) : Prop := ∃ rows, xs = rows ++ [lockD] ∧ rows.length % 2 = 0 ∧ p rows
def dWalkN (f : List D → List D) (i : Nat) : DI := fun env st kk => match env[i]? with
  | some (some (.dic .n j)) => match st[j]? with
    | some xs => lockedN xs fun rows => kk (f rows) [] st
    | none => False
  | _ => False
theorem walkN_in {K : PySem.W.Frag} {w : Wd} {env : DL.Env} {st : Sto} {σ : L2.St} {H : Hp} {kk : DIk} {f : List D → List D} {i : Nat} (W : Wld K w st H) (E : EnvR K w env σ) (h : dWalkN f i env st kk) :
    ∃ j a ob b ys vs rows, env[i]? = some (some (.dic .n j)) ∧ σ[i]? = some (some (.ref a)) ∧ w.as[j]? = some a ∧ w.lk a = some (ob, ndO b ys vs) ∧ w.dk a = some .n ∧ rows.length = 2 * ys.length ∧ Reps K w rows vs ∧ H a = some (.frz ob (ndO b ys vs)) ∧ kk (f rows) [] st := by
  unfold dWalkN at h
  split at h
  · rename_i j e
    split at h
    · rename_i xs e2
      obtain ⟨rows, rfl, ok, h⟩ := h
      obtain ⟨v, hv, R⟩ := E.2 i _ e
      simp only [Rep] at R
      obtain ⟨a, rfl, q, q2, _⟩ := R
      obtain ⟨g, ys, o, k1, k2, k3⟩ := W.at_ j a q
      rw [e2] at k1
      cases k1
      rw [q2] at k3
      rcases k3 with ⟨_, b, ys, vs, rfl, n, r⟩ | ⟨z, _⟩ | ⟨_, rows', ob, b, ys, vs, e3, e4, rfl, n, r⟩
      · exfalso
        have := nks_len _ rfl n
        rw [List.length_append, List.length_singleton] at this
        omega
      · cases z
      · have : rows = rows' := List.append_cancel_right e4
        subst this
        exact ⟨j, a, ob, b, ys, vs, rows, e, hv, q, e3, q2, nks_len _ rfl n, r, k2, h⟩
    · exact h.elim
  · exact h.elim
theorem pdi_valuesN (i : Nat) {tg : Expr} {x : Str} {pos apos cpos : Pos} (hN : X.N[i]? = some x := by rfl) (hv : Vis X.env.scope x := by first | exact Or.inl rfl | exact Or.inr (Or.inl rfl) | exact Or.inr (Or.inr rfl)) (hd : (x == ("__debug__" : Str)) = false := by decide)
    (hcd : (x == ("__classdict__" : Str)) = false := by decide) (hbase : attributeBase (.Name x pos) "values" X.env (eval (.Name x pos) X.env) = eval (.Name x pos) X.env := by rfl) (hline : (apos.endLine == cpos.line) = true := by rfl) :
    PDI X tg (.Call (.Attribute (.Name x pos) "values" apos) [] [] cpos) (dWalkN valsN i) := by
  refine (pi_valuesN (pe_var hN hv hd hcd) hbase hline).wk fun σ H R ⟨w, env, st, kk, W, E, h, fo⟩ => ?_
  obtain ⟨j, a, ob, b, ys, vs, rows, e, hs, q, hL, hk, hl, r, hH, h⟩ := walkN_in W E h
  exact ⟨_, hs, a, ob, b, ys, vs, rfl, hH, by have := r.length; omega, fo _ _ _ _ _ _ h (.refl _) W (wk_valsN q hL hk hl r)⟩
theorem dWalkN_of {f : List D → List D} {i j : Nat} {env : DL.Env} {st : Sto} {rows : List D} {kk : DIk} (h1 : env[i]? = some (some (.dic .n j))) (h2 : st[j]? = some (rows ++ [lockD])) (ok : rows.length % 2 = 0) (h : kk (f rows) [] st) : dWalkN f i env st kk := by
  unfold dWalkN
  rw [h1]
  simp only [h2]
  exact ⟨rows, rfl, ok, h⟩
end
end DL

namespace LW
open PySem PySem.Spec PyProof.Rows L2 DL
local macro_rules | `(tactic| walk_at "lw_dd0") => `(tactic| try simp only [BEq.rfl, ↓e_v0, ↓e_vs, ↓e_c, ↓e_op, ↓e_un, ↓e_test, ↓e_testK, ↓e_tru, ↓e_truL, ↓e_truT, ↓e_truB, ↓e_truI, ↓e_truN, ↓e_truS, ↓e_not, ↓e_or, ↓e_andv, ↓e_notv, ↓e_andK, ↓e_notK, ↓e_if, ↓e_nil, ↓e_cons, ↓e_tup, ↓e_lst, ↓e_new, ↓e_call, ↓e_callK, ↓e_drop, ↓e_ret, ↓e_pass, ↓e_ifS, ↓e_g0, ↓e_gs, ↓e_gnil, ↓e_gcons, ↓e_gtup, ↓e_asg, ↓e_par, ↓e_parK, ↓e_par3, ↓e_par3K, ↓e_no, ↓e_some, ↓e_someK, ↓e_cut, ↓e_b, ↓e_iter, ↓e_iterL, ↓e_iterT, ↓e_iterS, ↓e_rng1, ↓e_rng1K, ↓e_rng2, ↓e_rng2K, ↓e_rng3, ↓e_rng3K, ↓e_enum, ↓e_enumL, ↓e_enumT, ↓e_zip, ↓e_zipL, ↓e_zipT, ↓e_for, ↓e_lc, ↓e_meth, ↓e_isL, ↓e_sub, ↓e_aug, ↓e_augK, ↓e_isi, ↓e_yes, ↓e_addI, ↓e_addB, ↓e_addS, ↓e_addT, ↓e_addL, ↓e_subI, ↓e_mulI, ↓e_mulT, ↓e_mulL, ↓e_divI, ↓e_modI, ↓e_powI, ↓e_negI, ↓e_iadd, ↓e_cmpI, ↓e_eq, ↓e_ne, ↓e_isn, ↓e_isnn, ↓e_isb, ↓e_ixL, ↓e_ixKL, ↓e_ixT, ↓e_cutL, ↓e_cutKL, ↓e_cutT, ↓e_lenL, ↓e_lenKL, ↓e_lenT, ↓e_abs, ↓e_intI, ↓e_intB, ↓e_min2, ↓e_listNL, ↓e_listNT, ↓e_tupL, ↓e_tupT, ↓e_drI, ↓e_drB, ↓e_drS, ↓e_drN, ↓e_drL, ↓e_drT, ↓e_seq, ↓e_inFlat, ↓e_drK, ↓e_addBI, ↓e_subBI, ↓e_subIB, ↓e_drG, ↓e_dgetF, ↓e_cutS, ↓e_mulS, ↓e_iaddI, ↓e_pairs0, ↓e_pairs1, ↓e_dispN, ↓e_putN, e_kyI, e_kyS, Nat.reduceAdd, Nat.zero_add, List.length_cons, List.length_nil, List.length_map, Nat.reduceLeDiff, and_true, true_and, if_true, ite_true, decide_eq_true_eq, Bool.not_eq_true, Bool.false_eq_true, if_false, ite_false, ↓reduceIte, Int.reduceToNat, Int.reducePow, ne_eq, q_okI, q_okB, q_okN, q_okS, q_okL, q_okT, q_oks0, q_oks1, q_eqII, q_eqBB, q_eqSS, q_eqLL, q_eqTT, q_eqNN, q_eqNI, q_eqIN, q_eqs0, q_eqs1, Bool.true_and, Bool.and_true, beq_iff_eq, reduceCtorEq, wipeE, List.set_cons_zero, List.set_cons_succ, List.set_nil, Bool.not_true, Bool.not_false, List.getElem?_cons_zero, List.getElem?_cons_succ])
local macro_rules | `(tactic| walk_at "lw_dd") => `(tactic| try simp only [BEq.rfl, ↓e_v0, ↓e_vs, ↓e_c, ↓e_op, ↓e_un, ↓e_test, ↓e_testK, ↓e_tru, ↓e_truL, ↓e_truT, ↓e_truB, ↓e_truI, ↓e_truN, ↓e_truS, ↓e_not, ↓e_or, ↓e_andv, ↓e_notv, ↓e_andK, ↓e_notK, ↓e_if, ↓e_nil, ↓e_cons, ↓e_tup, ↓e_lst, ↓e_new, ↓e_call, ↓e_callK, ↓e_drop, ↓e_ret, ↓e_pass, ↓e_ifS, ↓e_g0, ↓e_gs, ↓e_gnil, ↓e_gcons, ↓e_gtup, ↓e_asg, ↓e_par, ↓e_parK, ↓e_par3, ↓e_par3K, ↓e_no, ↓e_some, ↓e_someK, ↓e_cut, ↓e_b, ↓e_iter, ↓e_iterL, ↓e_iterT, ↓e_iterS, ↓e_rng1, ↓e_rng1K, ↓e_rng2, ↓e_rng2K, ↓e_rng3, ↓e_rng3K, ↓e_enum, ↓e_enumL, ↓e_enumT, ↓e_zip, ↓e_zipL, ↓e_zipT, ↓e_for, ↓e_lc, ↓e_forN, ↓e_forC, ↓e_lcN, ↓e_lcC, ↓e_srcN, ↓e_srcC, ↓e_meth, ↓e_isL, ↓e_sub, ↓e_aug, ↓e_augK, ↓e_isi, ↓e_yes, ↓e_addI, ↓e_addB, ↓e_addS, ↓e_addT, ↓e_addL, ↓e_subI, ↓e_mulI, ↓e_mulT, ↓e_mulL, ↓e_divI, ↓e_modI, ↓e_powI, ↓e_negI, ↓e_iadd, ↓e_cmpI, ↓e_eq, ↓e_ne, ↓e_isn, ↓e_isnn, ↓e_isb, ↓e_ixL, ↓e_ixKL, ↓e_ixT, ↓e_cutL, ↓e_cutKL, ↓e_cutT, ↓e_lenL, ↓e_lenKL, ↓e_lenT, ↓e_abs, ↓e_intI, ↓e_intB, ↓e_min2, ↓e_listNL, ↓e_listNT, ↓e_tupL, ↓e_tupT, ↓e_drI, ↓e_drB, ↓e_drS, ↓e_drN, ↓e_drL, ↓e_drT, ↓e_seq, ↓e_inFlat, ↓e_drK, ↓e_addBI, ↓e_subBI, ↓e_subIB, ↓e_drG, ↓e_dgetF, ↓e_cutS, ↓e_mulS, ↓e_iaddI, ↓e_pairs0, ↓e_pairs1, ↓e_dispN, ↓e_putN, e_kyI, e_kyS, Nat.reduceAdd, Nat.zero_add, List.length_cons, List.length_nil, List.length_map, Nat.reduceLeDiff, and_true, true_and, if_true, ite_true, decide_eq_true_eq, Bool.not_eq_true, Bool.false_eq_true, if_false, ite_false, ↓reduceIte, Int.reduceToNat, Int.reducePow, ne_eq, q_okI, q_okB, q_okN, q_okS, q_okL, q_okT, q_oks0, q_oks1, q_eqII, q_eqBB, q_eqSS, q_eqLL, q_eqTT, q_eqNN, q_eqNI, q_eqIN, q_eqs0, q_eqs1, Bool.true_and, Bool.and_true, beq_iff_eq, reduceCtorEq, wipeE, List.set_cons_zero, List.set_cons_succ, List.set_nil, Bool.not_true, Bool.not_false, List.getElem?_cons_zero, List.getElem?_cons_succ])
def top (i : Nat) : Stmt := PySem.Challenge.pw_panfalls_k39_whole_least_words.main.body.getD i (.Pass ⟨0, 0, 0, 0⟩)
abbrev s_lighter : Stmt := top 3
abbrev N_lighter : List Str := ["standing"]
theorem sc_lighter : FnScope N_lighter ["standing"] (defScope s_lighter) := ⟨rfl, rfl, rfl, by decide +kernel, rfl, by decide +kernel, by decide +kernel⟩
abbrev s_laid_on : Stmt := top 4
abbrev N_laid_on : List Str := ["standing", "side", "weight"]
theorem sc_laid_on : FnScope N_laid_on ["standing", "side", "weight"] (defScope s_laid_on) := ⟨rfl, rfl, rfl, by decide +kernel, rfl, by decide +kernel, by decide +kernel⟩
abbrev s_fall : Stmt := top 5
abbrev N_fall : List Str := ["standing", "weight", "side"]
theorem sc_fall : FnScope N_fall ["standing", "weight"] (defScope s_fall) := ⟨rfl, rfl, rfl, by decide +kernel, rfl, by decide +kernel, by decide +kernel⟩
abbrev s_falls : Stmt := top 6
abbrev N_falls : List Str := ["standing", "word", "sides", "weight", "side"]
theorem sc_falls : FnScope N_falls ["standing", "word"] (defScope s_falls) := ⟨rfl, rfl, rfl, by decide +kernel, rfl, by decide +kernel, by decide +kernel⟩
abbrev s_spot_of : Stmt := top 8
abbrev N_spot_of : List Str := ["word", "size", "last"]
theorem sc_spot_of : FnScope N_spot_of ["word", "size"] (defScope s_spot_of) := ⟨rfl, rfl, rfl, by decide +kernel, rfl, by decide +kernel, by decide +kernel⟩
abbrev s_strip : Stmt := top 9
abbrev N_strip : List Str := ["word", "most", "size"]
theorem sc_strip : FnScope N_strip ["word", "most"] (defScope s_strip) := ⟨rfl, rfl, rfl, by decide +kernel, rfl, by decide +kernel, by decide +kernel⟩
abbrev s_strip_of : Stmt := top 10
abbrev N_strip_of : List Str := ["first", "second", "found", "size", "changed", "last", "again"]
theorem sc_strip_of : FnScope N_strip_of ["first", "second"] (defScope s_strip_of) := ⟨rfl, rfl, rfl, by decide +kernel, rfl, by decide +kernel, by decide +kernel⟩
abbrev s_least_word : Stmt := top 11
abbrev N_least_word : List Str := ["word", "most", "wanted", "steps", "weight", "bare", "waiting", "met", "at", "short", "here", "step", "made"]
theorem sc_least_word : FnScope N_least_word ["word", "most"] (defScope s_least_word) := ⟨rfl, rfl, rfl, by decide +kernel, rfl, by decide +kernel, by decide +kernel⟩
abbrev s__law_tape : Stmt := top 13
abbrev N__law_tape : List Str := ["_law_script", "_law_k", "_law_cell"]
theorem sc__law_tape : FnScope N__law_tape ["_law_script", "_law_k"] (defScope s__law_tape) := ⟨rfl, rfl, rfl, by decide +kernel, rfl, by decide +kernel, by decide +kernel⟩
abbrev s__law_draw : Stmt := top 14
abbrev N__law_draw : List Str := ["_law_tape_here", "_law_count", "_law_found", "_law_once", "_law_twice", "_law_wide"]
theorem sc__law_draw : FnScope N__law_draw ["_law_tape_here", "_law_count"] (defScope s__law_draw) := ⟨rfl, rfl, rfl, by decide +kernel, rfl, by decide +kernel, by decide +kernel⟩
abbrev s__law_folded : Stmt := top 15
abbrev N__law_folded : List Str := ["_law_script", "_law_count", "_law_cells", "_law_k", "_law_cell"]
theorem sc__law_folded : FnScope N__law_folded ["_law_script", "_law_count"] (defScope s__law_folded) := ⟨rfl, rfl, rfl, by decide +kernel, rfl, by decide +kernel, by decide +kernel⟩
abbrev s__law_same : Stmt := top 16
abbrev N__law_same : List Str := ["_law_found", "_law_due", "_law_mine", "_law_its"]
theorem sc__law_same : FnScope N__law_same ["_law_found", "_law_due"] (defScope s__law_same) := ⟨rfl, rfl, rfl, by decide +kernel, rfl, by decide +kernel, by decide +kernel⟩
abbrev s__law_weight : Stmt := top 17
abbrev N__law_weight : List Str := ["_law_tape_here", "_law_high"]
theorem sc__law_weight : FnScope N__law_weight ["_law_tape_here", "_law_high"] (defScope s__law_weight) := ⟨rfl, rfl, rfl, by decide +kernel, rfl, by decide +kernel, by decide +kernel⟩
abbrev s__law_word : Stmt := top 18
abbrev N__law_word : List Str := ["_law_tape_here", "_law_count", "_law_high", "_law_size", "_law_way", "_law_some", "_law_k"]
theorem sc__law_word : FnScope N__law_word ["_law_tape_here", "_law_count", "_law_high"] (defScope s__law_word) := ⟨rfl, rfl, rfl, by decide +kernel, rfl, by decide +kernel, by decide +kernel⟩
abbrev s__law_fallen : Stmt := top 19
abbrev N__law_fallen : List Str := ["_law_stood", "_law_grains", "_law_ways", "_law_weight_here"]
theorem sc__law_fallen : FnScope N__law_fallen ["_law_stood", "_law_grains"] (defScope s__law_fallen) := ⟨rfl, rfl, rfl, by decide +kernel, rfl, by decide +kernel, by decide +kernel⟩
abbrev s__law_strip : Stmt := top 20
abbrev N__law_strip : List Str := ["_law_row", "_law_high", "_law_found", "_law_size", "_law_last"]
theorem sc__law_strip : FnScope N__law_strip ["_law_row", "_law_high"] (defScope s__law_strip) := ⟨rfl, rfl, rfl, by decide +kernel, rfl, by decide +kernel, by decide +kernel⟩
abbrev s__law_then : Stmt := top 21
abbrev N__law_then : List Str := ["_law_here", "_law_step", "_law_found", "_law_size", "_law_changed", "_law_last", "_law_again"]
theorem sc__law_then : FnScope N__law_then ["_law_here", "_law_step"] (defScope s__law_then) := ⟨rfl, rfl, rfl, by decide +kernel, rfl, by decide +kernel, by decide +kernel⟩
abbrev s__law_firsts : Stmt := top 22
abbrev N__law_firsts : List Str := ["_law_high", "_law_steps", "_law_weight_here", "_law_bare", "_law_firsts_here", "_law_last", "_law_turn", "_law_fresh", "_law_here", "_law_step", "_law_made"]
theorem sc__law_firsts : FnScope N__law_firsts ["_law_high"] (defScope s__law_firsts) := ⟨rfl, rfl, rfl, by decide +kernel, rfl, by decide +kernel, by decide +kernel⟩
abbrev s_law : Stmt := top 23
abbrev N_law : List Str := ["_law_script", "_law_cells", "_law_k", "_law_tape_here", "_law_high", "_law_firsts_here", "_law_longest", "_law_row", "_law_turn", "_law_due"]
theorem sc_law : FnScope N_law ["_law_script"] (defScope s_law) := ⟨rfl, rfl, rfl, by decide +kernel, rfl, by decide +kernel, by decide +kernel⟩
/-! the steps of a reading -/
theorem mul2 (w : Int) : MulOk 2 w := .inl ⟨by decide, by decide⟩
theorem in4 {r : Int} (h0 : 0 ≤ r) (h1 : r < 4) : r = 0 ∨ r = 1 ∨ r = 2 ∨ r = 3 := by omega
theorem app_get {st : Sto} {xs : List D} : (st ++ [xs])[st.length]? = some xs := List.getElem?_concat_length ..
theorem app_set {st : Sto} {xs ys : List D} : (st ++ [xs]).set st.length ys = st ++ [ys] := by simp
theorem belows_str (n : Nat) : ∀ xs : List Str, belows n (xs.map D.str) = true
  | [] => rfl
  | x :: r => by simp only [List.map_cons, belows, below, Bool.true_and]; exact belows_str n r
theorem belows_int (n : Nat) : ∀ xs : List Int, belows n (xs.map D.int) = true
  | [] => rfl
  | x :: r => by simp only [List.map_cons, belows, below, Bool.true_and]; exact belows_int n r
theorem atI_last {α : Type} (xs : List α) (x : α) : atI (xs ++ [x]) (-1) = some x := by
  unfold atI ixN
  rw [if_neg (by decide), if_pos (by rw [List.length_append, List.length_singleton]; omega)]
  show (xs ++ [x])[_]? = some x
  have : (-1 + ((xs ++ [x]).length : Int)).toNat = xs.length := by
    rw [List.length_append, List.length_singleton]
    omega
  rw [this]
  simp
theorem mulr (a b : Int) (h : -(2 ^ 64) < b) (h' : b < 2 ^ 64) : MulOk a b := .inr (.inl ⟨h, h'⟩)
theorem mulc (a b : Int) (h : -(2 ^ 64) < a) (h' : a < 2 ^ 64) : MulOk a b := .inl ⟨h, h'⟩
theorem mulb (a : Int) (b : Prop) [Decidable b] : MulOk a (if b then 1 else 0) := .inr (.inl (by split <;> exact ⟨by decide, by decide⟩))
theorem ixN_of {n : Nat} {i : Int} (h0 : 0 ≤ i) (h1 : i < n) : ixN n i = some i.toNat := by
  unfold ixN
  rw [if_pos h0, if_pos h1]
theorem atI_at {α : Type} {xs : List α} {i : Int} (h0 : 0 ≤ i) (h1 : i < xs.length) : atI xs i = some (xs[i.toNat]'(by omega)) := by
  unfold atI
  rw [ixN_of h0 h1]
  show xs[i.toNat]? = _
  rw [List.getElem?_eq_getElem]
theorem cutD_map {α β : Type} (f : α → β) (xs : List α) (lo hi : Option Int) : DL.cutD (xs.map f) lo hi = (DL.cutD xs lo hi).map f := by
  unfold DL.cutD
  rw [List.length_map, List.map_take, List.map_drop]
theorem cutD_to {α : Type} (xs : List α) (m : Nat) : DL.cutD xs none (some (m : Int)) = xs.take m := by
  unfold DL.cutD
  rw [HT.sIx_nat, HT.sIx_none, List.drop_zero, Nat.sub_zero]
  by_cases h : m ≤ xs.length
  · rw [Nat.min_eq_left h]
  · rw [Nat.min_eq_right (by omega), List.take_length, List.take_of_length_le (by omega)]
theorem cutD_from {α : Type} (xs : List α) (m k : Nat) : DL.cutD xs (some (m : Int)) (some (k : Int)) = (xs.drop m).take (k - m) := by
  unfold DL.cutD
  rw [HT.sIx_nat, HT.sIx_nat]
  by_cases h : m ≤ xs.length
  · rw [Nat.min_eq_left h]
    by_cases h2 : k ≤ xs.length
    · rw [Nat.min_eq_left h2]
    · rw [Nat.min_eq_right (by omega), List.take_of_length_le (by rw [List.length_drop]; omega), List.take_of_length_le (by rw [List.length_drop]; omega)]
  · rw [Nat.min_eq_right (show xs.length ≤ m by omega), List.drop_length, List.drop_eq_nil_of_le (show xs.length ≤ m by omega)]
    simp
theorem blsD_rep : ∀ n : Nat, blsD (List.replicate n (.bl true)) = some (List.replicate n true)
  | 0 => rfl
  | n + 1 => by
    show (blsD (List.replicate n (.bl true))).map (true :: ·) = _
    rw [blsD_rep n]
    rfl
theorem all_rep (n : Nat) : (List.replicate n true).all id = true := by simp
theorem set_last (st : Sto) (a b : List D) : (st ++ [a]).set st.length b = st ++ [b] := by simp
theorem map_set_int (cs : List Int) (j : Nat) (v : Int) : (cs.map D.int).set j (.int v) = (cs.set j v).map D.int := by
  rw [List.map_set]
theorem at0 (a b c : D) : atI [a, b, c] 0 = some a := rfl
theorem at1 (a b c : D) : atI [a, b, c] 1 = some b := rfl
theorem at2 (a b c : D) : atI [a, b, c] 2 = some c := rfl
theorem pow5 {x : Int} (h0 : 0 ≤ x) (h1 : x < 18446744073709551616) : PowOk x 5 := ⟨by decide, by decide, by omega⟩
theorem ok_left : PyData.strOk ("left" : Str) = true := by decide +kernel
theorem ok_right : PyData.strOk ("right" : Str) = true := by decide +kernel
theorem ok_side {x : Str} (h : x = "left" ∨ x = "right") : PyData.strOk x = true := by
  rcases h with rfl | rfl
  · exact ok_left
  · exact ok_right
def Big (m : Int) : Prop := 1 ≤ m ∧ m < 1000000000000000000000000
theorem Big.div {m : Int} (h : Big m) : DivOk m := ⟨by have := h.1; omega, by
  have h2 : m.natAbs < 2 ^ 80 := by have := h.1; have := h.2; omega
  exact Nat.lt_of_lt_of_le (PySem.Flt.log2_lt_of (by decide) h2) (by decide)⟩
theorem div_small {m : Int} (h : 0 < m) (h' : m < 4611686018427387904) : DivOk m := ⟨h, by
  have h2 : m.natAbs < 2 ^ 62 := by omega
  exact Nat.lt_of_lt_of_le (PySem.Flt.log2_lt_of (by decide) h2) (by decide)⟩
theorem dv2 : DivOk 2 := ⟨by decide, by decide⟩
theorem p0 (a b : D) : atI [a, b] 0 = some a := rfl
theorem p1 (a b : D) : atI [a, b] 1 = some b := rfl
/-- a word that isn't bare, its greatest weight, its runs -/
structure WT (ws : List Int) (m : Int) (rest : List (Int × Int)) : Prop where
  ok : WOk m ws
  runs : RunsTo ws m rest
  small : ws.sum < 1000000000000
  len : ws.length ≤ 1000
theorem WT.pos {ws : List Int} {m : Int} {rest : List (Int × Int)} (h : WT ws m rest) : 0 < ws.sum := by
  have := sum_pos h.ok
  have := h.ok.one
  omega
theorem WT.ne {ws : List Int} {m : Int} {rest : List (Int × Int)} (h : WT ws m rest) : 0 < ws.length := h.ok.1.pos
theorem sum_le (b : Int) : ∀ (ws : List Int), (∀ w ∈ ws, w ≤ b) → ws.sum ≤ b * ws.length
  | [], _ => by simp
  | w :: r, h => by
    have a := sum_le b r fun x hx => h x (List.mem_cons_of_mem _ hx)
    have c := h w List.mem_cons_self
    rw [List.sum_cons, List.length_cons, Int.natCast_succ, Int.mul_add, Int.mul_one]
    omega
theorem wt_ex {ws : List Int} (hne : ws ≠ []) (h : ∀ w ∈ ws, 1 ≤ w ∧ w ≤ 1000) (hl : ws.length ≤ 1000) : ∃ m rest, WT ws m rest ∧ m ≤ 1000 ∧ (rest.length : Int) ≤ m - 1 := by
  obtain ⟨m, hm⟩ := max_ex ws hne
  have ok : WOk m ws := ⟨hm, fun w hw => (h w hw).1⟩
  have m1 : m ≤ 1000 := (h m hm.1).2
  obtain ⟨rest, h1, h2, _⟩ := runs_ex ok m1
  have s := sum_le 1000 ws fun w hw => (h w hw).2
  exact ⟨m, rest, ⟨ok, h1, by omega, hl⟩, m1, h2⟩
theorem Big.s {m : Int} (h : 1 ≤ m) (h' : m < 1000000000000) : Big m := ⟨h, by omega⟩
/-- a row of grains -/
structure Row (ws : List Int) (c h : Int) : Prop where
  ne : ws ≠ []
  len : (ws.length : Int) ≤ c
  all : ∀ w ∈ ws, 1 ≤ w ∧ w ≤ h
theorem Row.wt {ws : List Int} {c h : Int} (r : Row ws c h) (hc : c ≤ 1000) (hh : h ≤ 1000) : ∃ m rest, WT ws m rest ∧ m ≤ h ∧ (rest.length : Int) ≤ m - 1 := by
  obtain ⟨m, rest, W, _, h2⟩ := wt_ex r.ne (fun w hw => ⟨(r.all w hw).1, by have := (r.all w hw).2; omega⟩) (by have := r.len; omega)
  exact ⟨m, rest, W, (r.all m W.ok.1.1).2, h2⟩
theorem natOf_range (n : Nat) : rangeD 0 n = (List.range n).map fun i => D.int (i : Nat) := by
  unfold rangeD
  refine List.map_congr_left fun x _ => ?_
  rw [Int.zero_add]
theorem eqDs_nil (xs : List Int) : eqDs (xs.map D.int) [] = decide (xs = []) := by
  cases xs <;> simp [eqDs]
theorem rng_odd {m : Int} (h : 1 ≤ m) (h' : m < 1000000) : RgC 1 (2 * m) 2 m.toNat := by
  have hs : Builtin.Range.rangeSize 1 (2 * m) 2 = (m.toNat : Int) := by
    unfold Builtin.Range.rangeSize
    rw [if_pos (by decide), if_pos (by omega)]
    omega
  refine ⟨by decide, by decide, ?_, hs⟩
  unfold Builtin.Range.small Builtin.Range.rangeFitsLong
  rw [hs]
  simp only [Bool.and_eq_true, decide_eq_true_eq]
  refine ⟨by omega, ?_⟩
  rw [if_pos (by decide)]
  simp only [Bool.or_eq_true, Bool.and_eq_true, decide_eq_true_eq]
  right
  omega
def t_lighter : DS :=
    (dRet (dIf (dTest (dOp (cmpI fun i j => decide (i < j)) (dVar 0) (dC (.int 0)))) (dC (.str "left")) (dC (.str "right"))))
theorem st_lighter (a0 : D) : startD N_lighter [a0] = [some a0] := rfl
def sp_lighter : SpD := fun ds st kk => ∃ s : Int, ds = [.int s] ∧ kk (.str (sd s)) st
theorem len_lighter (ds : List D) (st : Sto) (kk : DK) (h : sp_lighter ds st kk) : ds.length = 1 := by
  obtain ⟨s, rfl, _⟩ := h
  rfl
theorem p_lighter : BodyD false N_lighter sp_lighter t_lighter := by
  rintro ds st kk ⟨s, rfl, h⟩
  rw [st_lighter]
  simp only [t_lighter]
  (walk_at "lw_dd")
  unfold sd at h
  split <;> simp_all
def t_laid_on : DS :=
    (dRet (dIf (dTest (dOp (eqOp false) (dVar 1) (dC (.str "left")))) (dOp addD (dVar 0) (dOp mulD (dC (.int 2)) (dVar 2))) (dOp subD (dVar 0) (dOp mulD (dC (.int 2)) (dVar 2)))))
theorem st_laid_on (a0 a1 a2 : D) : startD N_laid_on [a0, a1, a2] = [some a0, some a1, some a2] := rfl
def sp_laid_on : SpD := fun ds st kk => ∃ (s w : Int) (x : Str), ds = [.int s, .str x, .int w] ∧ (x = "left" ∨ x = "right") ∧ kk (.int (if x = "left" then s + 2 * w else s - 2 * w)) st
theorem len_laid_on (ds : List D) (st : Sto) (kk : DK) (h : sp_laid_on ds st kk) : ds.length = 3 := by
  obtain ⟨s, w, x, rfl, _⟩ := h
  rfl
theorem p_laid_on : BodyD false N_laid_on sp_laid_on t_laid_on := by
  rintro ds st kk ⟨s, w, x, rfl, hx, h⟩
  rw [st_laid_on]
  simp only [t_laid_on]
  (walk_at "lw_dd")
  simp only [okD, ok_side hx, ok_left, eqD, true_and, beq_iff_eq, mul2]
  split at h <;> simp_all
def t_fall : DS :=
    (dSeq (dAsg (dCall sp_lighter (dCons (dVar 0) dNil)) (dgName 2))
    (dRet (dTup (dCons (dVar 2) (dCons (dCall sp_laid_on (dCons (dVar 0) (dCons (dVar 2) (dCons (dVar 1) dNil)))) dNil)))))
theorem st_fall (a0 a1 : D) : startD N_fall [a0, a1] = [some a0, some a1, none] := rfl
def sp_fall : SpD := fun ds st kk => ∃ s w : Int, ds = [.int s, .int w] ∧ kk (.tup [.str (sd s), .int (fallI s w)]) st
theorem len_fall (ds : List D) (st : Sto) (kk : DK) (h : sp_fall ds st kk) : ds.length = 2 := by
  obtain ⟨s, w, rfl, _⟩ := h
  rfl
theorem p_fall : BodyD false N_fall sp_fall t_fall := by
  rintro ds st kk ⟨s, w, rfl, h⟩
  rw [st_fall]
  simp only [t_fall]
  (walk_at "lw_dd")
  refine ⟨s, rfl, s, w, sd s, rfl, sd_lr s, ?_⟩
  rw [sd_fall]
  exact h
def b1_falls : DS :=
    (dSeq (dAsg (dCall sp_fall (dCons (dVar 0) (dCons (dVar 3) dNil))) (dgTup 2 (dgCons (dgName 4) (dgCons (dgName 0) dgNil))))
    (dDrop (dMeth mAppend (dVar 2) (dCons (dVar 4) dNil))))
def t_falls : DS :=
    (dSeq (dAsg (dNew dNil) (dgName 2))
    (dSeq (dFor (dIter (dVar 1)) (dgName 3) (b1_falls))
    (dRet (dTup (dCons (dVar 2) (dCons (dVar 0) dNil))))))
theorem st_falls (a0 a1 : D) : startD N_falls [a0, a1] = [some a0, some a1, none, none, none] := rfl
theorem falls_loop (rt : DK) (a1 : D) (st : Sto) (kk : DL.Env → Sto → Prop) : ∀ (ws : List Int) (s : Int) (dn : List D) (v3 v4 : Option D),
    (∀ u3 u4, kk [some (.int (flast s ws)), some a1, some (.obj st.length), u3, u4] (st ++ [dn ++ (fsides s ws).map D.str])) → dn.length + ws.length ≤ 16777216 →
    goFor [] (dgName 3) b1_falls ⟨kk, rt⟩ (ws.map D.int) [some (.int s), some a1, some (.obj st.length), v3, v4] (st ++ [dn])
  | [], s, dn, v3, v4, h, _ => by
    refine ⟨trivial, ?_⟩
    have := h v3 v4
    simp only [fsides, List.map_nil, List.append_nil, flast] at this
    exact this
  | w :: r, s, dn, v3, v4, h, hl => by
    refine ⟨trivial, ?_⟩
    simp only [b1_falls]
    (try simp only [BEq.rfl, ↓e_v0, ↓e_vs, ↓e_c, ↓e_op, ↓e_un, ↓e_test, ↓e_testK, ↓e_tru, ↓e_truL, ↓e_truT, ↓e_truB, ↓e_truI, ↓e_truN, ↓e_truS, ↓e_not, ↓e_or, ↓e_andv, ↓e_notv, ↓e_andK, ↓e_notK, ↓e_if, ↓e_nil, ↓e_cons, ↓e_tup, ↓e_lst, ↓e_new, ↓e_call, ↓e_callK, ↓e_drop, ↓e_ret, ↓e_pass, ↓e_ifS, ↓e_g0, ↓e_gs, ↓e_gnil, ↓e_gcons, ↓e_gtup, ↓e_asg, ↓e_par, ↓e_parK, ↓e_par3, ↓e_par3K, ↓e_no, ↓e_some, ↓e_someK, ↓e_cut, ↓e_b, ↓e_iter, ↓e_iterL, ↓e_iterT, ↓e_iterS, ↓e_rng1, ↓e_rng1K, ↓e_rng2, ↓e_rng2K, ↓e_rng3, ↓e_rng3K, ↓e_enum, ↓e_enumL, ↓e_enumT, ↓e_zip, ↓e_zipL, ↓e_zipT, ↓e_for, ↓e_lc, ↓e_forN, ↓e_forC, ↓e_lcN, ↓e_lcC, ↓e_srcN, ↓e_srcC, ↓e_meth, ↓e_isL, ↓e_sub, ↓e_aug, ↓e_augK, ↓e_isi, ↓e_yes, ↓e_addI, ↓e_addB, ↓e_addS, ↓e_addT, ↓e_addL, ↓e_subI, ↓e_mulI, ↓e_mulT, ↓e_mulL, ↓e_divI, ↓e_modI, ↓e_powI, ↓e_negI, ↓e_iadd, ↓e_cmpI, ↓e_eq, ↓e_ne, ↓e_isn, ↓e_isnn, ↓e_isb, ↓e_ixL, ↓e_ixKL, ↓e_ixT, ↓e_cutL, ↓e_cutKL, ↓e_cutT, ↓e_lenL, ↓e_lenKL, ↓e_lenT, ↓e_abs, ↓e_intI, ↓e_intB, ↓e_min2, ↓e_listNL, ↓e_listNT, ↓e_tupL, ↓e_tupT, ↓e_drI, ↓e_drB, ↓e_drS, ↓e_drN, ↓e_drL, ↓e_drT, ↓e_seq, ↓e_inFlat, ↓e_drK, ↓e_addBI, ↓e_subBI, ↓e_subIB, ↓e_drG, ↓e_dgetF, ↓e_cutS, ↓e_mulS, ↓e_iaddI, ↓e_pairs0, ↓e_pairs1, ↓e_dispN, ↓e_putN, e_kyI, e_kyS, Nat.reduceAdd, Nat.zero_add, List.length_cons, List.length_nil, List.length_map, Nat.reduceLeDiff, and_true, true_and, if_true, ite_true, decide_eq_true_eq, Bool.not_eq_true, Bool.false_eq_true, if_false, ite_false, ↓reduceIte, Int.reduceToNat, Int.reducePow, ne_eq, q_okI, q_okB, q_okN, q_okS, q_okL, q_okT, q_oks0, q_oks1, q_eqII, q_eqBB, q_eqSS, q_eqLL, q_eqTT, q_eqNN, q_eqNI, q_eqIN, q_eqs0, q_eqs1, Bool.true_and, Bool.and_true, beq_iff_eq, reduceCtorEq, wipeE, List.set_cons_zero, List.set_cons_succ, List.set_nil, Bool.not_true, Bool.not_false, List.getElem?_cons_zero, List.getElem?_cons_succ, e_isO (List.getElem?_concat_length ..), e_app (List.getElem?_concat_length ..)])
    refine ⟨s, w, rfl, ?_⟩
    (try simp only [BEq.rfl, ↓e_v0, ↓e_vs, ↓e_c, ↓e_op, ↓e_un, ↓e_test, ↓e_testK, ↓e_tru, ↓e_truL, ↓e_truT, ↓e_truB, ↓e_truI, ↓e_truN, ↓e_truS, ↓e_not, ↓e_or, ↓e_andv, ↓e_notv, ↓e_andK, ↓e_notK, ↓e_if, ↓e_nil, ↓e_cons, ↓e_tup, ↓e_lst, ↓e_new, ↓e_call, ↓e_callK, ↓e_drop, ↓e_ret, ↓e_pass, ↓e_ifS, ↓e_g0, ↓e_gs, ↓e_gnil, ↓e_gcons, ↓e_gtup, ↓e_asg, ↓e_par, ↓e_parK, ↓e_par3, ↓e_par3K, ↓e_no, ↓e_some, ↓e_someK, ↓e_cut, ↓e_b, ↓e_iter, ↓e_iterL, ↓e_iterT, ↓e_iterS, ↓e_rng1, ↓e_rng1K, ↓e_rng2, ↓e_rng2K, ↓e_rng3, ↓e_rng3K, ↓e_enum, ↓e_enumL, ↓e_enumT, ↓e_zip, ↓e_zipL, ↓e_zipT, ↓e_for, ↓e_lc, ↓e_forN, ↓e_forC, ↓e_lcN, ↓e_lcC, ↓e_srcN, ↓e_srcC, ↓e_meth, ↓e_isL, ↓e_sub, ↓e_aug, ↓e_augK, ↓e_isi, ↓e_yes, ↓e_addI, ↓e_addB, ↓e_addS, ↓e_addT, ↓e_addL, ↓e_subI, ↓e_mulI, ↓e_mulT, ↓e_mulL, ↓e_divI, ↓e_modI, ↓e_powI, ↓e_negI, ↓e_iadd, ↓e_cmpI, ↓e_eq, ↓e_ne, ↓e_isn, ↓e_isnn, ↓e_isb, ↓e_ixL, ↓e_ixKL, ↓e_ixT, ↓e_cutL, ↓e_cutKL, ↓e_cutT, ↓e_lenL, ↓e_lenKL, ↓e_lenT, ↓e_abs, ↓e_intI, ↓e_intB, ↓e_min2, ↓e_listNL, ↓e_listNT, ↓e_tupL, ↓e_tupT, ↓e_drI, ↓e_drB, ↓e_drS, ↓e_drN, ↓e_drL, ↓e_drT, ↓e_seq, ↓e_inFlat, ↓e_drK, ↓e_addBI, ↓e_subBI, ↓e_subIB, ↓e_drG, ↓e_dgetF, ↓e_cutS, ↓e_mulS, ↓e_iaddI, ↓e_pairs0, ↓e_pairs1, ↓e_dispN, ↓e_putN, e_kyI, e_kyS, Nat.reduceAdd, Nat.zero_add, List.length_cons, List.length_nil, List.length_map, Nat.reduceLeDiff, and_true, true_and, if_true, ite_true, decide_eq_true_eq, Bool.not_eq_true, Bool.false_eq_true, if_false, ite_false, ↓reduceIte, Int.reduceToNat, Int.reducePow, ne_eq, q_okI, q_okB, q_okN, q_okS, q_okL, q_okT, q_oks0, q_oks1, q_eqII, q_eqBB, q_eqSS, q_eqLL, q_eqTT, q_eqNN, q_eqNI, q_eqIN, q_eqs0, q_eqs1, Bool.true_and, Bool.and_true, beq_iff_eq, reduceCtorEq, wipeE, List.set_cons_zero, List.set_cons_succ, List.set_nil, Bool.not_true, Bool.not_false, List.getElem?_cons_zero, List.getElem?_cons_succ, e_isO (List.getElem?_concat_length ..), e_app (List.getElem?_concat_length ..)])
    simp only [List.length_cons] at hl
    refine ⟨by omega, ?_⟩
    have e : (st ++ [dn]).set st.length (dn ++ [D.str (sd s)]) = st ++ [dn ++ [D.str (sd s)]] := by simp
    rw [e]
    refine falls_loop rt a1 st kk r (fallI s w) (dn ++ [D.str (sd s)]) _ _ (fun u3 u4 => ?_) (by simp; omega)
    have := h u3 u4
    simp only [fsides, List.map_cons, flast] at this
    simpa using this
def sp_falls : SpD := fun ds st kk => ∃ (s : Int) (ws : List Int), ds = [.int s, .tup (ws.map D.int)] ∧ kk (.tup [.lst ((fsides s ws).map D.str), .int (flast s ws)]) st
theorem len_falls (ds : List D) (st : Sto) (kk : DK) (h : sp_falls ds st kk) : ds.length = 2 := by
  obtain ⟨s, ws, rfl, _⟩ := h
  rfl
theorem p_falls : BodyD true N_falls sp_falls t_falls := by
  rintro ds st kk ⟨s, ws, rfl, h⟩
  rw [st_falls]
  simp only [t_falls]
  (walk_at "lw_dd")
  refine fun hl => ?_
  refine falls_loop _ _ st _ ws s [] _ _ (fun u3 u4 => ?_) (by simpa using hl)
  (walk_at "lw_dd")
  refine .one (by simpa using belows_str _ _) ?_
  simp only [sub, subs, if_true, List.nil_append]
  exact h
def t_spot_of : DS :=
    (dSeq (dAsg (dOp ixD (dCall sp_falls (dCons (dVar 1) (dCons (dVar 0) dNil))) (dC (.int 1))) (dgName 2))
    (dRet (dTup (dCons (dB bAbs (dCons (dVar 2) dNil)) (dCons (dOp (cmpI fun i j => decide (i < j)) (dVar 2) (dC (.int 0))) dNil)))))
theorem st_spot_of (a0 a1 : D) : startD N_spot_of [a0, a1] = [some a0, some a1, none] := rfl
def spotI (ws : List Int) (x : Int) : Int × Bool := (sz (flast x ws), decide (flast x ws < 0))
def pairD (p : Int × Bool) : D := .tup [.int p.1, .bl p.2]
def stripL (ws : List Int) (h : Int) : List D := ((oddsR (1, 2 * h - 1)).map (spotI ws)).map pairD
def stripD (ws : List Int) (h : Int) : D := .lst (stripL ws h)
def sp_spot_of : SpD := fun ds st kk => ∃ (ws : List Int) (s : Int), ds = [.tup (ws.map D.int), .int s] ∧ kk (pairD (spotI ws s)) st
theorem len_spot_of (ds : List D) (st : Sto) (kk : DK) (h : sp_spot_of ds st kk) : ds.length = 2 := by
  obtain ⟨_, _, rfl, _⟩ := h
  rfl
theorem p_spot_of : BodyD false N_spot_of sp_spot_of t_spot_of := by
  rintro ds st kk ⟨ws, s, rfl, h⟩
  rw [st_spot_of]
  simp only [t_spot_of]
  (walk_at "lw_dd")
  refine ⟨s, ws, rfl, ?_⟩
  (try simp only [BEq.rfl, ↓e_v0, ↓e_vs, ↓e_c, ↓e_op, ↓e_un, ↓e_test, ↓e_testK, ↓e_tru, ↓e_truL, ↓e_truT, ↓e_truB, ↓e_truI, ↓e_truN, ↓e_truS, ↓e_not, ↓e_or, ↓e_andv, ↓e_notv, ↓e_andK, ↓e_notK, ↓e_if, ↓e_nil, ↓e_cons, ↓e_tup, ↓e_lst, ↓e_new, ↓e_call, ↓e_callK, ↓e_drop, ↓e_ret, ↓e_pass, ↓e_ifS, ↓e_g0, ↓e_gs, ↓e_gnil, ↓e_gcons, ↓e_gtup, ↓e_asg, ↓e_par, ↓e_parK, ↓e_par3, ↓e_par3K, ↓e_no, ↓e_some, ↓e_someK, ↓e_cut, ↓e_b, ↓e_iter, ↓e_iterL, ↓e_iterT, ↓e_iterS, ↓e_rng1, ↓e_rng1K, ↓e_rng2, ↓e_rng2K, ↓e_rng3, ↓e_rng3K, ↓e_enum, ↓e_enumL, ↓e_enumT, ↓e_zip, ↓e_zipL, ↓e_zipT, ↓e_for, ↓e_lc, ↓e_forN, ↓e_forC, ↓e_lcN, ↓e_lcC, ↓e_srcN, ↓e_srcC, ↓e_meth, ↓e_isL, ↓e_sub, ↓e_aug, ↓e_augK, ↓e_isi, ↓e_yes, ↓e_addI, ↓e_addB, ↓e_addS, ↓e_addT, ↓e_addL, ↓e_subI, ↓e_mulI, ↓e_mulT, ↓e_mulL, ↓e_divI, ↓e_modI, ↓e_powI, ↓e_negI, ↓e_iadd, ↓e_cmpI, ↓e_eq, ↓e_ne, ↓e_isn, ↓e_isnn, ↓e_isb, ↓e_ixL, ↓e_ixKL, ↓e_ixT, ↓e_cutL, ↓e_cutKL, ↓e_cutT, ↓e_lenL, ↓e_lenKL, ↓e_lenT, ↓e_abs, ↓e_intI, ↓e_intB, ↓e_min2, ↓e_listNL, ↓e_listNT, ↓e_tupL, ↓e_tupT, ↓e_drI, ↓e_drB, ↓e_drS, ↓e_drN, ↓e_drL, ↓e_drT, ↓e_seq, ↓e_inFlat, ↓e_drK, ↓e_addBI, ↓e_subBI, ↓e_subIB, ↓e_drG, ↓e_dgetF, ↓e_cutS, ↓e_mulS, ↓e_iaddI, ↓e_pairs0, ↓e_pairs1, ↓e_dispN, ↓e_putN, e_kyI, e_kyS, Nat.reduceAdd, Nat.zero_add, List.length_cons, List.length_nil, List.length_map, Nat.reduceLeDiff, and_true, true_and, if_true, ite_true, decide_eq_true_eq, Bool.not_eq_true, Bool.false_eq_true, if_false, ite_false, ↓reduceIte, Int.reduceToNat, Int.reducePow, ne_eq, q_okI, q_okB, q_okN, q_okS, q_okL, q_okT, q_oks0, q_oks1, q_eqII, q_eqBB, q_eqSS, q_eqLL, q_eqTT, q_eqNN, q_eqNI, q_eqIN, q_eqs0, q_eqs1, Bool.true_and, Bool.and_true, beq_iff_eq, reduceCtorEq, wipeE, List.set_cons_zero, List.set_cons_succ, List.set_nil, Bool.not_true, Bool.not_false, List.getElem?_cons_zero, List.getElem?_cons_succ, p1, Option.some.injEq, exists_eq_left'])
  exact h
def e1_strip : DE :=
    (dCall sp_spot_of (dCons (dVar 0) (dCons (dVar 2) dNil)))
def t_strip : DS :=
    (dRet (dLc (dRng3 (dC (.int 1)) (dOp mulD (dC (.int 2)) (dVar 1)) (dC (.int 2))) (dgName 2) dYes (e1_strip) [2]))
theorem st_strip (a0 a1 : D) : startD N_strip [a0, a1] = [some a0, some a1, none] := rfl
theorem okDs_pairs (n : Nat) : ∀ xs : List (Int × Bool), okDs (n + 1) (xs.map pairD) = true
  | [] => by simp only [List.map_nil, okDs]
  | x :: r => by
    simp only [List.map_cons, okDs, pairD, okD, Bool.and_true, Bool.true_and]
    exact okDs_pairs n r
theorem okD_strip (n : Nat) (ws : List Int) (h : Int) : okD (n + 2) (stripD ws h) = true := by
  simp only [stripD, okD]
  exact okDs_pairs n _
theorem stripL_len (ws : List Int) {h : Int} (h1 : 1 ≤ h) : (stripL ws h).length = h.toNat := by
  unfold stripL
  rw [List.length_map, List.length_map, oddsR_length]
  unfold spotR
  dsimp only
  omega
theorem strip_rng {h : Int} (h1 : 1 ≤ h) : stepD 1 2 h.toNat = (oddsR (1, 2 * h - 1)).map D.int := by
  rw [← stepD_odds, show (spotR (1, 2 * h - 1)).toNat = h.toNat by unfold spotR; dsimp only; omega]
def sp_strip : SpD := fun ds st kk => ∃ (ws : List Int) (h : Int), ds = [.tup (ws.map D.int), .int h] ∧ 1 ≤ h ∧ h ≤ 1000 ∧ kk (stripD ws h) st
theorem len_strip (ds : List D) (st : Sto) (kk : DK) (h : sp_strip ds st kk) : ds.length = 2 := by
  obtain ⟨_, _, rfl, _⟩ := h
  rfl
theorem p_strip : BodyD false N_strip sp_strip t_strip := by
  rintro ds st kk ⟨ws, h, rfl, h1, h2, q⟩
  rw [st_strip]
  simp only [t_strip]
  (walk_at "lw_dd")
  refine ⟨mul2 _, h.toNat, rng_odd h1 (by omega), by rw [strip_rng h1, List.length_map, oddsR_length]; unfold spotR; dsimp only; omega, ?_⟩
  rw [strip_rng h1]
  refine lc_mapM D.int (spotI ws) pairD _ _ (by exact trivial) _ (fun x hx kd k => ?_) ?_
  · simp only [e1_strip]
    (walk_at "lw_dd")
    exact ⟨ws, x, rfl, k⟩
  rw [List.nil_append]
  exact q
def z4_strip_of : DS :=
    (dDrop (dMeth mAppend (dVar 2) (dCons (dTup (dCons (dVar 5) (dCons (dOp (eqOp true) (dVar 4) (dVar 6)) dNil))) dNil)))
def b1_strip_of : DS :=
    (dSeq (dAsg (dOp ixD (dVar 1) (dOp divD (dVar 3) (dC (.int 2)))) (dgTup 2 (dgCons (dgName 5) (dgCons (dgName 6) dgNil))))
    (z4_strip_of))
def z5_strip_of : DS :=
    (dRet (dVar 2))
def z2_strip_of : DS :=
    (dSeq (dFor (dIter (dVar 0)) (dgTup 2 (dgCons (dgName 3) (dgCons (dgName 4) dgNil))) (b1_strip_of))
    (z5_strip_of))
def t_strip_of : DS :=
    (dSeq (dAsg (dNew dNil) (dgName 2))
    (z2_strip_of))
theorem st_strip_of (a0 a1 : D) : startD N_strip_of [a0, a1] = [some a0, some a1, none, none, none, none, none] := rfl
theorem spot_app {a b : List Int} {x : Int} (hx : x % 2 = 1) : spotI (a ++ b) x = ((spotI b (spotI a x).1).1, (spotI a x).2 != (spotI b (spotI a x).1).2) := by
  unfold spotI
  rw [(fsides_app a b x).2]
  have oy := flast_odd' a x hx
  generalize flast x a = y at oy
  dsimp only
  by_cases z : y < 0
  · have e : y = 0 - sz y := by unfold sz; rw [if_pos z]; omega
    have os := sz_odd oy
    have ob := flast_odd' b _ os
    rw [decide_eq_true z]
    conv => lhs; rw [e, flast_neg b os, sz_neg]
    congr 1
    by_cases w : flast (sz y) b < 0
    · rw [decide_eq_true w, decide_eq_false (by omega)]
      rfl
    · rw [decide_eq_false w, decide_eq_true (by omega)]
      rfl
  · have e : sz y = y := by unfold sz; rw [if_neg z]
    rw [decide_eq_false z, e, Bool.false_bne]
theorem strip_at {ws : List Int} {h : Int} {z : Int} (h1 : 1 ≤ h) (z0 : 1 ≤ z) (z1 : z ≤ 2 * h - 1) (zo : z % 2 = 1) : atI (stripL ws h) (z / 2) = some (pairD (spotI ws z)) := by
  obtain ⟨k, rfl⟩ : ∃ k : Nat, z = 2 * k + 1 := ⟨(z / 2).toNat, by omega⟩
  rw [show (2 * (k : Int) + 1) / 2 = (k : Int) by omega]
  refine atI_nat ?_
  unfold stripL oddsR
  rw [List.getElem?_map, List.getElem?_map, List.getElem?_map, List.getElem?_range (by unfold spotR; dsimp only; omega)]
  simp only [Option.map_some]
  rw [show (1 : Int) + (k : Nat) * 2 = 2 * k + 1 by omega]
/-- a list or a tuple -/
def seqD (t : Bool) (xs : List D) : D := if t then .tup xs else .lst xs
theorem belows_pairs (n : Nat) : ∀ xs : List (Int × Bool), belows n (xs.map pairD) = true
  | [] => rfl
  | x :: r => by
    simp only [List.map_cons, belows, pairD, below, Bool.and_true, Bool.true_and]
    exact belows_pairs n r
def sp_strip_of : SpD := fun ds st kk => ∃ (a b : List Int) (h : Int) (t u : Bool), ds = [seqD t (stripL a h), seqD u (stripL b h)] ∧ 1 ≤ h ∧ h ≤ 1000 ∧ (∀ w ∈ a, 1 ≤ w ∧ w ≤ h) ∧ kk (stripD (a ++ b) h) st
theorem len_strip_of (ds : List D) (st : Sto) (kk : DK) (h : sp_strip_of ds st kk) : ds.length = 2 := by
  obtain ⟨_, _, _, _, _, rfl, _⟩ := h
  rfl
theorem p_strip_of : BodyD true N_strip_of sp_strip_of t_strip_of := by
  rintro ds st kk ⟨a, b, h, t, u, rfl, h1, h2, hw, q⟩
  rw [st_strip_of]
  simp only [t_strip_of]
  have la := stripL_len a h1
  have body : ∀ (nx : DL.Env → Sto → Prop) (rt : DK) (v3 v4 v5 v6 : Option D), (∀ (v3 v4 v5 v6 : Option D), nx [some (seqD t (stripL a h)), some (seqD u (stripL b h)), some (.obj st.length), v3, v4, v5, v6] (st ++ [stripL (a ++ b) h])) →
      goFor [] (dgTup 2 (dgCons (dgName 3) (dgCons (dgName 4) dgNil))) b1_strip_of ⟨nx, rt⟩ ((oddsR (1, 2 * h - 1)).map (pairD ∘ spotI a)) [some (seqD t (stripL a h)), some (seqD u (stripL b h)), some (.obj st.length), v3, v4, v5, v6] (st ++ [[]]) := by
    intro nx rt v3 v4 v5 v6 k
    refine go_for (pairD ∘ spotI a) (fun us env s => ∃ (dn : List Int) (v3 v4 v5 v6 : Option D), dn ++ us = oddsR (1, 2 * h - 1) ∧ s = st ++ [(dn.map (spotI (a ++ b))).map pairD] ∧ env = [some (seqD t (stripL a h)), some (seqD u (stripL b h)), some (.obj st.length), v3, v4, v5, v6]) ?_ ?_ _ _ _ ⟨[], v3, v4, v5, v6, rfl, rfl, rfl⟩
    · rintro x us _ _ nx2 ⟨dn, v3, v4, v5, v6, hd, rfl, rfl⟩ q2
      refine ⟨trivial, ?_⟩
      have mx : x ∈ oddsR (1, 2 * h - 1) := by rw [← hd]; simp
      have ix := (mem_odds (run0_ok h1) x).mp mx
      obtain ⟨x1, x2, x3⟩ := ix
      dsimp only at x1 x2
      have oz := sz_odd (flast_odd' a x x3)
      have z1 := sz_pos (flast_odd' a x x3)
      have z2 : sz (flast x a) ≤ 2 * h - 1 := below_round a hw x3 (.inl (by unfold sz; rw [if_neg (by omega)]; exact x2))
      have at2 := strip_at (ws := b) (h := h) h1 z1 z2 oz
      have dl : dn.length ≤ 1000 := by
        have e1 := congrArg List.length hd
        rw [List.length_append, oddsR_length] at e1
        unfold spotR at e1
        dsimp only at e1
        omega
      have ap := spot_app (a := a) (b := b) x3
      simp only [Function.comp, pairD]
      (walk_at "lw_dd")
      rw [show (spotI a x).1 = sz (flast x a) from rfl] at ap ⊢
      have ixs : ∀ (k : DK) (s : Sto), k (pairD (spotI b (sz (flast x a)))) s → ixD (seqD u (stripL b h)) (.int (sz (flast x a) / 2)) s k := by
        intro k s hk
        cases u with
        | true =>
          show ixD (.tup (stripL b h)) _ _ _
          (walk_at "lw_dd")
          exact ⟨_, at2, hk⟩
        | false =>
          show ixD (.lst (stripL b h)) _ _ _
          (walk_at "lw_dd")
          exact ⟨_, at2, hk⟩
      simp only [b1_strip_of]
      (walk_at "lw_dd")
      refine ⟨dv2, ixs _ _ ?_⟩
      simp only [pairD]
      (walk_at "lw_dd")
      simp only [z4_strip_of]
      (walk_at "lw_dd")
      (try simp only [BEq.rfl, ↓e_v0, ↓e_vs, ↓e_c, ↓e_op, ↓e_un, ↓e_test, ↓e_testK, ↓e_tru, ↓e_truL, ↓e_truT, ↓e_truB, ↓e_truI, ↓e_truN, ↓e_truS, ↓e_not, ↓e_or, ↓e_andv, ↓e_notv, ↓e_andK, ↓e_notK, ↓e_if, ↓e_nil, ↓e_cons, ↓e_tup, ↓e_lst, ↓e_new, ↓e_call, ↓e_callK, ↓e_drop, ↓e_ret, ↓e_pass, ↓e_ifS, ↓e_g0, ↓e_gs, ↓e_gnil, ↓e_gcons, ↓e_gtup, ↓e_asg, ↓e_par, ↓e_parK, ↓e_par3, ↓e_par3K, ↓e_no, ↓e_some, ↓e_someK, ↓e_cut, ↓e_b, ↓e_iter, ↓e_iterL, ↓e_iterT, ↓e_iterS, ↓e_rng1, ↓e_rng1K, ↓e_rng2, ↓e_rng2K, ↓e_rng3, ↓e_rng3K, ↓e_enum, ↓e_enumL, ↓e_enumT, ↓e_zip, ↓e_zipL, ↓e_zipT, ↓e_for, ↓e_lc, ↓e_forN, ↓e_forC, ↓e_lcN, ↓e_lcC, ↓e_srcN, ↓e_srcC, ↓e_meth, ↓e_isL, ↓e_sub, ↓e_aug, ↓e_augK, ↓e_isi, ↓e_yes, ↓e_addI, ↓e_addB, ↓e_addS, ↓e_addT, ↓e_addL, ↓e_subI, ↓e_mulI, ↓e_mulT, ↓e_mulL, ↓e_divI, ↓e_modI, ↓e_powI, ↓e_negI, ↓e_iadd, ↓e_cmpI, ↓e_eq, ↓e_ne, ↓e_isn, ↓e_isnn, ↓e_isb, ↓e_ixL, ↓e_ixKL, ↓e_ixT, ↓e_cutL, ↓e_cutKL, ↓e_cutT, ↓e_lenL, ↓e_lenKL, ↓e_lenT, ↓e_abs, ↓e_intI, ↓e_intB, ↓e_min2, ↓e_listNL, ↓e_listNT, ↓e_tupL, ↓e_tupT, ↓e_drI, ↓e_drB, ↓e_drS, ↓e_drN, ↓e_drL, ↓e_drT, ↓e_seq, ↓e_inFlat, ↓e_drK, ↓e_addBI, ↓e_subBI, ↓e_subIB, ↓e_drG, ↓e_dgetF, ↓e_cutS, ↓e_mulS, ↓e_iaddI, ↓e_pairs0, ↓e_pairs1, ↓e_dispN, ↓e_putN, e_kyI, e_kyS, Nat.reduceAdd, Nat.zero_add, List.length_cons, List.length_nil, List.length_map, Nat.reduceLeDiff, and_true, true_and, if_true, ite_true, decide_eq_true_eq, Bool.not_eq_true, Bool.false_eq_true, if_false, ite_false, ↓reduceIte, Int.reduceToNat, Int.reducePow, ne_eq, q_okI, q_okB, q_okN, q_okS, q_okL, q_okT, q_oks0, q_oks1, q_eqII, q_eqBB, q_eqSS, q_eqLL, q_eqTT, q_eqNN, q_eqNI, q_eqIN, q_eqs0, q_eqs1, Bool.true_and, Bool.and_true, beq_iff_eq, reduceCtorEq, wipeE, List.set_cons_zero, List.set_cons_succ, List.set_nil, Bool.not_true, Bool.not_false, List.getElem?_cons_zero, List.getElem?_cons_succ, e_isO (List.getElem?_concat_length ..), e_app (List.getElem?_concat_length ..), set_last])
      refine ⟨by omega, ?_⟩
      refine q2 _ _ ⟨dn ++ [x], _, _, _, _, by rw [List.append_assoc]; exact hd, ?_, rfl⟩
      rw [List.map_append, List.map_append, List.map_singleton, List.map_singleton, ap]
      rfl
    · rintro _ _ ⟨dn, v3, v4, v5, v6, hd, rfl, rfl⟩
      refine ⟨trivial, ?_⟩
      rw [List.append_nil] at hd
      subst hd
      exact k v3 v4 v5 v6
  have fin : ∀ (v3 v4 v5 v6 : Option D), z5_strip_of ⟨fun _ st' => Frz st .non st' kk, fun d st' => Frz st d st' kk⟩ [some (seqD t (stripL a h)), some (seqD u (stripL b h)), some (.obj st.length), v3, v4, v5, v6] (st ++ [stripL (a ++ b) h]) := by
    intro v3 v4 v5 v6
    simp only [z5_strip_of]
    (walk_at "lw_dd")
    refine .one (belows_pairs _ _) ?_
    simp only [sub, if_true]
    exact q
  (walk_at "lw_dd")
  simp only [z2_strip_of]
  (walk_at "lw_dd")
  have es : (oddsR (1, 2 * h - 1)).map (pairD ∘ spotI a) = stripL a h := by unfold stripL; rw [List.map_map]
  have it : ∀ (k : DIk) (s : Sto), k (stripL a h) [] s → iterK k (seqD t (stripL a h)) s := by
    intro k s hk
    cases t with
    | true => exact fun _ => hk
    | false => exact fun _ => hk
  refine it _ _ ?_
  rw [← es]
  have := body (fun e s => z5_strip_of ⟨fun _ st' => Frz st .non st' kk, fun d st' => Frz st d st' kk⟩ e s) (fun d st' => Frz st d st' kk) none none none none fin
  rw [← es] at this
  exact this
def e1_least_word : DE :=
    (dTup (dCons (dVar 4) (dCons (dCall sp_strip (dCons (dTup (dCons (dVar 4) dNil)) (dCons (dVar 1) dNil))) dNil)))
def z11_least_word : DS :=
    (dDrop (dMeth mAppend (dVar 6) (dCons (dTup (dCons (dOp addD (dVar 9) (dTup (dCons (dVar 4) dNil))) (dCons (dVar 12) dNil))) dNil)))
def z9_least_word : DS :=
    (dIfS (dTest (dOp (inN true) (dB bTuple (dCons (dVar 12) dNil)) (dVar 7))) (dSeq (dAsg (dC (.bl true)) (dgPutN (dVar 7) (dB bTuple (dCons (dVar 12) dNil))))
    (z11_least_word)) dPass)
def b1_least_word : DS :=
    (dSeq (dAsg (dCall sp_strip_of (dCons (dVar 10) (dCons (dVar 11) dNil))) (dgName 12))
    (z9_least_word))
def z12_least_word : DS :=
    (dAug 8 (dC (.int 1)) iaddD)
def z7_least_word : DS :=
    (dSeq (dFor (dIter (dVar 3)) (dgTup 2 (dgCons (dgName 4) (dgCons (dgName 11) dgNil))) (b1_least_word))
    (z12_least_word))
def b2_least_word : DS :=
    (dSeq (dAsg (dOp ixD (dVar 6) (dVar 8)) (dgTup 2 (dgCons (dgName 9) (dgCons (dgName 10) dgNil))))
    (z7_least_word))
def z13_least_word : DS :=
    (dRet (dOp ixD (dOp ixD (dVar 6) (dVar 8)) (dC (.int 0))))
def z5_least_word : DS :=
    (dSeq (dWhile (dTest (dOp (eqOp true) (dOp ixD (dOp ixD (dVar 6) (dVar 8)) (dC (.int 1))) (dVar 2))) (b2_least_word))
    (z13_least_word))
def z4_least_word : DS :=
    (dSeq (dPar3 6 7 8 (dCons (dNew (dCons (dTup (dCons (dTup dNil) (dCons (dVar 5) dNil))) dNil)) (dCons (dDispN (((dB bTuple (dCons (dVar 5) dNil)), (dC (.bl true))) :: [])) (dCons (dC (.int 0)) dNil))))
    (z5_least_word))
def z3_least_word : DS :=
    (dSeq (dAsg (dCall sp_strip (dCons (dTup dNil) (dCons (dVar 1) dNil))) (dgName 5))
    (z4_least_word))
def z2_least_word : DS :=
    (dSeq (dAsg (dLc (dRng2 (dC (.int 1)) (dOp addD (dVar 1) (dC (.int 1)))) (dgName 4) dYes (e1_least_word) [4]) (dgName 3))
    (z3_least_word))
def t_least_word : DS :=
    (dSeq (dAsg (dCall sp_strip (dCons (dVar 0) (dCons (dVar 1) dNil))) (dgName 2))
    (z2_least_word))
theorem st_least_word (a0 a1 : D) : startD N_least_word [a0, a1] = [some a0, some a1, none, none, none, none, none, none, none, none, none, none, none] := rfl
/-! ### least words: the queue of words by strips -/
abbrev Wo := List Int
def stp (h : Int) (w : Wo) : List (Int × Bool) := (oddsR (1, 2 * h - 1)).map (spotI w)
theorem stp_strip (h : Int) (w : Wo) : stripL w h = (stp h w).map pairD := rfl
theorem stp_at {h : Int} {a b : Wo} (e : stp h a = stp h b) : ∀ x ∈ oddsR (1, 2 * h - 1), spotI a x = spotI b x := List.map_inj_left.mp e
theorem stp_app {h : Int} {a b : Wo} (h1 : 1 ≤ h) (c : Wo) (e : stp h a = stp h b) : stp h (a ++ c) = stp h (b ++ c) := by
  refine List.map_congr_left fun x hx => ?_
  have ox := ((mem_odds (run0_ok h1) x).mp hx).2.2
  rw [spot_app ox, spot_app ox, stp_at e x hx]
def Fine (h : Int) (w : Wo) : Prop := ∀ g ∈ w, 1 ≤ g ∧ g ≤ h
def hasQ (h : Int) (q : List Wo) (w : Wo) : Bool := q.any fun v => decide (stp h v = stp h w)
theorem hasQ_iff {h : Int} {q : List Wo} {w : Wo} : hasQ h q w = true ↔ ∃ v ∈ q, stp h v = stp h w := by
  unfold hasQ
  rw [List.any_eq_true]
  exact ⟨fun ⟨v, a, b⟩ => ⟨v, a, of_decide_eq_true b⟩, fun ⟨v, a, b⟩ => ⟨v, a, decide_eq_true b⟩⟩
def addQ (h : Int) (q : List Wo) (w : Wo) : List Wo := if hasQ h q w = true then q else q ++ [w]
def procQ (h : Int) (a : Wo) (q : List Wo) (gs : List Int) : List Wo := gs.foldl (fun q g => addQ h q (a ++ [g])) q
def gsQ (h : Int) : List Int := (List.range h.toNat).map fun k : Nat => 1 + (k : Int)
theorem gsQ_mem {h g : Int} (h1 : 1 ≤ h) : g ∈ gsQ h ↔ 1 ≤ g ∧ g ≤ h := by
  unfold gsQ
  rw [List.mem_map]
  constructor
  · rintro ⟨k, hk, rfl⟩
    have := List.mem_range.mp hk
    omega
  · rintro ⟨a, b⟩
    exact ⟨(g - 1).toNat, List.mem_range.mpr (by omega), by omega⟩
def bfsQ (h : Int) : Nat → List Wo
  | 0 => [[]]
  | n + 1 => match (bfsQ h n)[n]? with
    | some a => procQ h a (bfsQ h n) (gsQ h)
    | none => bfsQ h n
/-- amid the turns for a: all but the last words are as long at most -/
structure MidQ (h : Int) (a : Wo) (q0 q : List Wo) (gs : List Int) : Prop where
  pre : q0 <+: q
  nd : (q.map (stp h)).Nodup
  wt : ∀ w ∈ q, Fine h w
  mono : q.Pairwise fun v w => v.length ≤ w.length
  top : ∀ w ∈ q, w.length ≤ a.length + 1
  dn : ∀ g ∈ gs, ∃ v ∈ q, stp h v = stp h (a ++ [g]) ∧ v.length ≤ a.length + 1
theorem MidQ.step {h : Int} {a : Wo} {q0 q : List Wo} {gs : List Int} (M : MidQ h a q0 q gs) (fa : Fine h a) {g : Int} (g1 : 1 ≤ g) (g2 : g ≤ h) : MidQ h a q0 (addQ h q (a ++ [g])) (gs ++ [g]) := by
  unfold addQ
  split
  · rename_i e
    obtain ⟨v, hv, ev⟩ := hasQ_iff.mp e
    refine ⟨M.pre, M.nd, M.wt, M.mono, M.top, fun g' hg => ?_⟩
    rcases List.mem_append.mp hg with z | z
    · exact M.dn g' z
    · rw [List.mem_singleton.mp z]
      exact ⟨v, hv, ev, M.top v hv⟩
  · rename_i e
    have lw : (a ++ [g]).length = a.length + 1 := by simp
    refine ⟨M.pre.trans (List.prefix_append _ _), ?_, fun w hw => ?_, ?_, fun w hw => ?_, fun g' hg => ?_⟩
    · rw [List.map_append, List.map_singleton, List.nodup_append]
      refine ⟨M.nd, by simp, fun x hx y hy z => ?_⟩
      rw [List.mem_singleton] at hy
      obtain ⟨v, hv, ev⟩ := List.mem_map.mp hx
      exact e (hasQ_iff.mpr ⟨v, hv, by rw [ev, z, hy]⟩)
    · rcases List.mem_append.mp hw with z | z
      · exact M.wt w z
      · rw [List.mem_singleton.mp z]
        intro x hx
        rcases List.mem_append.mp hx with q | q
        · exact fa x q
        · rw [List.mem_singleton.mp q]
          exact ⟨g1, g2⟩
    · rw [List.pairwise_append]
      refine ⟨M.mono, List.pairwise_singleton _ _, fun v hv w hw => ?_⟩
      rw [List.mem_singleton.mp hw, lw]
      exact M.top v hv
    · rcases List.mem_append.mp hw with z | z
      · exact M.top w z
      · rw [List.mem_singleton.mp z, lw]
        exact Nat.le_refl _
    · rcases List.mem_append.mp hg with z | z
      · obtain ⟨v, hv, ev, lv⟩ := M.dn g' z
        exact ⟨v, List.mem_append_left _ hv, ev, lv⟩
      · rw [List.mem_singleton.mp z]
        exact ⟨a ++ [g], List.mem_append_right _ List.mem_cons_self, rfl, by rw [lw]; exact Nat.le_refl _⟩
theorem MidQ.all {h : Int} {a : Wo} (fa : Fine h a) {q0 : List Wo} : ∀ (gs dn : List Int) (q : List Wo), (∀ g ∈ gs, 1 ≤ g ∧ g ≤ h) → MidQ h a q0 q dn → MidQ h a q0 (procQ h a q gs) (dn ++ gs)
  | [], dn, q, _, M => by rw [List.append_nil]; exact M
  | g :: gs, dn, q, hg, M => by
    have := MidQ.all fa gs (dn ++ [g]) (addQ h q (a ++ [g])) (fun x hx => hg x (List.mem_cons_of_mem _ hx)) (M.step fa (hg g List.mem_cons_self).1 (hg g List.mem_cons_self).2)
    rw [List.append_assoc] at this
    exact this
structure QI (h : Int) (q : List Wo) (n : Nat) : Prop where
  nd : (q.map (stp h)).Nodup
  wt : ∀ w ∈ q, Fine h w
  mono : q.Pairwise fun v w => v.length ≤ w.length
  top : ∀ a, q[n]? = some a → ∀ w ∈ q, w.length ≤ a.length + 1
  dn : ∀ i a, i < n → q[i]? = some a → ∀ g, 1 ≤ g → g ≤ h → ∃ v ∈ q, stp h v = stp h (a ++ [g]) ∧ v.length ≤ a.length + 1
theorem pw_get {q : List Wo} (m : q.Pairwise fun v w => v.length ≤ w.length) {i j : Nat} {a b : Wo} (l : i < j) (ha : q[i]? = some a) (hb : q[j]? = some b) : a.length ≤ b.length := by
  obtain ⟨h1, rfl⟩ := List.getElem?_eq_some_iff.mp ha
  obtain ⟨h2, rfl⟩ := List.getElem?_eq_some_iff.mp hb
  exact List.pairwise_iff_getElem.mp m i j h1 h2 l
theorem QI.mid {h : Int} {q : List Wo} {n : Nat} (I : QI h q n) {a : Wo} (e : q[n]? = some a) : MidQ h a q q [] := ⟨List.prefix_refl _, I.nd, I.wt, I.mono, I.top a e, fun _ h => by cases h⟩
theorem pre_get {α : Type} {q p : List α} (h : q <+: p) {i : Nat} (hi : i < q.length) : p[i]? = q[i]? := by
  obtain ⟨t, rfl⟩ := h
  exact List.getElem?_append_left hi
theorem QI.next {h : Int} (h1 : 1 ≤ h) {q p : List Wo} {n : Nat} (I : QI h q n) {a : Wo} (e : q[n]? = some a) (M : MidQ h a q p (gsQ h)) : QI h p (n + 1) := by
  have hn : n < q.length := (List.getElem?_eq_some_iff.mp e).1
  have en : p[n]? = some a := by rw [pre_get M.pre hn, e]
  refine ⟨M.nd, M.wt, M.mono, fun b hb w hw => ?_, fun i c hi hc g g1 g2 => ?_⟩
  · have := pw_get M.mono (Nat.lt_succ_self n) en hb
    have := M.top w hw
    omega
  · by_cases z : i = n
    · subst z
      rw [en] at hc
      cases hc
      exact M.dn g ((gsQ_mem h1).mpr ⟨g1, g2⟩)
    · have hi2 : i < q.length := by omega
      obtain ⟨v, hv, ev, lv⟩ := I.dn i c (by omega) (by rw [← pre_get M.pre hi2]; exact hc) g g1 g2
      exact ⟨v, M.pre.subset hv, ev, lv⟩
theorem bfs_some {h : Int} {n : Nat} {a : Wo} (e : (bfsQ h n)[n]? = some a) : bfsQ h (n + 1) = procQ h a (bfsQ h n) (gsQ h) := by
  show (match (bfsQ h n)[n]? with | some a => procQ h a (bfsQ h n) (gsQ h) | none => bfsQ h n) = _
  rw [e]
theorem bfs_none {h : Int} {n : Nat} (e : (bfsQ h n)[n]? = none) : bfsQ h (n + 1) = bfsQ h n := by
  show (match (bfsQ h n)[n]? with | some a => procQ h a (bfsQ h n) (gsQ h) | none => bfsQ h n) = _
  rw [e]
theorem bfs_qi {h : Int} (h1 : 1 ≤ h) : ∀ n, QI h (bfsQ h n) n
  | 0 => ⟨by simp [bfsQ], fun w hw => (by rw [List.mem_singleton.mp hw]; intro g hg; cases hg), List.pairwise_singleton _ _, fun a _ w hw => (by rw [List.mem_singleton.mp hw]; exact Nat.zero_le _), fun i a hi => absurd hi (Nat.not_lt_zero _)⟩
  | n + 1 => by
    have I := bfs_qi h1 n
    cases e : (bfsQ h n)[n]? with
    | some a =>
      rw [bfs_some e]
      have M := MidQ.all (I.wt a (List.mem_of_getElem? e)) (gsQ h) [] _ (fun g hg => (gsQ_mem h1).mp hg) (I.mid e)
      exact I.next h1 e M
    | none =>
      rw [bfs_none e]
      refine ⟨I.nd, I.wt, I.mono, fun a ha => ?_, fun i a hi hc => ?_⟩
      · have : (bfsQ h n)[n + 1]? = none := by
          rw [List.getElem?_eq_none_iff] at e ⊢
          omega
        rw [this] at ha
        cases ha
      · by_cases z : i = n
        · rw [z, e] at hc; cases hc
        · exact I.dn i a (by omega) hc
theorem bfs_pre1 {h : Int} (h1 : 1 ≤ h) (n : Nat) : bfsQ h n <+: bfsQ h (n + 1) := by
  have I := bfs_qi h1 n
  cases e : (bfsQ h n)[n]? with
  | some a =>
    rw [bfs_some e]
    exact (MidQ.all (I.wt a (List.mem_of_getElem? e)) (gsQ h) [] _ (fun g hg => (gsQ_mem h1).mp hg) (I.mid e)).pre
  | none =>
    rw [bfs_none e]
    exact List.prefix_refl _
theorem bfs_pre {h : Int} (h1 : 1 ≤ h) (n : Nat) : ∀ m, bfsQ h n <+: bfsQ h (n + m)
  | 0 => List.prefix_refl _
  | m + 1 => (bfs_pre h1 n m).trans (bfs_pre1 h1 (n + m))
theorem bfs_stop {h : Int} {n : Nat} (e : (bfsQ h n).length ≤ n) : ∀ m, bfsQ h (n + m) = bfsQ h n
  | 0 => rfl
  | m + 1 => by
    have ih := bfs_stop e m
    have : (bfsQ h (n + m))[n + m]? = none := by
      rw [List.getElem?_eq_none_iff, ih]
      omega
    exact (bfs_none this).trans ih
theorem nd_inj {α β : Type} {f : α → β} : ∀ {q : List α}, (q.map f).Nodup → ∀ v ∈ q, ∀ w ∈ q, f v = f w → v = w
  | [], _, _, h, _, _, _ => by cases h
  | x :: q, nd, v, hv, w, hw, e => by
    rw [List.map_cons, List.nodup_cons] at nd
    rcases List.mem_cons.mp hv with a | a <;> rcases List.mem_cons.mp hw with b | b
    · rw [a, b]
    · exact absurd (by rw [← a, e]; exact List.mem_map_of_mem b) nd.1
    · exact absurd (by rw [← b, ← e]; exact List.mem_map_of_mem a) nd.1
    · exact nd_inj nd.2 v a w b e
theorem procQ_len {h : Int} {a : Wo} {N : Nat} (ha : a.length + 1 ≤ N) : ∀ (gs : List Int) (q : List Wo), (∀ w ∈ q, w.length ≤ N) → ∀ w ∈ procQ h a q gs, w.length ≤ N
  | [], q, hq, w, hw => hq w hw
  | g :: gs, q, hq, w, hw => by
    refine procQ_len ha gs (addQ h q (a ++ [g])) (fun v hv => ?_) w hw
    unfold addQ at hv
    split at hv
    · exact hq v hv
    · rcases List.mem_append.mp hv with z | z
      · exact hq v z
      · rw [List.mem_singleton.mp z]
        simp only [List.length_append, List.length_singleton]
        exact ha
theorem bfs_short {h : Int} : ∀ n, ∀ w ∈ bfsQ h n, w.length ≤ n
  | 0, w, hw => by rw [List.mem_singleton.mp hw]; exact Nat.le_refl _
  | n + 1, w, hw => by
    cases e : (bfsQ h n)[n]? with
    | some a =>
      rw [bfs_some e] at hw
      have := bfs_short n a (List.mem_of_getElem? e)
      exact procQ_len (by omega) _ _ (fun v hv => Nat.le_succ_of_le (bfs_short n v hv)) w hw
    | none =>
      rw [bfs_none e] at hw
      exact Nat.le_succ_of_le (bfs_short n w hw)
/-- the least word of those that have a word's strip -/
def Least (h : Int) (W L : Wo) : Prop := (∃ n, L ∈ bfsQ h n) ∧ stp h L = stp h W
theorem bfs_both {h : Int} (h1 : 1 ≤ h) {n m : Nat} {v w : Wo} (hv : v ∈ bfsQ h n) (hw : w ∈ bfsQ h m) (e : stp h v = stp h w) : v = w := by
  have a := (bfs_pre h1 n m).subset hv
  have b := (bfs_pre h1 m n).subset hw
  rw [Nat.add_comm] at b
  exact nd_inj (bfs_qi h1 (n + m)).nd v a w b e
theorem Least.one {h : Int} (h1 : 1 ≤ h) {W W' L L' : Wo} (a : Least h W L) (b : Least h W' L') (e : stp h W = stp h W') : L = L' := by
  obtain ⟨⟨n, hn⟩, e1⟩ := a
  obtain ⟨⟨m, hm⟩, e2⟩ := b
  exact bfs_both h1 hn hm (by rw [e1, e, e2])
theorem bfs_found {h : Int} (h1 : 1 ≤ h) : ∀ (k : Nat) (W : Wo), W.length = k → Fine h W → ∃ n v, v ∈ bfsQ h n ∧ stp h v = stp h W ∧ v.length ≤ W.length
  | 0, W, l, _ => by
    rw [List.eq_nil_of_length_eq_zero l]
    exact ⟨0, [], List.mem_cons_self, rfl, Nat.le_refl _⟩
  | k + 1, W, l, f => by
    have ne : W ≠ [] := fun z => by rw [z] at l; cases l
    obtain ⟨V, g, rfl⟩ : ∃ V g, W = V ++ [g] := ⟨W.dropLast, W.getLast ne, (List.dropLast_concat_getLast ne).symm⟩
    have lV : V.length = k := by simpa using l
    obtain ⟨n, v, hv, ev, lv⟩ := bfs_found h1 k V lV fun x hx => f x (List.mem_append_left _ hx)
    obtain ⟨i, hi, ei⟩ := List.mem_iff_getElem.mp hv
    have g12 := f g (List.mem_append_right _ List.mem_cons_self)
    have I := bfs_qi h1 (n + (i + 1))
    have hi2 : (bfsQ h (n + (i + 1)))[i]? = some v := by
      rw [pre_get (bfs_pre h1 n (i + 1)) hi, List.getElem?_eq_getElem hi, ei]
    obtain ⟨u, hu, eu, lu⟩ := I.dn i v (by omega) hi2 g g12.1 g12.2
    refine ⟨_, u, hu, by rw [eu]; exact stp_app h1 [g] ev, ?_⟩
    simp only [List.length_append, List.length_singleton]
    omega
theorem Least.len {h : Int} (h1 : 1 ≤ h) {W L : Wo} (a : Least h W L) (f : Fine h W) : L.length ≤ W.length := by
  obtain ⟨m, v, hv, ev, lv⟩ := bfs_found h1 _ W rfl f
  obtain ⟨⟨n, hn⟩, e1⟩ := a
  rw [bfs_both h1 hn hv (by rw [e1, ev])]
  exact lv
theorem bfs_in {h : Int} (h1 : 1 ≤ h) {W : Wo} (f : Fine h W) {n : Nat} (no : ∀ i a, i < n → (bfsQ h n)[i]? = some a → stp h a ≠ stp h W) : n < (bfsQ h n).length := by
  refine Nat.lt_of_not_le fun z => ?_
  obtain ⟨m, v, hv, ev, _⟩ := bfs_found h1 _ W rfl f
  have a := (bfs_pre h1 m n).subset hv
  rw [Nat.add_comm, bfs_stop z m] at a
  obtain ⟨i, hi, ei⟩ := List.mem_iff_getElem.mp a
  exact no i v (by omega) (by rw [List.getElem?_eq_getElem hi, ei]) ev
/-! there are not so many strips -/
theorem nodup_lt : ∀ (N : Nat) (l : List Nat), l.Nodup → (∀ x ∈ l, x < N) → l.length ≤ N
  | 0, l, _, h => by
    cases l with
    | nil => exact Nat.le_refl _
    | cons x r => exact absurd (h x List.mem_cons_self) (Nat.not_lt_zero _)
  | N + 1, l, nd, h => by
    have h1 := nodup_lt N (l.filter fun x => decide (x ≠ N)) (nd.sublist List.filter_sublist) fun x hx => by
      obtain ⟨a, b⟩ := List.mem_filter.mp hx
      have := h x a
      have := of_decide_eq_true b
      omega
    have h2 : ∀ l : List Nat, l.Nodup → l.length ≤ (l.filter fun x => decide (x ≠ N)).length + 1 := by
      intro l
      induction l with
      | nil => intro _; exact Nat.zero_le _
      | cons x r ih =>
        intro nd
        rw [List.nodup_cons] at nd
        by_cases e : x = N
        · have e2 : (x :: r).filter (fun x => decide (x ≠ N)) = r.filter (fun x => decide (x ≠ N)) := by simp [e]
          have e3 : r.filter (fun x => decide (x ≠ N)) = r := List.filter_eq_self.mpr fun y hy => decide_eq_true fun z => nd.1 (by rw [e, ← z]; exact hy)
          rw [e2, e3]
          exact Nat.le_refl _
        · have e2 : (x :: r).filter (fun x => decide (x ≠ N)) = x :: r.filter (fun x => decide (x ≠ N)) := by simp [e]
          rw [e2]
          have := ih nd.2
          simp only [List.length_cons]
          omega
    have := h2 l nd
    omega
def digQ (p : Int × Bool) : Nat := p.1.toNat - (if p.2 = true then 1 else 0)
def encQ (b : Nat) : List (Int × Bool) → Nat
  | [] => 0
  | p :: r => digQ p + b * encQ b r
def OkP (h : Int) (p : Int × Bool) : Prop := 1 ≤ p.1 ∧ p.1 ≤ 2 * h - 1 ∧ p.1 % 2 = 1
theorem encQ_lt {h : Int} (h1 : 1 ≤ h) : ∀ {ps : List (Int × Bool)}, (∀ p ∈ ps, OkP h p) → encQ (2 * h).toNat ps < (2 * h).toNat ^ ps.length
  | [], _ => by simp [encQ]
  | p :: r, hp => by
    have ih := encQ_lt h1 fun q hq => hp q (List.mem_cons_of_mem _ hq)
    have o := hp p List.mem_cons_self
    unfold OkP at o
    have d : digQ p < (2 * h).toNat := by
      unfold digQ
      split <;> omega
    unfold encQ
    rw [List.length_cons, Nat.pow_succ, Nat.mul_comm _ (2 * h).toNat]
    have : (2 * h).toNat * (encQ (2 * h).toNat r + 1) ≤ (2 * h).toNat * (2 * h).toNat ^ r.length := Nat.mul_le_mul_left _ ih
    rw [Nat.mul_add, Nat.mul_one] at this
    omega
theorem encQ_inj {h : Int} (h1 : 1 ≤ h) : ∀ {ps qs : List (Int × Bool)}, (∀ p ∈ ps, OkP h p) → (∀ p ∈ qs, OkP h p) → ps.length = qs.length → encQ (2 * h).toNat ps = encQ (2 * h).toNat qs → ps = qs
  | [], [], _, _, _, _ => rfl
  | [], _ :: _, _, _, l, _ => by cases l
  | _ :: _, [], _, _, l, _ => by cases l
  | p :: ps, q :: qs, hp, hq, l, e => by
    have o := hp p List.mem_cons_self
    have o' := hq q List.mem_cons_self
    unfold OkP at o o'
    have d : digQ p < (2 * h).toNat := by
      unfold digQ
      split <;> omega
    have d' : digQ q < (2 * h).toNat := by
      unfold digQ
      split <;> omega
    unfold encQ at e
    have e1 : digQ p = digQ q := by
      have := congrArg (· % (2 * h).toNat) e
      simp only [Nat.add_mul_mod_self_left, Nat.mod_eq_of_lt d, Nat.mod_eq_of_lt d'] at this
      exact this
    have e2 : encQ (2 * h).toNat ps = encQ (2 * h).toNat qs := by
      rw [e1] at e
      exact Nat.eq_of_mul_eq_mul_left (show 0 < (2 * h).toNat by omega) (Nat.add_left_cancel e)
    have e3 : p = q := by
      obtain ⟨a, b⟩ := p
      obtain ⟨c, b'⟩ := q
      clear d d' e e2
      unfold digQ at e1
      dsimp only at o o' e1
      cases b <;> cases b' <;> simp only [if_true, Bool.false_eq_true, if_false] at e1
      · congr 1; omega
      · omega
      · omega
      · congr 1; omega
    rw [e3, encQ_inj h1 (fun x hx => hp x (List.mem_cons_of_mem _ hx)) (fun x hx => hq x (List.mem_cons_of_mem _ hx)) (by simpa using l) e2]
theorem stp_ok {h : Int} (h1 : 1 ≤ h) {w : Wo} (f : Fine h w) : ∀ p ∈ stp h w, OkP h p := by
  intro p hp
  obtain ⟨x, hx, rfl⟩ := List.mem_map.mp hp
  obtain ⟨x1, x2, x3⟩ := (mem_odds (run0_ok h1) x).mp hx
  dsimp only at x1 x2
  have oz := sz_odd (flast_odd' w x x3)
  have z1 := sz_pos (flast_odd' w x x3)
  have z2 : sz (flast x w) ≤ 2 * h - 1 := below_round w f x3 (.inl (by unfold sz; rw [if_neg (by omega)]; exact x2))
  exact ⟨z1, z2, oz⟩
theorem stp_len {h : Int} (h1 : 1 ≤ h) (w : Wo) : (stp h w).length = h.toNat := by
  have := stripL_len w h1
  rwa [stp_strip, List.length_map] at this
theorem bfs_few {h : Int} (h1 : 1 ≤ h) (h5 : h ≤ 5) {q : List Wo} (nd : (q.map (stp h)).Nodup) (wt : ∀ w ∈ q, Fine h w) : q.length ≤ 100000 := by
  have := nodup_lt ((2 * h).toNat ^ h.toNat) (q.map fun w => encQ (2 * h).toNat (stp h w)) ?_ ?_
  · rw [List.length_map] at this
    refine Nat.le_trans this ?_
    rcases (show h = 1 ∨ h = 2 ∨ h = 3 ∨ h = 4 ∨ h = 5 by omega) with rfl | rfl | rfl | rfl | rfl <;> decide
  · rw [show (q.map fun w => encQ (2 * h).toNat (stp h w)) = (q.map (stp h)).map (encQ (2 * h).toNat) by rw [List.map_map]; rfl]
    rw [List.Nodup, List.pairwise_map]
    refine List.Pairwise.imp_of_mem (fun {a b} ha hb ne e => ne ?_) nd
    obtain ⟨v, hv, rfl⟩ := List.mem_map.mp ha
    obtain ⟨w, hw, rfl⟩ := List.mem_map.mp hb
    exact encQ_inj h1 (stp_ok h1 (wt v hv)) (stp_ok h1 (wt w hw)) (by rw [stp_len h1, stp_len h1]) e
  · intro x hx
    obtain ⟨w, hw, rfl⟩ := List.mem_map.mp hx
    have := encQ_lt h1 (stp_ok h1 (wt w hw))
    rwa [stp_len h1] at this
/-! the dict of strips that came -/
def pkQ (p : Int × Bool) : NestedKey := .tup [.num p.1, .num (if p.2 = true then 1 else 0)]
theorem pkQ_inj {p q : Int × Bool} (h : pkQ p = pkQ q) : p = q := by
  obtain ⟨a, b⟩ := p
  obtain ⟨c, d⟩ := q
  unfold pkQ at h
  injection h with h
  injection h with h1 h2
  injection h2 with h2 _
  injection h1 with h1
  injection h2 with h2
  cases b <;> cases d <;> simp at h2 <;> dsimp only at h1 <;> rw [h1]
theorem nkDs_pairs : ∀ ps : List (Int × Bool), nkDs (ps.map pairD) = some (ps.map pkQ)
  | [] => rfl
  | p :: r => by
    simp only [List.map_cons, nkDs, nkDs_pairs r, pairD, nkD]
    rfl
theorem depth_pairs : ∀ ps : List (Int × Bool), NestedKey.depthAll (ps.map pkQ) ≤ 3
  | [] => by simp [NestedKey.depthAll]
  | p :: r => by
    have := depth_pairs r
    simp only [List.map_cons, NestedKey.depthAll, pkQ, NestedKey.depth]
    omega
theorem nkT_strip (ps : List (Int × Bool)) : nkT (.tup (ps.map pairD)) = some (.tup (ps.map pkQ)) := by
  have d := depth_pairs ps
  simp only [nkT, nkD, nkDs_pairs]
  rw [if_pos (by simp only [NestedKey.depth]; omega)]
theorem nkT_eq {ps qs : List (Int × Bool)} : nkT (.tup (ps.map pairD)) = nkT (.tup (qs.map pairD)) ↔ ps = qs := by
  rw [nkT_strip, nkT_strip]
  constructor
  · intro h
    injection h with h
    injection h with h
    exact List.map_inj_right (fun _ _ => pkQ_inj) |>.mp h
  · intro h
    rw [h]
def metR (h : Int) (q : List Wo) : List D := q.flatMap fun v => [.tup (stripL v h), .bl true]
theorem metR_val (h : Int) (w : Wo) : ∀ q : List Wo, (valN (metR h q) (.tup (stripL w h))).isSome = hasQ h q w
  | [] => rfl
  | v :: q => by
    have ih := metR_val h w q
    unfold metR at ih ⊢
    rw [List.flatMap_cons]
    simp only [List.cons_append, List.nil_append, valN]
    rw [stp_strip, stp_strip]
    unfold hasQ at ih ⊢
    rw [List.any_cons]
    by_cases e : stp h v = stp h w
    · rw [if_pos (nkT_eq.mpr e), decide_eq_true e]
      rfl
    · rw [if_neg (fun z => e (nkT_eq.mp z)), decide_eq_false e, Bool.false_or, ← stp_strip]
      exact ih
theorem metR_put (h : Int) (w : Wo) : ∀ q : List Wo, hasQ h q w = false → putN (metR h q) (.tup (stripL w h)) (.bl true) = metR h (q ++ [w])
  | [], _ => rfl
  | v :: q, hq => by
    unfold hasQ at hq
    rw [List.any_cons, Bool.or_eq_false_iff] at hq
    have ih := metR_put h w q hq.2
    have e := of_decide_eq_false hq.1
    unfold metR at ih ⊢
    rw [List.cons_append, List.flatMap_cons, List.flatMap_cons]
    simp only [List.cons_append, List.nil_append, putN]
    rw [stp_strip, stp_strip]
    rw [if_neg (fun z => e (nkT_eq.mp z)), ← stp_strip h v, ← stp_strip h w, ih]
theorem metR_len (h : Int) (q : List Wo) : (metR h q).length = 2 * q.length := by
  unfold metR
  induction q with
  | nil => rfl
  | cons v q ih => simp only [List.flatMap_cons, List.length_append, List.length_cons, List.length_nil, ih]; omega
def itemQ (h : Int) (w : Wo) : D := .tup [.tup (w.map D.int), stripD w h]
def sp_least_word : SpD := fun ds st kk => ∃ (W : Wo) (h : Int), ds = [.tup (W.map D.int), .int h] ∧ 1 ≤ h ∧ h ≤ 5 ∧ Fine h W ∧ ∀ L, Least h W L → kk (.tup (L.map D.int)) st
theorem len_least_word (ds : List D) (st : Sto) (kk : DK) (h : sp_least_word ds st kk) : ds.length = 2 := by
  obtain ⟨_, _, rfl, _⟩ := h
  rfl
theorem gs_rng {h : Int} (h1 : 1 ≤ h) : rangeD 1 (h + 1 - 1).toNat = (gsQ h).map D.int := by
  unfold rangeD gsQ
  rw [show h + 1 - 1 = h by omega, List.map_map]
  rfl
theorem eqDs_pairs : ∀ ps qs : List (Int × Bool), eqDs (ps.map pairD) (qs.map pairD) = decide (ps = qs)
  | [], [] => rfl
  | [], _ :: _ => rfl
  | _ :: _, [] => rfl
  | p :: ps, q :: qs => by
    have e : eqD (pairD p) (pairD q) = decide (p = q) := by
      obtain ⟨a, b⟩ := p
      obtain ⟨c, d⟩ := q
      simp only [pairD, eqD, eqDs, Bool.and_true]
      by_cases z : a = c <;> by_cases y : b = d <;> simp [z, y]
    simp only [List.map_cons, eqDs]
    rw [e, eqDs_pairs ps qs]
    by_cases z : p = q <;> by_cases y : ps = qs <;> simp [z, y]
theorem eqD_stp (h : Int) (a b : Wo) : eqD (stripD a h) (stripD b h) = decide (stp h a = stp h b) := eqDs_pairs _ _
theorem itQ_go {c a b : Prop} {i : Decidable c} (h : ¬ c) (q : b) : @ite Prop c i a b := by rw [if_neg h]; exact q
theorem itQ_yes {c a b : Prop} {i : Decidable c} (h : c) (q : a) : @ite Prop c i a b := by rw [if_pos h]; exact q
theorem s2_get0 {st : Sto} {x y : List D} : (st ++ [x] ++ [y])[st.length]? = some x := by simp
theorem s2_get1 {st : Sto} {x y : List D} : (st ++ [x] ++ [y])[st.length + 1]? = some y := by simp
theorem s2_set0 {st : Sto} {x y z : List D} : (st ++ [x] ++ [y]).set st.length z = st ++ [z] ++ [y] := by simp
theorem s2_set1 {st : Sto} {x y z : List D} : (st ++ [x] ++ [y]).set (st.length + 1) z = st ++ [x] ++ [z] := by simp
theorem items_below (h : Int) : ∀ q : List Wo, belows 0 (q.map (itemQ h)) = true
  | [] => rfl
  | w :: q => by
    simp only [List.map_cons, belows, itemQ, below, belows_int, stripD, Bool.and_true, Bool.true_and]
    rw [stp_strip, belows_pairs, items_below h q]
    rfl
theorem metR_below (h : Int) : ∀ q : List Wo, belows 0 (metR h q) = true
  | [] => rfl
  | w :: q => by
    have ih := metR_below h q
    unfold metR at ih ⊢
    rw [List.flatMap_cons]
    simp only [List.cons_append, List.nil_append, belows, below, Bool.true_and]
    rw [stp_strip, belows_pairs, ih]
    rfl
def stepD2 (h g : Int) : D := .tup [.int g, stripD [g] h]
theorem p_least_word : BodyD true N_least_word sp_least_word t_least_word := by
  rintro ds st kk ⟨W, h, rfl, h1, h5, f, hk⟩
  rw [st_least_word]
  simp only [t_least_word]
  (walk_at "lw_dd0")
  refine ⟨W, h, rfl, h1, by omega, ?_⟩
  simp only [z2_least_word]
  (walk_at "lw_dd0")
  refine ⟨⟨by omega, by omega, by omega, by omega⟩, by rw [rangeD_length]; omega, ?_⟩
  rw [gs_rng h1]
  refine lc_map (src := []) D.int (stepD2 h) (gsQ h) st trivial [] (fun g hg kd hkd => ?_) ?_
  · (walk_at "lw_dd0")
    simp only [e1_least_word]
    (walk_at "lw_dd0")
    exact ⟨[g], h, rfl, h1, by omega, hkd⟩
  rw [List.nil_append]
  simp only [z3_least_word]
  (walk_at "lw_dd0")
  refine ⟨[], h, rfl, h1, by omega, ?_⟩
  simp only [z4_least_word]
  (walk_at "lw_dd0")
  have tup : ∀ (w : Wo) (s : Sto) (k : DK), k (.tup (stripL w h)) s → bTuple [stripD w h] s k := fun _ _ _ hk => hk
  refine tup _ _ _ ?_
  have ls : (st ++ [[D.tup [D.tup [], stripD [] h]]]).length = st.length + 1 := by simp
  have nk : ∀ w, (nkT (.tup (stripL w h))).isSome = true := fun w => by rw [stp_strip, nkT_strip]; rfl
  rw [ls]
  refine ⟨by rw [← ls]; exact app_get, ⟨nk [], trivial⟩, ?_⟩
  rw [show ∀ x y z : List D, (st ++ [x] ++ [y]).set (st.length + 1) z = st ++ [x] ++ [z] from fun x y z => s2_set1, show mergeN [] [(D.tup (stripL [] h), D.bl true)] = metR h [[]] from rfl]
  simp only [z5_least_word]
  (walk_at "lw_dd0")
  refine go_while (fun m env s => ∃ (n : Nat) (v4 v9 v10 v11 v12 : Option D), m = 200000 - n ∧ n ≤ 100000 ∧ (∀ i a, i < n → (bfsQ h n)[i]? = some a → stp h a ≠ stp h W) ∧
    env = [some (.tup (W.map D.int)), some (.int h), some (stripD W h), some (.lst ((gsQ h).map (stepD2 h))), v4, some (stripD [] h), some (.obj st.length), some (.dic .n (st.length + 1)), some (.int (n : Nat)), v9, v10, v11, v12] ∧
    s = st ++ [(bfsQ h n).map (itemQ h)] ++ [metR h (bfsQ h n)]) 200000 ⟨0, none, none, none, none, none, rfl, Nat.zero_le _, fun i a hi => absurd hi (Nat.not_lt_zero _), rfl, rfl⟩ ?_
  rintro m env s ⟨n, v4, v9, v10, v11, v12, rfl, hn, no, rfl, rfl⟩
  have I := bfs_qi h1 n
  have hin := bfs_in h1 f no
  obtain ⟨a, ea⟩ : ∃ a, (bfsQ h n)[n]? = some a := ⟨_, List.getElem?_eq_getElem hin⟩
  have few := bfs_few h1 h5 I.nd I.wt
  have fa := I.wt a (List.mem_of_getElem? ea)
  have g0 : ∀ x y : List D, (st ++ [x] ++ [y])[st.length]? = some x := fun x y => s2_get0
  have g1 : ∀ x y : List D, (st ++ [x] ++ [y])[st.length + 1]? = some y := fun x y => s2_get1
  have at_ : atI ((bfsQ h n).map (itemQ h)) ((n : Nat) : Int) = some (itemQ h a) := atI_nat (by rw [List.getElem?_map, ea]; rfl)
  (walk_at "lw_dd0")
  rw [e_ixO (g0 _ _)]
  refine ⟨_, at_, ?_⟩
  simp only [itemQ]
  (walk_at "lw_dd0")
  have dr : ∀ (s : Sto) (w : Wo), deref s (stripD w h) = stripD w h := fun _ _ => rfl
  refine ⟨stripD a h, rfl, okD_strip 58 a h, okD_strip 58 W h, ?_⟩
  rw [dr, dr, eqD_stp]
  by_cases e : stp h a = stp h W
  · refine itQ_go (by rw [decide_eq_true e]; decide) ?_
    simp only [z13_least_word]
    (walk_at "lw_dd0")
    rw [e_ixO (g0 _ _)]
    refine ⟨_, at_, ?_⟩
    simp only [itemQ]
    (walk_at "lw_dd0")
    refine ⟨_, rfl, ?_⟩
    rw [List.append_assoc]
    refine frz_locs (safe_closed _ _ fun c hc => ?_) ?_
    · rcases List.mem_cons.mp hc with z | z
      · rw [z]
        exact items_below _ _
      · rw [List.mem_singleton.mp z]
        exact metR_below _ _
    · rw [frzs_closed (by simp only [below]; exact belows_int 0 _)]
      exact hk a ⟨⟨n, List.mem_of_getElem? ea⟩, e⟩
  · refine itQ_yes (by rw [decide_eq_false e]; decide) ?_
    simp only [b2_least_word]
    (walk_at "lw_dd0")
    rw [e_ixO (g0 _ _)]
    refine ⟨_, at_, ?_⟩
    simp only [itemQ]
    (walk_at "lw_dd0")
    simp only [z7_least_word]
    (walk_at "lw_dd0")
    refine fun _ => ?_
    refine go_for (stepD2 h) (fun r env s => ∃ (dn : List Int) (q : List Wo) (v4 v11 v12 : Option D), dn ++ r = gsQ h ∧ MidQ h a (bfsQ h n) q dn ∧ q = procQ h a (bfsQ h n) dn ∧
      env = [some (.tup (W.map D.int)), some (.int h), some (stripD W h), some (.lst ((gsQ h).map (stepD2 h))), v4, some (stripD [] h), some (.obj st.length), some (.dic .n (st.length + 1)), some (.int (n : Nat)), some (.tup (a.map D.int)), some (stripD a h), v11, v12] ∧
      s = st ++ [q.map (itemQ h)] ++ [metR h q]) ?_ ?_ _ _ _ ⟨[], bfsQ h n, v4, v11, v12, rfl, I.mid ea, rfl, rfl, rfl⟩
    · rintro g r env s nx ⟨dn, q, v4, v11, v12, hd, M, hq, rfl, rfl⟩ q2
      have gm : g ∈ gsQ h := by rw [← hd]; simp
      obtain ⟨g1', g2'⟩ := (gsQ_mem h1).mp gm
      have fewq := bfs_few h1 h5 M.nd M.wt
      have M2 := M.step fa g1' g2'
      refine ⟨trivial, ?_⟩
      simp only [stepD2]
      (walk_at "lw_dd0")
      simp only [b1_least_word]
      (walk_at "lw_dd0")
      refine ⟨a, [g], h, false, false, rfl, h1, by omega, fa, ?_⟩
      simp only [z9_least_word]
      (walk_at "lw_dd0")
      refine tup _ _ _ ?_
      rw [e_inN (g1 _ _), metR_val]
      refine ⟨by rw [metR_len]; omega, nk _, ?_⟩
      (walk_at "lw_dd0")
      cases c : hasQ h q (a ++ [g]) with
      | true =>
        refine q2 _ _ ⟨dn ++ [g], q, _, _, _, by rw [List.append_assoc]; exact hd, ?_, ?_, rfl, rfl⟩
        · have : addQ h q (a ++ [g]) = q := by unfold addQ; rw [if_pos c]
          rw [this] at M2
          exact M2
        · unfold procQ at hq ⊢
          rw [List.foldl_append, ← hq]
          show q = addQ h q (a ++ [g])
          unfold addQ
          rw [if_pos c]
      | false =>
        refine itQ_yes (by decide) ?_
        refine tup _ _ _ ?_
        rw [e_putNs (g1 _ _), metR_put h _ q c, s2_set1]
        refine ⟨by rw [metR_len]; omega, nk _, by rw [metR_len]; omega, ?_⟩
        simp only [z11_least_word]
        (walk_at "lw_dd0")
        rw [e_isO (g0 _ _), e_app (g0 _ _), s2_set0]
        (walk_at "lw_dd0")
        have la := bfs_short n a (List.mem_of_getElem? ea)
        have ad : addQ h q (a ++ [g]) = q ++ [a ++ [g]] := by unfold addQ; rw [if_neg (by rw [c]; decide)]
        rw [ad] at M2
        refine ⟨by omega, by omega, ?_⟩
        refine q2 _ _ ⟨dn ++ [g], q ++ [a ++ [g]], _, _, _, by rw [List.append_assoc]; exact hd, M2, ?_, rfl, ?_⟩
        · unfold procQ at hq ⊢
          rw [List.foldl_append, ← hq]
          exact ad.symm
        · rw [List.map_append, List.map_singleton]
          simp only [itemQ, List.map_append, List.map_singleton]
    · rintro env s ⟨dn, q, v4, v11, v12, hd, M, hq, rfl, rfl⟩
      rw [List.append_nil] at hd
      subst hd
      refine ⟨trivial, ?_⟩
      simp only [z12_least_word]
      (walk_at "lw_dd0")
      have M := M
      subst hq
      rw [← bfs_some ea] at M ⊢
      refine ⟨200000 - (n + 1), by omega, n + 1, _, _, _, _, _, rfl, by have := bfs_few h1 h5 M.nd M.wt; omega, fun i c hi hc => ?_, by push_cast; rfl, rfl⟩
      by_cases z : i = n
      · subst z
        rw [pre_get M.pre hin, ea] at hc
        cases hc
        exact e
      · exact no i c (by omega) (by rw [← pre_get M.pre (by omega)]; exact hc)
def t__law_tape : DS :=
    (dSeq (dAsg (dIf (dTest (dOp (cmpI fun i j => decide (i < j)) (dVar 1) (dB bLen (dCons (dVar 0) dNil)))) (dOp ixD (dVar 0) (dVar 1)) (dC (.int 0))) (dgName 2))
    (dRet (dNew (dCons (dOp mulD (dB bAbs (dCons (dVar 2) dNil)) (dB bInt (dCons (dOp (cmpI fun i j => decide (j ≤ i)) (dB bAbs (dCons (dVar 2) dNil)) (dOp powD (dC (.int 10)) (dC (.int 18)))) dNil))) (dCons (dOp addD (dOp addD (dOp modD (dVar 2) (dC (.int 2305843009213693951))) (dOp mulD (dC (.int 39373)) (dVar 1))) (dC (.int 17))) (dCons (dC (.int 0)) dNil))))))
theorem st__law_tape (a0 a1 : D) : startD N__law_tape [a0, a1] = [some a0, some a1, none] := rfl
/-- a tape: n draws at most so far -/
def sp__law_tape : SpD := fun ds st kk => ∃ (cs : List Int) (k : Nat), ds = [.lst (cs.map D.int), .int k] ∧ k ≤ 1000 ∧ ∀ xs, Tape 0 xs → kk (.obj st.length) (st ++ [xs])
theorem len__law_tape (ds : List D) (st : Sto) (kk : DK) (h : sp__law_tape ds st kk) : ds.length = 2 := by
  obtain ⟨cs, k, rfl, _⟩ := h
  rfl
theorem atI_ints {cs : List Int} {k : Nat} (h : k < cs.length) : atI (cs.map D.int) (k : Int) = some (.int cs[k]) := by
  refine atI_nat ?_
  rw [List.getElem?_map, List.getElem?_eq_getElem h]
  rfl
theorem p__law_tape : BodyD false N__law_tape sp__law_tape t__law_tape := by
  rintro ds st kk ⟨cs, k, rfl, hk, h⟩
  rw [st__law_tape]
  simp only [t__law_tape]
  (walk_at "lw_dd")
  have fin : ∀ c : Int, PowOk 10 18 → kk (.obj st.length) (st ++ [[.int ((if c < 0 then -c else c) * (if (10 : Int) ^ 18 ≤ (if c < 0 then -c else c) then 1 else 0)), .int (c % 2305843009213693951 + 39373 * (k : Int) + 17), .int 0]]) := fun c _ => by
    refine h _ ⟨_, _, _, rfl, ?_, ?_, Int.le_refl _, by omega⟩
    · have := Int.emod_nonneg c (b := 2305843009213693951) (by decide)
      omega
    · have := Int.emod_lt_of_pos c (b := 2305843009213693951) (by decide)
      omega
  have pw : PowOk 10 18 := ⟨by decide, by decide, by decide⟩
  have m1 : MulOk 39373 (k : Int) := mulc _ _ (by decide) (by decide)
  split
  · rename_i hlt
    have hlt' : k < cs.length := by omega
    refine ⟨_, atI_ints hlt', ?_⟩
    (walk_at "lw_dd")
    exact ⟨pw, mulb _ _, by decide, m1, fin _ pw⟩
  · exact ⟨pw, mulb _ _, by decide, m1, fin 0 pw⟩
def t__law_draw : DS :=
    (dSeq (dIfS (dTest (dOp (cmpI fun i j => decide (j < i)) (dOp ixD (dVar 0) (dC (.int 0))) (dC (.int 0)))) (dSeq (dAsg (dOp modD (dOp ixD (dVar 0) (dC (.int 0))) (dVar 1)) (dgName 2))
    (dSeq (dAsg (dOp divD (dOp ixD (dVar 0) (dC (.int 0))) (dVar 1)) (dgSub (dVar 0) (dC (.int 0))))
    (dRet (dVar 2)))) dPass)
    (dSeq (dAsg (dOp addD (dOp ixD (dVar 0) (dC (.int 2))) (dC (.int 1))) (dgSub (dVar 0) (dC (.int 2))))
    (dSeq (dAsg (dOp modD (dOp powD (dOp addD (dOp ixD (dVar 0) (dC (.int 1))) (dOp mulD (dC (.int 39373)) (dOp ixD (dVar 0) (dC (.int 2))))) (dC (.int 5))) (dC (.int 2147483647))) (dgName 3))
    (dSeq (dAsg (dOp modD (dOp mulD (dOp addD (dVar 3) (dOp ixD (dVar 0) (dC (.int 2)))) (dOp addD (dOp addD (dOp modD (dVar 3) (dC (.int 40009))) (dC (.int 7))) (dOp ixD (dVar 0) (dC (.int 2))))) (dC (.int 2147483629))) (dgName 4))
    (dSeq (dAsg (dOp modD (dOp addD (dOp addD (dOp divD (dOp ixD (dVar 0) (dC (.int 1))) (dC (.int 2147483647))) (dOp mulD (dVar 4) (dC (.int 40009)))) (dOp ixD (dVar 0) (dC (.int 2)))) (dC (.int 2305843009213693951))) (dgName 5))
    (dRet (dOp modD (dOp divD (dOp modD (dOp addD (dOp addD (dOp mulD (dVar 4) (dC (.int 48271))) (dOp mulD (dVar 5) (dC (.int 39373)))) (dVar 3)) (dC (.int 2305843009213693921))) (dC (.int 64))) (dVar 1))))))))
theorem st__law_draw (a0 a1 : D) : startD N__law_draw [a0, a1] = [some a0, some a1, none, none, none, none] := rfl
def sp__law_draw : SpD := fun ds st kk => ∃ (i n : Nat) (m : Int), ds = [.obj i, .int m] ∧ Tp i n st ∧ n < 1000000000000 ∧ Big m ∧ ∀ (r : Int) xs, 0 ≤ r → r < m → Tp i (n + 1) (st.set i xs) → kk (.int r) (st.set i xs)
theorem len__law_draw (ds : List D) (st : Sto) (kk : DK) (h : sp__law_draw ds st kk) : ds.length = 2 := by
  obtain ⟨i, n, m, rfl, _⟩ := h
  rfl
theorem p__law_draw : BodyD false N__law_draw sp__law_draw t__law_draw := by
  rintro ds st kk ⟨i, n, m, rfl, ⟨xs, hx, a, b, c, rfl, h1, h2, h3, h4⟩, hn, hm, h⟩
  have hi : i < st.length := (List.getElem?_eq_some_iff.mp hx).1
  have hs : ∀ ys : List D, (st.set i ys)[i]? = some ys := fun ys => List.getElem?_set_self hi
  have p5 : PowOk (b + 39373 * (c + 1)) 5 := pow5 (by omega) (by omega)
  rw [st__law_draw]
  simp only [t__law_draw]
  (try simp only [BEq.rfl, ↓e_v0, ↓e_vs, ↓e_c, ↓e_op, ↓e_un, ↓e_test, ↓e_testK, ↓e_tru, ↓e_truL, ↓e_truT, ↓e_truB, ↓e_truI, ↓e_truN, ↓e_truS, ↓e_not, ↓e_or, ↓e_andv, ↓e_notv, ↓e_andK, ↓e_notK, ↓e_if, ↓e_nil, ↓e_cons, ↓e_tup, ↓e_lst, ↓e_new, ↓e_call, ↓e_callK, ↓e_drop, ↓e_ret, ↓e_pass, ↓e_ifS, ↓e_g0, ↓e_gs, ↓e_gnil, ↓e_gcons, ↓e_gtup, ↓e_asg, ↓e_par, ↓e_parK, ↓e_par3, ↓e_par3K, ↓e_no, ↓e_some, ↓e_someK, ↓e_cut, ↓e_b, ↓e_iter, ↓e_iterL, ↓e_iterT, ↓e_iterS, ↓e_rng1, ↓e_rng1K, ↓e_rng2, ↓e_rng2K, ↓e_rng3, ↓e_rng3K, ↓e_enum, ↓e_enumL, ↓e_enumT, ↓e_zip, ↓e_zipL, ↓e_zipT, ↓e_for, ↓e_lc, ↓e_forN, ↓e_forC, ↓e_lcN, ↓e_lcC, ↓e_srcN, ↓e_srcC, ↓e_meth, ↓e_isL, ↓e_sub, ↓e_aug, ↓e_augK, ↓e_isi, ↓e_yes, ↓e_addI, ↓e_addB, ↓e_addS, ↓e_addT, ↓e_addL, ↓e_subI, ↓e_mulI, ↓e_mulT, ↓e_mulL, ↓e_divI, ↓e_modI, ↓e_powI, ↓e_negI, ↓e_iadd, ↓e_cmpI, ↓e_eq, ↓e_ne, ↓e_isn, ↓e_isnn, ↓e_isb, ↓e_ixL, ↓e_ixKL, ↓e_ixT, ↓e_cutL, ↓e_cutKL, ↓e_cutT, ↓e_lenL, ↓e_lenKL, ↓e_lenT, ↓e_abs, ↓e_intI, ↓e_intB, ↓e_min2, ↓e_listNL, ↓e_listNT, ↓e_tupL, ↓e_tupT, ↓e_drI, ↓e_drB, ↓e_drS, ↓e_drN, ↓e_drL, ↓e_drT, ↓e_seq, ↓e_inFlat, ↓e_drK, ↓e_addBI, ↓e_subBI, ↓e_subIB, ↓e_drG, ↓e_dgetF, ↓e_cutS, ↓e_mulS, ↓e_iaddI, ↓e_pairs0, ↓e_pairs1, ↓e_dispN, ↓e_putN, e_kyI, e_kyS, Nat.reduceAdd, Nat.zero_add, List.length_cons, List.length_nil, List.length_map, Nat.reduceLeDiff, and_true, true_and, if_true, ite_true, decide_eq_true_eq, Bool.not_eq_true, Bool.false_eq_true, if_false, ite_false, ↓reduceIte, Int.reduceToNat, Int.reducePow, ne_eq, q_okI, q_okB, q_okN, q_okS, q_okL, q_okT, q_oks0, q_oks1, q_eqII, q_eqBB, q_eqSS, q_eqLL, q_eqTT, q_eqNN, q_eqNI, q_eqIN, q_eqs0, q_eqs1, Bool.true_and, Bool.and_true, beq_iff_eq, reduceCtorEq, wipeE, List.set_cons_zero, List.set_cons_succ, List.set_nil, Bool.not_true, Bool.not_false, List.getElem?_cons_zero, List.getElem?_cons_succ, e_ixO hx, at0, at1, at2, Option.some.injEq, exists_eq_left', e_setO hx])
  have tp : ∀ a' : Int, Tp i (n + 1) (st.set i [.int a', .int b, .int c]) := fun a' => ⟨_, hs _, _, _, _, rfl, h1, h2, h3, by omega⟩
  have tp2 : Tp i (n + 1) (st.set i [.int a, .int b, .int (c + 1)]) := ⟨_, hs _, _, _, _, rfl, h1, h2, by omega, by omega⟩
  split
  · exact ⟨by have := hm.1; omega, hm.div, 0, rfl, h _ _ (Int.emod_nonneg _ (by have := hm.1; omega)) (Int.emod_lt_of_pos _ (by have := hm.1; omega)) (tp _)⟩
  · refine ⟨2, rfl, ?_⟩
    (try simp only [BEq.rfl, ↓e_v0, ↓e_vs, ↓e_c, ↓e_op, ↓e_un, ↓e_test, ↓e_testK, ↓e_tru, ↓e_truL, ↓e_truT, ↓e_truB, ↓e_truI, ↓e_truN, ↓e_truS, ↓e_not, ↓e_or, ↓e_andv, ↓e_notv, ↓e_andK, ↓e_notK, ↓e_if, ↓e_nil, ↓e_cons, ↓e_tup, ↓e_lst, ↓e_new, ↓e_call, ↓e_callK, ↓e_drop, ↓e_ret, ↓e_pass, ↓e_ifS, ↓e_g0, ↓e_gs, ↓e_gnil, ↓e_gcons, ↓e_gtup, ↓e_asg, ↓e_par, ↓e_parK, ↓e_par3, ↓e_par3K, ↓e_no, ↓e_some, ↓e_someK, ↓e_cut, ↓e_b, ↓e_iter, ↓e_iterL, ↓e_iterT, ↓e_iterS, ↓e_rng1, ↓e_rng1K, ↓e_rng2, ↓e_rng2K, ↓e_rng3, ↓e_rng3K, ↓e_enum, ↓e_enumL, ↓e_enumT, ↓e_zip, ↓e_zipL, ↓e_zipT, ↓e_for, ↓e_lc, ↓e_forN, ↓e_forC, ↓e_lcN, ↓e_lcC, ↓e_srcN, ↓e_srcC, ↓e_meth, ↓e_isL, ↓e_sub, ↓e_aug, ↓e_augK, ↓e_isi, ↓e_yes, ↓e_addI, ↓e_addB, ↓e_addS, ↓e_addT, ↓e_addL, ↓e_subI, ↓e_mulI, ↓e_mulT, ↓e_mulL, ↓e_divI, ↓e_modI, ↓e_powI, ↓e_negI, ↓e_iadd, ↓e_cmpI, ↓e_eq, ↓e_ne, ↓e_isn, ↓e_isnn, ↓e_isb, ↓e_ixL, ↓e_ixKL, ↓e_ixT, ↓e_cutL, ↓e_cutKL, ↓e_cutT, ↓e_lenL, ↓e_lenKL, ↓e_lenT, ↓e_abs, ↓e_intI, ↓e_intB, ↓e_min2, ↓e_listNL, ↓e_listNT, ↓e_tupL, ↓e_tupT, ↓e_drI, ↓e_drB, ↓e_drS, ↓e_drN, ↓e_drL, ↓e_drT, ↓e_seq, ↓e_inFlat, ↓e_drK, ↓e_addBI, ↓e_subBI, ↓e_subIB, ↓e_drG, ↓e_dgetF, ↓e_cutS, ↓e_mulS, ↓e_iaddI, ↓e_pairs0, ↓e_pairs1, ↓e_dispN, ↓e_putN, e_kyI, e_kyS, Nat.reduceAdd, Nat.zero_add, List.length_cons, List.length_nil, List.length_map, Nat.reduceLeDiff, and_true, true_and, if_true, ite_true, decide_eq_true_eq, Bool.not_eq_true, Bool.false_eq_true, if_false, ite_false, ↓reduceIte, Int.reduceToNat, Int.reducePow, ne_eq, q_okI, q_okB, q_okN, q_okS, q_okL, q_okT, q_oks0, q_oks1, q_eqII, q_eqBB, q_eqSS, q_eqLL, q_eqTT, q_eqNN, q_eqNI, q_eqIN, q_eqs0, q_eqs1, Bool.true_and, Bool.and_true, beq_iff_eq, reduceCtorEq, wipeE, List.set_cons_zero, List.set_cons_succ, List.set_nil, Bool.not_true, Bool.not_false, List.getElem?_cons_zero, List.getElem?_cons_succ, List.set_cons_succ, List.set_cons_zero, e_ixO (hs _), at0, at1, at2, Option.some.injEq, exists_eq_left'])
    refine ⟨mulc _ _ (by decide) (by decide), p5, by decide, ?_⟩
    generalize hA : (b + 39373 * (c + 1)) ^ 5 % 2147483647 = A
    have hA0 : 0 ≤ A := by rw [← hA]; exact Int.emod_nonneg _ (by decide)
    have hA1 : A < 2147483647 := by rw [← hA]; exact Int.emod_lt_of_pos _ (by decide)
    (try simp only [BEq.rfl, ↓e_v0, ↓e_vs, ↓e_c, ↓e_op, ↓e_un, ↓e_test, ↓e_testK, ↓e_tru, ↓e_truL, ↓e_truT, ↓e_truB, ↓e_truI, ↓e_truN, ↓e_truS, ↓e_not, ↓e_or, ↓e_andv, ↓e_notv, ↓e_andK, ↓e_notK, ↓e_if, ↓e_nil, ↓e_cons, ↓e_tup, ↓e_lst, ↓e_new, ↓e_call, ↓e_callK, ↓e_drop, ↓e_ret, ↓e_pass, ↓e_ifS, ↓e_g0, ↓e_gs, ↓e_gnil, ↓e_gcons, ↓e_gtup, ↓e_asg, ↓e_par, ↓e_parK, ↓e_par3, ↓e_par3K, ↓e_no, ↓e_some, ↓e_someK, ↓e_cut, ↓e_b, ↓e_iter, ↓e_iterL, ↓e_iterT, ↓e_iterS, ↓e_rng1, ↓e_rng1K, ↓e_rng2, ↓e_rng2K, ↓e_rng3, ↓e_rng3K, ↓e_enum, ↓e_enumL, ↓e_enumT, ↓e_zip, ↓e_zipL, ↓e_zipT, ↓e_for, ↓e_lc, ↓e_forN, ↓e_forC, ↓e_lcN, ↓e_lcC, ↓e_srcN, ↓e_srcC, ↓e_meth, ↓e_isL, ↓e_sub, ↓e_aug, ↓e_augK, ↓e_isi, ↓e_yes, ↓e_addI, ↓e_addB, ↓e_addS, ↓e_addT, ↓e_addL, ↓e_subI, ↓e_mulI, ↓e_mulT, ↓e_mulL, ↓e_divI, ↓e_modI, ↓e_powI, ↓e_negI, ↓e_iadd, ↓e_cmpI, ↓e_eq, ↓e_ne, ↓e_isn, ↓e_isnn, ↓e_isb, ↓e_ixL, ↓e_ixKL, ↓e_ixT, ↓e_cutL, ↓e_cutKL, ↓e_cutT, ↓e_lenL, ↓e_lenKL, ↓e_lenT, ↓e_abs, ↓e_intI, ↓e_intB, ↓e_min2, ↓e_listNL, ↓e_listNT, ↓e_tupL, ↓e_tupT, ↓e_drI, ↓e_drB, ↓e_drS, ↓e_drN, ↓e_drL, ↓e_drT, ↓e_seq, ↓e_inFlat, ↓e_drK, ↓e_addBI, ↓e_subBI, ↓e_subIB, ↓e_drG, ↓e_dgetF, ↓e_cutS, ↓e_mulS, ↓e_iaddI, ↓e_pairs0, ↓e_pairs1, ↓e_dispN, ↓e_putN, e_kyI, e_kyS, Nat.reduceAdd, Nat.zero_add, List.length_cons, List.length_nil, List.length_map, Nat.reduceLeDiff, and_true, true_and, if_true, ite_true, decide_eq_true_eq, Bool.not_eq_true, Bool.false_eq_true, if_false, ite_false, ↓reduceIte, Int.reduceToNat, Int.reducePow, ne_eq, q_okI, q_okB, q_okN, q_okS, q_okL, q_okT, q_oks0, q_oks1, q_eqII, q_eqBB, q_eqSS, q_eqLL, q_eqTT, q_eqNN, q_eqNI, q_eqIN, q_eqs0, q_eqs1, Bool.true_and, Bool.and_true, beq_iff_eq, reduceCtorEq, wipeE, List.set_cons_zero, List.set_cons_succ, List.set_nil, Bool.not_true, Bool.not_false, List.getElem?_cons_zero, List.getElem?_cons_succ, e_ixO (hs _), at0, at1, at2, Option.some.injEq, exists_eq_left'])
    refine ⟨by decide, mulc _ _ (by omega) (by omega), by decide, ?_⟩
    generalize hB : (A + (c + 1)) * (A % 40009 + 7 + (c + 1)) % 2147483629 = B
    have hB0 : 0 ≤ B := by rw [← hB]; exact Int.emod_nonneg _ (by decide)
    have hB1 : B < 2147483629 := by rw [← hB]; exact Int.emod_lt_of_pos _ (by decide)
    (try simp only [BEq.rfl, ↓e_v0, ↓e_vs, ↓e_c, ↓e_op, ↓e_un, ↓e_test, ↓e_testK, ↓e_tru, ↓e_truL, ↓e_truT, ↓e_truB, ↓e_truI, ↓e_truN, ↓e_truS, ↓e_not, ↓e_or, ↓e_andv, ↓e_notv, ↓e_andK, ↓e_notK, ↓e_if, ↓e_nil, ↓e_cons, ↓e_tup, ↓e_lst, ↓e_new, ↓e_call, ↓e_callK, ↓e_drop, ↓e_ret, ↓e_pass, ↓e_ifS, ↓e_g0, ↓e_gs, ↓e_gnil, ↓e_gcons, ↓e_gtup, ↓e_asg, ↓e_par, ↓e_parK, ↓e_par3, ↓e_par3K, ↓e_no, ↓e_some, ↓e_someK, ↓e_cut, ↓e_b, ↓e_iter, ↓e_iterL, ↓e_iterT, ↓e_iterS, ↓e_rng1, ↓e_rng1K, ↓e_rng2, ↓e_rng2K, ↓e_rng3, ↓e_rng3K, ↓e_enum, ↓e_enumL, ↓e_enumT, ↓e_zip, ↓e_zipL, ↓e_zipT, ↓e_for, ↓e_lc, ↓e_forN, ↓e_forC, ↓e_lcN, ↓e_lcC, ↓e_srcN, ↓e_srcC, ↓e_meth, ↓e_isL, ↓e_sub, ↓e_aug, ↓e_augK, ↓e_isi, ↓e_yes, ↓e_addI, ↓e_addB, ↓e_addS, ↓e_addT, ↓e_addL, ↓e_subI, ↓e_mulI, ↓e_mulT, ↓e_mulL, ↓e_divI, ↓e_modI, ↓e_powI, ↓e_negI, ↓e_iadd, ↓e_cmpI, ↓e_eq, ↓e_ne, ↓e_isn, ↓e_isnn, ↓e_isb, ↓e_ixL, ↓e_ixKL, ↓e_ixT, ↓e_cutL, ↓e_cutKL, ↓e_cutT, ↓e_lenL, ↓e_lenKL, ↓e_lenT, ↓e_abs, ↓e_intI, ↓e_intB, ↓e_min2, ↓e_listNL, ↓e_listNT, ↓e_tupL, ↓e_tupT, ↓e_drI, ↓e_drB, ↓e_drS, ↓e_drN, ↓e_drL, ↓e_drT, ↓e_seq, ↓e_inFlat, ↓e_drK, ↓e_addBI, ↓e_subBI, ↓e_subIB, ↓e_drG, ↓e_dgetF, ↓e_cutS, ↓e_mulS, ↓e_iaddI, ↓e_pairs0, ↓e_pairs1, ↓e_dispN, ↓e_putN, e_kyI, e_kyS, Nat.reduceAdd, Nat.zero_add, List.length_cons, List.length_nil, List.length_map, Nat.reduceLeDiff, and_true, true_and, if_true, ite_true, decide_eq_true_eq, Bool.not_eq_true, Bool.false_eq_true, if_false, ite_false, ↓reduceIte, Int.reduceToNat, Int.reducePow, ne_eq, q_okI, q_okB, q_okN, q_okS, q_okL, q_okT, q_oks0, q_oks1, q_eqII, q_eqBB, q_eqSS, q_eqLL, q_eqTT, q_eqNN, q_eqNI, q_eqIN, q_eqs0, q_eqs1, Bool.true_and, Bool.and_true, beq_iff_eq, reduceCtorEq, wipeE, List.set_cons_zero, List.set_cons_succ, List.set_nil, Bool.not_true, Bool.not_false, List.getElem?_cons_zero, List.getElem?_cons_succ, e_ixO (hs _), at0, at1, at2, Option.some.injEq, exists_eq_left'])
    refine ⟨div_small (by decide) (by decide), mulc _ _ (by omega) (by omega), by decide, ?_⟩
    generalize hC : (b / 2147483647 + B * 40009 + (c + 1)) % 2305843009213693951 = C
    have hC0 : 0 ≤ C := by rw [← hC]; exact Int.emod_nonneg _ (by decide)
    have hC1 : C < 2305843009213693951 := by rw [← hC]; exact Int.emod_lt_of_pos _ (by decide)
    (try simp only [BEq.rfl, ↓e_v0, ↓e_vs, ↓e_c, ↓e_op, ↓e_un, ↓e_test, ↓e_testK, ↓e_tru, ↓e_truL, ↓e_truT, ↓e_truB, ↓e_truI, ↓e_truN, ↓e_truS, ↓e_not, ↓e_or, ↓e_andv, ↓e_notv, ↓e_andK, ↓e_notK, ↓e_if, ↓e_nil, ↓e_cons, ↓e_tup, ↓e_lst, ↓e_new, ↓e_call, ↓e_callK, ↓e_drop, ↓e_ret, ↓e_pass, ↓e_ifS, ↓e_g0, ↓e_gs, ↓e_gnil, ↓e_gcons, ↓e_gtup, ↓e_asg, ↓e_par, ↓e_parK, ↓e_par3, ↓e_par3K, ↓e_no, ↓e_some, ↓e_someK, ↓e_cut, ↓e_b, ↓e_iter, ↓e_iterL, ↓e_iterT, ↓e_iterS, ↓e_rng1, ↓e_rng1K, ↓e_rng2, ↓e_rng2K, ↓e_rng3, ↓e_rng3K, ↓e_enum, ↓e_enumL, ↓e_enumT, ↓e_zip, ↓e_zipL, ↓e_zipT, ↓e_for, ↓e_lc, ↓e_forN, ↓e_forC, ↓e_lcN, ↓e_lcC, ↓e_srcN, ↓e_srcC, ↓e_meth, ↓e_isL, ↓e_sub, ↓e_aug, ↓e_augK, ↓e_isi, ↓e_yes, ↓e_addI, ↓e_addB, ↓e_addS, ↓e_addT, ↓e_addL, ↓e_subI, ↓e_mulI, ↓e_mulT, ↓e_mulL, ↓e_divI, ↓e_modI, ↓e_powI, ↓e_negI, ↓e_iadd, ↓e_cmpI, ↓e_eq, ↓e_ne, ↓e_isn, ↓e_isnn, ↓e_isb, ↓e_ixL, ↓e_ixKL, ↓e_ixT, ↓e_cutL, ↓e_cutKL, ↓e_cutT, ↓e_lenL, ↓e_lenKL, ↓e_lenT, ↓e_abs, ↓e_intI, ↓e_intB, ↓e_min2, ↓e_listNL, ↓e_listNT, ↓e_tupL, ↓e_tupT, ↓e_drI, ↓e_drB, ↓e_drS, ↓e_drN, ↓e_drL, ↓e_drT, ↓e_seq, ↓e_inFlat, ↓e_drK, ↓e_addBI, ↓e_subBI, ↓e_subIB, ↓e_drG, ↓e_dgetF, ↓e_cutS, ↓e_mulS, ↓e_iaddI, ↓e_pairs0, ↓e_pairs1, ↓e_dispN, ↓e_putN, e_kyI, e_kyS, Nat.reduceAdd, Nat.zero_add, List.length_cons, List.length_nil, List.length_map, Nat.reduceLeDiff, and_true, true_and, if_true, ite_true, decide_eq_true_eq, Bool.not_eq_true, Bool.false_eq_true, if_false, ite_false, ↓reduceIte, Int.reduceToNat, Int.reducePow, ne_eq, q_okI, q_okB, q_okN, q_okS, q_okL, q_okT, q_oks0, q_oks1, q_eqII, q_eqBB, q_eqSS, q_eqLL, q_eqTT, q_eqNN, q_eqNI, q_eqIN, q_eqs0, q_eqs1, Bool.true_and, Bool.and_true, beq_iff_eq, reduceCtorEq, wipeE, List.set_cons_zero, List.set_cons_succ, List.set_nil, Bool.not_true, Bool.not_false, List.getElem?_cons_zero, List.getElem?_cons_succ, e_ixO (hs _), at0, at1, at2, Option.some.injEq, exists_eq_left'])
    refine ⟨mulc _ _ (by omega) (by omega), mulc _ _ (by omega) (by omega), by decide, div_small (by decide) (by decide), by have := hm.1; omega, ?_⟩
    exact h _ _ (Int.emod_nonneg _ (by have := hm.1; omega)) (Int.emod_lt_of_pos _ (by have := hm.1; omega)) tp2
def b1__law_folded : DS :=
    (dAsg (dOp addD (dOp ixD (dVar 2) (dOp modD (dVar 3) (dVar 1))) (dOp mulD (dVar 4) (dOp addD (dVar 3) (dC (.int 2))))) (dgSub (dVar 2) (dOp modD (dVar 3) (dVar 1))))
def t__law_folded : DS :=
    (dSeq (dAsg (dB bListNew (dCons (dCut cutOp (dVar 0) dNo (dSome (dVar 1))) dNil)) (dgName 2))
    (dSeq (dFor (dEnum (dCut cutOp (dVar 0) (dSome (dVar 1)) (dSome (dC (.int 63))))) (dgTup 2 (dgCons (dgName 3) (dgCons (dgName 4) dgNil))) (b1__law_folded))
    (dRet (dVar 2))))
theorem st__law_folded (a0 a1 : D) : startD N__law_folded [a0, a1] = [some a0, some a1, none, none, none] := rfl
theorem folded_loop (rt : DK) (a0 : D) (m : Nat) (hm : 1 ≤ m) (st : Sto) (kk : DL.Env → Sto → Prop) : ∀ (rs : List Int) (k : Nat) (cs : List Int) (v3 v4 : Option D), (rs ≠ [] → cs.length = m) → k + rs.length ≤ 1000 →
    (∀ (cs' : List Int) u3 u4, cs'.length = cs.length → kk [some a0, some (.int m), some (.obj st.length), u3, u4] (st ++ [cs'.map D.int])) →
    goFor [] (dgTup 2 (dgCons (dgName 3) (dgCons (dgName 4) dgNil))) b1__law_folded ⟨kk, rt⟩ (enumD k (rs.map D.int)) [some a0, some (.int m), some (.obj st.length), v3, v4] (st ++ [cs.map D.int])
  | [], k, cs, v3, v4, _, _, h => ⟨trivial, h cs v3 v4 rfl⟩
  | r :: rs, k, cs, v3, v4, hl, hk, h => by
    simp only [List.map_cons, enumD]
    rw [e_forC]
    refine ⟨trivial, ?_⟩
    have hc : cs.length = m := hl (by simp)
    have i0 : 0 ≤ (k : Int) % (m : Int) := Int.emod_nonneg _ (by omega)
    have i1 : (k : Int) % (m : Int) < (m : Int) := Int.emod_lt_of_pos _ (by omega)
    have ea : atI (cs.map D.int) ((k : Int) % (m : Int)) = some (.int (cs[((k : Int) % (m : Int)).toNat]'(by omega))) := by
      rw [atI_at i0 (by rw [List.length_map]; omega), List.getElem_map]
    have ei : ixN (cs.map D.int).length ((k : Int) % (m : Int)) = some ((k : Int) % (m : Int)).toNat := ixN_of i0 (by rw [List.length_map]; omega)
    simp only [b1__law_folded]
    (try simp only [BEq.rfl, ↓e_v0, ↓e_vs, ↓e_c, ↓e_op, ↓e_un, ↓e_test, ↓e_testK, ↓e_tru, ↓e_truL, ↓e_truT, ↓e_truB, ↓e_truI, ↓e_truN, ↓e_truS, ↓e_not, ↓e_or, ↓e_andv, ↓e_notv, ↓e_andK, ↓e_notK, ↓e_if, ↓e_nil, ↓e_cons, ↓e_tup, ↓e_lst, ↓e_new, ↓e_call, ↓e_callK, ↓e_drop, ↓e_ret, ↓e_pass, ↓e_ifS, ↓e_g0, ↓e_gs, ↓e_gnil, ↓e_gcons, ↓e_gtup, ↓e_asg, ↓e_par, ↓e_parK, ↓e_par3, ↓e_par3K, ↓e_no, ↓e_some, ↓e_someK, ↓e_cut, ↓e_b, ↓e_iter, ↓e_iterL, ↓e_iterT, ↓e_iterS, ↓e_rng1, ↓e_rng1K, ↓e_rng2, ↓e_rng2K, ↓e_rng3, ↓e_rng3K, ↓e_enum, ↓e_enumL, ↓e_enumT, ↓e_zip, ↓e_zipL, ↓e_zipT, ↓e_for, ↓e_lc, ↓e_forN, ↓e_forC, ↓e_lcN, ↓e_lcC, ↓e_srcN, ↓e_srcC, ↓e_meth, ↓e_isL, ↓e_sub, ↓e_aug, ↓e_augK, ↓e_isi, ↓e_yes, ↓e_addI, ↓e_addB, ↓e_addS, ↓e_addT, ↓e_addL, ↓e_subI, ↓e_mulI, ↓e_mulT, ↓e_mulL, ↓e_divI, ↓e_modI, ↓e_powI, ↓e_negI, ↓e_iadd, ↓e_cmpI, ↓e_eq, ↓e_ne, ↓e_isn, ↓e_isnn, ↓e_isb, ↓e_ixL, ↓e_ixKL, ↓e_ixT, ↓e_cutL, ↓e_cutKL, ↓e_cutT, ↓e_lenL, ↓e_lenKL, ↓e_lenT, ↓e_abs, ↓e_intI, ↓e_intB, ↓e_min2, ↓e_listNL, ↓e_listNT, ↓e_tupL, ↓e_tupT, ↓e_drI, ↓e_drB, ↓e_drS, ↓e_drN, ↓e_drL, ↓e_drT, ↓e_seq, ↓e_inFlat, ↓e_drK, ↓e_addBI, ↓e_subBI, ↓e_subIB, ↓e_drG, ↓e_dgetF, ↓e_cutS, ↓e_mulS, ↓e_iaddI, ↓e_pairs0, ↓e_pairs1, ↓e_dispN, ↓e_putN, e_kyI, e_kyS, Nat.reduceAdd, Nat.zero_add, List.length_cons, List.length_nil, List.length_map, Nat.reduceLeDiff, and_true, true_and, if_true, ite_true, decide_eq_true_eq, Bool.not_eq_true, Bool.false_eq_true, if_false, ite_false, ↓reduceIte, Int.reduceToNat, Int.reducePow, ne_eq, q_okI, q_okB, q_okN, q_okS, q_okL, q_okT, q_oks0, q_oks1, q_eqII, q_eqBB, q_eqSS, q_eqLL, q_eqTT, q_eqNN, q_eqNI, q_eqIN, q_eqs0, q_eqs1, Bool.true_and, Bool.and_true, beq_iff_eq, reduceCtorEq, wipeE, List.set_cons_zero, List.set_cons_succ, List.set_nil, Bool.not_true, Bool.not_false, List.getElem?_cons_zero, List.getElem?_cons_succ, e_ixO (List.getElem?_concat_length ..), e_setO (List.getElem?_concat_length ..)])
    refine ⟨by omega, _, ea, ?_⟩
    (try simp only [BEq.rfl, ↓e_v0, ↓e_vs, ↓e_c, ↓e_op, ↓e_un, ↓e_test, ↓e_testK, ↓e_tru, ↓e_truL, ↓e_truT, ↓e_truB, ↓e_truI, ↓e_truN, ↓e_truS, ↓e_not, ↓e_or, ↓e_andv, ↓e_notv, ↓e_andK, ↓e_notK, ↓e_if, ↓e_nil, ↓e_cons, ↓e_tup, ↓e_lst, ↓e_new, ↓e_call, ↓e_callK, ↓e_drop, ↓e_ret, ↓e_pass, ↓e_ifS, ↓e_g0, ↓e_gs, ↓e_gnil, ↓e_gcons, ↓e_gtup, ↓e_asg, ↓e_par, ↓e_parK, ↓e_par3, ↓e_par3K, ↓e_no, ↓e_some, ↓e_someK, ↓e_cut, ↓e_b, ↓e_iter, ↓e_iterL, ↓e_iterT, ↓e_iterS, ↓e_rng1, ↓e_rng1K, ↓e_rng2, ↓e_rng2K, ↓e_rng3, ↓e_rng3K, ↓e_enum, ↓e_enumL, ↓e_enumT, ↓e_zip, ↓e_zipL, ↓e_zipT, ↓e_for, ↓e_lc, ↓e_forN, ↓e_forC, ↓e_lcN, ↓e_lcC, ↓e_srcN, ↓e_srcC, ↓e_meth, ↓e_isL, ↓e_sub, ↓e_aug, ↓e_augK, ↓e_isi, ↓e_yes, ↓e_addI, ↓e_addB, ↓e_addS, ↓e_addT, ↓e_addL, ↓e_subI, ↓e_mulI, ↓e_mulT, ↓e_mulL, ↓e_divI, ↓e_modI, ↓e_powI, ↓e_negI, ↓e_iadd, ↓e_cmpI, ↓e_eq, ↓e_ne, ↓e_isn, ↓e_isnn, ↓e_isb, ↓e_ixL, ↓e_ixKL, ↓e_ixT, ↓e_cutL, ↓e_cutKL, ↓e_cutT, ↓e_lenL, ↓e_lenKL, ↓e_lenT, ↓e_abs, ↓e_intI, ↓e_intB, ↓e_min2, ↓e_listNL, ↓e_listNT, ↓e_tupL, ↓e_tupT, ↓e_drI, ↓e_drB, ↓e_drS, ↓e_drN, ↓e_drL, ↓e_drT, ↓e_seq, ↓e_inFlat, ↓e_drK, ↓e_addBI, ↓e_subBI, ↓e_subIB, ↓e_drG, ↓e_dgetF, ↓e_cutS, ↓e_mulS, ↓e_iaddI, ↓e_pairs0, ↓e_pairs1, ↓e_dispN, ↓e_putN, e_kyI, e_kyS, Nat.reduceAdd, Nat.zero_add, List.length_cons, List.length_nil, List.length_map, Nat.reduceLeDiff, and_true, true_and, if_true, ite_true, decide_eq_true_eq, Bool.not_eq_true, Bool.false_eq_true, if_false, ite_false, ↓reduceIte, Int.reduceToNat, Int.reducePow, ne_eq, q_okI, q_okB, q_okN, q_okS, q_okL, q_okT, q_oks0, q_oks1, q_eqII, q_eqBB, q_eqSS, q_eqLL, q_eqTT, q_eqNN, q_eqNI, q_eqIN, q_eqs0, q_eqs1, Bool.true_and, Bool.and_true, beq_iff_eq, reduceCtorEq, wipeE, List.set_cons_zero, List.set_cons_succ, List.set_nil, Bool.not_true, Bool.not_false, List.getElem?_cons_zero, List.getElem?_cons_succ, e_ixO (List.getElem?_concat_length ..), e_setO (List.getElem?_concat_length ..)])
    refine ⟨mulr _ _ (by omega) (by simp only [List.length_cons] at hk; omega), by omega, _, by rw [List.length_map] at ei; exact ei, ?_⟩
    rw [set_last, map_set_int]
    refine folded_loop rt a0 m hm st kk rs (k + 1) _ _ _ (fun _ => by rw [List.length_set]; exact hc) (by simp only [List.length_cons] at hk; omega) fun cs' u3 u4 e => h cs' u3 u4 (by rw [e, List.length_set])
def sp__law_folded : SpD := fun ds st kk => ∃ (ns : List Int) (m : Nat), ds = [.klst (ns.map D.int), .int m] ∧ 1 ≤ m ∧ m ≤ 60 ∧ ns.length ≤ 63 ∧ ∀ cs : List Int, cs.length = min m ns.length → kk (.lst (cs.map D.int)) st
theorem len__law_folded (ds : List D) (st : Sto) (kk : DK) (h : sp__law_folded ds st kk) : ds.length = 2 := by
  obtain ⟨ns, m, rfl, _⟩ := h
  rfl
theorem p__law_folded : BodyD true N__law_folded sp__law_folded t__law_folded := by
  rintro ds st kk ⟨ns, m, rfl, h1, h2, h3, h⟩
  rw [st__law_folded]
  simp only [t__law_folded]
  (try simp only [BEq.rfl, ↓e_v0, ↓e_vs, ↓e_c, ↓e_op, ↓e_un, ↓e_test, ↓e_testK, ↓e_tru, ↓e_truL, ↓e_truT, ↓e_truB, ↓e_truI, ↓e_truN, ↓e_truS, ↓e_not, ↓e_or, ↓e_andv, ↓e_notv, ↓e_andK, ↓e_notK, ↓e_if, ↓e_nil, ↓e_cons, ↓e_tup, ↓e_lst, ↓e_new, ↓e_call, ↓e_callK, ↓e_drop, ↓e_ret, ↓e_pass, ↓e_ifS, ↓e_g0, ↓e_gs, ↓e_gnil, ↓e_gcons, ↓e_gtup, ↓e_asg, ↓e_par, ↓e_parK, ↓e_par3, ↓e_par3K, ↓e_no, ↓e_some, ↓e_someK, ↓e_cut, ↓e_b, ↓e_iter, ↓e_iterL, ↓e_iterT, ↓e_iterS, ↓e_rng1, ↓e_rng1K, ↓e_rng2, ↓e_rng2K, ↓e_rng3, ↓e_rng3K, ↓e_enum, ↓e_enumL, ↓e_enumT, ↓e_zip, ↓e_zipL, ↓e_zipT, ↓e_for, ↓e_lc, ↓e_forN, ↓e_forC, ↓e_lcN, ↓e_lcC, ↓e_srcN, ↓e_srcC, ↓e_meth, ↓e_isL, ↓e_sub, ↓e_aug, ↓e_augK, ↓e_isi, ↓e_yes, ↓e_addI, ↓e_addB, ↓e_addS, ↓e_addT, ↓e_addL, ↓e_subI, ↓e_mulI, ↓e_mulT, ↓e_mulL, ↓e_divI, ↓e_modI, ↓e_powI, ↓e_negI, ↓e_iadd, ↓e_cmpI, ↓e_eq, ↓e_ne, ↓e_isn, ↓e_isnn, ↓e_isb, ↓e_ixL, ↓e_ixKL, ↓e_ixT, ↓e_cutL, ↓e_cutKL, ↓e_cutT, ↓e_lenL, ↓e_lenKL, ↓e_lenT, ↓e_abs, ↓e_intI, ↓e_intB, ↓e_min2, ↓e_listNL, ↓e_listNT, ↓e_tupL, ↓e_tupT, ↓e_drI, ↓e_drB, ↓e_drS, ↓e_drN, ↓e_drL, ↓e_drT, ↓e_seq, ↓e_inFlat, ↓e_drK, ↓e_addBI, ↓e_subBI, ↓e_subIB, ↓e_drG, ↓e_dgetF, ↓e_cutS, ↓e_mulS, ↓e_iaddI, ↓e_pairs0, ↓e_pairs1, ↓e_dispN, ↓e_putN, e_kyI, e_kyS, Nat.reduceAdd, Nat.zero_add, List.length_cons, List.length_nil, List.length_map, Nat.reduceLeDiff, and_true, true_and, if_true, ite_true, decide_eq_true_eq, Bool.not_eq_true, Bool.false_eq_true, if_false, ite_false, ↓reduceIte, Int.reduceToNat, Int.reducePow, ne_eq, q_okI, q_okB, q_okN, q_okS, q_okL, q_okT, q_oks0, q_oks1, q_eqII, q_eqBB, q_eqSS, q_eqLL, q_eqTT, q_eqNN, q_eqNI, q_eqIN, q_eqs0, q_eqs1, Bool.true_and, Bool.and_true, beq_iff_eq, reduceCtorEq, wipeE, List.set_cons_zero, List.set_cons_succ, List.set_nil, Bool.not_true, Bool.not_false, List.getElem?_cons_zero, List.getElem?_cons_succ, cutD_map])
  rw [cutD_to, show (63 : Int) = ((63 : Nat) : Int) from rfl, cutD_from]
  intro _
  refine folded_loop _ _ m h1 st _ _ 0 _ _ _ (fun ne => ?_) (by simp; omega) fun cs' u3 u4 e => ?_
  · rw [List.length_take]
    have : m < ns.length := by
      apply Nat.lt_of_not_le
      intro z
      exact ne (by rw [List.drop_eq_nil_of_le z]; simp)
    omega
  · (walk_at "lw_dd")
    refine .one (belows_int _ _) ?_
    simp only [sub, if_true]
    exact h cs' (by rw [e, List.length_take])
def e1__law_same (spr : SpD) : DE :=
    (dCall spr (dCons (dVar 2) (dCons (dVar 3) dNil)))
def t__law_same (spr : SpD) : DS :=
    (dSeq (dIfS (dTru (dIsi (dVar 1) ["list", "tuple"])) (dSeq (dIfS (dOr (dTest (dOp (eqOp true) (dIsi (dVar 0) ["list"]) (dIsi (dVar 1) ["list"]))) (dTest (dOp (eqOp true) (dIsi (dVar 0) ["tuple"]) (dIsi (dVar 1) ["tuple"])))) (dRet (dC (.bl false))) dPass)
    (dRet (dAndV (dOp (eqOp false) (dB bLen (dCons (dVar 0) dNil)) (dB bLen (dCons (dVar 1) dNil))) (dB bAll (dCons (dLc (dZip (dVar 0) (dVar 1)) (dgTup 2 (dgCons (dgName 2) (dgCons (dgName 3) dgNil))) dYes (e1__law_same spr) [2, 3]) dNil))))) dPass)
    (dSeq (dIfS (dOr (dTest (dOp (isOp false) (dVar 1) (dC .non))) (dTru (dIsi (dVar 1) ["str", "bool"]))) (dRet (dAndV (dOp (eqOp false) (dIsi (dVar 0) ["bool"]) (dIsi (dVar 1) ["bool"])) (dOp (eqOp false) (dVar 0) (dVar 1)))) dPass)
    (dRet (dAndV (dIsi (dVar 0) ["int"]) (dAndV (dNotV (dIsi (dVar 0) ["bool"])) (dOp (eqOp false) (dVar 0) (dVar 1)))))))
theorem st__law_same (a0 a1 : D) : startD N__law_same [a0, a1] = [some a0, some a1, none, none] := rfl
/-- alike, through the store's lists -/
def sm (st : Sto) : Nat → D → D → Bool
  | 0, _, _ => false
  | n + 1, d, e => match e with
    | .lst ys => match deref st d with
      | .lst xs => xs.length == ys.length && (xs.zip ys).all fun p => sm st n p.1 p.2
      | _ => false
    | .tup ys => match d with
      | .tup xs => xs.length == ys.length && (xs.zip ys).all fun p => sm st n p.1 p.2
      | _ => false
    | .non => match d with
      | .non => true
      | _ => false
    | .bl b => match d with
      | .bl a => a == b
      | _ => false
    | .int b => match d with
      | .int a => a == b
      | _ => false
    | .str b => match d with
      | .str a => a == b && PyData.strOk b
      | _ => false
    | .obj j => match st[j]? with
      | some ys => match deref st d with
        | .lst xs => xs.length == ys.length && (xs.zip ys).all fun p => sm st n p.1 p.2
        | _ => false
      | none => false
    | _ => false
theorem sm_str (st : Sto) (n : Nat) {a : Str} (h : PyData.strOk a = true) : sm st (n + 1) (.str a) (.str a) = true := by simp [sm, h]
theorem sm_lst {st : Sto} {n : Nat} {d : D} {xs ys : List D} (h : deref st d = .lst xs) (hl : xs.length = ys.length) (ha : (xs.zip ys).all (fun p => sm st n p.1 p.2) = true) : sm st (n + 1) d (.lst ys) = true := by
  simp only [sm, h, hl, beq_self_eq_true, Bool.true_and]
  exact ha
theorem sm_tup {st : Sto} {n : Nat} {xs ys : List D} (hl : xs.length = ys.length) (ha : (xs.zip ys).all (fun p => sm st n p.1 p.2) = true) : sm st (n + 1) (.tup xs) (.tup ys) = true := by
  simp only [sm, deref, hl, beq_self_eq_true, Bool.true_and]
  exact ha
theorem sm_nil {st : Sto} {n : Nat} : (([] : List D).zip ([] : List D)).all (fun p => sm st n p.1 p.2) = true := rfl
theorem sm_cons {st : Sto} {n : Nat} {x y : D} {xs ys : List D} (h : sm st n x y = true) (hr : (xs.zip ys).all (fun p => sm st n p.1 p.2) = true) : ((x :: xs).zip (y :: ys)).all (fun p => sm st n p.1 p.2) = true := by
  simp only [List.zip_cons_cons, List.all_cons, h, hr, Bool.and_true]
theorem sm_two {st : Sto} {n : Nat} {x y z w : D} (h : sm st n x z = true) (h2 : sm st n y w = true) : sm st (n + 1) (.lst [x, y]) (.lst [z, w]) = true := sm_lst rfl rfl (sm_cons h (sm_cons h2 sm_nil))
def sp__law_same : Nat → SpD := fun n ds st kk => ∃ d e, ds = [d, e] ∧ sm st n d e = true ∧ kk (.bl true) st
theorem len__law_same (n : Nat) (ds : List D) (st : Sto) (kk : DK) (h : sp__law_same n ds st kk) : ds.length = 2 := by
  obtain ⟨d, e, rfl, _⟩ := h
  rfl
theorem no__law_same (ds : List D) (st : Sto) (kk : DK) (h : sp__law_same 0 ds st kk) : False := by
  obtain ⟨d, e, rfl, h, _⟩ := h
  cases h
theorem srcOk_of {st : Sto} {d : D} {xs : List D} (h : deref st d = .lst xs) : SrcOk (srcOf d xs) st := by
  cases d with
  | obj i =>
    cases e : st[i]? with
    | none => simp [deref, e] at h
    | some ys =>
      simp [deref, e] at h
      subst h
      exact ⟨e, trivial⟩
  | _ => trivial
theorem srcOk_app {st : Sto} {j : Nat} {ys : List D} (h2 : st[j]? = some ys) : ∀ {a : List (Nat × List D)}, SrcOk a st → SrcOk (a ++ [(j, ys)]) st
  | [], _ => ⟨h2, trivial⟩
  | _ :: _, h => ⟨h.1, srcOk_app h2 h.2⟩
theorem e_zipGO {st : Sto} {kk : DIk} {d : D} {j : Nat} {xs es : List D} (h : deref st d = .lst xs) (h2 : st[j]? = some es) : zipK kk d (.obj j) st = (xs.length ≤ 16777216 → kk (zipD xs es) (srcOf d xs ++ [(j, es)]) st) := by
  have h2 : deref st (.obj j) = .lst es := by simp [deref, h2]
  unfold zipK
  rw [h, h2]
  rfl
theorem same_loop (n : Nat) (src : List (Nat × List D)) (env : DL.Env) (a b : D) (he : wipeE env [2, 3] = [some a, some b, none, none]) (k : List D → Sto → Prop) (st : Sto) (hs : SrcOk src st) : ∀ (xs ys acc : List D), (xs.length == ys.length && (xs.zip ys).all fun p => sm st n p.1 p.2) = true → k (acc ++ List.replicate xs.length (.bl true)) st →
    goLc src (dgTup 2 (dgCons (dgName 2) (dgCons (dgName 3) dgNil))) dYes (e1__law_same (sp__law_same n)) [2, 3] env k (zipD xs ys) acc st
  | [], [], acc, _, h => ⟨hs, by simpa using h⟩
  | [], _ :: _, _, e, _ => by simp at e
  | _ :: _, [], _, e, _ => by simp at e
  | x :: xs, y :: ys, acc, e, h => by
    simp only [zipD]
    rw [e_lcC, he]
    simp only [List.length_cons, List.zip_cons_cons, List.all_cons, Bool.and_eq_true, beq_iff_eq] at e
    refine ⟨hs, ?_⟩
    simp only [e1__law_same]
    (walk_at "lw_dd")
    refine ⟨x, y, rfl, e.2.1, ?_⟩
    refine same_loop n src env a b he k st hs xs ys _ ?_ ?_
    · simp only [Bool.and_eq_true, beq_iff_eq]
      exact ⟨by omega, e.2.2⟩
    · rw [List.append_assoc]
      exact h
theorem y_lt_NoneType : (["list", "tuple"].any (subTy "NoneType")) = false := by decide +kernel
theorem y_lt_bool : (["list", "tuple"].any (subTy "bool")) = false := by decide +kernel
theorem y_lt_int : (["list", "tuple"].any (subTy "int")) = false := by decide +kernel
theorem y_lt_str : (["list", "tuple"].any (subTy "str")) = false := by decide +kernel
theorem y_lt_list : (["list", "tuple"].any (subTy "list")) = true := by decide +kernel
theorem y_lt_tuple : (["list", "tuple"].any (subTy "tuple")) = true := by decide +kernel
theorem y_l_NoneType : (["list"].any (subTy "NoneType")) = false := by decide +kernel
theorem y_l_bool : (["list"].any (subTy "bool")) = false := by decide +kernel
theorem y_l_int : (["list"].any (subTy "int")) = false := by decide +kernel
theorem y_l_str : (["list"].any (subTy "str")) = false := by decide +kernel
theorem y_l_list : (["list"].any (subTy "list")) = true := by decide +kernel
theorem y_l_tuple : (["list"].any (subTy "tuple")) = false := by decide +kernel
theorem y_t_NoneType : (["tuple"].any (subTy "NoneType")) = false := by decide +kernel
theorem y_t_bool : (["tuple"].any (subTy "bool")) = false := by decide +kernel
theorem y_t_int : (["tuple"].any (subTy "int")) = false := by decide +kernel
theorem y_t_str : (["tuple"].any (subTy "str")) = false := by decide +kernel
theorem y_t_list : (["tuple"].any (subTy "list")) = false := by decide +kernel
theorem y_t_tuple : (["tuple"].any (subTy "tuple")) = true := by decide +kernel
theorem y_sb_NoneType : (["str", "bool"].any (subTy "NoneType")) = false := by decide +kernel
theorem y_sb_bool : (["str", "bool"].any (subTy "bool")) = true := by decide +kernel
theorem y_sb_int : (["str", "bool"].any (subTy "int")) = false := by decide +kernel
theorem y_sb_str : (["str", "bool"].any (subTy "str")) = true := by decide +kernel
theorem y_sb_list : (["str", "bool"].any (subTy "list")) = false := by decide +kernel
theorem y_sb_tuple : (["str", "bool"].any (subTy "tuple")) = false := by decide +kernel
theorem y_b_NoneType : (["bool"].any (subTy "NoneType")) = false := by decide +kernel
theorem y_b_bool : (["bool"].any (subTy "bool")) = true := by decide +kernel
theorem y_b_int : (["bool"].any (subTy "int")) = false := by decide +kernel
theorem y_b_str : (["bool"].any (subTy "str")) = false := by decide +kernel
theorem y_b_list : (["bool"].any (subTy "list")) = false := by decide +kernel
theorem y_b_tuple : (["bool"].any (subTy "tuple")) = false := by decide +kernel
theorem y_i_NoneType : (["int"].any (subTy "NoneType")) = false := by decide +kernel
theorem y_i_bool : (["int"].any (subTy "bool")) = true := by decide +kernel
theorem y_i_int : (["int"].any (subTy "int")) = true := by decide +kernel
theorem y_i_str : (["int"].any (subTy "str")) = false := by decide +kernel
theorem y_i_list : (["int"].any (subTy "list")) = false := by decide +kernel
theorem y_i_tuple : (["int"].any (subTy "tuple")) = false := by decide +kernel
theorem ty_non : tyD .non = "NoneType" := rfl
theorem ty_bl {b : Bool} : tyD (.bl b) = "bool" := rfl
theorem ty_int {i : Int} : tyD (.int i) = "int" := rfl
theorem ty_str {x : Str} : tyD (.str x) = "str" := rfl
theorem ty_obj {j : Nat} : tyD (.obj j) = "list" := rfl
theorem ty_lst {ds : List D} : tyD (.lst ds) = "list" := rfl
theorem ty_tup {ds : List D} : tyD (.tup ds) = "tuple" := rfl
theorem e_zipG {st : Sto} {kk : DIk} {d : D} {xs es : List D} (h : deref st d = .lst xs) : zipK kk d (.lst es) st = (xs.length ≤ 16777216 → kk (zipD xs es) (srcOf d xs ++ []) st) := by
  have h2 : deref st (.lst es) = .lst es := rfl
  unfold zipK
  rw [h, h2]
  rfl
theorem e_lenG {st : Sto} {k : DK} {d : D} {xs : List D} (h : deref st d = .lst xs) : bLen [d] st k = k (.int xs.length) st := by
  unfold bLen
  simp only [h]
theorem ty_of {st : Sto} {d : D} {xs : List D} (h : deref st d = .lst xs) : tyD d = "list" := by
  cases d <;> first | rfl | cases h
theorem p__law_same (n : Nat) : BodyD false N__law_same (sp__law_same (n + 1)) (t__law_same (sp__law_same n)) := by
  rintro ds st kk ⟨d, e, rfl, hsm, h⟩
  rw [st__law_same]
  simp only [t__law_same]
  cases e with
  | lst ys =>
    simp only [sm] at hsm
    split at hsm
    · rename_i xs hd
      have hl : xs.length = ys.length := by
        simp only [Bool.and_eq_true, beq_iff_eq] at hsm
        exact hsm.1
      (try simp only [BEq.rfl, ↓e_v0, ↓e_vs, ↓e_c, ↓e_op, ↓e_un, ↓e_test, ↓e_testK, ↓e_tru, ↓e_truL, ↓e_truT, ↓e_truB, ↓e_truI, ↓e_truN, ↓e_truS, ↓e_not, ↓e_or, ↓e_andv, ↓e_notv, ↓e_andK, ↓e_notK, ↓e_if, ↓e_nil, ↓e_cons, ↓e_tup, ↓e_lst, ↓e_new, ↓e_call, ↓e_callK, ↓e_drop, ↓e_ret, ↓e_pass, ↓e_ifS, ↓e_g0, ↓e_gs, ↓e_gnil, ↓e_gcons, ↓e_gtup, ↓e_asg, ↓e_par, ↓e_parK, ↓e_par3, ↓e_par3K, ↓e_no, ↓e_some, ↓e_someK, ↓e_cut, ↓e_b, ↓e_iter, ↓e_iterL, ↓e_iterT, ↓e_iterS, ↓e_rng1, ↓e_rng1K, ↓e_rng2, ↓e_rng2K, ↓e_rng3, ↓e_rng3K, ↓e_enum, ↓e_enumL, ↓e_enumT, ↓e_zip, ↓e_zipL, ↓e_zipT, ↓e_for, ↓e_lc, ↓e_forN, ↓e_forC, ↓e_lcN, ↓e_lcC, ↓e_srcN, ↓e_srcC, ↓e_meth, ↓e_isL, ↓e_sub, ↓e_aug, ↓e_augK, ↓e_isi, ↓e_yes, ↓e_addI, ↓e_addB, ↓e_addS, ↓e_addT, ↓e_addL, ↓e_subI, ↓e_mulI, ↓e_mulT, ↓e_mulL, ↓e_divI, ↓e_modI, ↓e_powI, ↓e_negI, ↓e_iadd, ↓e_cmpI, ↓e_eq, ↓e_ne, ↓e_isn, ↓e_isnn, ↓e_isb, ↓e_ixL, ↓e_ixKL, ↓e_ixT, ↓e_cutL, ↓e_cutKL, ↓e_cutT, ↓e_lenL, ↓e_lenKL, ↓e_lenT, ↓e_abs, ↓e_intI, ↓e_intB, ↓e_min2, ↓e_listNL, ↓e_listNT, ↓e_tupL, ↓e_tupT, ↓e_drI, ↓e_drB, ↓e_drS, ↓e_drN, ↓e_drL, ↓e_drT, ↓e_seq, ↓e_inFlat, ↓e_drK, ↓e_addBI, ↓e_subBI, ↓e_subIB, ↓e_drG, ↓e_dgetF, ↓e_cutS, ↓e_mulS, ↓e_iaddI, ↓e_pairs0, ↓e_pairs1, ↓e_dispN, ↓e_putN, e_kyI, e_kyS, Nat.reduceAdd, Nat.zero_add, List.length_cons, List.length_nil, List.length_map, Nat.reduceLeDiff, and_true, true_and, if_true, ite_true, decide_eq_true_eq, Bool.not_eq_true, Bool.false_eq_true, if_false, ite_false, ↓reduceIte, Int.reduceToNat, Int.reducePow, ne_eq, q_okI, q_okB, q_okN, q_okS, q_okL, q_okT, q_oks0, q_oks1, q_eqII, q_eqBB, q_eqSS, q_eqLL, q_eqTT, q_eqNN, q_eqNI, q_eqIN, q_eqs0, q_eqs1, Bool.true_and, Bool.and_true, beq_iff_eq, reduceCtorEq, wipeE, List.set_cons_zero, List.set_cons_succ, List.set_nil, Bool.not_true, Bool.not_false, List.getElem?_cons_zero, List.getElem?_cons_succ, ty_of hd, y_lt_NoneType, y_lt_bool, y_lt_int, y_lt_str, y_lt_list, y_lt_tuple, y_l_NoneType, y_l_bool, y_l_int, y_l_str, y_l_list, y_l_tuple, y_t_NoneType, y_t_bool, y_t_int, y_t_str, y_t_list, y_t_tuple, y_sb_NoneType, y_sb_bool, y_sb_int, y_sb_str, y_sb_list, y_sb_tuple, y_b_NoneType, y_b_bool, y_b_int, y_b_str, y_b_list, y_b_tuple, y_i_NoneType, y_i_bool, y_i_int, y_i_str, y_i_list, y_i_tuple, ty_non, ty_bl, ty_int, ty_str, ty_lst, ty_tup, e_lenG hd, e_zipG hd, hl])
      intro hc
      refine ⟨by rw [zipD_length]; omega, ?_⟩
      refine same_loop n _ _ _ _ rfl _ st (by rw [List.append_nil]; exact srcOk_of hd) xs ys [] hsm ?_
      (try simp only [BEq.rfl, ↓e_v0, ↓e_vs, ↓e_c, ↓e_op, ↓e_un, ↓e_test, ↓e_testK, ↓e_tru, ↓e_truL, ↓e_truT, ↓e_truB, ↓e_truI, ↓e_truN, ↓e_truS, ↓e_not, ↓e_or, ↓e_andv, ↓e_notv, ↓e_andK, ↓e_notK, ↓e_if, ↓e_nil, ↓e_cons, ↓e_tup, ↓e_lst, ↓e_new, ↓e_call, ↓e_callK, ↓e_drop, ↓e_ret, ↓e_pass, ↓e_ifS, ↓e_g0, ↓e_gs, ↓e_gnil, ↓e_gcons, ↓e_gtup, ↓e_asg, ↓e_par, ↓e_parK, ↓e_par3, ↓e_par3K, ↓e_no, ↓e_some, ↓e_someK, ↓e_cut, ↓e_b, ↓e_iter, ↓e_iterL, ↓e_iterT, ↓e_iterS, ↓e_rng1, ↓e_rng1K, ↓e_rng2, ↓e_rng2K, ↓e_rng3, ↓e_rng3K, ↓e_enum, ↓e_enumL, ↓e_enumT, ↓e_zip, ↓e_zipL, ↓e_zipT, ↓e_for, ↓e_lc, ↓e_forN, ↓e_forC, ↓e_lcN, ↓e_lcC, ↓e_srcN, ↓e_srcC, ↓e_meth, ↓e_isL, ↓e_sub, ↓e_aug, ↓e_augK, ↓e_isi, ↓e_yes, ↓e_addI, ↓e_addB, ↓e_addS, ↓e_addT, ↓e_addL, ↓e_subI, ↓e_mulI, ↓e_mulT, ↓e_mulL, ↓e_divI, ↓e_modI, ↓e_powI, ↓e_negI, ↓e_iadd, ↓e_cmpI, ↓e_eq, ↓e_ne, ↓e_isn, ↓e_isnn, ↓e_isb, ↓e_ixL, ↓e_ixKL, ↓e_ixT, ↓e_cutL, ↓e_cutKL, ↓e_cutT, ↓e_lenL, ↓e_lenKL, ↓e_lenT, ↓e_abs, ↓e_intI, ↓e_intB, ↓e_min2, ↓e_listNL, ↓e_listNT, ↓e_tupL, ↓e_tupT, ↓e_drI, ↓e_drB, ↓e_drS, ↓e_drN, ↓e_drL, ↓e_drT, ↓e_seq, ↓e_inFlat, ↓e_drK, ↓e_addBI, ↓e_subBI, ↓e_subIB, ↓e_drG, ↓e_dgetF, ↓e_cutS, ↓e_mulS, ↓e_iaddI, ↓e_pairs0, ↓e_pairs1, ↓e_dispN, ↓e_putN, e_kyI, e_kyS, Nat.reduceAdd, Nat.zero_add, List.length_cons, List.length_nil, List.length_map, Nat.reduceLeDiff, and_true, true_and, if_true, ite_true, decide_eq_true_eq, Bool.not_eq_true, Bool.false_eq_true, if_false, ite_false, ↓reduceIte, Int.reduceToNat, Int.reducePow, ne_eq, q_okI, q_okB, q_okN, q_okS, q_okL, q_okT, q_oks0, q_oks1, q_eqII, q_eqBB, q_eqSS, q_eqLL, q_eqTT, q_eqNN, q_eqNI, q_eqIN, q_eqs0, q_eqs1, Bool.true_and, Bool.and_true, beq_iff_eq, reduceCtorEq, wipeE, List.set_cons_zero, List.set_cons_succ, List.set_nil, Bool.not_true, Bool.not_false, List.getElem?_cons_zero, List.getElem?_cons_succ, e_all (blsD_rep _), all_rep, List.nil_append])
      exact h
    · cases hsm
  | obj j =>
    simp only [sm] at hsm
    split at hsm
    case h_2 => cases hsm
    rename_i ys hj
    split at hsm
    · rename_i xs hd
      have hl : xs.length = ys.length := by
        simp only [Bool.and_eq_true, beq_iff_eq] at hsm
        exact hsm.1
      (try simp only [BEq.rfl, ↓e_v0, ↓e_vs, ↓e_c, ↓e_op, ↓e_un, ↓e_test, ↓e_testK, ↓e_tru, ↓e_truL, ↓e_truT, ↓e_truB, ↓e_truI, ↓e_truN, ↓e_truS, ↓e_not, ↓e_or, ↓e_andv, ↓e_notv, ↓e_andK, ↓e_notK, ↓e_if, ↓e_nil, ↓e_cons, ↓e_tup, ↓e_lst, ↓e_new, ↓e_call, ↓e_callK, ↓e_drop, ↓e_ret, ↓e_pass, ↓e_ifS, ↓e_g0, ↓e_gs, ↓e_gnil, ↓e_gcons, ↓e_gtup, ↓e_asg, ↓e_par, ↓e_parK, ↓e_par3, ↓e_par3K, ↓e_no, ↓e_some, ↓e_someK, ↓e_cut, ↓e_b, ↓e_iter, ↓e_iterL, ↓e_iterT, ↓e_iterS, ↓e_rng1, ↓e_rng1K, ↓e_rng2, ↓e_rng2K, ↓e_rng3, ↓e_rng3K, ↓e_enum, ↓e_enumL, ↓e_enumT, ↓e_zip, ↓e_zipL, ↓e_zipT, ↓e_for, ↓e_lc, ↓e_forN, ↓e_forC, ↓e_lcN, ↓e_lcC, ↓e_srcN, ↓e_srcC, ↓e_meth, ↓e_isL, ↓e_sub, ↓e_aug, ↓e_augK, ↓e_isi, ↓e_yes, ↓e_addI, ↓e_addB, ↓e_addS, ↓e_addT, ↓e_addL, ↓e_subI, ↓e_mulI, ↓e_mulT, ↓e_mulL, ↓e_divI, ↓e_modI, ↓e_powI, ↓e_negI, ↓e_iadd, ↓e_cmpI, ↓e_eq, ↓e_ne, ↓e_isn, ↓e_isnn, ↓e_isb, ↓e_ixL, ↓e_ixKL, ↓e_ixT, ↓e_cutL, ↓e_cutKL, ↓e_cutT, ↓e_lenL, ↓e_lenKL, ↓e_lenT, ↓e_abs, ↓e_intI, ↓e_intB, ↓e_min2, ↓e_listNL, ↓e_listNT, ↓e_tupL, ↓e_tupT, ↓e_drI, ↓e_drB, ↓e_drS, ↓e_drN, ↓e_drL, ↓e_drT, ↓e_seq, ↓e_inFlat, ↓e_drK, ↓e_addBI, ↓e_subBI, ↓e_subIB, ↓e_drG, ↓e_dgetF, ↓e_cutS, ↓e_mulS, ↓e_iaddI, ↓e_pairs0, ↓e_pairs1, ↓e_dispN, ↓e_putN, e_kyI, e_kyS, Nat.reduceAdd, Nat.zero_add, List.length_cons, List.length_nil, List.length_map, Nat.reduceLeDiff, and_true, true_and, if_true, ite_true, decide_eq_true_eq, Bool.not_eq_true, Bool.false_eq_true, if_false, ite_false, ↓reduceIte, Int.reduceToNat, Int.reducePow, ne_eq, q_okI, q_okB, q_okN, q_okS, q_okL, q_okT, q_oks0, q_oks1, q_eqII, q_eqBB, q_eqSS, q_eqLL, q_eqTT, q_eqNN, q_eqNI, q_eqIN, q_eqs0, q_eqs1, Bool.true_and, Bool.and_true, beq_iff_eq, reduceCtorEq, wipeE, List.set_cons_zero, List.set_cons_succ, List.set_nil, Bool.not_true, Bool.not_false, List.getElem?_cons_zero, List.getElem?_cons_succ, ty_of hd, ty_obj, y_lt_NoneType, y_lt_bool, y_lt_int, y_lt_str, y_lt_list, y_lt_tuple, y_l_NoneType, y_l_bool, y_l_int, y_l_str, y_l_list, y_l_tuple, y_t_NoneType, y_t_bool, y_t_int, y_t_str, y_t_list, y_t_tuple, y_sb_NoneType, y_sb_bool, y_sb_int, y_sb_str, y_sb_list, y_sb_tuple, y_b_NoneType, y_b_bool, y_b_int, y_b_str, y_b_list, y_b_tuple, y_i_NoneType, y_i_bool, y_i_int, y_i_str, y_i_list, y_i_tuple, ty_non, ty_bl, ty_int, ty_str, ty_lst, ty_tup, e_lenG hd, e_lenO hj, e_zipGO hd hj, hl])
      intro hc
      refine ⟨by rw [zipD_length]; omega, ?_⟩
      refine same_loop n _ _ _ _ rfl _ st (srcOk_app hj (srcOk_of hd)) xs ys [] hsm ?_
      (try simp only [BEq.rfl, ↓e_v0, ↓e_vs, ↓e_c, ↓e_op, ↓e_un, ↓e_test, ↓e_testK, ↓e_tru, ↓e_truL, ↓e_truT, ↓e_truB, ↓e_truI, ↓e_truN, ↓e_truS, ↓e_not, ↓e_or, ↓e_andv, ↓e_notv, ↓e_andK, ↓e_notK, ↓e_if, ↓e_nil, ↓e_cons, ↓e_tup, ↓e_lst, ↓e_new, ↓e_call, ↓e_callK, ↓e_drop, ↓e_ret, ↓e_pass, ↓e_ifS, ↓e_g0, ↓e_gs, ↓e_gnil, ↓e_gcons, ↓e_gtup, ↓e_asg, ↓e_par, ↓e_parK, ↓e_par3, ↓e_par3K, ↓e_no, ↓e_some, ↓e_someK, ↓e_cut, ↓e_b, ↓e_iter, ↓e_iterL, ↓e_iterT, ↓e_iterS, ↓e_rng1, ↓e_rng1K, ↓e_rng2, ↓e_rng2K, ↓e_rng3, ↓e_rng3K, ↓e_enum, ↓e_enumL, ↓e_enumT, ↓e_zip, ↓e_zipL, ↓e_zipT, ↓e_for, ↓e_lc, ↓e_forN, ↓e_forC, ↓e_lcN, ↓e_lcC, ↓e_srcN, ↓e_srcC, ↓e_meth, ↓e_isL, ↓e_sub, ↓e_aug, ↓e_augK, ↓e_isi, ↓e_yes, ↓e_addI, ↓e_addB, ↓e_addS, ↓e_addT, ↓e_addL, ↓e_subI, ↓e_mulI, ↓e_mulT, ↓e_mulL, ↓e_divI, ↓e_modI, ↓e_powI, ↓e_negI, ↓e_iadd, ↓e_cmpI, ↓e_eq, ↓e_ne, ↓e_isn, ↓e_isnn, ↓e_isb, ↓e_ixL, ↓e_ixKL, ↓e_ixT, ↓e_cutL, ↓e_cutKL, ↓e_cutT, ↓e_lenL, ↓e_lenKL, ↓e_lenT, ↓e_abs, ↓e_intI, ↓e_intB, ↓e_min2, ↓e_listNL, ↓e_listNT, ↓e_tupL, ↓e_tupT, ↓e_drI, ↓e_drB, ↓e_drS, ↓e_drN, ↓e_drL, ↓e_drT, ↓e_seq, ↓e_inFlat, ↓e_drK, ↓e_addBI, ↓e_subBI, ↓e_subIB, ↓e_drG, ↓e_dgetF, ↓e_cutS, ↓e_mulS, ↓e_iaddI, ↓e_pairs0, ↓e_pairs1, ↓e_dispN, ↓e_putN, e_kyI, e_kyS, Nat.reduceAdd, Nat.zero_add, List.length_cons, List.length_nil, List.length_map, Nat.reduceLeDiff, and_true, true_and, if_true, ite_true, decide_eq_true_eq, Bool.not_eq_true, Bool.false_eq_true, if_false, ite_false, ↓reduceIte, Int.reduceToNat, Int.reducePow, ne_eq, q_okI, q_okB, q_okN, q_okS, q_okL, q_okT, q_oks0, q_oks1, q_eqII, q_eqBB, q_eqSS, q_eqLL, q_eqTT, q_eqNN, q_eqNI, q_eqIN, q_eqs0, q_eqs1, Bool.true_and, Bool.and_true, beq_iff_eq, reduceCtorEq, wipeE, List.set_cons_zero, List.set_cons_succ, List.set_nil, Bool.not_true, Bool.not_false, List.getElem?_cons_zero, List.getElem?_cons_succ, e_all (blsD_rep _), all_rep, List.nil_append])
      exact h
    · cases hsm
  | tup ys =>
    simp only [sm] at hsm
    cases d
    case tup xs =>
      simp only at hsm
      have hl : xs.length = ys.length := by
        simp only [Bool.and_eq_true, beq_iff_eq] at hsm
        exact hsm.1
      (try simp only [BEq.rfl, ↓e_v0, ↓e_vs, ↓e_c, ↓e_op, ↓e_un, ↓e_test, ↓e_testK, ↓e_tru, ↓e_truL, ↓e_truT, ↓e_truB, ↓e_truI, ↓e_truN, ↓e_truS, ↓e_not, ↓e_or, ↓e_andv, ↓e_notv, ↓e_andK, ↓e_notK, ↓e_if, ↓e_nil, ↓e_cons, ↓e_tup, ↓e_lst, ↓e_new, ↓e_call, ↓e_callK, ↓e_drop, ↓e_ret, ↓e_pass, ↓e_ifS, ↓e_g0, ↓e_gs, ↓e_gnil, ↓e_gcons, ↓e_gtup, ↓e_asg, ↓e_par, ↓e_parK, ↓e_par3, ↓e_par3K, ↓e_no, ↓e_some, ↓e_someK, ↓e_cut, ↓e_b, ↓e_iter, ↓e_iterL, ↓e_iterT, ↓e_iterS, ↓e_rng1, ↓e_rng1K, ↓e_rng2, ↓e_rng2K, ↓e_rng3, ↓e_rng3K, ↓e_enum, ↓e_enumL, ↓e_enumT, ↓e_zip, ↓e_zipL, ↓e_zipT, ↓e_for, ↓e_lc, ↓e_forN, ↓e_forC, ↓e_lcN, ↓e_lcC, ↓e_srcN, ↓e_srcC, ↓e_meth, ↓e_isL, ↓e_sub, ↓e_aug, ↓e_augK, ↓e_isi, ↓e_yes, ↓e_addI, ↓e_addB, ↓e_addS, ↓e_addT, ↓e_addL, ↓e_subI, ↓e_mulI, ↓e_mulT, ↓e_mulL, ↓e_divI, ↓e_modI, ↓e_powI, ↓e_negI, ↓e_iadd, ↓e_cmpI, ↓e_eq, ↓e_ne, ↓e_isn, ↓e_isnn, ↓e_isb, ↓e_ixL, ↓e_ixKL, ↓e_ixT, ↓e_cutL, ↓e_cutKL, ↓e_cutT, ↓e_lenL, ↓e_lenKL, ↓e_lenT, ↓e_abs, ↓e_intI, ↓e_intB, ↓e_min2, ↓e_listNL, ↓e_listNT, ↓e_tupL, ↓e_tupT, ↓e_drI, ↓e_drB, ↓e_drS, ↓e_drN, ↓e_drL, ↓e_drT, ↓e_seq, ↓e_inFlat, ↓e_drK, ↓e_addBI, ↓e_subBI, ↓e_subIB, ↓e_drG, ↓e_dgetF, ↓e_cutS, ↓e_mulS, ↓e_iaddI, ↓e_pairs0, ↓e_pairs1, ↓e_dispN, ↓e_putN, e_kyI, e_kyS, Nat.reduceAdd, Nat.zero_add, List.length_cons, List.length_nil, List.length_map, Nat.reduceLeDiff, and_true, true_and, if_true, ite_true, decide_eq_true_eq, Bool.not_eq_true, Bool.false_eq_true, if_false, ite_false, ↓reduceIte, Int.reduceToNat, Int.reducePow, ne_eq, q_okI, q_okB, q_okN, q_okS, q_okL, q_okT, q_oks0, q_oks1, q_eqII, q_eqBB, q_eqSS, q_eqLL, q_eqTT, q_eqNN, q_eqNI, q_eqIN, q_eqs0, q_eqs1, Bool.true_and, Bool.and_true, beq_iff_eq, reduceCtorEq, wipeE, List.set_cons_zero, List.set_cons_succ, List.set_nil, Bool.not_true, Bool.not_false, List.getElem?_cons_zero, List.getElem?_cons_succ, y_lt_NoneType, y_lt_bool, y_lt_int, y_lt_str, y_lt_list, y_lt_tuple, y_l_NoneType, y_l_bool, y_l_int, y_l_str, y_l_list, y_l_tuple, y_t_NoneType, y_t_bool, y_t_int, y_t_str, y_t_list, y_t_tuple, y_sb_NoneType, y_sb_bool, y_sb_int, y_sb_str, y_sb_list, y_sb_tuple, y_b_NoneType, y_b_bool, y_b_int, y_b_str, y_b_list, y_b_tuple, y_i_NoneType, y_i_bool, y_i_int, y_i_str, y_i_list, y_i_tuple, ty_non, ty_bl, ty_int, ty_str, ty_lst, ty_tup, hl])
      intro hc
      refine ⟨by rw [zipD_length]; omega, ?_⟩
      refine same_loop n [] _ _ _ rfl _ st trivial xs ys [] hsm ?_
      (try simp only [BEq.rfl, ↓e_v0, ↓e_vs, ↓e_c, ↓e_op, ↓e_un, ↓e_test, ↓e_testK, ↓e_tru, ↓e_truL, ↓e_truT, ↓e_truB, ↓e_truI, ↓e_truN, ↓e_truS, ↓e_not, ↓e_or, ↓e_andv, ↓e_notv, ↓e_andK, ↓e_notK, ↓e_if, ↓e_nil, ↓e_cons, ↓e_tup, ↓e_lst, ↓e_new, ↓e_call, ↓e_callK, ↓e_drop, ↓e_ret, ↓e_pass, ↓e_ifS, ↓e_g0, ↓e_gs, ↓e_gnil, ↓e_gcons, ↓e_gtup, ↓e_asg, ↓e_par, ↓e_parK, ↓e_par3, ↓e_par3K, ↓e_no, ↓e_some, ↓e_someK, ↓e_cut, ↓e_b, ↓e_iter, ↓e_iterL, ↓e_iterT, ↓e_iterS, ↓e_rng1, ↓e_rng1K, ↓e_rng2, ↓e_rng2K, ↓e_rng3, ↓e_rng3K, ↓e_enum, ↓e_enumL, ↓e_enumT, ↓e_zip, ↓e_zipL, ↓e_zipT, ↓e_for, ↓e_lc, ↓e_forN, ↓e_forC, ↓e_lcN, ↓e_lcC, ↓e_srcN, ↓e_srcC, ↓e_meth, ↓e_isL, ↓e_sub, ↓e_aug, ↓e_augK, ↓e_isi, ↓e_yes, ↓e_addI, ↓e_addB, ↓e_addS, ↓e_addT, ↓e_addL, ↓e_subI, ↓e_mulI, ↓e_mulT, ↓e_mulL, ↓e_divI, ↓e_modI, ↓e_powI, ↓e_negI, ↓e_iadd, ↓e_cmpI, ↓e_eq, ↓e_ne, ↓e_isn, ↓e_isnn, ↓e_isb, ↓e_ixL, ↓e_ixKL, ↓e_ixT, ↓e_cutL, ↓e_cutKL, ↓e_cutT, ↓e_lenL, ↓e_lenKL, ↓e_lenT, ↓e_abs, ↓e_intI, ↓e_intB, ↓e_min2, ↓e_listNL, ↓e_listNT, ↓e_tupL, ↓e_tupT, ↓e_drI, ↓e_drB, ↓e_drS, ↓e_drN, ↓e_drL, ↓e_drT, ↓e_seq, ↓e_inFlat, ↓e_drK, ↓e_addBI, ↓e_subBI, ↓e_subIB, ↓e_drG, ↓e_dgetF, ↓e_cutS, ↓e_mulS, ↓e_iaddI, ↓e_pairs0, ↓e_pairs1, ↓e_dispN, ↓e_putN, e_kyI, e_kyS, Nat.reduceAdd, Nat.zero_add, List.length_cons, List.length_nil, List.length_map, Nat.reduceLeDiff, and_true, true_and, if_true, ite_true, decide_eq_true_eq, Bool.not_eq_true, Bool.false_eq_true, if_false, ite_false, ↓reduceIte, Int.reduceToNat, Int.reducePow, ne_eq, q_okI, q_okB, q_okN, q_okS, q_okL, q_okT, q_oks0, q_oks1, q_eqII, q_eqBB, q_eqSS, q_eqLL, q_eqTT, q_eqNN, q_eqNI, q_eqIN, q_eqs0, q_eqs1, Bool.true_and, Bool.and_true, beq_iff_eq, reduceCtorEq, wipeE, List.set_cons_zero, List.set_cons_succ, List.set_nil, Bool.not_true, Bool.not_false, List.getElem?_cons_zero, List.getElem?_cons_succ, e_all (blsD_rep _), all_rep, List.nil_append])
      exact h
    all_goals cases hsm
  | non =>
    cases d <;> simp only [sm, Bool.false_eq_true] at hsm
    (try simp only [BEq.rfl, ↓e_v0, ↓e_vs, ↓e_c, ↓e_op, ↓e_un, ↓e_test, ↓e_testK, ↓e_tru, ↓e_truL, ↓e_truT, ↓e_truB, ↓e_truI, ↓e_truN, ↓e_truS, ↓e_not, ↓e_or, ↓e_andv, ↓e_notv, ↓e_andK, ↓e_notK, ↓e_if, ↓e_nil, ↓e_cons, ↓e_tup, ↓e_lst, ↓e_new, ↓e_call, ↓e_callK, ↓e_drop, ↓e_ret, ↓e_pass, ↓e_ifS, ↓e_g0, ↓e_gs, ↓e_gnil, ↓e_gcons, ↓e_gtup, ↓e_asg, ↓e_par, ↓e_parK, ↓e_par3, ↓e_par3K, ↓e_no, ↓e_some, ↓e_someK, ↓e_cut, ↓e_b, ↓e_iter, ↓e_iterL, ↓e_iterT, ↓e_iterS, ↓e_rng1, ↓e_rng1K, ↓e_rng2, ↓e_rng2K, ↓e_rng3, ↓e_rng3K, ↓e_enum, ↓e_enumL, ↓e_enumT, ↓e_zip, ↓e_zipL, ↓e_zipT, ↓e_for, ↓e_lc, ↓e_forN, ↓e_forC, ↓e_lcN, ↓e_lcC, ↓e_srcN, ↓e_srcC, ↓e_meth, ↓e_isL, ↓e_sub, ↓e_aug, ↓e_augK, ↓e_isi, ↓e_yes, ↓e_addI, ↓e_addB, ↓e_addS, ↓e_addT, ↓e_addL, ↓e_subI, ↓e_mulI, ↓e_mulT, ↓e_mulL, ↓e_divI, ↓e_modI, ↓e_powI, ↓e_negI, ↓e_iadd, ↓e_cmpI, ↓e_eq, ↓e_ne, ↓e_isn, ↓e_isnn, ↓e_isb, ↓e_ixL, ↓e_ixKL, ↓e_ixT, ↓e_cutL, ↓e_cutKL, ↓e_cutT, ↓e_lenL, ↓e_lenKL, ↓e_lenT, ↓e_abs, ↓e_intI, ↓e_intB, ↓e_min2, ↓e_listNL, ↓e_listNT, ↓e_tupL, ↓e_tupT, ↓e_drI, ↓e_drB, ↓e_drS, ↓e_drN, ↓e_drL, ↓e_drT, ↓e_seq, ↓e_inFlat, ↓e_drK, ↓e_addBI, ↓e_subBI, ↓e_subIB, ↓e_drG, ↓e_dgetF, ↓e_cutS, ↓e_mulS, ↓e_iaddI, ↓e_pairs0, ↓e_pairs1, ↓e_dispN, ↓e_putN, e_kyI, e_kyS, Nat.reduceAdd, Nat.zero_add, List.length_cons, List.length_nil, List.length_map, Nat.reduceLeDiff, and_true, true_and, if_true, ite_true, decide_eq_true_eq, Bool.not_eq_true, Bool.false_eq_true, if_false, ite_false, ↓reduceIte, Int.reduceToNat, Int.reducePow, ne_eq, q_okI, q_okB, q_okN, q_okS, q_okL, q_okT, q_oks0, q_oks1, q_eqII, q_eqBB, q_eqSS, q_eqLL, q_eqTT, q_eqNN, q_eqNI, q_eqIN, q_eqs0, q_eqs1, Bool.true_and, Bool.and_true, beq_iff_eq, reduceCtorEq, wipeE, List.set_cons_zero, List.set_cons_succ, List.set_nil, Bool.not_true, Bool.not_false, List.getElem?_cons_zero, List.getElem?_cons_succ, y_lt_NoneType, y_lt_bool, y_lt_int, y_lt_str, y_lt_list, y_lt_tuple, y_l_NoneType, y_l_bool, y_l_int, y_l_str, y_l_list, y_l_tuple, y_t_NoneType, y_t_bool, y_t_int, y_t_str, y_t_list, y_t_tuple, y_sb_NoneType, y_sb_bool, y_sb_int, y_sb_str, y_sb_list, y_sb_tuple, y_b_NoneType, y_b_bool, y_b_int, y_b_str, y_b_list, y_b_tuple, y_i_NoneType, y_i_bool, y_i_int, y_i_str, y_i_list, y_i_tuple, ty_non, ty_bl, ty_int, ty_str, ty_lst, ty_tup])
    exact h
  | bl b =>
    cases d <;> simp only [sm, Bool.false_eq_true] at hsm
    (try simp only [BEq.rfl, ↓e_v0, ↓e_vs, ↓e_c, ↓e_op, ↓e_un, ↓e_test, ↓e_testK, ↓e_tru, ↓e_truL, ↓e_truT, ↓e_truB, ↓e_truI, ↓e_truN, ↓e_truS, ↓e_not, ↓e_or, ↓e_andv, ↓e_notv, ↓e_andK, ↓e_notK, ↓e_if, ↓e_nil, ↓e_cons, ↓e_tup, ↓e_lst, ↓e_new, ↓e_call, ↓e_callK, ↓e_drop, ↓e_ret, ↓e_pass, ↓e_ifS, ↓e_g0, ↓e_gs, ↓e_gnil, ↓e_gcons, ↓e_gtup, ↓e_asg, ↓e_par, ↓e_parK, ↓e_par3, ↓e_par3K, ↓e_no, ↓e_some, ↓e_someK, ↓e_cut, ↓e_b, ↓e_iter, ↓e_iterL, ↓e_iterT, ↓e_iterS, ↓e_rng1, ↓e_rng1K, ↓e_rng2, ↓e_rng2K, ↓e_rng3, ↓e_rng3K, ↓e_enum, ↓e_enumL, ↓e_enumT, ↓e_zip, ↓e_zipL, ↓e_zipT, ↓e_for, ↓e_lc, ↓e_forN, ↓e_forC, ↓e_lcN, ↓e_lcC, ↓e_srcN, ↓e_srcC, ↓e_meth, ↓e_isL, ↓e_sub, ↓e_aug, ↓e_augK, ↓e_isi, ↓e_yes, ↓e_addI, ↓e_addB, ↓e_addS, ↓e_addT, ↓e_addL, ↓e_subI, ↓e_mulI, ↓e_mulT, ↓e_mulL, ↓e_divI, ↓e_modI, ↓e_powI, ↓e_negI, ↓e_iadd, ↓e_cmpI, ↓e_eq, ↓e_ne, ↓e_isn, ↓e_isnn, ↓e_isb, ↓e_ixL, ↓e_ixKL, ↓e_ixT, ↓e_cutL, ↓e_cutKL, ↓e_cutT, ↓e_lenL, ↓e_lenKL, ↓e_lenT, ↓e_abs, ↓e_intI, ↓e_intB, ↓e_min2, ↓e_listNL, ↓e_listNT, ↓e_tupL, ↓e_tupT, ↓e_drI, ↓e_drB, ↓e_drS, ↓e_drN, ↓e_drL, ↓e_drT, ↓e_seq, ↓e_inFlat, ↓e_drK, ↓e_addBI, ↓e_subBI, ↓e_subIB, ↓e_drG, ↓e_dgetF, ↓e_cutS, ↓e_mulS, ↓e_iaddI, ↓e_pairs0, ↓e_pairs1, ↓e_dispN, ↓e_putN, e_kyI, e_kyS, Nat.reduceAdd, Nat.zero_add, List.length_cons, List.length_nil, List.length_map, Nat.reduceLeDiff, and_true, true_and, if_true, ite_true, decide_eq_true_eq, Bool.not_eq_true, Bool.false_eq_true, if_false, ite_false, ↓reduceIte, Int.reduceToNat, Int.reducePow, ne_eq, q_okI, q_okB, q_okN, q_okS, q_okL, q_okT, q_oks0, q_oks1, q_eqII, q_eqBB, q_eqSS, q_eqLL, q_eqTT, q_eqNN, q_eqNI, q_eqIN, q_eqs0, q_eqs1, Bool.true_and, Bool.and_true, beq_iff_eq, reduceCtorEq, wipeE, List.set_cons_zero, List.set_cons_succ, List.set_nil, Bool.not_true, Bool.not_false, List.getElem?_cons_zero, List.getElem?_cons_succ, y_lt_NoneType, y_lt_bool, y_lt_int, y_lt_str, y_lt_list, y_lt_tuple, y_l_NoneType, y_l_bool, y_l_int, y_l_str, y_l_list, y_l_tuple, y_t_NoneType, y_t_bool, y_t_int, y_t_str, y_t_list, y_t_tuple, y_sb_NoneType, y_sb_bool, y_sb_int, y_sb_str, y_sb_list, y_sb_tuple, y_b_NoneType, y_b_bool, y_b_int, y_b_str, y_b_list, y_b_tuple, y_i_NoneType, y_i_bool, y_i_int, y_i_str, y_i_list, y_i_tuple, ty_non, ty_bl, ty_int, ty_str, ty_lst, ty_tup])
    rw [hsm]
    simpa [DL.isNon] using h
  | int b =>
    cases d <;> simp only [sm, Bool.false_eq_true] at hsm
    (try simp only [BEq.rfl, ↓e_v0, ↓e_vs, ↓e_c, ↓e_op, ↓e_un, ↓e_test, ↓e_testK, ↓e_tru, ↓e_truL, ↓e_truT, ↓e_truB, ↓e_truI, ↓e_truN, ↓e_truS, ↓e_not, ↓e_or, ↓e_andv, ↓e_notv, ↓e_andK, ↓e_notK, ↓e_if, ↓e_nil, ↓e_cons, ↓e_tup, ↓e_lst, ↓e_new, ↓e_call, ↓e_callK, ↓e_drop, ↓e_ret, ↓e_pass, ↓e_ifS, ↓e_g0, ↓e_gs, ↓e_gnil, ↓e_gcons, ↓e_gtup, ↓e_asg, ↓e_par, ↓e_parK, ↓e_par3, ↓e_par3K, ↓e_no, ↓e_some, ↓e_someK, ↓e_cut, ↓e_b, ↓e_iter, ↓e_iterL, ↓e_iterT, ↓e_iterS, ↓e_rng1, ↓e_rng1K, ↓e_rng2, ↓e_rng2K, ↓e_rng3, ↓e_rng3K, ↓e_enum, ↓e_enumL, ↓e_enumT, ↓e_zip, ↓e_zipL, ↓e_zipT, ↓e_for, ↓e_lc, ↓e_forN, ↓e_forC, ↓e_lcN, ↓e_lcC, ↓e_srcN, ↓e_srcC, ↓e_meth, ↓e_isL, ↓e_sub, ↓e_aug, ↓e_augK, ↓e_isi, ↓e_yes, ↓e_addI, ↓e_addB, ↓e_addS, ↓e_addT, ↓e_addL, ↓e_subI, ↓e_mulI, ↓e_mulT, ↓e_mulL, ↓e_divI, ↓e_modI, ↓e_powI, ↓e_negI, ↓e_iadd, ↓e_cmpI, ↓e_eq, ↓e_ne, ↓e_isn, ↓e_isnn, ↓e_isb, ↓e_ixL, ↓e_ixKL, ↓e_ixT, ↓e_cutL, ↓e_cutKL, ↓e_cutT, ↓e_lenL, ↓e_lenKL, ↓e_lenT, ↓e_abs, ↓e_intI, ↓e_intB, ↓e_min2, ↓e_listNL, ↓e_listNT, ↓e_tupL, ↓e_tupT, ↓e_drI, ↓e_drB, ↓e_drS, ↓e_drN, ↓e_drL, ↓e_drT, ↓e_seq, ↓e_inFlat, ↓e_drK, ↓e_addBI, ↓e_subBI, ↓e_subIB, ↓e_drG, ↓e_dgetF, ↓e_cutS, ↓e_mulS, ↓e_iaddI, ↓e_pairs0, ↓e_pairs1, ↓e_dispN, ↓e_putN, e_kyI, e_kyS, Nat.reduceAdd, Nat.zero_add, List.length_cons, List.length_nil, List.length_map, Nat.reduceLeDiff, and_true, true_and, if_true, ite_true, decide_eq_true_eq, Bool.not_eq_true, Bool.false_eq_true, if_false, ite_false, ↓reduceIte, Int.reduceToNat, Int.reducePow, ne_eq, q_okI, q_okB, q_okN, q_okS, q_okL, q_okT, q_oks0, q_oks1, q_eqII, q_eqBB, q_eqSS, q_eqLL, q_eqTT, q_eqNN, q_eqNI, q_eqIN, q_eqs0, q_eqs1, Bool.true_and, Bool.and_true, beq_iff_eq, reduceCtorEq, wipeE, List.set_cons_zero, List.set_cons_succ, List.set_nil, Bool.not_true, Bool.not_false, List.getElem?_cons_zero, List.getElem?_cons_succ, y_lt_NoneType, y_lt_bool, y_lt_int, y_lt_str, y_lt_list, y_lt_tuple, y_l_NoneType, y_l_bool, y_l_int, y_l_str, y_l_list, y_l_tuple, y_t_NoneType, y_t_bool, y_t_int, y_t_str, y_t_list, y_t_tuple, y_sb_NoneType, y_sb_bool, y_sb_int, y_sb_str, y_sb_list, y_sb_tuple, y_b_NoneType, y_b_bool, y_b_int, y_b_str, y_b_list, y_b_tuple, y_i_NoneType, y_i_bool, y_i_int, y_i_str, y_i_list, y_i_tuple, ty_non, ty_bl, ty_int, ty_str, ty_lst, ty_tup])
    rw [hsm]
    simpa [DL.isNon] using h
  | str b =>
    cases d <;> simp only [sm, Bool.false_eq_true] at hsm
    (try simp only [BEq.rfl, ↓e_v0, ↓e_vs, ↓e_c, ↓e_op, ↓e_un, ↓e_test, ↓e_testK, ↓e_tru, ↓e_truL, ↓e_truT, ↓e_truB, ↓e_truI, ↓e_truN, ↓e_truS, ↓e_not, ↓e_or, ↓e_andv, ↓e_notv, ↓e_andK, ↓e_notK, ↓e_if, ↓e_nil, ↓e_cons, ↓e_tup, ↓e_lst, ↓e_new, ↓e_call, ↓e_callK, ↓e_drop, ↓e_ret, ↓e_pass, ↓e_ifS, ↓e_g0, ↓e_gs, ↓e_gnil, ↓e_gcons, ↓e_gtup, ↓e_asg, ↓e_par, ↓e_parK, ↓e_par3, ↓e_par3K, ↓e_no, ↓e_some, ↓e_someK, ↓e_cut, ↓e_b, ↓e_iter, ↓e_iterL, ↓e_iterT, ↓e_iterS, ↓e_rng1, ↓e_rng1K, ↓e_rng2, ↓e_rng2K, ↓e_rng3, ↓e_rng3K, ↓e_enum, ↓e_enumL, ↓e_enumT, ↓e_zip, ↓e_zipL, ↓e_zipT, ↓e_for, ↓e_lc, ↓e_forN, ↓e_forC, ↓e_lcN, ↓e_lcC, ↓e_srcN, ↓e_srcC, ↓e_meth, ↓e_isL, ↓e_sub, ↓e_aug, ↓e_augK, ↓e_isi, ↓e_yes, ↓e_addI, ↓e_addB, ↓e_addS, ↓e_addT, ↓e_addL, ↓e_subI, ↓e_mulI, ↓e_mulT, ↓e_mulL, ↓e_divI, ↓e_modI, ↓e_powI, ↓e_negI, ↓e_iadd, ↓e_cmpI, ↓e_eq, ↓e_ne, ↓e_isn, ↓e_isnn, ↓e_isb, ↓e_ixL, ↓e_ixKL, ↓e_ixT, ↓e_cutL, ↓e_cutKL, ↓e_cutT, ↓e_lenL, ↓e_lenKL, ↓e_lenT, ↓e_abs, ↓e_intI, ↓e_intB, ↓e_min2, ↓e_listNL, ↓e_listNT, ↓e_tupL, ↓e_tupT, ↓e_drI, ↓e_drB, ↓e_drS, ↓e_drN, ↓e_drL, ↓e_drT, ↓e_seq, ↓e_inFlat, ↓e_drK, ↓e_addBI, ↓e_subBI, ↓e_subIB, ↓e_drG, ↓e_dgetF, ↓e_cutS, ↓e_mulS, ↓e_iaddI, ↓e_pairs0, ↓e_pairs1, ↓e_dispN, ↓e_putN, e_kyI, e_kyS, Nat.reduceAdd, Nat.zero_add, List.length_cons, List.length_nil, List.length_map, Nat.reduceLeDiff, and_true, true_and, if_true, ite_true, decide_eq_true_eq, Bool.not_eq_true, Bool.false_eq_true, if_false, ite_false, ↓reduceIte, Int.reduceToNat, Int.reducePow, ne_eq, q_okI, q_okB, q_okN, q_okS, q_okL, q_okT, q_oks0, q_oks1, q_eqII, q_eqBB, q_eqSS, q_eqLL, q_eqTT, q_eqNN, q_eqNI, q_eqIN, q_eqs0, q_eqs1, Bool.true_and, Bool.and_true, beq_iff_eq, reduceCtorEq, wipeE, List.set_cons_zero, List.set_cons_succ, List.set_nil, Bool.not_true, Bool.not_false, List.getElem?_cons_zero, List.getElem?_cons_succ, y_lt_NoneType, y_lt_bool, y_lt_int, y_lt_str, y_lt_list, y_lt_tuple, y_l_NoneType, y_l_bool, y_l_int, y_l_str, y_l_list, y_l_tuple, y_t_NoneType, y_t_bool, y_t_int, y_t_str, y_t_list, y_t_tuple, y_sb_NoneType, y_sb_bool, y_sb_int, y_sb_str, y_sb_list, y_sb_tuple, y_b_NoneType, y_b_bool, y_b_int, y_b_str, y_b_list, y_b_tuple, y_i_NoneType, y_i_bool, y_i_int, y_i_str, y_i_list, y_i_tuple, ty_non, ty_bl, ty_int, ty_str, ty_lst, ty_tup])
    simp only [Bool.and_eq_true, beq_iff_eq] at hsm
    obtain ⟨rfl, ok⟩ := hsm
    simpa [DL.isNon, ok] using h
  | _ => cases hsm
mutual
theorem sm_self (st : Sto) : ∀ (n : Nat) (d : D), okD n d = true → sm st (n + 1) d d = true
  | n, .non, _ => by simp [sm]
  | n, .bl b, _ => by simp [sm]
  | n, .int i, _ => by simp [sm]
  | n, .str x, h => sm_str st n (by cases n <;> simpa only [okD] using h)
  | n, .klst xs, h => by cases n <;> simp [okD] at h
  | n, .obj xs, h => by cases n <;> simp [okD] at h
  | n, .dic _ _, h => by cases n <;> simp [okD] at h
  | n, .fdic _ _, h => by cases n <;> simp [okD] at h
  | n, .gtup _, h => by cases n <;> simp [okD] at h
  | 0, .lst xs, h => by simp [okD] at h
  | n + 1, .lst xs, h => sm_lst rfl rfl (sm_selfs st n xs (by simpa only [okD] using h))
  | 0, .tup xs, h => by simp [okD] at h
  | n + 1, .tup xs, h => sm_tup rfl (sm_selfs st n xs (by simpa only [okD] using h))
theorem sm_selfs (st : Sto) : ∀ (n : Nat) (ds : List D), okDs n ds = true → (ds.zip ds).all (fun p => sm st (n + 1) p.1 p.2) = true
  | n, [], _ => rfl
  | n, x :: xs, h => by
    simp only [okDs, Bool.and_eq_true] at h
    exact sm_cons (sm_self st n x h.1) (sm_selfs st n xs h.2)
end
def t__law_weight : DS :=
    (dRet (dOp ixD (dLst (dCons (dOp addD (dC (.int 1)) (dCall sp__law_draw (dCons (dVar 0) (dCons (dVar 1) dNil)))) (dCons (dOp addD (dC (.int 1)) (dCall sp__law_draw (dCons (dVar 0) (dCons (dB bMin2 (dCons (dC (.int 3)) (dCons (dVar 1) dNil))) dNil)))) (dCons (dVar 1) (dCons (dC (.int 1)) dNil))))) (dCall sp__law_draw (dCons (dVar 0) (dCons (dC (.int 4)) dNil)))))
theorem st__law_weight (a0 a1 : D) : startD N__law_weight [a0, a1] = [some a0, some a1] := rfl
def sp__law_weight : SpD := fun ds st kk => ∃ (i n : Nat) (m : Int), ds = [.obj i, .int m] ∧ Tp i n st ∧ n < 900000000000 ∧ 1 ≤ m ∧ m < 1000000000000 ∧ ∀ (r : Int) xs, 1 ≤ r → r ≤ m → Tp i (n + 3) (st.set i xs) → kk (.int r) (st.set i xs)
theorem len__law_weight (ds : List D) (st : Sto) (kk : DK) (h : sp__law_weight ds st kk) : ds.length = 2 := by
  obtain ⟨i, n, m, rfl, _⟩ := h
  rfl
theorem p__law_weight : BodyD false N__law_weight sp__law_weight t__law_weight := by
  rintro ds st kk ⟨i, n, m, rfl, ht, hn, h1, h2, h⟩
  rw [st__law_weight]
  simp only [t__law_weight]
  (walk_at "lw_dd")
  refine ⟨i, n, m, rfl, ht, by omega, ⟨h1, by omega⟩, fun r1 x1 a1 b1 t1 => ?_⟩
  (walk_at "lw_dd")
  refine ⟨i, n + 1, _, rfl, t1, by omega, ⟨by split <;> omega, by split <;> omega⟩, fun r2 x2 a2 b2 t2 => ?_⟩
  rw [List.set_set] at t2 ⊢
  (walk_at "lw_dd")
  refine ⟨i, n + 2, 4, rfl, t2, by omega, ⟨by decide, by decide⟩, fun r3 x3 a3 b3 t3 => ?_⟩
  rw [List.set_set] at t3 ⊢
  (walk_at "lw_dd")
  have b2' : r2 < m := by
    split at b2 <;> omega
  rcases in4 a3 b3 with rfl | rfl | rfl | rfl
  · exact ⟨_, rfl, h _ _ (by omega) (by omega) t3⟩
  · exact ⟨_, rfl, h _ _ (by omega) (by omega) t3⟩
  · exact ⟨_, rfl, h _ _ (by omega) (by omega) t3⟩
  · exact ⟨_, rfl, h _ _ (by omega) (by omega) t3⟩
def e1__law_word : DE :=
    (dCall sp__law_weight (dCons (dVar 0) (dCons (dVar 2) dNil)))
def e2__law_word : DE :=
    (dOp ixD (dVar 5) (dOp modD (dVar 6) (dB bLen (dCons (dVar 5) dNil))))
def z3__law_word : DS :=
    (dRet (dB bTuple (dCons (dLc (dRng1 (dVar 3)) (dgName 6) dYes (e2__law_word) [6]) dNil)))
def z2__law_word : DS :=
    (dSeq (dAsg (dLc (dRng1 (dOp ixD (dLst (dCons (dVar 3) (dCons (dVar 3) (dCons (dVar 3) (dCons (dVar 3) (dCons (dC (.int 1)) (dCons (dC (.int 2)) dNil))))))) (dVar 4))) (dgName 6) dYes (e1__law_word) [6]) (dgName 5))
    (z3__law_word))
def t__law_word : DS :=
    (dSeq (dPar 3 4 (dCons (dOp addD (dC (.int 1)) (dCall sp__law_draw (dCons (dVar 0) (dCons (dVar 1) dNil)))) (dCons (dCall sp__law_draw (dCons (dVar 0) (dCons (dC (.int 6)) dNil))) dNil)))
    (z2__law_word))
theorem st__law_word (a0 a1 a2 : D) : startD N__law_word [a0, a1, a2] = [some a0, some a1, some a2, none, none, none, none] := rfl
def sp__law_word : SpD := fun ds st kk => ∃ (i n : Nat) (c h : Int), ds = [.obj i, .int c, .int h] ∧ Tp i n st ∧ n < 100000000 ∧ 1 ≤ c ∧ c ≤ 1000 ∧ 1 ≤ h ∧ h ≤ 1000 ∧ ∀ (ws : List Int) xs, Row ws c h → Tp i (n + 4000) (st.set i xs) → kk (.tup (ws.map D.int)) (st.set i xs)
theorem len__law_word (ds : List D) (st : Sto) (kk : DK) (h : sp__law_word ds st kk) : ds.length = 3 := by
  obtain ⟨i, n, c, m, rfl, _⟩ := h
  rfl
theorem p__law_word : BodyD false N__law_word sp__law_word t__law_word := by
  rintro ds st kk ⟨i, n, c, m, rfl, ht, hn, c1, c2, m1, m2, h⟩
  rw [st__law_word]
  simp only [t__law_word]
  (walk_at "lw_dd")
  refine ⟨i, n, c, rfl, ht, by omega, Big.s c1 (by omega), fun r1 x1 a1 b1 t1 => ?_⟩
  (walk_at "lw_dd")
  refine ⟨i, n + 1, 6, rfl, t1, by omega, ⟨by decide, by decide⟩, fun r2 x2 a2 b2 t2 => ?_⟩
  rw [List.set_set] at t2 ⊢
  (walk_at "lw_dd")
  simp only [z2__law_word]
  (walk_at "lw_dd")
  obtain ⟨q, hq, hf⟩ := atI_pick (ns := [1 + r1, 1 + r1, 1 + r1, 1 + r1, 1, 2]) a2 (by simpa using b2)
  have q1 : 1 ≤ q ∧ q ≤ c + 1 := by simp at hq; omega
  refine ⟨_, hf, ?_⟩
  (walk_at "lw_dd")
  refine ⟨⟨by omega, by omega⟩, by rw [rangeD_length]; omega, ?_⟩
  refine lc_draws D.int (fun w => 1 ≤ w ∧ w ≤ m) i 3 900000000 (fun x n st kd t hn q => ?_) _ (n + 2) _ [] t2 (by rw [rangeD_length]; omega) fun us zs hl hw t3 => ?_
  · simp only [e1__law_word]
    (walk_at "lw_dd")
    exact ⟨i, n, m, rfl, t, by omega, m1, by omega, fun w ys w1 w2 t => q w ys ⟨w1, w2⟩ t⟩
  rw [List.set_set] at t3 ⊢
  rw [rangeD_length] at t3 hl
  rw [List.nil_append]
  (walk_at "lw_dd")
  simp only [z3__law_word]
  (walk_at "lw_dd")
  refine ⟨⟨by omega, by omega⟩, by rw [rangeD_length]; omega, ?_⟩
  have ul : 0 < us.length := by omega
  rw [natOf_range]
  have pick : ∀ j : Nat, us[j % us.length]'(Nat.mod_lt _ ul) ∈ us := fun j => List.getElem_mem _
  refine lc_mapM (fun j : Nat => D.int (j : Nat)) (fun j => us[j % us.length]'(Nat.mod_lt _ ul)) D.int _ _ (by exact trivial) _ (fun j hj kd q => ?_) ?_
  · simp only [e2__law_word]
    (walk_at "lw_dd")
    refine ⟨by omega, ?_⟩
    refine ⟨.int (us[j % us.length]'(Nat.mod_lt _ ul)), ?_, q⟩
    rw [show (j : Int) % (us.length : Int) = ((j % us.length : Nat) : Int) by omega]
    refine atI_nat ?_
    rw [List.getElem?_map, List.getElem?_eq_getElem (Nat.mod_lt _ ul)]
    rfl
  rw [List.nil_append]
  (walk_at "lw_dd")
  refine h _ zs ⟨?_, ?_, ?_⟩ (t3.mono (by omega))
  · intro z
    have := congrArg List.length z
    simp only [List.length_map, List.length_range, List.length_nil] at this
    omega
  · rw [List.length_map, List.length_range]
    omega
  · intro w hw'
    obtain ⟨j, _, rfl⟩ := List.mem_map.mp hw'
    exact hw _ (pick j)
def b1__law_fallen : DS :=
    (dSeq (dDrop (dMeth mAppend (dVar 2) (dCons (dB bInt (dCons (dOp (cmpI fun i j => decide (j < i)) (dVar 0) (dC (.int 0))) dNil)) dNil)))
    (dAsg (dOp addD (dVar 0) (dOp mulD (dOp mulD (dC (.int 2)) (dVar 3)) (dOp subD (dC (.int 1)) (dOp mulD (dC (.int 2)) (dOp ixD (dVar 2) (dUn negD (dC (.int 1)))))))) (dgName 0)))
def t__law_fallen : DS :=
    (dSeq (dAsg (dNew dNil) (dgName 2))
    (dSeq (dFor (dIter (dVar 1)) (dgName 3) (b1__law_fallen))
    (dRet (dTup (dCons (dVar 2) (dCons (dVar 0) dNil))))))
theorem st__law_fallen (a0 a1 : D) : startD N__law_fallen [a0, a1] = [some a0, some a1, none, none] := rfl
def fbits : Int → List Int → List Int
  | _, [] => []
  | s, w :: r => (if 0 < s then 1 else 0) :: fbits (fallI s w) r
theorem fall_odd {s : Int} (h : s % 2 = 1) (w : Int) : fallI s w % 2 = 1 := by
  unfold fallI
  split <;> omega
theorem fall_bit {s : Int} (h : s % 2 = 1) (w : Int) : s + 2 * w * (1 - 2 * (if 0 < s then 1 else 0)) = fallI s w := by
  unfold fallI
  split
  · rw [if_neg (by omega)]
    omega
  · rw [if_pos (by omega)]
    omega
theorem fallen_loop (rt : DK) (a1 : D) (st : Sto) (kk : DL.Env → Sto → Prop) : ∀ (ws : List Int) (s : Int) (dn : List D) (v3 : Option D), s % 2 = 1 → dn.length + ws.length ≤ 16777216 →
    (∀ u3, kk [some (.int (flast s ws)), some a1, some (.obj st.length), u3] (st ++ [dn ++ (fbits s ws).map D.int])) →
    goFor [] (dgName 3) b1__law_fallen ⟨kk, rt⟩ (ws.map D.int) [some (.int s), some a1, some (.obj st.length), v3] (st ++ [dn])
  | [], s, dn, v3, _, _, h => by
    refine ⟨trivial, ?_⟩
    have := h v3
    simp only [fbits, List.map_nil, List.append_nil, flast] at this
    exact this
  | w :: r, s, dn, v3, ho, hl, h => by
    simp only [List.map_cons]
    rw [e_forC]
    refine ⟨trivial, ?_⟩
    simp only [List.length_cons] at hl
    simp only [b1__law_fallen]
    (try simp only [BEq.rfl, ↓e_v0, ↓e_vs, ↓e_c, ↓e_op, ↓e_un, ↓e_test, ↓e_testK, ↓e_tru, ↓e_truL, ↓e_truT, ↓e_truB, ↓e_truI, ↓e_truN, ↓e_truS, ↓e_not, ↓e_or, ↓e_andv, ↓e_notv, ↓e_andK, ↓e_notK, ↓e_if, ↓e_nil, ↓e_cons, ↓e_tup, ↓e_lst, ↓e_new, ↓e_call, ↓e_callK, ↓e_drop, ↓e_ret, ↓e_pass, ↓e_ifS, ↓e_g0, ↓e_gs, ↓e_gnil, ↓e_gcons, ↓e_gtup, ↓e_asg, ↓e_par, ↓e_parK, ↓e_par3, ↓e_par3K, ↓e_no, ↓e_some, ↓e_someK, ↓e_cut, ↓e_b, ↓e_iter, ↓e_iterL, ↓e_iterT, ↓e_iterS, ↓e_rng1, ↓e_rng1K, ↓e_rng2, ↓e_rng2K, ↓e_rng3, ↓e_rng3K, ↓e_enum, ↓e_enumL, ↓e_enumT, ↓e_zip, ↓e_zipL, ↓e_zipT, ↓e_for, ↓e_lc, ↓e_forN, ↓e_forC, ↓e_lcN, ↓e_lcC, ↓e_srcN, ↓e_srcC, ↓e_meth, ↓e_isL, ↓e_sub, ↓e_aug, ↓e_augK, ↓e_isi, ↓e_yes, ↓e_addI, ↓e_addB, ↓e_addS, ↓e_addT, ↓e_addL, ↓e_subI, ↓e_mulI, ↓e_mulT, ↓e_mulL, ↓e_divI, ↓e_modI, ↓e_powI, ↓e_negI, ↓e_iadd, ↓e_cmpI, ↓e_eq, ↓e_ne, ↓e_isn, ↓e_isnn, ↓e_isb, ↓e_ixL, ↓e_ixKL, ↓e_ixT, ↓e_cutL, ↓e_cutKL, ↓e_cutT, ↓e_lenL, ↓e_lenKL, ↓e_lenT, ↓e_abs, ↓e_intI, ↓e_intB, ↓e_min2, ↓e_listNL, ↓e_listNT, ↓e_tupL, ↓e_tupT, ↓e_drI, ↓e_drB, ↓e_drS, ↓e_drN, ↓e_drL, ↓e_drT, ↓e_seq, ↓e_inFlat, ↓e_drK, ↓e_addBI, ↓e_subBI, ↓e_subIB, ↓e_drG, ↓e_dgetF, ↓e_cutS, ↓e_mulS, ↓e_iaddI, ↓e_pairs0, ↓e_pairs1, ↓e_dispN, ↓e_putN, e_kyI, e_kyS, Nat.reduceAdd, Nat.zero_add, List.length_cons, List.length_nil, List.length_map, Nat.reduceLeDiff, and_true, true_and, if_true, ite_true, decide_eq_true_eq, Bool.not_eq_true, Bool.false_eq_true, if_false, ite_false, ↓reduceIte, Int.reduceToNat, Int.reducePow, ne_eq, q_okI, q_okB, q_okN, q_okS, q_okL, q_okT, q_oks0, q_oks1, q_eqII, q_eqBB, q_eqSS, q_eqLL, q_eqTT, q_eqNN, q_eqNI, q_eqIN, q_eqs0, q_eqs1, Bool.true_and, Bool.and_true, beq_iff_eq, reduceCtorEq, wipeE, List.set_cons_zero, List.set_cons_succ, List.set_nil, Bool.not_true, Bool.not_false, List.getElem?_cons_zero, List.getElem?_cons_succ, e_isO (List.getElem?_concat_length ..), e_app (List.getElem?_concat_length ..), set_last, e_ixO (List.getElem?_concat_length ..)])
    refine ⟨by omega, mul2 _, _, atI_last _ _, ?_⟩
    (walk_at "lw_dd")
    refine ⟨mul2 _, ?_, ?_⟩
    · exact mulr _ _ (by split <;> decide) (by split <;> decide)
    have e : s + 2 * w * (1 - 2 * (if 0 < s then 1 else 0)) = fallI s w := fall_bit ho w
    rw [e]
    refine fallen_loop rt a1 st kk r _ (dn ++ [D.int (if 0 < s then 1 else 0)]) _ (fall_odd ho w) (by simp; omega) fun u3 => ?_
    have := h u3
    simp only [fbits, List.map_cons, flast] at this
    simpa using this
def sp__law_fallen : SpD := fun ds st kk => ∃ (s : Int) (ws : List Int), ds = [.int s, .tup (ws.map D.int)] ∧ s % 2 = 1 ∧ kk (.tup [.lst ((fbits s ws).map D.int), .int (flast s ws)]) st
theorem len__law_fallen (ds : List D) (st : Sto) (kk : DK) (h : sp__law_fallen ds st kk) : ds.length = 2 := by
  obtain ⟨s, ws, rfl, _⟩ := h
  rfl
theorem p__law_fallen : BodyD true N__law_fallen sp__law_fallen t__law_fallen := by
  rintro ds st kk ⟨s, ws, rfl, ho, h⟩
  rw [st__law_fallen]
  simp only [t__law_fallen]
  (walk_at "lw_dd")
  refine fun hl => ?_
  refine fallen_loop _ _ st _ ws s [] _ ho (by simpa using hl) fun u3 => ?_
  (walk_at "lw_dd")
  refine .one (by simpa using belows_int _ _) ?_
  simp only [sub, subs, if_true, List.nil_append]
  exact h
def z4__law_strip : DS :=
    (dDrop (dMeth mAppend (dVar 2) (dCons (dTup (dCons (dB bAbs (dCons (dVar 4) dNil)) (dCons (dOp (cmpI fun i j => decide (i < j)) (dVar 4) (dC (.int 0))) dNil))) dNil)))
def b1__law_strip : DS :=
    (dSeq (dAsg (dOp ixD (dCall sp__law_fallen (dCons (dVar 3) (dCons (dVar 0) dNil))) (dC (.int 1))) (dgName 4))
    (z4__law_strip))
def z5__law_strip : DS :=
    (dRet (dVar 2))
def z2__law_strip : DS :=
    (dSeq (dFor (dRng3 (dC (.int 1)) (dOp mulD (dC (.int 2)) (dVar 1)) (dC (.int 2))) (dgName 3) (b1__law_strip))
    (z5__law_strip))
def t__law_strip : DS :=
    (dSeq (dAsg (dNew dNil) (dgName 2))
    (z2__law_strip))
theorem st__law_strip (a0 a1 : D) : startD N__law_strip [a0, a1] = [some a0, some a1, none, none, none] := rfl
def sp__law_strip : SpD := fun ds st kk => ∃ (ws : List Int) (h : Int), ds = [.tup (ws.map D.int), .int h] ∧ 1 ≤ h ∧ h ≤ 1000 ∧ kk (stripD ws h) st
theorem len__law_strip (ds : List D) (st : Sto) (kk : DK) (h : sp__law_strip ds st kk) : ds.length = 2 := by
  obtain ⟨_, _, rfl, _⟩ := h
  rfl
theorem p__law_strip : BodyD true N__law_strip sp__law_strip t__law_strip := by
  rintro ds st kk ⟨ws, h, rfl, h1, h2, q⟩
  rw [st__law_strip]
  simp only [t__law_strip]
  have body : ∀ (nx : DL.Env → Sto → Prop) (rt : DK) (v3 v4 : Option D), (∀ (v3 v4 : Option D), nx [some (.tup (ws.map D.int)), some (.int h), some (.obj st.length), v3, v4] (st ++ [stripL ws h])) →
      goFor [] (dgName 3) b1__law_strip ⟨nx, rt⟩ ((oddsR (1, 2 * h - 1)).map D.int) [some (.tup (ws.map D.int)), some (.int h), some (.obj st.length), v3, v4] (st ++ [[]]) := by
    intro nx rt v3 v4 k
    refine go_for D.int (fun us env s => ∃ (dn : List Int) (v3 v4 : Option D), dn ++ us = oddsR (1, 2 * h - 1) ∧ s = st ++ [(dn.map (spotI ws)).map pairD] ∧ env = [some (.tup (ws.map D.int)), some (.int h), some (.obj st.length), v3, v4]) ?_ ?_ _ _ _ ⟨[], v3, v4, rfl, rfl, rfl⟩
    · rintro x us _ _ nx2 ⟨dn, v3, v4, hd, rfl, rfl⟩ q2
      refine ⟨trivial, ?_⟩
      have mx : x ∈ oddsR (1, 2 * h - 1) := by rw [← hd]; simp
      obtain ⟨x1, x2, x3⟩ := (mem_odds (run0_ok h1) x).mp mx
      have dl : dn.length ≤ 1000 := by
        have e1 := congrArg List.length hd
        rw [List.length_append, oddsR_length] at e1
        unfold spotR at e1
        dsimp only at e1
        omega
      (walk_at "lw_dd")
      simp only [b1__law_strip]
      (walk_at "lw_dd")
      refine ⟨x, ws, rfl, x3, ?_⟩
      (try simp only [BEq.rfl, ↓e_v0, ↓e_vs, ↓e_c, ↓e_op, ↓e_un, ↓e_test, ↓e_testK, ↓e_tru, ↓e_truL, ↓e_truT, ↓e_truB, ↓e_truI, ↓e_truN, ↓e_truS, ↓e_not, ↓e_or, ↓e_andv, ↓e_notv, ↓e_andK, ↓e_notK, ↓e_if, ↓e_nil, ↓e_cons, ↓e_tup, ↓e_lst, ↓e_new, ↓e_call, ↓e_callK, ↓e_drop, ↓e_ret, ↓e_pass, ↓e_ifS, ↓e_g0, ↓e_gs, ↓e_gnil, ↓e_gcons, ↓e_gtup, ↓e_asg, ↓e_par, ↓e_parK, ↓e_par3, ↓e_par3K, ↓e_no, ↓e_some, ↓e_someK, ↓e_cut, ↓e_b, ↓e_iter, ↓e_iterL, ↓e_iterT, ↓e_iterS, ↓e_rng1, ↓e_rng1K, ↓e_rng2, ↓e_rng2K, ↓e_rng3, ↓e_rng3K, ↓e_enum, ↓e_enumL, ↓e_enumT, ↓e_zip, ↓e_zipL, ↓e_zipT, ↓e_for, ↓e_lc, ↓e_forN, ↓e_forC, ↓e_lcN, ↓e_lcC, ↓e_srcN, ↓e_srcC, ↓e_meth, ↓e_isL, ↓e_sub, ↓e_aug, ↓e_augK, ↓e_isi, ↓e_yes, ↓e_addI, ↓e_addB, ↓e_addS, ↓e_addT, ↓e_addL, ↓e_subI, ↓e_mulI, ↓e_mulT, ↓e_mulL, ↓e_divI, ↓e_modI, ↓e_powI, ↓e_negI, ↓e_iadd, ↓e_cmpI, ↓e_eq, ↓e_ne, ↓e_isn, ↓e_isnn, ↓e_isb, ↓e_ixL, ↓e_ixKL, ↓e_ixT, ↓e_cutL, ↓e_cutKL, ↓e_cutT, ↓e_lenL, ↓e_lenKL, ↓e_lenT, ↓e_abs, ↓e_intI, ↓e_intB, ↓e_min2, ↓e_listNL, ↓e_listNT, ↓e_tupL, ↓e_tupT, ↓e_drI, ↓e_drB, ↓e_drS, ↓e_drN, ↓e_drL, ↓e_drT, ↓e_seq, ↓e_inFlat, ↓e_drK, ↓e_addBI, ↓e_subBI, ↓e_subIB, ↓e_drG, ↓e_dgetF, ↓e_cutS, ↓e_mulS, ↓e_iaddI, ↓e_pairs0, ↓e_pairs1, ↓e_dispN, ↓e_putN, e_kyI, e_kyS, Nat.reduceAdd, Nat.zero_add, List.length_cons, List.length_nil, List.length_map, Nat.reduceLeDiff, and_true, true_and, if_true, ite_true, decide_eq_true_eq, Bool.not_eq_true, Bool.false_eq_true, if_false, ite_false, ↓reduceIte, Int.reduceToNat, Int.reducePow, ne_eq, q_okI, q_okB, q_okN, q_okS, q_okL, q_okT, q_oks0, q_oks1, q_eqII, q_eqBB, q_eqSS, q_eqLL, q_eqTT, q_eqNN, q_eqNI, q_eqIN, q_eqs0, q_eqs1, Bool.true_and, Bool.and_true, beq_iff_eq, reduceCtorEq, wipeE, List.set_cons_zero, List.set_cons_succ, List.set_nil, Bool.not_true, Bool.not_false, List.getElem?_cons_zero, List.getElem?_cons_succ, p1, Option.some.injEq, exists_eq_left'])
      simp only [z4__law_strip]
      (walk_at "lw_dd")
      (try simp only [BEq.rfl, ↓e_v0, ↓e_vs, ↓e_c, ↓e_op, ↓e_un, ↓e_test, ↓e_testK, ↓e_tru, ↓e_truL, ↓e_truT, ↓e_truB, ↓e_truI, ↓e_truN, ↓e_truS, ↓e_not, ↓e_or, ↓e_andv, ↓e_notv, ↓e_andK, ↓e_notK, ↓e_if, ↓e_nil, ↓e_cons, ↓e_tup, ↓e_lst, ↓e_new, ↓e_call, ↓e_callK, ↓e_drop, ↓e_ret, ↓e_pass, ↓e_ifS, ↓e_g0, ↓e_gs, ↓e_gnil, ↓e_gcons, ↓e_gtup, ↓e_asg, ↓e_par, ↓e_parK, ↓e_par3, ↓e_par3K, ↓e_no, ↓e_some, ↓e_someK, ↓e_cut, ↓e_b, ↓e_iter, ↓e_iterL, ↓e_iterT, ↓e_iterS, ↓e_rng1, ↓e_rng1K, ↓e_rng2, ↓e_rng2K, ↓e_rng3, ↓e_rng3K, ↓e_enum, ↓e_enumL, ↓e_enumT, ↓e_zip, ↓e_zipL, ↓e_zipT, ↓e_for, ↓e_lc, ↓e_forN, ↓e_forC, ↓e_lcN, ↓e_lcC, ↓e_srcN, ↓e_srcC, ↓e_meth, ↓e_isL, ↓e_sub, ↓e_aug, ↓e_augK, ↓e_isi, ↓e_yes, ↓e_addI, ↓e_addB, ↓e_addS, ↓e_addT, ↓e_addL, ↓e_subI, ↓e_mulI, ↓e_mulT, ↓e_mulL, ↓e_divI, ↓e_modI, ↓e_powI, ↓e_negI, ↓e_iadd, ↓e_cmpI, ↓e_eq, ↓e_ne, ↓e_isn, ↓e_isnn, ↓e_isb, ↓e_ixL, ↓e_ixKL, ↓e_ixT, ↓e_cutL, ↓e_cutKL, ↓e_cutT, ↓e_lenL, ↓e_lenKL, ↓e_lenT, ↓e_abs, ↓e_intI, ↓e_intB, ↓e_min2, ↓e_listNL, ↓e_listNT, ↓e_tupL, ↓e_tupT, ↓e_drI, ↓e_drB, ↓e_drS, ↓e_drN, ↓e_drL, ↓e_drT, ↓e_seq, ↓e_inFlat, ↓e_drK, ↓e_addBI, ↓e_subBI, ↓e_subIB, ↓e_drG, ↓e_dgetF, ↓e_cutS, ↓e_mulS, ↓e_iaddI, ↓e_pairs0, ↓e_pairs1, ↓e_dispN, ↓e_putN, e_kyI, e_kyS, Nat.reduceAdd, Nat.zero_add, List.length_cons, List.length_nil, List.length_map, Nat.reduceLeDiff, and_true, true_and, if_true, ite_true, decide_eq_true_eq, Bool.not_eq_true, Bool.false_eq_true, if_false, ite_false, ↓reduceIte, Int.reduceToNat, Int.reducePow, ne_eq, q_okI, q_okB, q_okN, q_okS, q_okL, q_okT, q_oks0, q_oks1, q_eqII, q_eqBB, q_eqSS, q_eqLL, q_eqTT, q_eqNN, q_eqNI, q_eqIN, q_eqs0, q_eqs1, Bool.true_and, Bool.and_true, beq_iff_eq, reduceCtorEq, wipeE, List.set_cons_zero, List.set_cons_succ, List.set_nil, Bool.not_true, Bool.not_false, List.getElem?_cons_zero, List.getElem?_cons_succ, e_isO (List.getElem?_concat_length ..), e_app (List.getElem?_concat_length ..), set_last])
      refine ⟨by omega, ?_⟩
      refine q2 _ _ ⟨dn ++ [x], _, _, by rw [List.append_assoc]; exact hd, ?_, rfl⟩
      rw [List.map_append, List.map_append]
      rfl
    · rintro _ _ ⟨dn, v3, v4, hd, rfl, rfl⟩
      refine ⟨trivial, ?_⟩
      rw [List.append_nil] at hd
      subst hd
      exact k v3 v4
  (walk_at "lw_dd")
  refine ⟨mul2 _, h.toNat, rng_odd h1 (by omega), ?_⟩
  rw [strip_rng h1]
  refine body _ _ _ _ fun v3 v4 => ?_
  simp only [z5__law_strip]
  (walk_at "lw_dd")
  refine .one (belows_pairs _ _) ?_
  simp only [sub, if_true]
  exact q
def z4__law_then : DS :=
    (dDrop (dMeth mAppend (dVar 2) (dCons (dTup (dCons (dVar 5) (dCons (dOp (eqOp true) (dVar 4) (dVar 6)) dNil))) dNil)))
def b1__law_then : DS :=
    (dSeq (dAsg (dOp ixD (dVar 1) (dOp divD (dVar 3) (dC (.int 2)))) (dgTup 2 (dgCons (dgName 5) (dgCons (dgName 6) dgNil))))
    (z4__law_then))
def z5__law_then : DS :=
    (dRet (dB bTuple (dCons (dVar 2) dNil)))
def z2__law_then : DS :=
    (dSeq (dFor (dIter (dVar 0)) (dgTup 2 (dgCons (dgName 3) (dgCons (dgName 4) dgNil))) (b1__law_then))
    (z5__law_then))
def t__law_then : DS :=
    (dSeq (dAsg (dNew dNil) (dgName 2))
    (z2__law_then))
theorem st__law_then (a0 a1 : D) : startD N__law_then [a0, a1] = [some a0, some a1, none, none, none, none, none] := rfl
def sp__law_then : SpD := fun ds st kk => ∃ (a b : List Int) (h : Int), ds = [.tup (stripL a h), stripD b h] ∧ 1 ≤ h ∧ h ≤ 1000 ∧ (∀ w ∈ a, 1 ≤ w ∧ w ≤ h) ∧ kk (.tup (stripL (a ++ b) h)) st
theorem len__law_then (ds : List D) (st : Sto) (kk : DK) (h : sp__law_then ds st kk) : ds.length = 2 := by
  obtain ⟨_, _, _, rfl, _⟩ := h
  rfl
theorem p__law_then : BodyD true N__law_then sp__law_then t__law_then := by
  rintro ds st kk ⟨a, b, h, rfl, h1, h2, hw, q⟩
  rw [st__law_then]
  simp only [t__law_then]
  have la := stripL_len a h1
  have fin : ∀ (v3 v4 v5 v6 : Option D), z5__law_then ⟨fun _ st' => Frz st .non st' kk, fun d st' => Frz st d st' kk⟩ [some (.tup (stripL a h)), some (stripD b h), some (.obj st.length), v3, v4, v5, v6] (st ++ [stripL (a ++ b) h]) := by
    intro v3 v4 v5 v6
    simp only [z5__law_then]
    (walk_at "lw_dd")
    rw [e_tupO (List.getElem?_concat_length ..)]
    refine frz_locs (safe_closed _ _ fun c hc => ?_) ?_
    · rw [List.mem_singleton.mp hc]
      exact belows_pairs _ _
    · rw [frzs_closed (by simp only [below]; exact belows_pairs _ _)]
      exact q
  (walk_at "lw_dd")
  simp only [z2__law_then]
  (walk_at "lw_dd")
  have es : (oddsR (1, 2 * h - 1)).map (pairD ∘ spotI a) = stripL a h := by unfold stripL; rw [List.map_map]
  refine fun _ => ?_
  rw [← es]
  refine go_for (pairD ∘ spotI a) (fun us env s => ∃ (dn : List Int) (v3 v4 v5 v6 : Option D), dn ++ us = oddsR (1, 2 * h - 1) ∧ s = st ++ [(dn.map (spotI (a ++ b))).map pairD] ∧ env = [some (.tup (stripL a h)), some (stripD b h), some (.obj st.length), v3, v4, v5, v6]) ?_ ?_ _ _ _ ⟨[], none, none, none, none, rfl, rfl, by rw [es]⟩
  · rintro x us _ _ nx2 ⟨dn, v3, v4, v5, v6, hd, rfl, rfl⟩ q2
    refine ⟨trivial, ?_⟩
    have mx : x ∈ oddsR (1, 2 * h - 1) := by rw [← hd]; simp
    have ix := (mem_odds (run0_ok h1) x).mp mx
    obtain ⟨x1, x2, x3⟩ := ix
    dsimp only at x1 x2
    have oz := sz_odd (flast_odd' a x x3)
    have z1 := sz_pos (flast_odd' a x x3)
    have z2 : sz (flast x a) ≤ 2 * h - 1 := below_round a hw x3 (.inl (by unfold sz; rw [if_neg (by omega)]; exact x2))
    have at2 := strip_at (ws := b) (h := h) h1 z1 z2 oz
    have dl : dn.length ≤ 1000 := by
      have e1 := congrArg List.length hd
      rw [List.length_append, oddsR_length] at e1
      unfold spotR at e1
      dsimp only at e1
      omega
    have ap := spot_app (a := a) (b := b) x3
    simp only [Function.comp, pairD]
    (walk_at "lw_dd")
    rw [show (spotI a x).1 = sz (flast x a) from rfl] at ap ⊢
    simp only [b1__law_then]
    (walk_at "lw_dd")
    have ixs : ∀ (k : DK) (s : Sto), k (pairD (spotI b (sz (flast x a)))) s → ixD (stripD b h) (.int (sz (flast x a) / 2)) s k := by
      intro k s hk
      show ixD (.lst (stripL b h)) _ _ _
      (walk_at "lw_dd")
      exact ⟨_, at2, hk⟩
    refine ⟨dv2, ixs _ _ ?_⟩
    simp only [pairD]
    (walk_at "lw_dd")
    simp only [z4__law_then]
    (walk_at "lw_dd")
    (try simp only [BEq.rfl, ↓e_v0, ↓e_vs, ↓e_c, ↓e_op, ↓e_un, ↓e_test, ↓e_testK, ↓e_tru, ↓e_truL, ↓e_truT, ↓e_truB, ↓e_truI, ↓e_truN, ↓e_truS, ↓e_not, ↓e_or, ↓e_andv, ↓e_notv, ↓e_andK, ↓e_notK, ↓e_if, ↓e_nil, ↓e_cons, ↓e_tup, ↓e_lst, ↓e_new, ↓e_call, ↓e_callK, ↓e_drop, ↓e_ret, ↓e_pass, ↓e_ifS, ↓e_g0, ↓e_gs, ↓e_gnil, ↓e_gcons, ↓e_gtup, ↓e_asg, ↓e_par, ↓e_parK, ↓e_par3, ↓e_par3K, ↓e_no, ↓e_some, ↓e_someK, ↓e_cut, ↓e_b, ↓e_iter, ↓e_iterL, ↓e_iterT, ↓e_iterS, ↓e_rng1, ↓e_rng1K, ↓e_rng2, ↓e_rng2K, ↓e_rng3, ↓e_rng3K, ↓e_enum, ↓e_enumL, ↓e_enumT, ↓e_zip, ↓e_zipL, ↓e_zipT, ↓e_for, ↓e_lc, ↓e_forN, ↓e_forC, ↓e_lcN, ↓e_lcC, ↓e_srcN, ↓e_srcC, ↓e_meth, ↓e_isL, ↓e_sub, ↓e_aug, ↓e_augK, ↓e_isi, ↓e_yes, ↓e_addI, ↓e_addB, ↓e_addS, ↓e_addT, ↓e_addL, ↓e_subI, ↓e_mulI, ↓e_mulT, ↓e_mulL, ↓e_divI, ↓e_modI, ↓e_powI, ↓e_negI, ↓e_iadd, ↓e_cmpI, ↓e_eq, ↓e_ne, ↓e_isn, ↓e_isnn, ↓e_isb, ↓e_ixL, ↓e_ixKL, ↓e_ixT, ↓e_cutL, ↓e_cutKL, ↓e_cutT, ↓e_lenL, ↓e_lenKL, ↓e_lenT, ↓e_abs, ↓e_intI, ↓e_intB, ↓e_min2, ↓e_listNL, ↓e_listNT, ↓e_tupL, ↓e_tupT, ↓e_drI, ↓e_drB, ↓e_drS, ↓e_drN, ↓e_drL, ↓e_drT, ↓e_seq, ↓e_inFlat, ↓e_drK, ↓e_addBI, ↓e_subBI, ↓e_subIB, ↓e_drG, ↓e_dgetF, ↓e_cutS, ↓e_mulS, ↓e_iaddI, ↓e_pairs0, ↓e_pairs1, ↓e_dispN, ↓e_putN, e_kyI, e_kyS, Nat.reduceAdd, Nat.zero_add, List.length_cons, List.length_nil, List.length_map, Nat.reduceLeDiff, and_true, true_and, if_true, ite_true, decide_eq_true_eq, Bool.not_eq_true, Bool.false_eq_true, if_false, ite_false, ↓reduceIte, Int.reduceToNat, Int.reducePow, ne_eq, q_okI, q_okB, q_okN, q_okS, q_okL, q_okT, q_oks0, q_oks1, q_eqII, q_eqBB, q_eqSS, q_eqLL, q_eqTT, q_eqNN, q_eqNI, q_eqIN, q_eqs0, q_eqs1, Bool.true_and, Bool.and_true, beq_iff_eq, reduceCtorEq, wipeE, List.set_cons_zero, List.set_cons_succ, List.set_nil, Bool.not_true, Bool.not_false, List.getElem?_cons_zero, List.getElem?_cons_succ, e_isO (List.getElem?_concat_length ..), e_app (List.getElem?_concat_length ..), set_last])
    refine ⟨by omega, ?_⟩
    refine q2 _ _ ⟨dn ++ [x], _, _, _, _, by rw [List.append_assoc]; exact hd, ?_, rfl⟩
    rw [List.map_append, List.map_append, List.map_singleton, List.map_singleton, ap]
    rfl
  · rintro _ _ ⟨dn, v3, v4, v5, v6, hd, rfl, rfl⟩
    refine ⟨trivial, ?_⟩
    rw [List.append_nil] at hd
    subst hd
    exact fin v3 v4 v5 v6
def e1__law_firsts : DE :=
    (dCall sp__law_strip (dCons (dTup (dCons (dVar 2) dNil)) (dCons (dVar 0) dNil)))
def z11__law_firsts : DS :=
    (dDrop (dMeth mAppend (dVar 7) (dCons (dVar 10) dNil)))
def z9__law_firsts : DS :=
    (dIfS (dTest (dOp (inN true) (dVar 10) (dVar 4))) (dSeq (dAsg (dOp addD (dOp getN (dVar 4) (dVar 8)) (dTup (dCons (dOp addD (dVar 2) (dC (.int 1))) dNil))) (dgPutN (dVar 4) (dVar 10)))
    (z11__law_firsts)) dPass)
def b1__law_firsts : DS :=
    (dSeq (dAsg (dCall sp__law_then (dCons (dVar 8) (dCons (dVar 9) dNil))) (dgName 10))
    (z9__law_firsts))
def b2__law_firsts : DS :=
    (dFor (dEnum (dVar 1)) (dgTup 2 (dgCons (dgName 2) (dgCons (dgName 9) dgNil))) (b1__law_firsts))
def z14__law_firsts : DS :=
    (dAsg (dVar 7) (dgName 5))
def z12__law_firsts : DS :=
    (dSeq (dIfS (dTest (dOp (eqOp false) (dVar 7) (dLst dNil))) (dRet (dVar 4)) dPass)
    (z14__law_firsts))
def z6__law_firsts : DS :=
    (dSeq (dFor (dIter (dVar 5)) (dgName 8) (b2__law_firsts))
    (z12__law_firsts))
def b3__law_firsts : DS :=
    (dSeq (dAsg (dNew dNil) (dgName 7))
    (z6__law_firsts))
def z15__law_firsts : DS :=
    (dRet (dVar 4))
def z4__law_firsts : DS :=
    (dSeq (dFor (dRng1 (dC (.int 400))) (dgName 6) (b3__law_firsts))
    (z15__law_firsts))
def z3__law_firsts : DS :=
    (dSeq (dPar 4 5 (dCons (dDispN (((dVar 3), (dTup dNil)) :: [])) (dCons (dLst (dCons (dVar 3) dNil)) dNil)))
    (z4__law_firsts))
def z2__law_firsts : DS :=
    (dSeq (dAsg (dB bTuple (dCons (dCall sp__law_strip (dCons (dTup dNil) (dCons (dVar 0) dNil))) dNil)) (dgName 3))
    (z3__law_firsts))
def t__law_firsts : DS :=
    (dSeq (dAsg (dLc (dRng2 (dC (.int 1)) (dOp addD (dVar 0) (dC (.int 1)))) (dgName 2) dYes (e1__law_firsts) [2]) (dgName 1))
    (z2__law_firsts))
theorem st__law_firsts (a0 : D) : startD N__law_firsts [a0] = [some a0, none, none, none, none, none, none, none, none, none, none] := rfl
def tuI (w : Wo) : D := .tup (w.map D.int)
theorem tuI_ok (n : Nat) (w : Wo) : okD (n + 1) (tuI w) = true := by
  show okDs n (w.map D.int) = true
  exact okDs_int n w
def keyF (h : Int) (w : Wo) : D := .tup (stripL w h)
theorem nk_key (h : Int) (w : Wo) : (nkT (keyF h w)).isSome = true := by
  unfold keyF
  rw [stp_strip, nkT_strip]
  rfl
theorem key_eq {h : Int} {v w : Wo} : nkT (keyF h v) = nkT (keyF h w) ↔ stp h v = stp h w := by
  unfold keyF
  rw [stp_strip, stp_strip]
  exact nkT_eq
/-- the dict of first words -/
def firR (h : Int) (q : List Wo) : List D := q.flatMap fun v => [keyF h v, tuI v]
theorem firR_cons (h : Int) (v : Wo) (q : List Wo) : firR h (v :: q) = keyF h v :: tuI v :: firR h q := rfl
theorem firR_len (h : Int) : ∀ q : List Wo, (firR h q).length = 2 * q.length
  | [] => rfl
  | v :: q => by
    rw [firR_cons]
    simp only [List.length_cons, firR_len h q]
    omega
theorem firR_some (h : Int) (w : Wo) : ∀ q : List Wo, (valN (firR h q) (keyF h w)).isSome = hasQ h q w
  | [] => rfl
  | v :: q => by
    have ih := firR_some h w q
    rw [firR_cons]
    unfold valN
    unfold hasQ at ih ⊢
    rw [List.any_cons]
    by_cases e : stp h v = stp h w
    · rw [if_pos (key_eq.mpr e), decide_eq_true e]
      rfl
    · rw [if_neg (fun z => e (key_eq.mp z)), decide_eq_false e, Bool.false_or]
      exact ih
theorem firR_val {h : Int} {v w : Wo} : ∀ {q : List Wo}, (q.map (stp h)).Nodup → v ∈ q → stp h v = stp h w → valN (firR h q) (keyF h w) = some (tuI v)
  | [], _, m, _ => by cases m
  | u :: q, nd, m, e => by
    rw [List.map_cons, List.nodup_cons] at nd
    rw [firR_cons]
    unfold valN
    rcases List.mem_cons.mp m with z | z
    · rw [z] at e ⊢
      rw [if_pos (key_eq.mpr e)]
    · have ne : stp h u ≠ stp h w := fun y => nd.1 (by rw [y, ← e]; exact List.mem_map_of_mem z)
      rw [if_neg (fun y => ne (key_eq.mp y))]
      exact firR_val nd.2 z e
theorem firR_put (h : Int) (w : Wo) : ∀ q : List Wo, hasQ h q w = false → putN (firR h q) (keyF h w) (tuI w) = firR h (q ++ [w])
  | [], _ => rfl
  | v :: q, hq => by
    unfold hasQ at hq
    rw [List.any_cons, Bool.or_eq_false_iff] at hq
    have e := of_decide_eq_false hq.1
    rw [List.cons_append, firR_cons, firR_cons]
    unfold putN
    rw [if_neg (fun z => e (key_eq.mp z)), firR_put h w q hq.2]
theorem firR_vals (h : Int) : ∀ q : List Wo, valsN (firR h q) = q.map tuI
  | [] => rfl
  | v :: q => by rw [firR_cons]; simp only [valsN, List.map_cons, firR_vals h q]
theorem enum_rng (F : Nat → D) : ∀ (m n : Nat), enumD n ((List.range' n m).map F) = (List.range' n m).map fun k => .tup [.int (k : Nat), F k]
  | 0, _ => rfl
  | m + 1, n => by
    rw [List.range'_succ, List.map_cons, List.map_cons]
    show _ :: enumD (n + 1) _ = _
    rw [enum_rng F m (n + 1)]
theorem enum_gs (h : Int) (f : Int → D) : enumD 0 ((gsQ h).map f) = (gsQ h).map fun g => .tup [.int (g - 1), f g] := by
  unfold gsQ
  rw [List.map_map, List.map_map, List.range_eq_range', enum_rng]
  refine List.map_congr_left fun k _ => ?_
  simp only [Function.comp]
  rw [show (1 : Int) + (k : Nat) - 1 = (k : Nat) by omega]
/-! the store: the dict, the older lists, the fresh one -/
def FS (st : Sto) (x : List D) (mid : Sto) (y : List D) : Sto := st ++ x :: (mid ++ [y])
theorem fs_get0 {st mid : Sto} {x y : List D} : (FS st x mid y)[st.length]? = some x := by simp [FS]
theorem fs_set0 {st mid : Sto} {x y z : List D} : (FS st x mid y).set st.length z = FS st z mid y := by simp [FS]
theorem fs_get1 {st mid : Sto} {x y : List D} : (FS st x mid y)[st.length + 1 + mid.length]? = some y := by
  unfold FS
  rw [List.getElem?_append_right (by omega), show st.length + 1 + mid.length - st.length = mid.length + 1 by omega, List.getElem?_cons_succ, List.getElem?_concat_length]
theorem fs_set1 {st mid : Sto} {x y z : List D} : (FS st x mid y).set (st.length + 1 + mid.length) z = FS st x mid z := by
  unfold FS
  rw [List.set_append_right _ _ (by omega), show st.length + 1 + mid.length - st.length = mid.length + 1 by omega, List.set_cons_succ, List.set_append_right _ _ (Nat.le_refl _), Nat.sub_self]
  rfl
theorem fs_len {st mid : Sto} {x : List D} : (st ++ x :: mid).length = st.length + 1 + mid.length := by
  rw [List.length_append, List.length_cons]
  omega
theorem fs_new {st mid : Sto} {x y : List D} : (st ++ x :: mid) ++ [y] = FS st x mid y := by simp [FS]
/-- all words of so many grains are there -/
def Cov (h : Int) (t : Nat) (q : List Wo) : Prop := ∀ W, Fine h W → W.length ≤ t → ∃ v ∈ q, stp h v = stp h W
theorem cov0 {h : Int} : Cov h 0 (bfsQ h 0) := fun W _ l => ⟨[], List.mem_cons_self, by rw [List.eq_nil_of_length_eq_zero (Nat.le_zero.mp l)]⟩
theorem cov_next {h : Int} (h1 : 1 ≤ h) {t n : Nat} (hn : n ≤ (bfsQ h n).length) (c : Cov h t (bfsQ h n)) : Cov h (t + 1) (bfsQ h (bfsQ h n).length) := by
  intro W f l
  have pre : bfsQ h n <+: bfsQ h (bfsQ h n).length := by
    have := bfs_pre h1 n ((bfsQ h n).length - n)
    rwa [show n + ((bfsQ h n).length - n) = (bfsQ h n).length by omega] at this
  by_cases z : W.length ≤ t
  · obtain ⟨v, hv, e⟩ := c W f z
    exact ⟨v, pre.subset hv, e⟩
  · have ne : W ≠ [] := fun z' => z (by rw [z']; exact Nat.zero_le _)
    obtain ⟨V, g, rfl⟩ : ∃ V g, W = V ++ [g] := ⟨W.dropLast, W.getLast ne, (List.dropLast_concat_getLast ne).symm⟩
    have lV : V.length ≤ t := by rw [List.length_append, List.length_singleton] at l; omega
    obtain ⟨v, hv, ev⟩ := c V (fun x hx => f x (List.mem_append_left _ hx)) lV
    obtain ⟨i, hi, ei⟩ := List.mem_iff_getElem.mp hv
    have g12 := f g (List.mem_append_right _ List.mem_cons_self)
    have hi2 : (bfsQ h (bfsQ h n).length)[i]? = some v := by
      rw [pre_get pre hi, List.getElem?_eq_getElem hi, ei]
    obtain ⟨u, hu, eu, _⟩ := (bfs_qi h1 (bfsQ h n).length).dn i v hi hi2 g g12.1 g12.2
    exact ⟨u, hu, by rw [eu]; exact stp_app h1 [g] ev⟩
theorem cov_all {h : Int} (h1 : 1 ≤ h) {n : Nat} (hn : (bfsQ h n).length ≤ n) (t : Nat) : Cov h t (bfsQ h n) := by
  intro W f _
  obtain ⟨m, v, hv, ev, _⟩ := bfs_found h1 _ W rfl f
  refine ⟨v, ?_, ev⟩
  have a := (bfs_pre h1 m n).subset hv
  rwa [Nat.add_comm, bfs_stop hn m] at a
theorem drop_nil_len {q : List Wo} {n : Nat} (h : q.drop n = []) : q.length ≤ n := by
  have := congrArg List.length h
  rw [List.length_drop, List.length_nil] at this
  omega
theorem keysF_ok (h : Int) : ∀ q : List Wo, okDs 59 (q.map (keyF h)) = true
  | [] => rfl
  | v :: q => by
    have e : okD 59 (keyF h v) = true := okD_strip 57 v h
    simp only [List.map_cons, okDs, e, keysF_ok h q, Bool.and_self]
theorem fir_level {h : Int} (h1 : 1 ≤ h) (h5 : h ≤ 5) {st mid : Sto} {src : List (Nat × List D)} {n : Nat} (hn : n ≤ (bfsQ h n).length) (so : ∀ x y, SrcOk src (FS st x mid y)) {nx : DL.Env → Sto → Prop} {rt : DK} {v2 v6 v8 v9 v10 : Option D} {la : D}
    (k : ∀ v2 v8 v9 v10 : Option D, nx [some (.int h), some (.lst ((gsQ h).map fun g => stripD [g] h)), v2, some (keyF h []), some (.dic .n st.length), some (la), v6, some (.obj (st.length + 1 + mid.length)), v8, v9, v10]
      (FS st (firR h (bfsQ h (bfsQ h n).length)) mid (((bfsQ h (bfsQ h n).length).drop (bfsQ h n).length).map (keyF h)))) :
    goFor src (dgName 8) b2__law_firsts ⟨nx, rt⟩ (((bfsQ h n).drop n).map (keyF h)) [some (.int h), some (.lst ((gsQ h).map fun g => stripD [g] h)), v2, some (keyF h []), some (.dic .n st.length), some (la), v6, some (.obj (st.length + 1 + mid.length)), v8, v9, v10] (FS st (firR h (bfsQ h n)) mid []) := by
  refine go_for (keyF h) (fun r env s => ∃ (dn : List Wo) (v2 v8 v9 v10 : Option D), dn ++ r = (bfsQ h n).drop n ∧
    env = [some (.int h), some (.lst ((gsQ h).map fun g => stripD [g] h)), v2, some (keyF h []), some (.dic .n st.length), some (la), v6, some (.obj (st.length + 1 + mid.length)), v8, v9, v10] ∧
    s = FS st (firR h (bfsQ h (n + dn.length))) mid (((bfsQ h (n + dn.length)).drop (bfsQ h n).length).map (keyF h))) ?_ ?_ _ _ _ ⟨[], v2, v8, v9, v10, rfl, rfl, by rw [List.length_nil, Nat.add_zero, List.drop_length]; rfl⟩
  · rintro a r env s nx2 ⟨dn, v2, v8, v9, v10, hd, rfl, rfl⟩ q2
    have pre := bfs_pre h1 n dn.length
    have e0 : (bfsQ h n)[n + dn.length]? = some a := by
      rw [← List.getElem?_drop, ← hd, List.getElem?_append_right (Nat.le_refl _), Nat.sub_self]
      rfl
    have ea : (bfsQ h (n + dn.length))[n + dn.length]? = some a := by rw [pre_get pre (List.getElem?_eq_some_iff.mp e0).1, e0]
    have I := bfs_qi h1 (n + dn.length)
    have fa := I.wt a (List.mem_of_getElem? ea)
    have lq := pre.length_le
    have q3 := q2 ([some (.int h), some (.lst ((gsQ h).map fun g => stripD [g] h)), v2, some (keyF h []), some (.dic .n st.length), some (la), v6, some (.obj (st.length + 1 + mid.length)), v8, v9, v10])
    clear q3
    have nxt : ∀ (v2 v9 v10 : Option D), nx2 [some (.int h), some (.lst ((gsQ h).map fun g => stripD [g] h)), v2, some (keyF h []), some (.dic .n st.length), some (la), v6, some (.obj (st.length + 1 + mid.length)), some (keyF h a), v9, v10]
        (FS st (firR h (bfsQ h (n + dn.length + 1))) mid (((bfsQ h (n + dn.length + 1)).drop (bfsQ h n).length).map (keyF h))) := fun v2 v9 v10 =>
      q2 _ _ ⟨dn ++ [a], v2, _, v9, v10, by rw [List.append_assoc]; exact hd, rfl, by rw [List.length_append, List.length_singleton, Nat.add_assoc]⟩
    clear q2 hd e0
    generalize n + dn.length = m at *
    generalize (bfsQ h n).length = L0 at *
    refine ⟨so _ _, ?_⟩
    (walk_at "lw_dd0")
    simp only [b2__law_firsts]
    (walk_at "lw_dd0")
    refine fun _ => ?_
    rw [enum_gs]
    refine go_for (fun g => .tup [.int (g - 1), stripD [g] h]) (fun r env s => ∃ (dn : List Int) (q : List Wo) (v2 v9 v10 : Option D), dn ++ r = gsQ h ∧ MidQ h a (bfsQ h m) q dn ∧ q = procQ h a (bfsQ h m) dn ∧
      env = [some (.int h), some (.lst ((gsQ h).map fun g => stripD [g] h)), v2, some (keyF h []), some (.dic .n st.length), some (la), v6, some (.obj (st.length + 1 + mid.length)), some (keyF h a), v9, v10] ∧
      s = FS st (firR h q) mid ((q.drop L0).map (keyF h))) ?_ ?_ _ _ _ ⟨[], bfsQ h m, v2, v9, v10, rfl, I.mid ea, rfl, rfl, rfl⟩
    · rintro g r env s nx ⟨dn, q, v2, v9, v10, hd, M, hq, rfl, rfl⟩ q2
      have gm : g ∈ gsQ h := by rw [← hd]; simp
      obtain ⟨g1', g2'⟩ := (gsQ_mem h1).mp gm
      have fewq := bfs_few h1 h5 M.nd M.wt
      have M2 := M.step fa g1' g2'
      have lq2 := M.pre.length_le
      refine ⟨trivial, ?_⟩
      (walk_at "lw_dd0")
      simp only [b1__law_firsts]
      (walk_at "lw_dd0")
      refine ⟨a, [g], h, rfl, h1, by omega, fa, ?_⟩
      simp only [z9__law_firsts]
      (walk_at "lw_dd0")
      rw [show D.tup (stripL (a ++ [g]) h) = keyF h (a ++ [g]) from rfl, e_inN fs_get0, firR_some]
      refine ⟨by rw [firR_len]; omega, nk_key _ _, ?_⟩
      (walk_at "lw_dd0")
      cases c : hasQ h q (a ++ [g]) with
      | true =>
        refine q2 _ _ ⟨dn ++ [g], q, _, _, _, by rw [List.append_assoc]; exact hd, ?_, ?_, rfl, rfl⟩
        · have : addQ h q (a ++ [g]) = q := by unfold addQ; rw [if_pos c]
          rw [this] at M2
          exact M2
        · unfold procQ at hq ⊢
          rw [List.foldl_append, ← hq]
          show q = addQ h q (a ++ [g])
          unfold addQ
          rw [if_pos c]
      | false =>
        refine itQ_yes (by decide) ?_
        rw [e_getN fs_get0]
        refine ⟨by rw [firR_len]; omega, nk_key _ _, tuI a, firR_val M.nd (M.pre.subset (List.mem_of_getElem? ea)) rfl, ?_⟩
        simp only [tuI]
        (walk_at "lw_dd0")
        have la := bfs_short m a (List.mem_of_getElem? ea)
        have lm := (List.getElem?_eq_some_iff.mp ea).1
        have few := bfs_few h1 h5 I.nd I.wt
        refine ⟨by omega, ?_⟩
        rw [e_putNs fs_get0, show D.tup (a.map D.int ++ [D.int (g - 1 + 1)]) = tuI (a ++ [g]) by rw [show g - 1 + 1 = g by omega]; simp [tuI], firR_put h _ q c, fs_set0]
        refine ⟨by rw [firR_len]; omega, nk_key _ _, by rw [firR_len]; omega, ?_⟩
        simp only [z11__law_firsts]
        (walk_at "lw_dd0")
        rw [e_isO fs_get1, e_app fs_get1, fs_set1]
        (walk_at "lw_dd0")
        have ad : addQ h q (a ++ [g]) = q ++ [a ++ [g]] := by unfold addQ; rw [if_neg (by rw [c]; decide)]
        rw [ad] at M2
        refine ⟨by rw [List.length_drop]; omega, ?_⟩
        refine q2 _ _ ⟨dn ++ [g], q ++ [a ++ [g]], _, _, _, by rw [List.append_assoc]; exact hd, M2, ?_, rfl, ?_⟩
        · unfold procQ at hq ⊢
          rw [List.foldl_append, ← hq]
          exact ad.symm
        · rw [List.drop_append_of_le_length (by omega), List.map_append, List.map_singleton]
    · rintro env s ⟨dn, q, v2, v9, v10, hd, M, hq, rfl, rfl⟩
      rw [List.append_nil] at hd
      subst hd hq
      rw [← bfs_some ea]
      exact ⟨trivial, nxt _ _ _⟩
  · rintro env s ⟨dn, v2, v8, v9, v10, hd, rfl, rfl⟩
    rw [List.append_nil] at hd
    have ln : n + dn.length = (bfsQ h n).length := by
      rw [hd, List.length_drop]
      omega
    rw [ln]
    exact ⟨so _ _, k _ _ _ _⟩
/-- the law's dict -/
def Full (h : Int) (q : List Wo) : Prop := (∃ n, q = bfsQ h n) ∧ Cov h 12 q
def sp__law_firsts : SpD := fun ds st kk => ∃ (h : Int), ds = [.int h] ∧ 1 ≤ h ∧ h ≤ 5 ∧ ∀ (q : List Wo) (t : Sto), Full h q → kk (.dic .n st.length) (st ++ firR h q :: t)
theorem len__law_firsts (ds : List D) (st : Sto) (kk : DK) (h : sp__law_firsts ds st kk) : ds.length = 1 := by
  obtain ⟨_, rfl, _⟩ := h
  rfl
theorem p__law_firsts : BodyD false N__law_firsts sp__law_firsts t__law_firsts := by
  rintro ds st kk ⟨h, rfl, h1, h5, hk⟩
  rw [st__law_firsts]
  simp only [t__law_firsts]
  (walk_at "lw_dd0")
  refine ⟨⟨by omega, by omega, by omega, by omega⟩, by rw [rangeD_length]; omega, ?_⟩
  rw [gs_rng h1]
  refine lc_map (src := []) D.int (fun g => stripD [g] h) (gsQ h) st trivial [] (fun g hg kd hkd => ?_) ?_
  · (walk_at "lw_dd0")
    simp only [e1__law_firsts]
    (walk_at "lw_dd0")
    exact ⟨[g], h, rfl, h1, by omega, hkd⟩
  rw [List.nil_append]
  refine ⟨Nat.zero_le _, [], h, rfl, h1, by omega, ?_⟩
  have tup : ∀ (w : Wo) (s : Sto) (k : DK), k (keyF h w) s → bTuple [stripD w h] s k := fun _ _ _ hk => hk
  (walk_at "lw_dd0")
  refine tup _ _ _ ?_
  (walk_at "lw_dd0")
  refine ⟨Nat.zero_le _, ?_⟩
  (walk_at "lw_dd0")
  refine ⟨app_get, ⟨nk_key _ _, trivial⟩, ⟨by decide, by decide⟩, ?_⟩
  rw [show mergeN [] [(keyF h [], D.tup [])] = firR h [[]] from rfl, app_set]
  refine go_range 400 (fun t env s => ∃ (n : Nat) (mid : Sto) (la : D) (v2 v6 v7 v8 v9 v10 : Option D), n ≤ (bfsQ h n).length ∧ Cov h t (bfsQ h n) ∧
    env = [some (.int h), some (.lst ((gsQ h).map fun g => stripD [g] h)), v2, some (keyF h []), some (.dic .n st.length), some (la), v6, v7, v8, v9, v10] ∧
    s = st ++ firR h (bfsQ h n) :: mid ∧ (la = .lst (((bfsQ h n).drop n).map (keyF h)) ∨ ∃ j, la = .obj (st.length + 1 + j) ∧ mid[j]? = some (((bfsQ h n).drop n).map (keyF h)))) ?_ ?_ _ _ ⟨0, [], _, none, none, none, none, none, none, Nat.zero_le _, cov0, rfl, rfl, .inl rfl⟩
  · rintro t env s nx ht ⟨n, mid, la, v2, v6, v7, v8, v9, v10, hn, cv, rfl, rfl, hla⟩ q
    refine ⟨trivial, ?_⟩
    (walk_at "lw_dd0")
    simp only [b3__law_firsts]
    (walk_at "lw_dd0")
    rw [fs_new, fs_len]
    simp only [z6__law_firsts]
    (walk_at "lw_dd0")
    have it : ∀ (kk : DIk), (∀ src, (∀ x y, SrcOk src (FS st x mid y)) → kk (((bfsQ h n).drop n).map (keyF h)) src (FS st (firR h (bfsQ h n)) mid [])) → iterK kk la (FS st (firR h (bfsQ h n)) mid []) := fun kk hk => by
      rcases hla with rfl | ⟨j, rfl, hj⟩
      · exact fun _ => hk [] fun _ _ => trivial
      · have g : ∀ x y, (FS st x mid y)[st.length + 1 + j]? = some (((bfsQ h n).drop n).map (keyF h)) := fun x y => by
          unfold FS
          have lj := (List.getElem?_eq_some_iff.mp hj).1
          rw [List.getElem?_append_right (by omega), show st.length + 1 + j - st.length = j + 1 by omega, List.getElem?_cons_succ, List.getElem?_append_left lj, hj]
        rw [e_iterO (g _ _)]
        exact fun _ => hk _ fun x y => ⟨g x y, trivial⟩
    refine it _ fun src so => ?_
    refine fir_level h1 h5 hn so fun v2 v8 v9 v10 => ?_
    have cv2 := cov_next h1 hn cv
    have pre : bfsQ h n <+: bfsQ h (bfsQ h n).length := by
      have := bfs_pre h1 n ((bfsQ h n).length - n)
      rwa [show n + ((bfsQ h n).length - n) = (bfsQ h n).length by omega] at this
    have hn2 := pre.length_le
    simp only [z12__law_firsts]
    (walk_at "lw_dd0")
    have dr : ∀ x y : List D, deref (FS st x mid y) (D.obj (st.length + 1 + mid.length)) = .lst y := fun x y => by simp only [deref, fs_get1]
    rw [dr]
    refine ⟨keysF_ok h _, ?_⟩
    cases z : (bfsQ h (bfsQ h n).length).drop (bfsQ h n).length with
    | nil =>
      refine itQ_yes rfl ?_
      exact hk _ _ ⟨⟨_, rfl⟩, cov_all h1 (drop_nil_len z) 12⟩
    | cons v r =>
      refine itQ_go (by intro z; cases z) ?_
      simp only [z14__law_firsts]
      (walk_at "lw_dd0")
      rw [← z]
      exact q _ _ ⟨(bfsQ h n).length, mid ++ [((bfsQ h (bfsQ h n).length).drop (bfsQ h n).length).map (keyF h)], _, v2, _, _, v8, v9, v10, hn2, cv2, rfl, by simp [FS], .inr ⟨mid.length, rfl, List.getElem?_concat_length ..⟩⟩
  · rintro env s ⟨n, mid, la, v2, v6, v7, v8, v9, v10, hn, cv, rfl, rfl, hla⟩
    refine ⟨trivial, ?_⟩
    (walk_at "lw_dd0")
    exact hk _ _ ⟨⟨n, rfl⟩, fun W f l => cv W f (by omega)⟩
def e1_law : DE :=
    (dVar 7)
def z10_law : DS :=
    (dIfS (dNot (dTru (dCall (sp__law_same 5) (dCons (dLst (dCons (dCall sp_least_word (dCons (dVar 7) (dCons (dVar 4) dNil))) (dCons (dCallK 0 2 [1, 0] sp_least_word dNil (dCons (dVar 4) (dCons (dVar 7) dNil))) dNil))) (dCons (dLst (dCons (dVar 9) (dCons (dVar 9) dNil))) dNil))))) (dRet (dC (.bl false))) dPass)
def z9_law : DS :=
    (dSeq (dAsg (dOp getN (dVar 5) (dB bTuple (dCons (dCall sp__law_strip (dCons (dVar 7) (dCons (dVar 4) dNil))) dNil))) (dgName 9))
    (z10_law))
def b1_law : DS :=
    (dSeq (dAsg (dIf (dTest (dOp (eqOp false) (dVar 8) (dC (.int 3)))) (dVar 6) (dCut cutOp (dCall sp__law_word (dCons (dVar 3) (dCons (dC (.int 12)) (dCons (dVar 4) dNil)))) dNo (dSome (dCall sp__law_draw (dCons (dVar 3) (dCons (dC (.int 13)) dNil)))))) (dgName 7))
    (z9_law))
def z7_law : DS :=
    (dFor (dRng1 (dC (.int 4))) (dgName 8) (b1_law))
def z6_law : DS :=
    (dSeq (dAsg (dOp ixD (dLockEN 5 (dLc (dWalkN valsN 5) (dgName 7) (dTest (dOp (cmpI fun i j => decide (i < j)) (dB bLen (dCons (dVar 7) dNil)) (dC (.int 13)))) (e1_law) [7])) (dUn negD (dC (.int 1)))) (dgName 6))
    (z7_law))
def z5_law : DS :=
    (dSeq (dAsg (dCall sp__law_firsts (dCons (dVar 4) dNil)) (dgName 5))
    (z6_law))
def z4_law : DS :=
    (dSeq (dAsg (dOp addD (dC (.int 1)) (dCall sp__law_draw (dCons (dVar 3) (dCons (dC (.int 5)) dNil)))) (dgName 4))
    (z5_law))
def b2_law : DS :=
    (dSeq (dAsg (dCall sp__law_tape (dCons (dVar 1) (dCons (dVar 2) dNil))) (dgName 3))
    (z4_law))
def z12_law : DS :=
    (dRet (dC (.bl true)))
def z2_law : DS :=
    (dSeq (dFor (dRng1 (dB bLen (dCons (dVar 1) dNil))) (dgName 2) (b2_law))
    (z12_law))
def t_law : DS :=
    (dSeq (dAsg (dIf (dTest (dOp (eqOp true) (dVar 0) (dLst dNil))) (dCall sp__law_folded (dCons (dVar 0) (dCons (dC (.int 3)) dNil))) (dLst (dCons (dC (.int 0)) dNil))) (dgName 1))
    (z2_law))
theorem st_law (a0 : D) : startD N_law [a0] = [some a0, none, none, none, none, none, none, none, none, none] := rfl
def sp_law : SpD := spLaw
theorem len_law (ds : List D) (st : Sto) (kk : DK) (h : spLaw ds st kk) : ds.length = 1 := by
  obtain ⟨ns, rfl, _⟩ := h
  rfl
theorem p_law : BodyD false N_law spLaw t_law := by
  rintro ds st kk ⟨ns, rfl, h1, h2, rfl, h⟩
  rw [st_law]
  simp only [t_law]
  (try simp only [BEq.rfl, ↓e_v0, ↓e_vs, ↓e_c, ↓e_op, ↓e_un, ↓e_test, ↓e_testK, ↓e_tru, ↓e_truL, ↓e_truT, ↓e_truB, ↓e_truI, ↓e_truN, ↓e_truS, ↓e_not, ↓e_or, ↓e_andv, ↓e_notv, ↓e_andK, ↓e_notK, ↓e_if, ↓e_nil, ↓e_cons, ↓e_tup, ↓e_lst, ↓e_new, ↓e_call, ↓e_callK, ↓e_drop, ↓e_ret, ↓e_pass, ↓e_ifS, ↓e_g0, ↓e_gs, ↓e_gnil, ↓e_gcons, ↓e_gtup, ↓e_asg, ↓e_par, ↓e_parK, ↓e_par3, ↓e_par3K, ↓e_no, ↓e_some, ↓e_someK, ↓e_cut, ↓e_b, ↓e_iter, ↓e_iterL, ↓e_iterT, ↓e_iterS, ↓e_rng1, ↓e_rng1K, ↓e_rng2, ↓e_rng2K, ↓e_rng3, ↓e_rng3K, ↓e_enum, ↓e_enumL, ↓e_enumT, ↓e_zip, ↓e_zipL, ↓e_zipT, ↓e_for, ↓e_lc, ↓e_forN, ↓e_forC, ↓e_lcN, ↓e_lcC, ↓e_srcN, ↓e_srcC, ↓e_meth, ↓e_isL, ↓e_sub, ↓e_aug, ↓e_augK, ↓e_isi, ↓e_yes, ↓e_addI, ↓e_addB, ↓e_addS, ↓e_addT, ↓e_addL, ↓e_subI, ↓e_mulI, ↓e_mulT, ↓e_mulL, ↓e_divI, ↓e_modI, ↓e_powI, ↓e_negI, ↓e_iadd, ↓e_cmpI, ↓e_eq, ↓e_ne, ↓e_isn, ↓e_isnn, ↓e_isb, ↓e_ixL, ↓e_ixKL, ↓e_ixT, ↓e_cutL, ↓e_cutKL, ↓e_cutT, ↓e_lenL, ↓e_lenKL, ↓e_lenT, ↓e_abs, ↓e_intI, ↓e_intB, ↓e_min2, ↓e_listNL, ↓e_listNT, ↓e_tupL, ↓e_tupT, ↓e_drI, ↓e_drB, ↓e_drS, ↓e_drN, ↓e_drL, ↓e_drT, ↓e_seq, ↓e_inFlat, ↓e_drK, ↓e_addBI, ↓e_subBI, ↓e_subIB, ↓e_drG, ↓e_dgetF, ↓e_cutS, ↓e_mulS, ↓e_iaddI, ↓e_pairs0, ↓e_pairs1, ↓e_dispN, ↓e_putN, e_kyI, e_kyS, Nat.reduceAdd, Nat.zero_add, List.length_cons, List.length_nil, List.length_map, Nat.reduceLeDiff, and_true, true_and, if_true, ite_true, decide_eq_true_eq, Bool.not_eq_true, Bool.false_eq_true, if_false, ite_false, ↓reduceIte, Int.reduceToNat, Int.reducePow, ne_eq, q_okI, q_okB, q_okN, q_okS, q_okL, q_okT, q_oks0, q_oks1, q_eqII, q_eqBB, q_eqSS, q_eqLL, q_eqTT, q_eqNN, q_eqNI, q_eqIN, q_eqs0, q_eqs1, Bool.true_and, Bool.and_true, beq_iff_eq, reduceCtorEq, wipeE, List.set_cons_zero, List.set_cons_succ, List.set_nil, Bool.not_true, Bool.not_false, List.getElem?_cons_zero, List.getElem?_cons_succ, okDs_int])
  rw [eqDs_nil]
  have fin : ∀ cs : List Int, cs.length ≤ 3 → z2_law ⟨fun _ st' => kk .non st', fun d st' => kk d st'⟩ [some (.klst (ns.map D.int)), some (.lst (cs.map D.int)), none, none, none, none, none, none, none, none] [] := by
    intro cs hc
    simp only [z2_law]
    (walk_at "lw_dd0")
    refine ⟨by (first | exact mulc _ _ (by decide) (by decide) | exact mulr _ _ (by decide) (by decide) | exact ⟨by decide, by decide, by decide⟩ | exact ⟨by decide, by decide⟩ | exact mulb _ _ | exact ⟨by omega, by omega⟩ | exact mulc _ _ (by omega) (by omega) | exact mulr _ _ (by omega) (by omega) | exact div_small (by omega) (by omega) | exact ⟨by omega, by omega, by omega⟩ | omega | decide), ?_⟩
    rw [natOf_range]
    refine go_for (fun j : Nat => D.int (j : Nat)) (fun r env s => (∀ j ∈ r, j < 1000) ∧ ∃ (v2 v3 v4 v5 v6 v7 v8 v9 : Option D), env = [some (.klst (ns.map D.int)), some (.lst (cs.map D.int)), v2, v3, v4, v5, v6, v7, v8, v9]) ?_ ?_ _ _ _ ⟨fun j hj => by have := List.mem_range.mp hj; omega, _, _, _, _, _, _, _, _, rfl⟩
    · rintro j r _ sx nx ⟨hr, v2, v3, v4, v5, v6, v7, v8, v9, rfl⟩ q
      refine ⟨trivial, ?_⟩
      (walk_at "lw_dd")
      simp only [b2_law]
      (walk_at "lw_dd")
      refine ⟨cs, j, rfl, by have := hr j List.mem_cons_self; omega, fun xs hx => ?_⟩
      simp only [z4_law]
      (walk_at "lw_dd0")
      have t0 : Tp sx.length 0 (sx ++ [xs]) := ⟨xs, app_get, hx⟩
      refine ⟨_, 0, 5, rfl, t0, by decide, by (first | exact mulc _ _ (by decide) (by decide) | exact mulr _ _ (by decide) (by decide) | exact ⟨by decide, by decide, by decide⟩ | exact ⟨by decide, by decide⟩ | exact mulb _ _ | exact ⟨by omega, by omega⟩ | exact mulc _ _ (by omega) (by omega) | exact mulr _ _ (by omega) (by omega) | exact div_small (by omega) (by omega) | exact ⟨by omega, by omega, by omega⟩ | omega | decide), fun y x1 y0 y1 t1 => ?_⟩
      (walk_at "lw_dd0")
      simp only [z5_law]
      (walk_at "lw_dd0")
      refine ⟨1 + y, rfl, by omega, by omega, fun q0 t hq => ?_⟩
      simp only [z6_law]
      (walk_at "lw_dd0")
      generalize hst2 : (sx ++ [xs]).set sx.length x1 = st2 at t1 ⊢
      obtain ⟨⟨m0, hm0⟩, cv⟩ := hq
      have hh1 : (1 : Int) ≤ 1 + y := by omega
      have hh5 : 1 + y ≤ 5 := by omega
      have I := bfs_qi hh1 m0
      rw [← hm0] at I
      have few := bfs_few hh1 (by omega) I.nd I.wt
      have gt : ∀ x, (st2 ++ x :: t)[st2.length]? = some x := fun x => by simp
      have ev : (firR (1 + y) q0).length % 2 = 0 := by rw [firR_len]; omega
      have se : ∀ x z : List D, (st2 ++ x :: t).set st2.length z = st2 ++ z :: t := fun x z => by simp
      refine lockAtN_of rfl (gt _) ev ?_
      rw [se]
      refine dWalkN_of rfl (gt _) ev ?_
      rw [firR_vals]
      refine ⟨by rw [List.length_map]; omega, ?_⟩
      refine lc_filter (src := []) tuI tuI (fun w => decide (w.length < 13)) _ trivial q0 [] (fun w hw k1 k2 y1 y2 => ?_) ?_
      · (walk_at "lw_dd0")
        simp only [tuI] at y1 ⊢
        (walk_at "lw_dd0")
        by_cases c : w.length < 13
        · refine itQ_yes (by omega) ?_
          simp only [e1_law]
          (walk_at "lw_dd0")
          exact y1 (decide_eq_true c)
        · exact itQ_go (by omega) (y2 (decide_eq_false c))
      dsimp only
      rw [se, List.nil_append]
      have nil_in : ([] : Wo) ∈ q0.filter fun w => decide (w.length < 13) := by
        refine List.mem_filter.mpr ⟨?_, rfl⟩
        rw [hm0]
        exact (by have := bfs_pre hh1 0 m0; rw [Nat.zero_add] at this; exact this.subset List.mem_cons_self)
      obtain ⟨pre, L0, hL⟩ : ∃ pre L0, (q0.filter fun w => decide (w.length < 13)) = pre ++ [L0] := by
        have ne : (q0.filter fun w => decide (w.length < 13)) ≠ [] := List.ne_nil_of_mem nil_in
        exact ⟨_, _, (List.dropLast_concat_getLast ne).symm⟩
      have mL : L0 ∈ q0.filter fun w => decide (w.length < 13) := by rw [hL]; simp
      obtain ⟨mL1, mL2⟩ := List.mem_filter.mp mL
      have lL := of_decide_eq_true mL2
      rw [hL, List.map_append, List.map_singleton]
      (walk_at "lw_dd0")
      refine ⟨_, atI_last _ _, ?_⟩
      simp only [z7_law]
      (walk_at "lw_dd0")
      have t2 : Tp sx.length 1 (st2 ++ firR (1 + y) q0 :: t) := t1.app _
      have ne : sx.length ≠ st2.length := Nat.ne_of_lt t1.lt
      have gJ := gt (firR (1 + y) q0)
      generalize st2 ++ firR (1 + y) q0 :: t = s3 at t2 gJ ⊢
      generalize st2.length = J at ne gJ ⊢
      generalize sx.length = i at ne t2 ⊢
      generalize 1 + y = h at *
      refine ⟨⟨by decide, by decide⟩, ?_⟩
      refine go_range 4 (fun m env s => Tp i (1 + 4100 * m) s ∧ s[J]? = some (firR h q0) ∧ ∃ (v7 v8 v9 : Option D), env = [some (.klst (ns.map D.int)), some (.lst (cs.map D.int)), some (.int (j : Nat)), some (.obj i), some (.int h), some (.dic .n J), some (tuI L0), v7, v8, v9]) ?_ ?_ _ _ ⟨t2, gJ, _, _, _, rfl⟩
      · rintro m env s nx2 hm ⟨t3, g3, v7, v8, v9, rfl⟩ q2
        refine ⟨trivial, ?_⟩
        (walk_at "lw_dd0")
        simp only [b1_law]
        (walk_at "lw_dd0")
        have go : ∀ (row : Wo) (s' : Sto), Fine h row → row.length ≤ 12 → Tp i (1 + 4100 * (m + 1)) s' → s'[J]? = some (firR h q0) →
            z9_law ⟨nx2, fun d st' => kk d st'⟩ [some (.klst (ns.map D.int)), some (.lst (cs.map D.int)), some (.int (j : Nat)), some (.obj i), some (.int h), some (.dic .n J), some (tuI L0), some (tuI row), some (.int (m : Nat)), v9] s' := fun row s' f lr t4 g4 => by
          obtain ⟨v, hv, evw⟩ := cv row f lr
          have least : ∀ L, Least h row L → L = v := fun L hL => bfs_both hh1 hL.1.choose_spec (hm0 ▸ hv) (by rw [hL.2, evw])
          have lv : v.length ≤ 12 := by
            have l : Least h row v := ⟨⟨m0, hm0 ▸ hv⟩, evw⟩
            have := l.len hh1 f
            omega
          have tup : ∀ (w : Wo) (s : Sto) (k : DK), k (keyF h w) s → bTuple [stripD w h] s k := fun _ _ _ hk => hk
          simp only [z9_law]
          (walk_at "lw_dd0")
          refine ⟨row, h, rfl, hh1, by omega, ?_⟩
          refine tup _ _ _ ?_
          rw [e_getN g4]
          refine ⟨ev, nk_key _ _, tuI v, firR_val I.nd hv evw, ?_⟩
          simp only [z10_law]
          (walk_at "lw_dd0")
          refine ⟨row, h, rfl, hh1, by omega, f, fun L hL => ?_⟩
          rw [least L hL]
          refine ⟨row, h, rfl, hh1, by omega, f, fun L2 hL2 => ?_⟩
          rw [least L2 hL2]
          refine ⟨_, _, rfl, sm_two (sm_self _ 3 _ (tuI_ok 2 v)) (sm_self _ 3 _ (tuI_ok 2 v)), ?_⟩
          (walk_at "lw_dd0")
          exact q2 _ _ ⟨t4, g4, _, _, _, rfl⟩
        by_cases z : m = 3
        · refine itQ_yes (by omega) ?_
          exact go L0 s (I.wt L0 mL1) (by omega) (t3.mono (by omega)) g3
        · refine itQ_go (by omega) ?_
          refine ⟨i, _, 12, h, rfl, t3, by omega, by omega, by omega, hh1, by omega, fun w ys R t4 => ?_⟩
          refine ⟨i, _, 13, rfl, t4, by omega, by (first | exact mulc _ _ (by decide) (by decide) | exact mulr _ _ (by decide) (by decide) | exact ⟨by decide, by decide, by decide⟩ | exact ⟨by decide, by decide⟩ | exact mulb _ _ | exact ⟨by omega, by omega⟩ | exact mulc _ _ (by omega) (by omega) | exact mulr _ _ (by omega) (by omega) | exact div_small (by omega) (by omega) | exact ⟨by omega, by omega, by omega⟩ | omega | decide), fun c zs c0 c1 t5 => ?_⟩
          rw [List.set_set] at t5 ⊢
          obtain ⟨k, rfl⟩ := Int.eq_ofNat_of_zero_le c0
          (walk_at "lw_dd0")
          rw [cutD_map, cutD_to]
          have rl := R.len
          refine go (w.take k) _ (fun g hg => R.all g (List.mem_of_mem_take hg)) (by rw [List.length_take]; omega) (t5.mono (by omega)) ?_
          rw [List.getElem?_set_ne ne]
          exact g3
      · rintro env s ⟨t3, g3, v7, v8, v9, rfl⟩
        refine ⟨trivial, ?_⟩
        (walk_at "lw_dd0")
        exact q _ _ ⟨fun i hi => hr i (List.mem_cons_of_mem _ hi), _, _, _, _, _, _, _, _, rfl⟩
    · rintro _ sx ⟨hr, v2, v3, v4, v5, v6, v7, v8, v9, rfl⟩
      refine ⟨trivial, ?_⟩
      (walk_at "lw_dd0")
      exact h sx
  by_cases e : ns = []
  · rw [if_neg (by simp [e])]
    exact fin [0] (by decide)
  · rw [if_pos (by simp [e])]
    refine ⟨ns, 3, rfl, by decide, by decide, h1, fun cs hc => ?_⟩
    (walk_at "lw_dd")
    exact fin cs (by omega)
structure Fx (K : PySem.W.Frag) (mg : Str → Option Value) : Prop where
  g_LEFT : ∃ t, mg "LEFT" = some (.str "left" t)
  g_RIGHT : ∃ t, mg "RIGHT" = some (.str "right" t)
  b_abs : mg "abs" = none
  b_range : mg "range" = none
  b_tuple : mg "tuple" = none
  b_len : mg "len" = none
  b_int : mg "int" = none
  b_list : mg "list" = none
  b_enumerate : mg "enumerate" = none
  b_isinstance : mg "isinstance" = none
  b_all : mg "all" = none
  b_zip : mg "zip" = none
  b_str : mg "str" = none
  b_bool : mg "bool" = none
  b_min : mg "min" = none
theorem d_lighter {P : Program} {wo : World} {K : PySem.W.Frag} {mg : Str → Option Value} {base : Heap} {f : Addr} {cdv : Value} {A : Around} {outer : List PySem.Env} {s : Shared} {H : Hp} {E : XK} (T : Fx K mg)
    (hr : RoomG 0 (A.deeper (envOfC "lighter" (defScope s_lighter) s.heap.objs.size f cdv))) : PDSs (cxOf CX0 P wo K mg base N_lighter "lighter" (defScope s_lighter) f cdv A outer s H E).nox (defBody s_lighter) t_lighter :=
    (pdss_one (pds_ret (pd_ife (pd_tcmp dop_lt (pd_var 0) pd_int (nomark _)) (pd_gstr T.g_LEFT) (pd_gstr T.g_RIGHT))))
theorem ok_lighter {P : Program} {wo : World} {K : PySem.W.Frag} {mg : Str → Option Value} {base : Heap} {f : Addr} {fd : FuncData} (T : Fx K mg) (F : FnP K "lighter" s_lighter f fd) : FnG P wo K mg base CX0 1 f fd ["standing"] (spD K sp_lighter) :=
  fnD false F sc_lighter len_lighter (fun cdv A outer s H E hr => d_lighter T  hr) p_lighter
theorem d_laid_on {P : Program} {wo : World} {K : PySem.W.Frag} {mg : Str → Option Value} {base : Heap} {f : Addr} {cdv : Value} {A : Around} {outer : List PySem.Env} {s : Shared} {H : Hp} {E : XK} (T : Fx K mg)
    (hr : RoomG 0 (A.deeper (envOfC "laid_on" (defScope s_laid_on) s.heap.objs.size f cdv))) : PDSs (cxOf CX0 P wo K mg base N_laid_on "laid_on" (defScope s_laid_on) f cdv A outer s H E).nox (defBody s_laid_on) t_laid_on :=
    (pdss_one (pds_ret (pd_ife (pd_tcmp (dop_eq hr.units) (pd_var 1) (pd_gstr T.g_LEFT) (nomark _)) (pd_op dop_add (pd_var 0) (pd_op dop_mul pd_int (pd_var 2))) (pd_op dop_sub (pd_var 0) (pd_op dop_mul pd_int (pd_var 2))))))
theorem ok_laid_on {P : Program} {wo : World} {K : PySem.W.Frag} {mg : Str → Option Value} {base : Heap} {f : Addr} {fd : FuncData} (T : Fx K mg) (F : FnP K "laid_on" s_laid_on f fd) : FnG P wo K mg base CX0 1 f fd ["standing", "side", "weight"] (spD K sp_laid_on) :=
  fnD false F sc_laid_on len_laid_on (fun cdv A outer s H E hr => d_laid_on T  hr) p_laid_on
theorem d_fall {P : Program} {wo : World} {K : PySem.W.Frag} {mg : Str → Option Value} {base : Heap} {f : Addr} {cdv : Value} {A : Around} {outer : List PySem.Env} {s : Shared} {H : Hp} {E : XK} (T : Fx K mg) (c_lighter : Cal P wo K mg base 1 "lighter" ["standing"] sp_lighter) (c_laid_on : Cal P wo K mg base 1 "laid_on" ["standing", "side", "weight"] sp_laid_on)
    (hr : RoomG 1 (A.deeper (envOfC "fall" (defScope s_fall) s.heap.objs.size f cdv))) : PDSs (cxOf CX0 P wo K mg base N_fall "fall" (defScope s_fall) f cdv A outer s H E).nox (defBody s_fall) t_fall :=
    (pdss_cons (pds_set 2 sc_fall.nd (pd_callC c_lighter hr (pda_cons (pd_var 0) pda_nil)))
    (pdss_one (pds_ret (pd_tup (pda_cons (pd_var 2) (pda_cons (pd_callC c_laid_on hr (pda_cons (pd_var 0) (pda_cons (pd_var 2) (pda_cons (pd_var 1) pda_nil)))) pda_nil))))))
theorem ok_fall {P : Program} {wo : World} {K : PySem.W.Frag} {mg : Str → Option Value} {base : Heap} {f : Addr} {fd : FuncData} (T : Fx K mg) (F : FnP K "fall" s_fall f fd) (c_lighter : Cal P wo K mg base 1 "lighter" ["standing"] sp_lighter) (c_laid_on : Cal P wo K mg base 1 "laid_on" ["standing", "side", "weight"] sp_laid_on) : FnG P wo K mg base CX0 2 f fd ["standing", "weight"] (spD K sp_fall) :=
  fnD false F sc_fall len_fall (fun cdv A outer s H E hr => d_fall T c_lighter c_laid_on hr) p_fall
theorem d_falls {P : Program} {wo : World} {K : PySem.W.Frag} {mg : Str → Option Value} {base : Heap} {f : Addr} {cdv : Value} {A : Around} {outer : List PySem.Env} {s : Shared} {H : Hp} {E : XK} (T : Fx K mg) (c_fall : Cal P wo K mg base 2 "fall" ["standing", "weight"] sp_fall)
    (hr : RoomG 2 (A.deeper (envOfC "falls" (defScope s_falls) s.heap.objs.size f cdv))) : PDSs (cxOf CX0 P wo K mg base N_falls "falls" (defScope s_falls) f cdv A outer s H E).nox (defBody s_falls) t_falls :=
    (pdss_cons (pds_set 2 sc_falls.nd (pd_new pda_nil))
    (pdss_cons (pds_for PassesOwn.never rfl (pdi_any (pd_var 1)) (pdg_name 3 sc_falls.nd) (pdss_cons (pds_asg (pd_callC c_fall hr (pda_cons (pd_var 0) (pda_cons (pd_var 3) pda_nil))) (pdg_tup rfl (pdgs_cons (pdg_name 4 sc_falls.nd) (pdgs_cons (pdg_name 0 sc_falls.nd) pdgs_nil))))
    (pdss_one (pds_expr (pd_bm PySem.F.slot_list_append PySem.F.type_list_append md_append (pd_var 2) (pda_cons (pd_var 4) pda_nil))))))
    (pdss_one (pds_ret (pd_tup (pda_cons (pd_var 2) (pda_cons (pd_var 0) pda_nil)))))))
theorem ok_falls {P : Program} {wo : World} {K : PySem.W.Frag} {mg : Str → Option Value} {base : Heap} {f : Addr} {fd : FuncData} (T : Fx K mg) (F : FnP K "falls" s_falls f fd) (c_fall : Cal P wo K mg base 2 "fall" ["standing", "weight"] sp_fall) : FnG P wo K mg base CX0 3 f fd ["standing", "word"] (spD K sp_falls) :=
  fnD true F sc_falls len_falls (fun cdv A outer s H E hr => d_falls T c_fall hr) p_falls
theorem d_spot_of {P : Program} {wo : World} {K : PySem.W.Frag} {mg : Str → Option Value} {base : Heap} {f : Addr} {cdv : Value} {A : Around} {outer : List PySem.Env} {s : Shared} {H : Hp} {E : XK} (T : Fx K mg) (c_falls : Cal P wo K mg base 3 "falls" ["standing", "word"] sp_falls)
    (hr : RoomG 3 (A.deeper (envOfC "spot_of" (defScope s_spot_of) s.heap.objs.size f cdv))) : PDSs (cxOf CX0 P wo K mg base N_spot_of "spot_of" (defScope s_spot_of) f cdv A outer s H E).nox (defBody s_spot_of) t_spot_of :=
    (pdss_cons (pds_set 2 sc_spot_of.nd (pd_ix (pd_callC c_falls hr (pda_cons (pd_var 1) (pda_cons (pd_var 0) pda_nil))) pd_int))
    (pdss_one (pds_ret (pd_tup (pda_cons (pd_callB cb_abs T.b_abs (by decide +kernel) (pda_cons (pd_var 2) pda_nil)) (pda_cons (pd_cmp dop_lt (pd_var 2) pd_int (nomark _)) pda_nil))))))
theorem ok_spot_of {P : Program} {wo : World} {K : PySem.W.Frag} {mg : Str → Option Value} {base : Heap} {f : Addr} {fd : FuncData} (T : Fx K mg) (F : FnP K "spot_of" s_spot_of f fd) (c_falls : Cal P wo K mg base 3 "falls" ["standing", "word"] sp_falls) : FnG P wo K mg base CX0 4 f fd ["word", "size"] (spD K sp_spot_of) :=
  fnD false F sc_spot_of len_spot_of (fun cdv A outer s H E hr => d_spot_of T c_falls hr) p_spot_of
theorem d_strip {P : Program} {wo : World} {K : PySem.W.Frag} {mg : Str → Option Value} {base : Heap} {f : Addr} {cdv : Value} {A : Around} {outer : List PySem.Env} {s : Shared} {H : Hp} {E : XK} (T : Fx K mg) (c_spot_of : Cal P wo K mg base 4 "spot_of" ["word", "size"] sp_spot_of)
    (hr : RoomG 4 (A.deeper (envOfC "strip" (defScope s_strip) s.heap.objs.size f cdv))) : PDSs (cxOf CX0 P wo K mg base N_strip "strip" (defScope s_strip) f cdv A outer s H E).nox (defBody s_strip) t_strip :=
    (pdss_one (pds_ret (pd_lc [("size", 2)] rfl sc_strip.nd (pdi_range3 T.b_range pd_int (pd_op dop_mul pd_int (pd_var 1)) pd_int) (blkOk_by (N := N_strip) (sc := defScope s_strip) (by decide +kernel)) (fun _ _ _ _ _ => (pdgo_name 2 sc_strip.nd)) (fun _ _ _ _ _ => pdts_nil) (fun _ _ _ _ _ => (pd_callC c_spot_of hr (pda_cons (pd_var 0) (pda_cons (pd_var 2) pda_nil)))))))
theorem ok_strip {P : Program} {wo : World} {K : PySem.W.Frag} {mg : Str → Option Value} {base : Heap} {f : Addr} {fd : FuncData} (T : Fx K mg) (F : FnP K "strip" s_strip f fd) (c_spot_of : Cal P wo K mg base 4 "spot_of" ["word", "size"] sp_spot_of) : FnG P wo K mg base CX0 5 f fd ["word", "most"] (spD K sp_strip) :=
  fnD false F sc_strip len_strip (fun cdv A outer s H E hr => d_strip T c_spot_of hr) p_strip
theorem d_strip_of {P : Program} {wo : World} {K : PySem.W.Frag} {mg : Str → Option Value} {base : Heap} {f : Addr} {cdv : Value} {A : Around} {outer : List PySem.Env} {s : Shared} {H : Hp} {E : XK} (T : Fx K mg)
    (hr : RoomG 0 (A.deeper (envOfC "strip_of" (defScope s_strip_of) s.heap.objs.size f cdv))) : PDSs (cxOf CX0 P wo K mg base N_strip_of "strip_of" (defScope s_strip_of) f cdv A outer s H E).nox (defBody s_strip_of) t_strip_of :=
    (pdss_cons (pds_set 2 sc_strip_of.nd (pd_new pda_nil))
    (pdss_cons (pds_for PassesOwn.never rfl (pdi_any (pd_var 0)) (pdg_tup rfl (pdgs_cons (pdg_name 3 sc_strip_of.nd) (pdgs_cons (pdg_name 4 sc_strip_of.nd) pdgs_nil))) (pdss_cons (pds_asg (pd_ix (pd_var 1) (pd_op dop_div (pd_var 3) pd_int)) (pdg_tup rfl (pdgs_cons (pdg_name 5 sc_strip_of.nd) (pdgs_cons (pdg_name 6 sc_strip_of.nd) pdgs_nil))))
    (pdss_one (pds_expr (pd_bm PySem.F.slot_list_append PySem.F.type_list_append md_append (pd_var 2) (pda_cons (pd_tup (pda_cons (pd_var 5) (pda_cons (pd_cmp (dop_ne hr.units) (pd_var 4) (pd_var 6) (nomark _)) pda_nil))) pda_nil))))))
    (pdss_one (pds_ret (pd_var 2)))))
theorem ok_strip_of {P : Program} {wo : World} {K : PySem.W.Frag} {mg : Str → Option Value} {base : Heap} {f : Addr} {fd : FuncData} (T : Fx K mg) (F : FnP K "strip_of" s_strip_of f fd) : FnG P wo K mg base CX0 1 f fd ["first", "second"] (spD K sp_strip_of) :=
  fnD true F sc_strip_of len_strip_of (fun cdv A outer s H E hr => d_strip_of T  hr) p_strip_of
theorem d_least_word {P : Program} {wo : World} {K : PySem.W.Frag} {mg : Str → Option Value} {base : Heap} {f : Addr} {cdv : Value} {A : Around} {outer : List PySem.Env} {s : Shared} {H : Hp} {E : XK} (T : Fx K mg) (c_strip : Cal P wo K mg base 5 "strip" ["word", "most"] sp_strip) (c_strip_of : Cal P wo K mg base 1 "strip_of" ["first", "second"] sp_strip_of)
    (hr : RoomG 5 (A.deeper (envOfC "least_word" (defScope s_least_word) s.heap.objs.size f cdv))) : PDSs (cxOf CX0 P wo K mg base N_least_word "least_word" (defScope s_least_word) f cdv A outer s H E).nox (defBody s_least_word) t_least_word :=
    (pdss_cons (pds_set 2 sc_least_word.nd (pd_callC c_strip hr (pda_cons (pd_var 0) (pda_cons (pd_var 1) pda_nil))))
    (pdss_cons (pds_setLc 3 [("weight", 4)] rfl sc_least_word.nd (pdi_range2 T.b_range pd_int (pd_op dop_add (pd_var 1) pd_int)) (blkOk_by (N := N_least_word) (sc := defScope s_least_word) (by decide +kernel)) (fun _ _ _ _ _ => (pdgo_name 4 sc_least_word.nd)) (fun _ _ _ _ _ => pdts_nil) (fun _ _ _ _ _ => (pd_tup (pda_cons (pd_var 4) (pda_cons (pd_callC c_strip hr (pda_cons (pd_tup (pda_cons (pd_var 4) pda_nil)) (pda_cons (pd_var 1) pda_nil))) pda_nil)))) (sw_true rfl rfl rfl (by decide +kernel)))
    (pdss_cons (pds_set 5 sc_least_word.nd (pd_callC c_strip hr (pda_cons (pd_tup pda_nil) (pda_cons (pd_var 1) pda_nil))))
    (pdss_cons (pds_par3 6 7 8 rfl sc_least_word.nd (pda_cons (pd_new (pda_cons (pd_tup (pda_cons (pd_tup pda_nil) (pda_cons (pd_var 5) pda_nil))) pda_nil)) (pda_cons (pd_dispN hr.units (pdps_cons (pd_callTy cb_tuple T.b_tuple (by decide +kernel) (pda_cons (pd_var 5) pda_nil)) pd_bl pdps_nil)) (pda_cons pd_int pda_nil))))
    (pdss_cons (pds_while PassesOwn.never (pd_tcmp (dop_ne hr.units) (pd_ix (pd_ix (pd_var 6) (pd_var 8)) pd_int) (pd_var 2) (nomark _)) (pdss_cons (pds_asg (pd_ix (pd_var 6) (pd_var 8)) (pdg_tup rfl (pdgs_cons (pdg_name 9 sc_least_word.nd) (pdgs_cons (pdg_name 10 sc_least_word.nd) pdgs_nil))))
    (pdss_cons (pds_for PassesOwn.never rfl (pdi_any (pd_var 3)) (pdg_tup rfl (pdgs_cons (pdg_name 4 sc_least_word.nd) (pdgs_cons (pdg_name 11 sc_least_word.nd) pdgs_nil))) (pdss_cons (pds_set 12 sc_least_word.nd (pd_callC c_strip_of hr (pda_cons (pd_var 10) (pda_cons (pd_var 11) pda_nil))))
    (pdss_one (pds_if (pd_tcmp (dop_notinN hr.units) (pd_callTy cb_tuple T.b_tuple (by decide +kernel) (pda_cons (pd_var 12) pda_nil)) (pd_var 7) (by rfl)) (pdss_cons (pds_asg pd_bl (pdg_putN hr.units (pd_var 7) (pd_callTy cb_tuple T.b_tuple (by decide +kernel) (pda_cons (pd_var 12) pda_nil))))
    (pdss_one (pds_expr (pd_bm PySem.F.slot_list_append PySem.F.type_list_append md_append (pd_var 6) (pda_cons (pd_tup (pda_cons (pd_op dop_add (pd_var 9) (pd_tup (pda_cons (pd_var 4) pda_nil))) (pda_cons (pd_var 12) pda_nil))) pda_nil))))) pdss_nil))))
    (pdss_one (pds_aug 8 sc_least_word.nd pd_int iop_addD)))))
    (pdss_one (pds_ret (pd_ix (pd_ix (pd_var 6) (pd_var 8)) pd_int))))))))
theorem ok_least_word {P : Program} {wo : World} {K : PySem.W.Frag} {mg : Str → Option Value} {base : Heap} {f : Addr} {fd : FuncData} (T : Fx K mg) (F : FnP K "least_word" s_least_word f fd) (c_strip : Cal P wo K mg base 5 "strip" ["word", "most"] sp_strip) (c_strip_of : Cal P wo K mg base 1 "strip_of" ["first", "second"] sp_strip_of) : FnG P wo K mg base CX0 6 f fd ["word", "most"] (spD K sp_least_word) :=
  fnD true F sc_least_word len_least_word (fun cdv A outer s H E hr => d_least_word T c_strip c_strip_of hr) p_least_word
theorem d__law_tape {P : Program} {wo : World} {K : PySem.W.Frag} {mg : Str → Option Value} {base : Heap} {f : Addr} {cdv : Value} {A : Around} {outer : List PySem.Env} {s : Shared} {H : Hp} {E : XK} (T : Fx K mg)
    (hr : RoomG 0 (A.deeper (envOfC "_law_tape" (defScope s__law_tape) s.heap.objs.size f cdv))) : PDSs (cxOf CX0 P wo K mg base N__law_tape "_law_tape" (defScope s__law_tape) f cdv A outer s H E).nox (defBody s__law_tape) t__law_tape :=
    (pdss_cons (pds_set 2 sc__law_tape.nd (pd_ife (pd_tcmp dop_lt (pd_var 1) (pd_callB cb_len T.b_len (by decide +kernel) (pda_cons (pd_var 0) pda_nil)) (nomark _)) (pd_ix (pd_var 0) (pd_var 1)) pd_int))
    (pdss_one (pds_ret (pd_new (pda_cons (pd_op dop_mul (pd_callB cb_abs T.b_abs (by decide +kernel) (pda_cons (pd_var 2) pda_nil)) (pd_callTy cb_int T.b_int (by decide +kernel) (pda_cons (pd_cmp dop_ge (pd_callB cb_abs T.b_abs (by decide +kernel) (pda_cons (pd_var 2) pda_nil)) (pd_op dop_pow pd_int pd_int) (nomark _)) pda_nil))) (pda_cons (pd_op dop_add (pd_op dop_add (pd_op dop_mod (pd_var 2) pd_int) (pd_op dop_mul pd_int (pd_var 1))) pd_int) (pda_cons pd_int pda_nil)))))))
theorem ok__law_tape {P : Program} {wo : World} {K : PySem.W.Frag} {mg : Str → Option Value} {base : Heap} {f : Addr} {fd : FuncData} (T : Fx K mg) (F : FnP K "_law_tape" s__law_tape f fd) : FnG P wo K mg base CX0 1 f fd ["_law_script", "_law_k"] (spD K sp__law_tape) :=
  fnD false F sc__law_tape len__law_tape (fun cdv A outer s H E hr => d__law_tape T  hr) p__law_tape
theorem d__law_draw {P : Program} {wo : World} {K : PySem.W.Frag} {mg : Str → Option Value} {base : Heap} {f : Addr} {cdv : Value} {A : Around} {outer : List PySem.Env} {s : Shared} {H : Hp} {E : XK} (T : Fx K mg)
    (hr : RoomG 0 (A.deeper (envOfC "_law_draw" (defScope s__law_draw) s.heap.objs.size f cdv))) : PDSs (cxOf CX0 P wo K mg base N__law_draw "_law_draw" (defScope s__law_draw) f cdv A outer s H E).nox (defBody s__law_draw) t__law_draw :=
    (pdss_cons (pds_if (pd_tcmp dop_gt (pd_ix (pd_var 0) pd_int) pd_int (nomark _)) (pdss_cons (pds_set 2 sc__law_draw.nd (pd_op dop_mod (pd_ix (pd_var 0) pd_int) (pd_var 1)))
    (pdss_cons (pds_asg (pd_op dop_div (pd_ix (pd_var 0) pd_int) (pd_var 1)) (pdg_sub (pd_var 0) pd_int))
    (pdss_one (pds_ret (pd_var 2))))) pdss_nil)
    (pdss_cons (pds_asg (pd_op dop_add (pd_ix (pd_var 0) pd_int) pd_int) (pdg_sub (pd_var 0) pd_int))
    (pdss_cons (pds_set 3 sc__law_draw.nd (pd_op dop_mod (pd_op dop_pow (pd_op dop_add (pd_ix (pd_var 0) pd_int) (pd_op dop_mul pd_int (pd_ix (pd_var 0) pd_int))) pd_int) pd_int))
    (pdss_cons (pds_set 4 sc__law_draw.nd (pd_op dop_mod (pd_op dop_mul (pd_op dop_add (pd_var 3) (pd_ix (pd_var 0) pd_int)) (pd_op dop_add (pd_op dop_add (pd_op dop_mod (pd_var 3) pd_int) pd_int) (pd_ix (pd_var 0) pd_int))) pd_int))
    (pdss_cons (pds_set 5 sc__law_draw.nd (pd_op dop_mod (pd_op dop_add (pd_op dop_add (pd_op dop_div (pd_ix (pd_var 0) pd_int) pd_int) (pd_op dop_mul (pd_var 4) pd_int)) (pd_ix (pd_var 0) pd_int)) pd_int))
    (pdss_one (pds_ret (pd_op dop_mod (pd_op dop_div (pd_op dop_mod (pd_op dop_add (pd_op dop_add (pd_op dop_mul (pd_var 4) pd_int) (pd_op dop_mul (pd_var 5) pd_int)) (pd_var 3)) pd_int) pd_int) (pd_var 1)))))))))
theorem ok__law_draw {P : Program} {wo : World} {K : PySem.W.Frag} {mg : Str → Option Value} {base : Heap} {f : Addr} {fd : FuncData} (T : Fx K mg) (F : FnP K "_law_draw" s__law_draw f fd) : FnG P wo K mg base CX0 1 f fd ["_law_tape_here", "_law_count"] (spD K sp__law_draw) :=
  fnD false F sc__law_draw len__law_draw (fun cdv A outer s H E hr => d__law_draw T  hr) p__law_draw
theorem d__law_folded {P : Program} {wo : World} {K : PySem.W.Frag} {mg : Str → Option Value} {base : Heap} {f : Addr} {cdv : Value} {A : Around} {outer : List PySem.Env} {s : Shared} {H : Hp} {E : XK} (T : Fx K mg)
    (hr : RoomG 0 (A.deeper (envOfC "_law_folded" (defScope s__law_folded) s.heap.objs.size f cdv))) : PDSs (cxOf CX0 P wo K mg base N__law_folded "_law_folded" (defScope s__law_folded) f cdv A outer s H E).nox (defBody s__law_folded) t__law_folded :=
    (pdss_cons (pds_set 2 sc__law_folded.nd (pd_callTy cb_listNew T.b_list (by decide +kernel) (pda_cons (pd_cut sl_cut (pd_var 0) pdo_none (pdo_some (pd_var 1))) pda_nil)))
    (pdss_cons (pds_for PassesOwn.never rfl (pdi_enum T.b_enumerate (pd_cut sl_cut (pd_var 0) (pdo_some (pd_var 1)) (pdo_some pd_int))) (pdg_tup rfl (pdgs_cons (pdg_name 3 sc__law_folded.nd) (pdgs_cons (pdg_name 4 sc__law_folded.nd) pdgs_nil))) (pdss_one (pds_asg (pd_op dop_add (pd_ix (pd_var 2) (pd_op dop_mod (pd_var 3) (pd_var 1))) (pd_op dop_mul (pd_var 4) (pd_op dop_add (pd_var 3) pd_int))) (pdg_sub (pd_var 2) (pd_op dop_mod (pd_var 3) (pd_var 1))))))
    (pdss_one (pds_ret (pd_var 2)))))
theorem ok__law_folded {P : Program} {wo : World} {K : PySem.W.Frag} {mg : Str → Option Value} {base : Heap} {f : Addr} {fd : FuncData} (T : Fx K mg) (F : FnP K "_law_folded" s__law_folded f fd) : FnG P wo K mg base CX0 1 f fd ["_law_script", "_law_count"] (spD K sp__law_folded) :=
  fnD true F sc__law_folded len__law_folded (fun cdv A outer s H E hr => d__law_folded T  hr) p__law_folded
theorem d__law_same {P : Program} {wo : World} {K : PySem.W.Frag} {mg : Str → Option Value} {base : Heap} {f : Addr} {cdv : Value} {A : Around} {outer : List PySem.Env} {s : Shared} {H : Hp} {E : XK} {spr : SpD} {n : Nat} (T : Fx K mg) (cr : Cal P wo K mg base (0 + n) "_law_same" ["_law_found", "_law_due"] spr) 
    (hr : RoomG (0 + n) (A.deeper (envOfC "_law_same" (defScope s__law_same) s.heap.objs.size f cdv))) : PDSs (cxOf CX0 P wo K mg base N__law_same "_law_same" (defScope s__law_same) f cdv A outer s H E).nox (defBody s__law_same) (t__law_same spr) :=
    (pdss_cons (pds_if (pd_tru (pd_isi2 T.b_isinstance (pd_var 1) T.b_list (by decide +kernel) T.b_tuple (by decide +kernel))) (pdss_cons (pds_if (L2.PW.pt (pw_dor (pd_tcmp (dop_ne hr.units) (pd_isi T.b_isinstance (pd_var 0) T.b_list (by decide +kernel)) (pd_isi T.b_isinstance (pd_var 1) T.b_list (by decide +kernel)) (nomark _)) (pw_or1 (pd_tcmp (dop_ne hr.units) (pd_isi T.b_isinstance (pd_var 0) T.b_tuple (by decide +kernel)) (pd_isi T.b_isinstance (pd_var 1) T.b_tuple (by decide +kernel)) (nomark _))))) (pdss_one (pds_ret pd_bl)) pdss_nil)
    (pdss_one (pds_ret (pd_andv (pd_cmp (dop_eq hr.units) (pd_callB cb_len T.b_len (by decide +kernel) (pda_cons (pd_var 0) pda_nil)) (pd_callB cb_len T.b_len (by decide +kernel) (pda_cons (pd_var 1) pda_nil)) (nomark _)) (pe_one (pd_callB (cb_all rfl) T.b_all (by decide +kernel) (pda_cons (pd_lc [("_law_mine", 2), ("_law_its", 3)] rfl sc__law_same.nd (pdi_zip T.b_zip (pd_var 0) (pd_var 1)) (blkOk_by (N := N__law_same) (sc := defScope s__law_same) (by decide +kernel)) (fun _ _ _ _ _ => (pdgo_tup rfl (pdgso_cons (pdgo_name 2 sc__law_same.nd) (pdgso_cons (pdgo_name 3 sc__law_same.nd) pdgso_nil)))) (fun _ _ _ _ _ => pdts_nil) (fun _ _ _ _ _ => (pd_callC (hkj := by omega) cr hr (pda_cons (pd_var 2) (pda_cons (pd_var 3) pda_nil))))) pda_nil))))))) pdss_nil)
    (pdss_cons (pds_if (L2.PW.pt (pw_dor (pd_tcmp dop_is (pd_var 1) pd_non (nomark _)) (pw_or1 (pd_tru (pd_isi2 T.b_isinstance (pd_var 1) T.b_str (by decide +kernel) T.b_bool (by decide +kernel)))))) (pdss_one (pds_ret (pd_andv (pd_cmp (dop_eq hr.units) (pd_isi T.b_isinstance (pd_var 0) T.b_bool (by decide +kernel)) (pd_isi T.b_isinstance (pd_var 1) T.b_bool (by decide +kernel)) (nomark _)) (pe_one (pd_cmp (dop_eq hr.units) (pd_var 0) (pd_var 1) (nomark _)))))) pdss_nil)
    (pdss_one (pds_ret (pd_andv (pd_isi T.b_isinstance (pd_var 0) T.b_int (by decide +kernel)) (pd_andv (pd_notv (pd_isi T.b_isinstance (pd_var 0) T.b_bool (by decide +kernel))) (pe_one (pd_cmp (dop_eq hr.units) (pd_var 0) (pd_var 1) (nomark _)))))))))
theorem ok__law_same {P : Program} {wo : World} {K : PySem.W.Frag} {mg : Str → Option Value} {base : Heap} {f : Addr} {fd : FuncData} (T : Fx K mg) (F : FnP K "_law_same" s__law_same f fd) (gm : mg "_law_same" = some (.ref f)) : ∀ n : Nat, FnG P wo K mg base CX0 (0 + n) f fd ["_law_found", "_law_due"] (spD K (sp__law_same n))
  | 0 => ⟨fun vs H Q E ⟨_, _, ds, _, _, _, h, _⟩ => (no__law_same _ _ _ h).elim, fun A outer s H args us vs Q E _ _ _ _ ⟨_, _, ds, _, _, _, h, _⟩ => (no__law_same _ _ _ h).elim⟩
  | n + 1 => fnD (k := 0 + n) false F sc__law_same (len__law_same (n + 1)) (fun cdv A outer s H E hr => d__law_same T ⟨f, fd, gm, F.kp, ok__law_same T F gm  n, F.bindsN (fun _ _ _ _ _ _ us hl => match us, hl with | [_, _], _ => rfl)⟩  hr) (p__law_same n)
theorem d__law_weight {P : Program} {wo : World} {K : PySem.W.Frag} {mg : Str → Option Value} {base : Heap} {f : Addr} {cdv : Value} {A : Around} {outer : List PySem.Env} {s : Shared} {H : Hp} {E : XK} (T : Fx K mg) (c__law_draw : Cal P wo K mg base 1 "_law_draw" ["_law_tape_here", "_law_count"] sp__law_draw)
    (hr : RoomG 1 (A.deeper (envOfC "_law_weight" (defScope s__law_weight) s.heap.objs.size f cdv))) : PDSs (cxOf CX0 P wo K mg base N__law_weight "_law_weight" (defScope s__law_weight) f cdv A outer s H E).nox (defBody s__law_weight) t__law_weight :=
    (pdss_one (pds_ret (pd_ix (pd_lst (pda_cons (pd_op dop_add pd_int (pd_callC c__law_draw hr (pda_cons (pd_var 0) (pda_cons (pd_var 1) pda_nil)))) (pda_cons (pd_op dop_add pd_int (pd_callC c__law_draw hr (pda_cons (pd_var 0) (pda_cons (pd_callB (cb_min2 rfl) T.b_min (by decide +kernel) (pda_cons pd_int (pda_cons (pd_var 1) pda_nil))) pda_nil)))) (pda_cons (pd_var 1) (pda_cons pd_int pda_nil))))) (pd_callC c__law_draw hr (pda_cons (pd_var 0) (pda_cons pd_int pda_nil))))))
theorem ok__law_weight {P : Program} {wo : World} {K : PySem.W.Frag} {mg : Str → Option Value} {base : Heap} {f : Addr} {fd : FuncData} (T : Fx K mg) (F : FnP K "_law_weight" s__law_weight f fd) (c__law_draw : Cal P wo K mg base 1 "_law_draw" ["_law_tape_here", "_law_count"] sp__law_draw) : FnG P wo K mg base CX0 2 f fd ["_law_tape_here", "_law_high"] (spD K sp__law_weight) :=
  fnD false F sc__law_weight len__law_weight (fun cdv A outer s H E hr => d__law_weight T c__law_draw hr) p__law_weight
theorem d__law_word {P : Program} {wo : World} {K : PySem.W.Frag} {mg : Str → Option Value} {base : Heap} {f : Addr} {cdv : Value} {A : Around} {outer : List PySem.Env} {s : Shared} {H : Hp} {E : XK} (T : Fx K mg) (c__law_draw : Cal P wo K mg base 1 "_law_draw" ["_law_tape_here", "_law_count"] sp__law_draw) (c__law_weight : Cal P wo K mg base 2 "_law_weight" ["_law_tape_here", "_law_high"] sp__law_weight)
    (hr : RoomG 2 (A.deeper (envOfC "_law_word" (defScope s__law_word) s.heap.objs.size f cdv))) : PDSs (cxOf CX0 P wo K mg base N__law_word "_law_word" (defScope s__law_word) f cdv A outer s H E).nox (defBody s__law_word) t__law_word :=
    (pdss_cons (pds_par 3 4 rfl sc__law_word.nd (pda_cons (pd_op dop_add pd_int (pd_callC c__law_draw hr (pda_cons (pd_var 0) (pda_cons (pd_var 1) pda_nil)))) (pda_cons (pd_callC c__law_draw hr (pda_cons (pd_var 0) (pda_cons pd_int pda_nil))) pda_nil)))
    (pdss_cons (pds_set 5 sc__law_word.nd (pd_lc [("_law_k", 6)] rfl sc__law_word.nd (pdi_range1 T.b_range (pd_ix (pd_lst (pda_cons (pd_var 3) (pda_cons (pd_var 3) (pda_cons (pd_var 3) (pda_cons (pd_var 3) (pda_cons pd_int (pda_cons pd_int pda_nil))))))) (pd_var 4))) (blkOk_by (N := N__law_word) (sc := defScope s__law_word) (by decide +kernel)) (fun _ _ _ _ _ => (pdgo_name 6 sc__law_word.nd)) (fun _ _ _ _ _ => pdts_nil) (fun _ _ _ _ _ => (pd_callC c__law_weight hr (pda_cons (pd_var 0) (pda_cons (pd_var 2) pda_nil))))))
    (pdss_one (pds_ret (pd_callTy cb_tuple T.b_tuple (by decide +kernel) (pda_cons (pd_lc [("_law_k", 6)] rfl sc__law_word.nd (pdi_range1 T.b_range (pd_var 3)) (blkOk_by (N := N__law_word) (sc := defScope s__law_word) (by decide +kernel)) (fun _ _ _ _ _ => (pdgo_name 6 sc__law_word.nd)) (fun _ _ _ _ _ => pdts_nil) (fun _ _ _ _ _ => (pd_ix (pd_var 5) (pd_op dop_mod (pd_var 6) (pd_callB cb_len T.b_len (by decide +kernel) (pda_cons (pd_var 5) pda_nil)))))) pda_nil))))))
theorem ok__law_word {P : Program} {wo : World} {K : PySem.W.Frag} {mg : Str → Option Value} {base : Heap} {f : Addr} {fd : FuncData} (T : Fx K mg) (F : FnP K "_law_word" s__law_word f fd) (c__law_draw : Cal P wo K mg base 1 "_law_draw" ["_law_tape_here", "_law_count"] sp__law_draw) (c__law_weight : Cal P wo K mg base 2 "_law_weight" ["_law_tape_here", "_law_high"] sp__law_weight) : FnG P wo K mg base CX0 3 f fd ["_law_tape_here", "_law_count", "_law_high"] (spD K sp__law_word) :=
  fnD false F sc__law_word len__law_word (fun cdv A outer s H E hr => d__law_word T c__law_draw c__law_weight hr) p__law_word
theorem d__law_fallen {P : Program} {wo : World} {K : PySem.W.Frag} {mg : Str → Option Value} {base : Heap} {f : Addr} {cdv : Value} {A : Around} {outer : List PySem.Env} {s : Shared} {H : Hp} {E : XK} (T : Fx K mg)
    (hr : RoomG 0 (A.deeper (envOfC "_law_fallen" (defScope s__law_fallen) s.heap.objs.size f cdv))) : PDSs (cxOf CX0 P wo K mg base N__law_fallen "_law_fallen" (defScope s__law_fallen) f cdv A outer s H E).nox (defBody s__law_fallen) t__law_fallen :=
    (pdss_cons (pds_set 2 sc__law_fallen.nd (pd_new pda_nil))
    (pdss_cons (pds_for PassesOwn.never rfl (pdi_any (pd_var 1)) (pdg_name 3 sc__law_fallen.nd) (pdss_cons (pds_expr (pd_bm PySem.F.slot_list_append PySem.F.type_list_append md_append (pd_var 2) (pda_cons (pd_callTy cb_int T.b_int (by decide +kernel) (pda_cons (pd_cmp dop_gt (pd_var 0) pd_int (nomark _)) pda_nil)) pda_nil)))
    (pdss_one (pds_set 0 sc__law_fallen.nd (pd_op dop_add (pd_var 0) (pd_op dop_mul (pd_op dop_mul pd_int (pd_var 3)) (pd_op dop_sub pd_int (pd_op dop_mul pd_int (pd_ix (pd_var 2) (pd_un dun_neg pd_int))))))))))
    (pdss_one (pds_ret (pd_tup (pda_cons (pd_var 2) (pda_cons (pd_var 0) pda_nil)))))))
theorem ok__law_fallen {P : Program} {wo : World} {K : PySem.W.Frag} {mg : Str → Option Value} {base : Heap} {f : Addr} {fd : FuncData} (T : Fx K mg) (F : FnP K "_law_fallen" s__law_fallen f fd) : FnG P wo K mg base CX0 1 f fd ["_law_stood", "_law_grains"] (spD K sp__law_fallen) :=
  fnD true F sc__law_fallen len__law_fallen (fun cdv A outer s H E hr => d__law_fallen T  hr) p__law_fallen
theorem d__law_strip {P : Program} {wo : World} {K : PySem.W.Frag} {mg : Str → Option Value} {base : Heap} {f : Addr} {cdv : Value} {A : Around} {outer : List PySem.Env} {s : Shared} {H : Hp} {E : XK} (T : Fx K mg) (c__law_fallen : Cal P wo K mg base 1 "_law_fallen" ["_law_stood", "_law_grains"] sp__law_fallen)
    (hr : RoomG 1 (A.deeper (envOfC "_law_strip" (defScope s__law_strip) s.heap.objs.size f cdv))) : PDSs (cxOf CX0 P wo K mg base N__law_strip "_law_strip" (defScope s__law_strip) f cdv A outer s H E).nox (defBody s__law_strip) t__law_strip :=
    (pdss_cons (pds_set 2 sc__law_strip.nd (pd_new pda_nil))
    (pdss_cons (pds_for PassesOwn.never rfl (pdi_range3 T.b_range pd_int (pd_op dop_mul pd_int (pd_var 1)) pd_int) (pdg_name 3 sc__law_strip.nd) (pdss_cons (pds_set 4 sc__law_strip.nd (pd_ix (pd_callC c__law_fallen hr (pda_cons (pd_var 3) (pda_cons (pd_var 0) pda_nil))) pd_int))
    (pdss_one (pds_expr (pd_bm PySem.F.slot_list_append PySem.F.type_list_append md_append (pd_var 2) (pda_cons (pd_tup (pda_cons (pd_callB cb_abs T.b_abs (by decide +kernel) (pda_cons (pd_var 4) pda_nil)) (pda_cons (pd_cmp dop_lt (pd_var 4) pd_int (nomark _)) pda_nil))) pda_nil))))))
    (pdss_one (pds_ret (pd_var 2)))))
theorem ok__law_strip {P : Program} {wo : World} {K : PySem.W.Frag} {mg : Str → Option Value} {base : Heap} {f : Addr} {fd : FuncData} (T : Fx K mg) (F : FnP K "_law_strip" s__law_strip f fd) (c__law_fallen : Cal P wo K mg base 1 "_law_fallen" ["_law_stood", "_law_grains"] sp__law_fallen) : FnG P wo K mg base CX0 2 f fd ["_law_row", "_law_high"] (spD K sp__law_strip) :=
  fnD true F sc__law_strip len__law_strip (fun cdv A outer s H E hr => d__law_strip T c__law_fallen hr) p__law_strip
theorem d__law_then {P : Program} {wo : World} {K : PySem.W.Frag} {mg : Str → Option Value} {base : Heap} {f : Addr} {cdv : Value} {A : Around} {outer : List PySem.Env} {s : Shared} {H : Hp} {E : XK} (T : Fx K mg)
    (hr : RoomG 0 (A.deeper (envOfC "_law_then" (defScope s__law_then) s.heap.objs.size f cdv))) : PDSs (cxOf CX0 P wo K mg base N__law_then "_law_then" (defScope s__law_then) f cdv A outer s H E).nox (defBody s__law_then) t__law_then :=
    (pdss_cons (pds_set 2 sc__law_then.nd (pd_new pda_nil))
    (pdss_cons (pds_for PassesOwn.never rfl (pdi_any (pd_var 0)) (pdg_tup rfl (pdgs_cons (pdg_name 3 sc__law_then.nd) (pdgs_cons (pdg_name 4 sc__law_then.nd) pdgs_nil))) (pdss_cons (pds_asg (pd_ix (pd_var 1) (pd_op dop_div (pd_var 3) pd_int)) (pdg_tup rfl (pdgs_cons (pdg_name 5 sc__law_then.nd) (pdgs_cons (pdg_name 6 sc__law_then.nd) pdgs_nil))))
    (pdss_one (pds_expr (pd_bm PySem.F.slot_list_append PySem.F.type_list_append md_append (pd_var 2) (pda_cons (pd_tup (pda_cons (pd_var 5) (pda_cons (pd_cmp (dop_ne hr.units) (pd_var 4) (pd_var 6) (nomark _)) pda_nil))) pda_nil))))))
    (pdss_one (pds_ret (pd_callTy cb_tuple T.b_tuple (by decide +kernel) (pda_cons (pd_var 2) pda_nil))))))
theorem ok__law_then {P : Program} {wo : World} {K : PySem.W.Frag} {mg : Str → Option Value} {base : Heap} {f : Addr} {fd : FuncData} (T : Fx K mg) (F : FnP K "_law_then" s__law_then f fd) : FnG P wo K mg base CX0 1 f fd ["_law_here", "_law_step"] (spD K sp__law_then) :=
  fnD true F sc__law_then len__law_then (fun cdv A outer s H E hr => d__law_then T  hr) p__law_then
theorem d__law_firsts {P : Program} {wo : World} {K : PySem.W.Frag} {mg : Str → Option Value} {base : Heap} {f : Addr} {cdv : Value} {A : Around} {outer : List PySem.Env} {s : Shared} {H : Hp} {E : XK} (T : Fx K mg) (c__law_strip : Cal P wo K mg base 2 "_law_strip" ["_law_row", "_law_high"] sp__law_strip) (c__law_then : Cal P wo K mg base 1 "_law_then" ["_law_here", "_law_step"] sp__law_then)
    (hr : RoomG 2 (A.deeper (envOfC "_law_firsts" (defScope s__law_firsts) s.heap.objs.size f cdv))) : PDSs (cxOf CX0 P wo K mg base N__law_firsts "_law_firsts" (defScope s__law_firsts) f cdv A outer s H E).nox (defBody s__law_firsts) t__law_firsts :=
    (pdss_cons (pds_setLc 1 [("_law_weight_here", 2)] rfl sc__law_firsts.nd (pdi_range2 T.b_range pd_int (pd_op dop_add (pd_var 0) pd_int)) (blkOk_by (N := N__law_firsts) (sc := defScope s__law_firsts) (by decide +kernel)) (fun _ _ _ _ _ => (pdgo_name 2 sc__law_firsts.nd)) (fun _ _ _ _ _ => pdts_nil) (fun _ _ _ _ _ => (pd_callC c__law_strip hr (pda_cons (pd_tup (pda_cons (pd_var 2) pda_nil)) (pda_cons (pd_var 0) pda_nil)))) (sw_true rfl rfl rfl (by decide +kernel)))
    (pdss_cons (pds_set 3 sc__law_firsts.nd (pd_callTy cb_tuple T.b_tuple (by decide +kernel) (pda_cons (pd_callC c__law_strip hr (pda_cons (pd_tup pda_nil) (pda_cons (pd_var 0) pda_nil))) pda_nil)))
    (pdss_cons (pds_par 4 5 rfl sc__law_firsts.nd (pda_cons (pd_dispN hr.units (pdps_cons (pd_var 3) (pd_tup pda_nil) pdps_nil)) (pda_cons (pd_lst (pda_cons (pd_var 3) pda_nil)) pda_nil)))
    (pdss_cons (pds_for PassesOwn.never rfl (pdi_range1 T.b_range pd_int) (pdg_name 6 sc__law_firsts.nd) (pdss_cons (pds_set 7 sc__law_firsts.nd (pd_new pda_nil))
    (pdss_cons (pds_for PassesOwn.never rfl (pdi_any (pd_var 5)) (pdg_name 8 sc__law_firsts.nd) (pdss_one (pds_for PassesOwn.never rfl (pdi_enum T.b_enumerate (pd_var 1)) (pdg_tup rfl (pdgs_cons (pdg_name 2 sc__law_firsts.nd) (pdgs_cons (pdg_name 9 sc__law_firsts.nd) pdgs_nil))) (pdss_cons (pds_set 10 sc__law_firsts.nd (pd_callC c__law_then hr (pda_cons (pd_var 8) (pda_cons (pd_var 9) pda_nil))))
    (pdss_one (pds_if (pd_tcmp (dop_notinN hr.units) (pd_var 10) (pd_var 4) (by rfl)) (pdss_cons (pds_asg (pd_op dop_add (pd_dgetN hr.units (pd_var 4) (pd_var 8)) (pd_tup (pda_cons (pd_op dop_add (pd_var 2) pd_int) pda_nil))) (pdg_putN hr.units (pd_var 4) (pd_var 10)))
    (pdss_one (pds_expr (pd_bm PySem.F.slot_list_append PySem.F.type_list_append md_append (pd_var 7) (pda_cons (pd_var 10) pda_nil))))) pdss_nil))))))
    (pdss_cons (pds_if (pd_tcmp (dop_eq hr.units) (pd_var 7) (pd_lst pda_nil) (nomark _)) (pdss_one (pds_ret (pd_var 4))) pdss_nil)
    (pdss_one (pds_set 5 sc__law_firsts.nd (pd_var 7)))))))
    (pdss_one (pds_ret (pd_var 4)))))))
theorem ok__law_firsts {P : Program} {wo : World} {K : PySem.W.Frag} {mg : Str → Option Value} {base : Heap} {f : Addr} {fd : FuncData} (T : Fx K mg) (F : FnP K "_law_firsts" s__law_firsts f fd) (c__law_strip : Cal P wo K mg base 2 "_law_strip" ["_law_row", "_law_high"] sp__law_strip) (c__law_then : Cal P wo K mg base 1 "_law_then" ["_law_here", "_law_step"] sp__law_then) : FnG P wo K mg base CX0 3 f fd ["_law_high"] (spD K sp__law_firsts) :=
  fnD false F sc__law_firsts len__law_firsts (fun cdv A outer s H E hr => d__law_firsts T c__law_strip c__law_then hr) p__law_firsts
theorem d_law {P : Program} {wo : World} {K : PySem.W.Frag} {mg : Str → Option Value} {base : Heap} {f : Addr} {cdv : Value} {A : Around} {outer : List PySem.Env} {s : Shared} {H : Hp} {E : XK} (T : Fx K mg) (c__law_folded : Cal P wo K mg base 1 "_law_folded" ["_law_script", "_law_count"] sp__law_folded) (c__law_tape : Cal P wo K mg base 1 "_law_tape" ["_law_script", "_law_k"] sp__law_tape) (c__law_draw : Cal P wo K mg base 1 "_law_draw" ["_law_tape_here", "_law_count"] sp__law_draw) (c__law_firsts : Cal P wo K mg base 3 "_law_firsts" ["_law_high"] sp__law_firsts) (c__law_word : Cal P wo K mg base 3 "_law_word" ["_law_tape_here", "_law_count", "_law_high"] sp__law_word) (c__law_strip : Cal P wo K mg base 2 "_law_strip" ["_law_row", "_law_high"] sp__law_strip) (c__law_same : Cal P wo K mg base 5 "_law_same" ["_law_found", "_law_due"] (sp__law_same 5)) (c_least_word : Cal P wo K mg base 6 "least_word" ["word", "most"] sp_least_word) (k_least_word_0_most_word : Calk P wo K mg base 6 "least_word" ["word", "most"] sp_least_word 0 ["most", "word"] [1, 0])
    (hr : RoomG 6 (A.deeper (envOfC "law" (defScope s_law) s.heap.objs.size f cdv))) : PDSs (cxOf CX0 P wo K mg base N_law "law" (defScope s_law) f cdv A outer s H E).nox (defBody s_law) t_law :=
    (pdss_cons (pds_set 1 sc_law.nd (pd_ife (pd_tcmp (dop_ne hr.units) (pd_var 0) (pd_lst pda_nil) (nomark _)) (pd_callC c__law_folded hr (pda_cons (pd_var 0) (pda_cons pd_int pda_nil))) (pd_lst (pda_cons pd_int pda_nil))))
    (pdss_cons (pds_for PassesOwn.never rfl (pdi_range1 T.b_range (pd_callB cb_len T.b_len (by decide +kernel) (pda_cons (pd_var 1) pda_nil))) (pdg_name 2 sc_law.nd) (pdss_cons (pds_set 3 sc_law.nd (pd_callC c__law_tape hr (pda_cons (pd_var 1) (pda_cons (pd_var 2) pda_nil))))
    (pdss_cons (pds_set 4 sc_law.nd (pd_op dop_add pd_int (pd_callC c__law_draw hr (pda_cons (pd_var 3) (pda_cons pd_int pda_nil)))))
    (pdss_cons (pds_set 5 sc_law.nd (pd_callC c__law_firsts hr (pda_cons (pd_var 4) pda_nil)))
    (pdss_cons (pds_set 6 sc_law.nd (pd_ix (pd_lockN 5 (pd_lc [("_law_row", 7)] rfl sc_law.nd (pdi_valuesN 5) (blkOk_by (N := N_law) (sc := defScope s_law) (by decide +kernel)) (fun _ _ _ _ _ => (pdgo_name 7 sc_law.nd)) (fun _ _ _ _ _ => (pdts_one (pd_tcmp dop_lt (pd_callB cb_len T.b_len (by decide +kernel) (pda_cons (pd_var 7) pda_nil)) pd_int (nomark _)))) (fun _ _ _ _ _ => (pd_var 7)))) (pd_un dun_neg pd_int)))
    (pdss_one (pds_for PassesOwn.never rfl (pdi_range1 T.b_range pd_int) (pdg_name 8 sc_law.nd) (pdss_cons (pds_set 7 sc_law.nd (pd_ife (pd_tcmp (dop_eq hr.units) (pd_var 8) pd_int (nomark _)) (pd_var 6) (pd_cut sl_cut (pd_callC c__law_word hr (pda_cons (pd_var 3) (pda_cons pd_int (pda_cons (pd_var 4) pda_nil)))) pdo_none (pdo_some (pd_callC c__law_draw hr (pda_cons (pd_var 3) (pda_cons pd_int pda_nil)))))))
    (pdss_cons (pds_set 9 sc_law.nd (pd_dgetN hr.units (pd_var 5) (pd_callTy cb_tuple T.b_tuple (by decide +kernel) (pda_cons (pd_callC c__law_strip hr (pda_cons (pd_var 7) (pda_cons (pd_var 4) pda_nil))) pda_nil))))
    (pdss_one (pds_if (pd_tnot (pd_tru (pd_callC c__law_same hr (pda_cons (pd_lst (pda_cons (pd_callC c_least_word hr (pda_cons (pd_var 7) (pda_cons (pd_var 4) pda_nil))) (pda_cons (pd_callC2 k_least_word_0_most_word hr (pdk_cons (pd_var 4) (pdk_cons (pd_var 7) pdk_nil))) pda_nil))) (pda_cons (pd_lst (pda_cons (pd_var 9) (pda_cons (pd_var 9) pda_nil))) pda_nil))))) (pdss_one (pds_ret pd_bl)) pdss_nil)))))))))))
    (pdss_one (pds_ret pd_bl))))
theorem ok_law {P : Program} {wo : World} {K : PySem.W.Frag} {mg : Str → Option Value} {base : Heap} {f : Addr} {fd : FuncData} (T : Fx K mg) (F : FnP K "law" s_law f fd) (c__law_folded : Cal P wo K mg base 1 "_law_folded" ["_law_script", "_law_count"] sp__law_folded) (c__law_tape : Cal P wo K mg base 1 "_law_tape" ["_law_script", "_law_k"] sp__law_tape) (c__law_draw : Cal P wo K mg base 1 "_law_draw" ["_law_tape_here", "_law_count"] sp__law_draw) (c__law_firsts : Cal P wo K mg base 3 "_law_firsts" ["_law_high"] sp__law_firsts) (c__law_word : Cal P wo K mg base 3 "_law_word" ["_law_tape_here", "_law_count", "_law_high"] sp__law_word) (c__law_strip : Cal P wo K mg base 2 "_law_strip" ["_law_row", "_law_high"] sp__law_strip) (c__law_same : Cal P wo K mg base 5 "_law_same" ["_law_found", "_law_due"] (sp__law_same 5)) (c_least_word : Cal P wo K mg base 6 "least_word" ["word", "most"] sp_least_word) (k_least_word_0_most_word : Calk P wo K mg base 6 "least_word" ["word", "most"] sp_least_word 0 ["most", "word"] [1, 0]) : FnG P wo K mg base CX0 7 f fd ["_law_script"] (spD K sp_law) :=
  fnD false F sc_law len_law (fun cdv A outer s H E hr => d_law T c__law_folded c__law_tape c__law_draw c__law_firsts c__law_word c__law_strip c__law_same c_least_word k_least_word_0_most_word hr) p_law
def q_lighter : He.DefD := ⟨("lighter", none), "lighter", "lighter", defArgs s_lighter, defBody s_lighter, defScope s_lighter, [], []⟩
def q_laid_on : He.DefD := ⟨("laid_on", none), "laid_on", "laid_on", defArgs s_laid_on, defBody s_laid_on, defScope s_laid_on, [], []⟩
def q_fall : He.DefD := ⟨("fall", none), "fall", "fall", defArgs s_fall, defBody s_fall, defScope s_fall, [], []⟩
def q_falls : He.DefD := ⟨("falls", none), "falls", "falls", defArgs s_falls, defBody s_falls, defScope s_falls, [], []⟩
def q_spot_of : He.DefD := ⟨("spot_of", none), "spot_of", "spot_of", defArgs s_spot_of, defBody s_spot_of, defScope s_spot_of, [], []⟩
def q_strip : He.DefD := ⟨("strip", none), "strip", "strip", defArgs s_strip, defBody s_strip, defScope s_strip, [], []⟩
def q_strip_of : He.DefD := ⟨("strip_of", none), "strip_of", "strip_of", defArgs s_strip_of, defBody s_strip_of, defScope s_strip_of, [], []⟩
def q_least_word : He.DefD := ⟨("least_word", none), "least_word", "least_word", defArgs s_least_word, defBody s_least_word, defScope s_least_word, [], []⟩
def q__law_tape : He.DefD := ⟨("_law_tape", none), "_law_tape", "_law_tape", defArgs s__law_tape, defBody s__law_tape, defScope s__law_tape, [], []⟩
def q__law_draw : He.DefD := ⟨("_law_draw", none), "_law_draw", "_law_draw", defArgs s__law_draw, defBody s__law_draw, defScope s__law_draw, [], []⟩
def q__law_folded : He.DefD := ⟨("_law_folded", none), "_law_folded", "_law_folded", defArgs s__law_folded, defBody s__law_folded, defScope s__law_folded, [], []⟩
def q__law_same : He.DefD := ⟨("_law_same", none), "_law_same", "_law_same", defArgs s__law_same, defBody s__law_same, defScope s__law_same, [], []⟩
def q__law_weight : He.DefD := ⟨("_law_weight", none), "_law_weight", "_law_weight", defArgs s__law_weight, defBody s__law_weight, defScope s__law_weight, [], []⟩
def q__law_word : He.DefD := ⟨("_law_word", none), "_law_word", "_law_word", defArgs s__law_word, defBody s__law_word, defScope s__law_word, [], []⟩
def q__law_fallen : He.DefD := ⟨("_law_fallen", none), "_law_fallen", "_law_fallen", defArgs s__law_fallen, defBody s__law_fallen, defScope s__law_fallen, [], []⟩
def q__law_strip : He.DefD := ⟨("_law_strip", none), "_law_strip", "_law_strip", defArgs s__law_strip, defBody s__law_strip, defScope s__law_strip, [], []⟩
def q__law_then : He.DefD := ⟨("_law_then", none), "_law_then", "_law_then", defArgs s__law_then, defBody s__law_then, defScope s__law_then, [], []⟩
def q__law_firsts : He.DefD := ⟨("_law_firsts", none), "_law_firsts", "_law_firsts", defArgs s__law_firsts, defBody s__law_firsts, defScope s__law_firsts, [], []⟩
def q_law : He.DefD := ⟨("law", none), "law", "law", defArgs s_law, defBody s_law, defScope s_law, [], []⟩
def fn : List He.DefD := [q_lighter, q_laid_on, q_fall, q_falls, q_spot_of, q_strip, q_strip_of, q_least_word, q__law_tape, q__law_draw, q__law_folded, q__law_same, q__law_weight, q__law_word, q__law_fallen, q__law_strip, q__law_then, q__law_firsts, q_law]
def fa : List He.Fa := [.glo "lighter", .glo "laid_on", .glo "fall", .glo "falls", .glo "spot_of", .glo "strip", .glo "strip_of", .glo "least_word", .glo "_law_tape", .glo "_law_draw", .glo "_law_folded", .glo "_law_same", .glo "_law_weight", .glo "_law_word", .glo "_law_fallen", .glo "_law_strip", .glo "_law_then", .glo "_law_firsts", .glo "law", .str "LEFT" "left", .str "RIGHT" "right", .free "abs", .free "range", .free "tuple", .free "len", .free "int", .free "list", .free "enumerate", .free "isinstance", .free "all", .free "zip", .free "str", .free "bool", .free "min"]
def ex : List (PySem.W.Frag → Bool) := []
abbrev R : PySem.W.OpenRow := PySem.W.OpenLaw.row PySem.Challenge.rw_panfalls_k39_whole_least_words
abbrev hk : PySem.W.Hook := hookX 4 ex fa fn
def ob (s : PySem.W.SharedT) : AlX := obsXG 4 ex fa fn (HandSHeadRun.getT s)
theorem ob_eq (s : PySem.W.SharedT) : ob s = hk.obs s.abs := obsXG_eq (HandSHeadRun.getT_eq s)
def lo0 : List Str := ["LEFT", "RIGHT", "lighter", "laid_on", "fall", "falls", "spot_of", "strip", "strip_of", "least_word", "_law_tape", "_law_draw", "_law_folded", "_law_same", "_law_weight", "_law_word", "_law_fallen", "_law_strip", "_law_then", "_law_firsts"]
def loose : List Str := lo0
theorem run (w : World) : HandSHeadRun.RunEq R (PySem.W.view R.prog [23]) hk ob 1840 loose w := by
  intro os
  kernel_rfl
theorem facts {P : Program} {wo : World} {K : PySem.W.Frag} {h : Heap} {mg : Str → Option Value} {fx : Addr} (X : K.In h) (G : h.Ns mainGlobals mg) (hfa : mg ("law" : Str) = some (.ref fx)) (c : SaysX ex fa fn K) :
    ∃ fd : FuncData, (∀ (s : Shared) (v : Value), BindsTo s fd ⟨[v], []⟩ [("_law_script", v)]) ∧ ∀ base : Heap, K.In base → base.Ns mainGlobals mg → FnG P wo K mg base CX0 7 fx fd ["_law_script"] (spD K spLaw) := by
  obtain ⟨fd0, F0⟩ := c.d.def_ 0 (d := q_lighter) rfl
  obtain ⟨fd1, F1⟩ := c.d.def_ 1 (d := q_laid_on) rfl
  obtain ⟨fd2, F2⟩ := c.d.def_ 2 (d := q_fall) rfl
  obtain ⟨fd3, F3⟩ := c.d.def_ 3 (d := q_falls) rfl
  obtain ⟨fd4, F4⟩ := c.d.def_ 4 (d := q_spot_of) rfl
  obtain ⟨fd5, F5⟩ := c.d.def_ 5 (d := q_strip) rfl
  obtain ⟨fd6, F6⟩ := c.d.def_ 6 (d := q_strip_of) rfl
  obtain ⟨fd7, F7⟩ := c.d.def_ 7 (d := q_least_word) rfl
  obtain ⟨fd8, F8⟩ := c.d.def_ 8 (d := q__law_tape) rfl
  obtain ⟨fd9, F9⟩ := c.d.def_ 9 (d := q__law_draw) rfl
  obtain ⟨fd10, F10⟩ := c.d.def_ 10 (d := q__law_folded) rfl
  obtain ⟨fd11, F11⟩ := c.d.def_ 11 (d := q__law_same) rfl
  obtain ⟨fd12, F12⟩ := c.d.def_ 12 (d := q__law_weight) rfl
  obtain ⟨fd13, F13⟩ := c.d.def_ 13 (d := q__law_word) rfl
  obtain ⟨fd14, F14⟩ := c.d.def_ 14 (d := q__law_fallen) rfl
  obtain ⟨fd15, F15⟩ := c.d.def_ 15 (d := q__law_strip) rfl
  obtain ⟨fd16, F16⟩ := c.d.def_ 16 (d := q__law_then) rfl
  obtain ⟨fd17, F17⟩ := c.d.def_ 17 (d := q__law_firsts) rfl
  obtain ⟨fd18, F18⟩ := c.d.def_ 18 (d := q_law) rfl
  have T : Fx K mg := ⟨He.str_ok X G (c.d.fact 19 rfl), He.str_ok X G (c.d.fact 20 rfl), He.free_ok X G (c.d.fact 21 (f := .free "abs") rfl), He.free_ok X G (c.d.fact 22 (f := .free "range") rfl), He.free_ok X G (c.d.fact 23 (f := .free "tuple") rfl), He.free_ok X G (c.d.fact 24 (f := .free "len") rfl), He.free_ok X G (c.d.fact 25 (f := .free "int") rfl), He.free_ok X G (c.d.fact 26 (f := .free "list") rfl), He.free_ok X G (c.d.fact 27 (f := .free "enumerate") rfl), He.free_ok X G (c.d.fact 28 (f := .free "isinstance") rfl), He.free_ok X G (c.d.fact 29 (f := .free "all") rfl), He.free_ok X G (c.d.fact 30 (f := .free "zip") rfl), He.free_ok X G (c.d.fact 31 (f := .free "str") rfl), He.free_ok X G (c.d.fact 32 (f := .free "bool") rfl), He.free_ok X G (c.d.fact 33 (f := .free "min") rfl)⟩
  have e := hfa.symm.trans (He.glo_ok X G (c.d.fact 18 (f := .glo "law") rfl))
  cases e
  have b := FunD.bindsA (ps := ["_law_script"]) F18 fun _ _ _ _ _ _ us hl => match us, hl with | [_], _ => rfl
  refine ⟨fd18, fun s v => b s [v] rfl, fun base _ _ => ?_⟩
  have o_lighter := ok_lighter (P := P) (wo := wo) (base := base) T F0 
  have c_lighter : Cal P wo K mg base 1 "lighter" ["standing"] sp_lighter := ⟨_, _, (He.glo_ok X G (c.d.fact 0 (f := .glo "lighter") rfl)), F0.kp, o_lighter, F0.bindsN (fun _ _ _ _ _ _ us hl => match us, hl with | [_], _ => rfl)⟩
  have o_laid_on := ok_laid_on (P := P) (wo := wo) (base := base) T F1 
  have c_laid_on : Cal P wo K mg base 1 "laid_on" ["standing", "side", "weight"] sp_laid_on := ⟨_, _, (He.glo_ok X G (c.d.fact 1 (f := .glo "laid_on") rfl)), F1.kp, o_laid_on, F1.bindsN (fun _ _ _ _ _ _ us hl => match us, hl with | [_, _, _], _ => rfl)⟩
  have o_fall := ok_fall (P := P) (wo := wo) (base := base) T F2 c_lighter c_laid_on
  have c_fall : Cal P wo K mg base 2 "fall" ["standing", "weight"] sp_fall := ⟨_, _, (He.glo_ok X G (c.d.fact 2 (f := .glo "fall") rfl)), F2.kp, o_fall, F2.bindsN (fun _ _ _ _ _ _ us hl => match us, hl with | [_, _], _ => rfl)⟩
  have o_falls := ok_falls (P := P) (wo := wo) (base := base) T F3 c_fall
  have c_falls : Cal P wo K mg base 3 "falls" ["standing", "word"] sp_falls := ⟨_, _, (He.glo_ok X G (c.d.fact 3 (f := .glo "falls") rfl)), F3.kp, o_falls, F3.bindsN (fun _ _ _ _ _ _ us hl => match us, hl with | [_, _], _ => rfl)⟩
  have o_spot_of := ok_spot_of (P := P) (wo := wo) (base := base) T F4 c_falls
  have c_spot_of : Cal P wo K mg base 4 "spot_of" ["word", "size"] sp_spot_of := ⟨_, _, (He.glo_ok X G (c.d.fact 4 (f := .glo "spot_of") rfl)), F4.kp, o_spot_of, F4.bindsN (fun _ _ _ _ _ _ us hl => match us, hl with | [_, _], _ => rfl)⟩
  have o_strip := ok_strip (P := P) (wo := wo) (base := base) T F5 c_spot_of
  have c_strip : Cal P wo K mg base 5 "strip" ["word", "most"] sp_strip := ⟨_, _, (He.glo_ok X G (c.d.fact 5 (f := .glo "strip") rfl)), F5.kp, o_strip, F5.bindsN (fun _ _ _ _ _ _ us hl => match us, hl with | [_, _], _ => rfl)⟩
  have o_strip_of := ok_strip_of (P := P) (wo := wo) (base := base) T F6 
  have c_strip_of : Cal P wo K mg base 1 "strip_of" ["first", "second"] sp_strip_of := ⟨_, _, (He.glo_ok X G (c.d.fact 6 (f := .glo "strip_of") rfl)), F6.kp, o_strip_of, F6.bindsN (fun _ _ _ _ _ _ us hl => match us, hl with | [_, _], _ => rfl)⟩
  have o_least_word := ok_least_word (P := P) (wo := wo) (base := base) T F7 c_strip c_strip_of
  have c_least_word : Cal P wo K mg base 6 "least_word" ["word", "most"] sp_least_word := ⟨_, _, (He.glo_ok X G (c.d.fact 7 (f := .glo "least_word") rfl)), F7.kp, o_least_word, F7.bindsN (fun _ _ _ _ _ _ us hl => match us, hl with | [_, _], _ => rfl)⟩
  have k_least_word_0_most_word : Calk P wo K mg base 6 "least_word" ["word", "most"] sp_least_word 0 ["most", "word"] [1, 0] := ⟨_, _, (He.glo_ok X G (c.d.fact 7 (f := .glo "least_word") rfl)), F7.kp, o_least_word, kbn_of 0 ["most", "word"] [1, 0] F7 (fun _ _ _ _ _ _ us ws h1 h2 => match us, ws, h1, h2 with | [], [_, _], _, _ => rfl)⟩
  have o__law_tape := ok__law_tape (P := P) (wo := wo) (base := base) T F8 
  have c__law_tape : Cal P wo K mg base 1 "_law_tape" ["_law_script", "_law_k"] sp__law_tape := ⟨_, _, (He.glo_ok X G (c.d.fact 8 (f := .glo "_law_tape") rfl)), F8.kp, o__law_tape, F8.bindsN (fun _ _ _ _ _ _ us hl => match us, hl with | [_, _], _ => rfl)⟩
  have o__law_draw := ok__law_draw (P := P) (wo := wo) (base := base) T F9 
  have c__law_draw : Cal P wo K mg base 1 "_law_draw" ["_law_tape_here", "_law_count"] sp__law_draw := ⟨_, _, (He.glo_ok X G (c.d.fact 9 (f := .glo "_law_draw") rfl)), F9.kp, o__law_draw, F9.bindsN (fun _ _ _ _ _ _ us hl => match us, hl with | [_, _], _ => rfl)⟩
  have o__law_folded := ok__law_folded (P := P) (wo := wo) (base := base) T F10 
  have c__law_folded : Cal P wo K mg base 1 "_law_folded" ["_law_script", "_law_count"] sp__law_folded := ⟨_, _, (He.glo_ok X G (c.d.fact 10 (f := .glo "_law_folded") rfl)), F10.kp, o__law_folded, F10.bindsN (fun _ _ _ _ _ _ us hl => match us, hl with | [_, _], _ => rfl)⟩
  have o__law_same := ok__law_same (P := P) (wo := wo) (base := base) T F11 (He.glo_ok X G (c.d.fact 11 (f := .glo "_law_same") rfl))  5
  have c__law_same : Cal P wo K mg base 5 "_law_same" ["_law_found", "_law_due"] (sp__law_same 5) := ⟨_, _, (He.glo_ok X G (c.d.fact 11 (f := .glo "_law_same") rfl)), F11.kp, o__law_same, F11.bindsN (fun _ _ _ _ _ _ us hl => match us, hl with | [_, _], _ => rfl)⟩
  have o__law_weight := ok__law_weight (P := P) (wo := wo) (base := base) T F12 c__law_draw
  have c__law_weight : Cal P wo K mg base 2 "_law_weight" ["_law_tape_here", "_law_high"] sp__law_weight := ⟨_, _, (He.glo_ok X G (c.d.fact 12 (f := .glo "_law_weight") rfl)), F12.kp, o__law_weight, F12.bindsN (fun _ _ _ _ _ _ us hl => match us, hl with | [_, _], _ => rfl)⟩
  have o__law_word := ok__law_word (P := P) (wo := wo) (base := base) T F13 c__law_draw c__law_weight
  have c__law_word : Cal P wo K mg base 3 "_law_word" ["_law_tape_here", "_law_count", "_law_high"] sp__law_word := ⟨_, _, (He.glo_ok X G (c.d.fact 13 (f := .glo "_law_word") rfl)), F13.kp, o__law_word, F13.bindsN (fun _ _ _ _ _ _ us hl => match us, hl with | [_, _, _], _ => rfl)⟩
  have o__law_fallen := ok__law_fallen (P := P) (wo := wo) (base := base) T F14 
  have c__law_fallen : Cal P wo K mg base 1 "_law_fallen" ["_law_stood", "_law_grains"] sp__law_fallen := ⟨_, _, (He.glo_ok X G (c.d.fact 14 (f := .glo "_law_fallen") rfl)), F14.kp, o__law_fallen, F14.bindsN (fun _ _ _ _ _ _ us hl => match us, hl with | [_, _], _ => rfl)⟩
  have o__law_strip := ok__law_strip (P := P) (wo := wo) (base := base) T F15 c__law_fallen
  have c__law_strip : Cal P wo K mg base 2 "_law_strip" ["_law_row", "_law_high"] sp__law_strip := ⟨_, _, (He.glo_ok X G (c.d.fact 15 (f := .glo "_law_strip") rfl)), F15.kp, o__law_strip, F15.bindsN (fun _ _ _ _ _ _ us hl => match us, hl with | [_, _], _ => rfl)⟩
  have o__law_then := ok__law_then (P := P) (wo := wo) (base := base) T F16 
  have c__law_then : Cal P wo K mg base 1 "_law_then" ["_law_here", "_law_step"] sp__law_then := ⟨_, _, (He.glo_ok X G (c.d.fact 16 (f := .glo "_law_then") rfl)), F16.kp, o__law_then, F16.bindsN (fun _ _ _ _ _ _ us hl => match us, hl with | [_, _], _ => rfl)⟩
  have o__law_firsts := ok__law_firsts (P := P) (wo := wo) (base := base) T F17 c__law_strip c__law_then
  have c__law_firsts : Cal P wo K mg base 3 "_law_firsts" ["_law_high"] sp__law_firsts := ⟨_, _, (He.glo_ok X G (c.d.fact 17 (f := .glo "_law_firsts") rfl)), F17.kp, o__law_firsts, F17.bindsN (fun _ _ _ _ _ _ us hl => match us, hl with | [_], _ => rfl)⟩
  exact ok_law T F18 c__law_folded c__law_tape c__law_draw c__law_firsts c__law_word c__law_strip c__law_same c_least_word k_least_word_0_most_word
end LW
set_option maxHeartbeats 0
open PySem PySem.W PySem.Calls PyProof.Rows
theorem PySem.Challenge.cw_panfalls_k39_whole_least_words_holds : PySem.Challenge.rw_panfalls_k39_whole_least_words.Holds := by
  w_on; o_law
  refine HandSHeadRun.head_any (r := OpenLaw.row PySem.Challenge.rw_panfalls_k39_whole_least_words) (q := view (OpenLaw.row PySem.Challenge.rw_panfalls_k39_whole_least_words).prog [23]) (H := LW.hk) (ob := LW.ob) (M := 1840) (loose := LW.loose) (d := HandSHeadRun.topDef (OpenLaw.row PySem.Challenge.rw_panfalls_k39_whole_least_words).prog 23) (kwd := []) LW.ob_eq
    (by kernel_rfl) (fun s => by kernel_rfl) LW.run (by kernel_rfl) (by kernel_rfl) (by kernel_rfl) (by rfl) (by first | assumption | decide +kernel) (by decide +kernel) ⟨rfl, rfl, rfl, rfl, rfl, by decide +kernel⟩ ?hw ?hc
  case hw => w_witness2
  case hc =>
    refine DL.law_end (l := PySem.Challenge.rw_panfalls_k39_whole_least_words) (k := 7) (x := "_law_script") rfl (by kernel_rfl) ⟨⟨rfl, by decide, by decide⟩, rfl⟩ ?F
    intro w mg fa h Y G hmg0
    obtain ⟨K, KX, c⟩ := Y
    have hmg : mg ("law" : PySem.Str) = some (.ref fa) := by
      have e : (HandSHeadRun.topDef (OpenLaw.row PySem.Challenge.rw_panfalls_k39_whole_least_words).prog 23).name = ("law" : PySem.Str) := by kernel_rfl
      rw [← e]
      exact hmg0
    obtain ⟨fd, hb, hF⟩ := LW.facts (P := (PySem.Challenge.rw_panfalls_k39_whole_least_words).prog) (wo := w) KX G hmg c
    exact ⟨K, fd, KX, hb, hF⟩
