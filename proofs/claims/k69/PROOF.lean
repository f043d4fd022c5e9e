import PyProof.Rows.All
import Wide.All
import OpenK.AllK
import Wide.FinOn
import HandS.ForMost
import HandS.Wide
import HandS.Defaults
import HandS.Ends
import HandS.Zip
import HandS.Walk
import HandS.IsInst
import HandS.TupAny
import HandS.TupMul
import HandS.Conv
import HandS.HeadHook1
import KE.KDictKeyed
import KE.KDictDisplayH
import KE.KeyNested
import KE.GoesEnum
import HandS.HeadEnd
import HandS.EndBits
import HandS.Head0
import HandS.Head1
import HandS.Head2
import HandS.HeadHook2
import Lean
import KE.KTupSum
import HandS.Style
import KE.GoesEnumKw
import HandS.SortInts
import HandS.SetFor
import HandS.Strs
import HandS.WideBits
import HandS.RevRange
import HandS.Deep
import HandS.NoneIn
import HandS.TupSets
import HandS.RaiseMore
import HandS.FStrTup
import PyProof.ReprText
import PyProof.ReprRoads
import PyProof.FitsInt
import PyProof.StrLawsRepr
import HandS.Dict
import HandS.SetKeys
import HandS.DictTup
import KE.KDictCopyH
import KE.KDictSum
import HandS.More
import HandS.Set
import HandS.Text
import KE.DataFind
import HandS.SortRule
import HandS.SetBool
import HandS.SetTxt0
import HandS.DictComp
import HandS.MakeKwOnly
import KE.SortCalls
import KE.KSortTupAny
import HandS.Comp
import PyProof.DictUpdate
import KE.BitLaws
import PyProof.MaxThree
import HandS.Iter
import PyProof.StrLawsIn
import KE.KStateDown
import PySem.Challenge.RW_panfalls_k69_whole_no_tree_has_fewer
set_option Elab.async false
set_option linter.all false
set_option maxRecDepth 100000
set_option maxHeartbeats 4000000
/-! Promises of defs where no repr is under way. -/
namespace DL
open PySem PySem.Spec PyProof.Rows L2

/-- room, and nothing is being shown -/
structure RoomG (k : Nat) (A : Around) : Prop extends Room k A where
  gd : A.guards = some []
theorem RoomG.mono {j k : Nat} {A : Around} (r : RoomG k A) (le : j ≤ k) : RoomG j A := ⟨r.toRoom.mono le, r.gd⟩
theorem RoomG.deeper {k : Nat} {A : Around} (r : RoomG (k + 1) A) (ev : PySem.Env) : RoomG k (A.deeper ev) := ⟨r.toRoom.deeper ev, r.gd⟩

/-- a def's promise, given only where nothing is being shown -/
structure FnG (pr : Program) (wo : World) (fr : PySem.W.Frag) (mg : Str → Option Value) (ba : Heap) (cx : CXT) (k : Nat) (f : Addr) (fd : FuncData) (ps : List Str) (sp : Sp) : Prop where
  len : ∀ xs H q x, sp xs H q x → xs.length = ps.length
  run : ∀ (A : Around) (ou : List PySem.Env) (s : Shared) (H : Hp) (ar : Args) (us : List Value) (xs : List V) (q : VK) (x : XK), RoomG k A →
    Env0 pr wo fr mg ba A ou s H → BindsTo s fd ar (ps.zip us) → Vals xs us → sp xs H q x → codeAny (model pr wo) A (.call (.ref f) ar) (CR cx ou pr wo H s q x) s
section
variable {pr : Program} {wo : World} {fr : PySem.W.Frag} {mg : Str → Option Value} {ba : Heap} {cx : CXT} {j k : Nat} {f : Addr} {fd : FuncData} {ps : List Str} {sp : Sp}
theorem FnG.mono (g : FnG pr wo fr mg ba cx j f fd ps sp) (le : j ≤ k) : FnG pr wo fr mg ba cx k f fd ps sp :=
  ⟨g.len, fun A ou s H ar us xs q x r => g.run A ou s H ar us xs q x (r.mono le)⟩

/-- a call of such a def -/
theorem run_fnG {X : Cx} {pins : List (Addr × Obj)} {σ : L2.St} {H : Hp} {s : Shared} {q : VK} {x : XK} {us ws : List Value} {kw : List (Str × Value)} {xs : List V} (g : FnG X.prog X.w X.K X.mg X.base cx k f fd ps sp) (r : RoomG k X.A)
    (pa : Passes cx X x) (I : Inv X pins σ H s) (bi : BindsTo s fd ⟨us, kw⟩ (ps.zip ws)) (rv : Vals xs ws) (h : sp xs H q x) : wpAny (model X.prog X.w) X.A (call (.ref f) us kw) (EP X pins σ q) X.xe s := by
  refine wpAny_call (codeAny_mono (g.run X.A X.stack s H ⟨us, kw⟩ ws xs q x r I.env0 bi rv h) fun out s2 z => ?_)
  match out, z with
  | .error e, z => exact pa pins σ H s e s2 I z
  | .ok (.ret u), z => exact I.after z
  | .ok .next, z => exact z.elim
  | .ok .brk, z => exact z.elim
  | .ok .cont, z => exact z.elim

/-- a def by its body -/
theorem fnG_body {N : List Str} {x qual : Str} {params : Arguments} {body : List Stmt} {scope : Scope} {kws : List (Str × V)} (F : FunD fr x qual params body scope [] kws f fd) (sc : FnScope N ps scope) (ln : ∀ xs H q y, sp xs H q y → xs.length = ps.length)
    (hb : ∀ (cd : Value) (A : Around) (ou : List PySem.Env) (s : Shared) (H : Hp) (xs : List V) (q : VK) (y : XK), RoomG k (A.deeper (envOfC qual scope s.heap.objs.size f cd)) → sp xs H q y →
      ∃ t, PSs (cxOf cx pr wo fr mg ba N qual scope f cd A ou s H y) body t ∧ t { nx := fun _ H2 => q .non H2, rt := q } (start N xs) H) : FnG pr wo fr mg ba cx (k + 1) f fd ps sp := by
  obtain ⟨oc, od, dV, kV, doc, pm, an, cd, ct, osl, rfl, lk, hcd, _, _⟩ := F.ex
  refine ⟨ln, fun A ou s H ar us xs q y hr e0 bi rv hsp => ?_⟩
  have hl := ln _ _ _ _ hsp
  have inK : fr.In s.heap := e0.mod.kin.keeps fun b o z => (e0.bs b o z).1
  have nl : s.heap.NoLimit := e0.mod.nolimit.keeps fun b o z => (e0.bs b o z).1
  have kinds : ∀ z ∈ ps.zip us, scope.names.lookup z.1 = some .local ∨ (scope.names.lookup z.1 = some .cell ∧ ((cellsFrom (s.heap.objs.size + 1) scope.names []).lookup z.1).isSome = true) := by
    rintro ⟨nm, v⟩ hz
    rcases sc.par nm (List.of_mem_zip hz).1 with a | a
    · exact .inl a
    · exact .inr ⟨a, PySem.W.cellsFrom_some _ _ _ (.inl a)⟩
  refine codeAny_call_function hr.toRoom.depth (inK _ _ lk) rfl sc.co sc.gen rfl (PySem.W.codeRec_of inK hcd) (bi _ _ _ _ ?_)
  refine wpAny_newFunctionEnv_cells sc.kind kinds fun ev hev s1 xx => ?_
  subst hev
  refine ⟨nl.keeps xx.toInCall.keep, codeAny_func ?_⟩
  obtain ⟨t, ht, hq⟩ := hb cd A ou s H xs q y (hr.deeper _) hsp
  have J : Inv (cxOf cx pr wo fr mg ba N qual scope f cd A ou s H y) [] (start N xs) H s1 := inv_start sc hr.hd e0 hl rv xx
  refine wpAny_mono (ht.run [] s1 (start N xs) H _ J hq) (fun fl s2 hs => ?_) fun e s2 hs => hs
  match fl, hs with
  | .ret u, ⟨v, σ2, H2, J2, r2, q2⟩ => exact ⟨v, H2, J2.os, J2.bare, J2.base, J2.hok, r2, q2⟩
  | .next, ⟨σ2, H2, J2, q2⟩ => exact ⟨V.non, H2, J2.os, J2.bare, J2.base, J2.hok, (rfl : Value.none = Value.none), q2⟩
  | .brk, ⟨_, _, _, z⟩ => exact z.elim
  | .cont, ⟨_, _, _, z⟩ => exact z.elim

/-- the law at the heap behind the top -/
theorem law_callG {fa a : Addr} {x : Str} {s₁ : Shared} {vs : List Value} {ns : List Int} {mb : Str → Option Value}
    (inK : fr.In s₁.heap) (nsg : s₁.heap.Ns mainGlobals mg) (nsb : s₁.heap.Ns builtinsNs mb) (boot : ∀ z : Str, z ≠ "__name__" → mb z = bootBuiltins z) (nolim : s₁.heap.NoLimit) (gens : s₁.gens = #[])
    (scr : s₁.heap.get? a = some { cls := .type "list", data := .seq vs.toArray }) (are : IntsAre vs ns) (few : ns.length ≤ sizeLine) (hr : RoomG k callerA)
    (F : ∀ base : Heap, fr.In base → base.Ns mainGlobals mg → FnG pr wo fr mg base cx k fa fd [x] sp) (bnd : ∀ (s : Shared) (u : Value), BindsTo s fd ⟨[u], []⟩ [(x, u)])
    (hsp : ∀ H : Hp, Only H → SqL fr H a (ns.map V.int) → sp [.ref a] H (fun v _ => v = .bl true) fun _ _ _ => False)
    (hcx : ∀ H e s2, cx [] H s₁ (fun _ _ _ => False) e s2 → False) :
    codeAny (model pr wo) callerA (.call (.ref fa) ⟨[.ref a], []⟩) (fun r s2 => r = .ok (.ret (.bool true)) ∧ OldK s₁.heap s2.heap ∧ s2.os = s₁.os ∧ AllBare s2.gens) s₁ := by
  have same := vals_ints are
  have many := are.length
  have go : ∀ G : Hp, Only G → SqL fr G a (ns.map V.int) → HOk pr wo G s₁.heap → (∀ b, G b ≠ none → b = a) → (G a ≠ none → fr.lookup a = none) →
      codeAny (model pr wo) callerA (.call (.ref fa) ⟨[.ref a], []⟩) (fun r s2 => r = .ok (.ret (.bool true)) ∧ OldK s₁.heap s2.heap ∧ s2.os = s₁.os ∧ AllBare s2.gens) s₁ := by
    intro G only sq hok mine notK
    have seen : ∀ {b : Addr} {o : Obj}, s₁.heap.get? b = some o → G b = none → (hidT s₁.heap G).get? b = some o := fun z n => hidT_get z n
    have noDict : ∀ {b : Addr} {o : Obj} {es : Array DictEntry} {n : Nat}, s₁.heap.get? b = some o → o.data = .dict es n → G b = none := by
      intro b o es n z dz
      by_cases c : G b = none
      · exact c
      · rw [mine b c, scr] at z
        cases z
        cases (show Data.seq vs.toArray _ = Data.dict es n from dz)
    have ns2 : ∀ {b : Addr} {m : Str → Option Value}, s₁.heap.Ns b m → (hidT s₁.heap G).Ns b m := fun ⟨o, es, n, z, dz, rest⟩ => ⟨o, es, n, seen z (noDict z dz), dz, rest⟩
    have inB : fr.In (hidT s₁.heap G) := by
      intro b o z
      refine seen (inK b o z) ?_
      by_cases c : G b = none
      · exact c
      · have hba := mine b c
        subst hba
        rw [notK c] at z
        cases z
    obtain ⟨ml, l1, l2⟩ := nolim
    have md : Mod fr mg (hidT s₁.heap G) := ⟨inB, ns2 nsg, ⟨mb, ns2 nsb, boot⟩, ⟨ml, ns2 l1, l2⟩⟩
    have e0 : Env0 pr wo fr mg (hidT s₁.heap G) callerA [] s₁ G := ⟨rfl, md, fun b o z => of_hidT z, Nat.le_of_eq (hidT_size _ _), trivial, fun b hb => (nomatch (show b ∈ ([] : List Addr) from hb)), hok, .of_eq gens⟩
    refine codeAny_mono ((F _ inB (ns2 nsg)).run callerA [] s₁ G ⟨[.ref a], []⟩ [.ref a] [.ref a] _ _ hr e0 (bnd s₁ (.ref a)) (.cons rfl .nil) (hsp G only sq)) fun out s2 z => ?_
    match out, z with
    | .error e, z => exact (hcx G e s2 z).elim
    | .ok .next, z => exact z.elim
    | .ok .brk, z => exact z.elim
    | .ok .cont, z => exact z.elim
    | .ok (.ret u), ⟨v, G2, os, bare, un, hok2, rv, qv⟩ =>
      have qv2 : v = .bl true := qv
      subst qv2
      cases (show u = Value.bool true from rv)
      refine ⟨rfl, OldK.of_keep fun b o z => ?_, os, bare⟩
      cases c : G b with
      | none => exact un.keep b o z c (fun y => nomatch (show b ∈ ([] : List Addr) from y)) (by simp)
      | some t =>
        rcases only b with y | ⟨ob, ys, y⟩
        · rw [c] at y
          cases y
        · obtain ⟨y1, _⟩ := hok b _ y
          obtain ⟨y2, _⟩ := hok2 b _ (un.frzs b ob _ y)
          rw [z] at y1
          cases y1
          exact y2
  cases held : fr.lookup a with
  | some o =>
    have z := inK a o held
    rw [scr] at z
    cases z
    exact go (fun _ => none) (fun _ => .inl rfl) (.inr ⟨_, vs.toArray, _, held, rfl, rfl, rfl, by rw [List.size_toArray, many]; exact few, by simpa using same⟩) (fun b u y => nomatch (show (none : Option HO) = some u from y)) (fun b y => absurd rfl y) fun y => absurd rfl y
  | none =>
    refine go (fun b => if b = a then some (.frz { cls := .type "list", data := .seq vs.toArray } (.lst (ns.map V.int))) else none) (fun b => ?_) (.inl (.inr ⟨{ cls := .type "list", data := .seq vs.toArray }, if_pos rfl⟩)) (fun b u y => ?_) (fun b y => ?_) fun _ => held
    · by_cases c : b = a
      · exact .inr ⟨_, _, if_pos c⟩
      · exact .inl (if_neg c)
    · by_cases c : b = a
      · cases (if_pos c).symm.trans y
        subst c
        exact ⟨scr, by rw [List.length_map]; exact few, vs, _, same, scr⟩
      · cases (if_neg c).symm.trans y
    · by_cases c : b = a
      · exact c
      · exact absurd (if_neg c) y
end
end DL

/-! The data layer: Python values as trees of data, mutable lists in a small store; readings without a heap. -/
namespace DL
open PySem PySem.Spec PyProof.Rows L2

/-- what an object of the store is, beside a list: a dict (its keys tuples or not), an instance of a class -/
inductive Kd where
  | b (t : Bool) | ins (c : Str)
  /-- a dict whose keys are tuples of numbers, truths, tuples; its entry: key, value, key, value .. -/
  | n
instance : Coe Bool Kd := ⟨.b⟩
inductive D where
  | non | bl (b : Bool) | int (i : Int) | str (x : Str) | lst (xs : List D) | klst (xs : List D) | tup (xs : List D) | obj (i : Nat)
  /-- a dict of the store, a frozen one; t: its keys are tuples. Its rows: .tup [key, value] -/
  | dic (t : Kd) (i : Nat) | fdic (t : Kd) (rows : List D)
  /-- a tuple of the module's head -/
  | gtup (xs : List D)

/-- a state of the frozen part and of the addresses of the store's lists -/
structure Wd where
  G : Hp
  as : List Addr
  /-- lists that are being made: nobody else sees them -/
  hid : List (Addr × List V) := []
  /-- which of the store's objects are dicts (keys tuples or not) -/
  dk : Addr → Option Kd := fun _ => none
  /-- dicts that are being walked: as they stand -/
  lk : Addr → Option (Obj × HO) := fun _ => none
abbrev Sto := List (List D)
abbrev Env := List (Option D)

/-- a key of a dict -/
def keyD : D → Option Key
  | .int i => some (.inl i)
  | .str x => some (.inr x)
  | _ => none
def keysD : List D → Option (List Key)
  | [] => some []
  | d :: r => match keyD d, keysD r with
    | some k, some ks => some (k :: ks)
    | _, _ => none
def tkeyD : D → Option (List Key)
  | .tup xs => keysD xs
  | _ => none
/-! keys that are tuples within tuples -/
mutual
def nkD : D → Option PySem.NestedKey
  | .non => some .none
  | .bl b => some (.num (if b = true then 1 else 0))
  | .int i => some (.num i)
  | .tup xs => match nkDs xs with
    | some ks => some (.tup ks)
    | none => none
  | .str _ | .lst _ | .klst _ | .obj _ | .dic _ _ | .fdic _ _ | .gtup _ => none
def nkDs : List D → Option (List PySem.NestedKey)
  | [] => some []
  | x :: r => match nkD x, nkDs r with
    | some k, some ks => some (k :: ks)
    | _, _ => none
end
/-- such a key -/
def nkT (d : D) : Option PySem.NestedKey := match d with
  | .tup _ => match nkD d with
    | some y => if y.depth ≤ 8 then some y else none
    | none => none
  | _ => none
/-- the keys of key, value, key, value .. -/
def nks : List D → Option (List PySem.NestedKey)
  | [] => some []
  | [_] => none
  | k :: _ :: r => match nkT k, nks r with
    | some y, some ys => some (y :: ys)
    | _, _ => none
mutual
def hN : PySem.NestedKey → Int
  | .none => reduceHash 0xFCA86420
  | .num i => hashInt i
  | .text _ => 0
  | .tup ks => reduceHash (Builtin.Tuple.tupleHashOf (hNs ks))
def hNs : List PySem.NestedKey → List Int
  | [] => []
  | k :: ks => hN k :: hNs ks
end
def entN : List PySem.NestedKey → List Value → List DictEntry
  | y :: ys, k :: u :: us => ⟨hN y, k, u⟩ :: entN ys us
  | _, _ => []
def NdRaw (h : Heap) (a : Addr) (ys : List PySem.NestedKey) (us : List Value) : Prop :=
  ∃ o es ep, h.get? a = some o ∧ o.ExactDict ∧ o.data = .dict es ep ∧ es.toList = entN ys us
/-- such a dict at a -/
def ndO (a : Addr) (ys : List PySem.NestedKey) (vs : List V) : HO := .ext fun h => ∃ us, Vals vs us ∧ NdRaw h a ys us ∧ (a == sysModules) = false ∧ ys.Nodup ∧ vs.length ≤ 2 * sizeLine
def okTy : List String := ["int", "bool", "str", "list", "tuple"]
/-- what of the text a class must have whose instances are handed about -/
structure ClsT (K : PySem.W.Frag) (c : Str) : Prop where
  cls : Cls K (He.ga K c)
  ha : PySem.W.findIn K (.ref (He.ga K c)) "__class__" = some (some (.builtin "object.__class__"))
  hn : PySem.W.specialIn K (.builtin "object.__class__") "__get__" = some (some (.builtin "getset_descriptor.__get__"))
  htk : PySem.W.takesIn K (.builtin "object.__class__") = some true
  hm : PySem.W.mroIn K (He.ga K c) (.type "object") = some true
  no : ∀ b ∈ okTy, PySem.W.kitOne K (.ref (He.ga K c)) (.type b) = some false
def KdT (K : PySem.W.Frag) : Kd → Prop
  | .b _ => True
  | .ins c => ClsT K c
  | .n => True
/-- rows as an instance's fields -/
def fsOf : List (Key × V) → List (Str × V)
  | [] => []
  | (.inr s, v) :: r => (s, v) :: fsOf r
  | (.inl _, _) :: r => fsOf r
mutual
def Rep (K : PySem.W.Frag) (w : Wd) : D → V → Prop
  | .non, v => v = .non
  | .bl b, v => v = .bl b
  | .int i, v => v = .int i
  | .str x, v => v = .str x
  | .lst xs, v => ∃ a vs, v = .ref a ∧ w.G a = some (.lst vs) ∧ Reps K w xs vs
  | .klst xs, v => ∃ a vs, v = .ref a ∧ SqL K w.G a vs ∧ Reps K w xs vs
  | .tup xs, v => ∃ a vs, v = .ref a ∧ w.G a = some (.tup vs) ∧ Reps K w xs vs
  | .gtup xs, v => ∃ a vs, v = .ref a ∧ SqT K w.G a vs ∧ Reps K w xs vs
  | .obj i, v => ∃ a, v = .ref a ∧ w.as[i]? = some a ∧ w.dk a = none
  | .dic t i, v => ∃ a, v = .ref a ∧ w.as[i]? = some a ∧ w.dk a = some t ∧ KdT K t
  | .fdic (.b false) rows, v => ∃ a kvs, v = .ref a ∧ w.G a = some (.dK kvs) ∧ kvs.length ≤ sizeLine ∧ RowsK K w rows kvs
  | .fdic (.b true) rows, v => ∃ a kvs, v = .ref a ∧ w.G a = some (.dT kvs) ∧ kvs.length ≤ sizeLine ∧ RowsT K w rows kvs
  | .fdic (.ins c) rows, v => ∃ a dx kvs, v = .ref a ∧ w.G a = some (.ins (He.ga K c) dx (fsOf kvs)) ∧ ClsT K c ∧ RowsK K w rows kvs
  | .fdic .n rows, v => ∃ a b ys vs, v = .ref a ∧ w.G a = some (ndO b ys vs) ∧ nks rows = some ys ∧ Reps K w rows vs
def RowsK (K : PySem.W.Frag) (w : Wd) : List D → List (Key × V) → Prop
  | [], kvs => kvs = []
  | .tup [k, d] :: ds, kvs => ∃ y v r, kvs = (y, v) :: r ∧ keyD k = some y ∧ Rep K w d v ∧ RowsK K w ds r
  | _ :: _, _ => False
def RowsT (K : PySem.W.Frag) (w : Wd) : List D → List (List Key × V) → Prop
  | [], kvs => kvs = []
  | .tup [k, d] :: ds, kvs => ∃ y v r, kvs = (y, v) :: r ∧ tkeyD k = some y ∧ Rep K w d v ∧ RowsT K w ds r
  | _ :: _, _ => False
def Reps (K : PySem.W.Frag) (w : Wd) : List D → List V → Prop
  | [], vs => vs = []
  | d :: ds, vs => ∃ v r, vs = v :: r ∧ Rep K w d v ∧ Reps K w ds r
end

structure Pre (w w' : Wd) : Prop where
  as : ∃ m, w'.as = w.as ++ m
  dk : ∀ a ∈ w.as, w'.dk a = w.dk a
theorem Pre.eq {w w' : Wd} (h : w'.as = w.as) (k : w'.dk = w.dk) : Pre w w' := ⟨⟨[], by rw [h]; simp⟩, fun _ _ => by rw [k]⟩
structure Le0 (w w' : Wd) : Prop where
  same : Same w.G w'.G
  pre : Pre w w'
  lk : ∀ a ∈ w.as, w'.lk a = w.lk a
structure Le (w w' : Wd) : Prop extends Le0 w w' where
  hid : w'.hid = w.hid
theorem Le0.refl (w : Wd) : Le0 w w := ⟨Same.refl _, .eq rfl rfl, fun _ _ => rfl⟩
theorem Le0.trans {w1 w2 w3 : Wd} (a : Le0 w1 w2) (b : Le0 w2 w3) : Le0 w1 w3 := by
  obtain ⟨⟨m, e⟩, p⟩ := a.pre
  obtain ⟨⟨n, f⟩, q⟩ := b.pre
  exact ⟨a.same.trans b.same, ⟨⟨m ++ n, by rw [f, e, List.append_assoc]⟩, fun x hx => (q x (by rw [e]; exact List.mem_append_left _ hx)).trans (p x hx)⟩, fun x hx => (b.lk x (by rw [e]; exact List.mem_append_left _ hx)).trans (a.lk x hx)⟩
theorem Le.refl (w : Wd) : Le w w := ⟨.refl w, rfl⟩
theorem Le.trans {w1 w2 w3 : Wd} (a : Le w1 w2) (b : Le w2 w3) : Le w1 w3 := ⟨a.toLe0.trans b.toLe0, b.hid.trans a.hid⟩
theorem as_get {w w' : Wd} (l : Pre w w') {i : Nat} {a : Addr} (h : w.as[i]? = some a) : w'.as[i]? = some a := by
  obtain ⟨⟨m, e⟩, _⟩ := l
  rw [e, List.getElem?_append_left (List.getElem?_eq_some_iff.mp h).1]
  exact h
theorem seqT_mono {K : PySem.W.Frag} {H H' : Hp} {a : Addr} {xs : List V} (e : Same H H') (h : SqT K H a xs) : SqT K H' a xs := by
  rcases h with (h | ⟨o, h⟩) | h
  · exact .inl (.inl (e _ _ h))
  · exact .inl (.inr ⟨o, e _ _ h⟩)
  · exact .inr h

section
variable {K : PySem.W.Frag} {w w' : Wd}
mutual
theorem Rep.mono' (s : Same w.G w'.G) (l : Pre w w') : ∀ (d : D) (v : V), Rep K w d v → Rep K w' d v
  | .non, _, h => by simpa only [Rep] using h
  | .bl _, _, h => by simpa only [Rep] using h
  | .int _, _, h => by simpa only [Rep] using h
  | .str _, _, h => by simpa only [Rep] using h
  | .lst xs, v, h => by
    simp only [Rep] at h ⊢
    obtain ⟨a, vs, e, q, r⟩ := h
    exact ⟨a, vs, e, s _ _ q, Reps.mono' s l xs vs r⟩
  | .klst xs, v, h => by
    simp only [Rep] at h ⊢
    obtain ⟨a, vs, e, q, r⟩ := h
    exact ⟨a, vs, e, s.seq q, Reps.mono' s l xs vs r⟩
  | .tup xs, v, h => by
    simp only [Rep] at h ⊢
    obtain ⟨a, vs, e, q, r⟩ := h
    exact ⟨a, vs, e, s _ _ q, Reps.mono' s l xs vs r⟩
  | .gtup xs, v, h => by
    simp only [Rep] at h ⊢
    obtain ⟨a, vs, e, q, r⟩ := h
    exact ⟨a, vs, e, seqT_mono s q, Reps.mono' s l xs vs r⟩
  | .obj i, v, h => by
    simp only [Rep] at h ⊢
    obtain ⟨a, e, q, q2⟩ := h
    exact ⟨a, e, as_get l q, (l.dk a (List.mem_of_getElem? q)).trans q2⟩
  | .dic t i, v, h => by
    simp only [Rep] at h ⊢
    obtain ⟨a, e, q, q2, q3⟩ := h
    exact ⟨a, e, as_get l q, (l.dk a (List.mem_of_getElem? q)).trans q2, q3⟩
  | .fdic (.ins c) rows, v, h => by
    simp only [Rep] at h ⊢
    obtain ⟨a, dx, kvs, e, q, n, r⟩ := h
    exact ⟨a, dx, kvs, e, s _ _ q, n, RowsK.mono' s l rows kvs r⟩
  | .fdic .n rows, v, h => by
    simp only [Rep] at h ⊢
    obtain ⟨a, b, ys, vs, e, q, n, r⟩ := h
    exact ⟨a, b, ys, vs, e, s _ _ q, n, Reps.mono' s l rows vs r⟩
  | .fdic (.b false) rows, v, h => by
    simp only [Rep] at h ⊢
    obtain ⟨a, kvs, e, q, n, r⟩ := h
    exact ⟨a, kvs, e, s _ _ q, n, RowsK.mono' s l rows kvs r⟩
  | .fdic (.b true) rows, v, h => by
    simp only [Rep] at h ⊢
    obtain ⟨a, kvs, e, q, n, r⟩ := h
    exact ⟨a, kvs, e, s _ _ q, n, RowsT.mono' s l rows kvs r⟩
theorem RowsK.mono' (s : Same w.G w'.G) (l : Pre w w') : ∀ (ds : List D) (kvs : List (Key × V)), RowsK K w ds kvs → RowsK K w' ds kvs
  | [], _, h => by simpa only [RowsK] using h
  | .tup [k, d] :: ds, kvs, h => by
    simp only [RowsK] at h ⊢
    obtain ⟨y, v, r, e, h1, h2, h3⟩ := h
    exact ⟨y, v, r, e, h1, Rep.mono' s l d v h2, RowsK.mono' s l ds r h3⟩
  | .tup [] :: _, _, h => by simp only [RowsK] at h
  | .tup [_] :: _, _, h => by simp only [RowsK] at h
  | .tup (_ :: _ :: _ :: _) :: _, _, h => by simp only [RowsK] at h
  | .non :: _, _, h => by simp only [RowsK] at h
  | .bl _ :: _, _, h => by simp only [RowsK] at h
  | .int _ :: _, _, h => by simp only [RowsK] at h
  | .str _ :: _, _, h => by simp only [RowsK] at h
  | .lst _ :: _, _, h => by simp only [RowsK] at h
  | .klst _ :: _, _, h => by simp only [RowsK] at h
  | .obj _ :: _, _, h => by simp only [RowsK] at h
  | .dic _ _ :: _, _, h => by simp only [RowsK] at h
  | .fdic _ _ :: _, _, h => by simp only [RowsK] at h
  | .gtup _ :: _, _, h => by simp only [RowsK] at h
theorem RowsT.mono' (s : Same w.G w'.G) (l : Pre w w') : ∀ (ds : List D) (kvs : List (List Key × V)), RowsT K w ds kvs → RowsT K w' ds kvs
  | [], _, h => by simpa only [RowsT] using h
  | .tup [k, d] :: ds, kvs, h => by
    simp only [RowsT] at h ⊢
    obtain ⟨y, v, r, e, h1, h2, h3⟩ := h
    exact ⟨y, v, r, e, h1, Rep.mono' s l d v h2, RowsT.mono' s l ds r h3⟩
  | .tup [] :: _, _, h => by simp only [RowsT] at h
  | .tup [_] :: _, _, h => by simp only [RowsT] at h
  | .tup (_ :: _ :: _ :: _) :: _, _, h => by simp only [RowsT] at h
  | .non :: _, _, h => by simp only [RowsT] at h
  | .bl _ :: _, _, h => by simp only [RowsT] at h
  | .int _ :: _, _, h => by simp only [RowsT] at h
  | .str _ :: _, _, h => by simp only [RowsT] at h
  | .lst _ :: _, _, h => by simp only [RowsT] at h
  | .klst _ :: _, _, h => by simp only [RowsT] at h
  | .obj _ :: _, _, h => by simp only [RowsT] at h
  | .dic _ _ :: _, _, h => by simp only [RowsT] at h
  | .fdic _ _ :: _, _, h => by simp only [RowsT] at h
  | .gtup _ :: _, _, h => by simp only [RowsT] at h
theorem Reps.mono' (s : Same w.G w'.G) (l : Pre w w') : ∀ (ds : List D) (vs : List V), Reps K w ds vs → Reps K w' ds vs
  | [], _, h => by simpa only [Reps] using h
  | d :: ds, vs, h => by
    simp only [Reps] at h ⊢
    obtain ⟨v, r, e, h1, h2⟩ := h
    exact ⟨v, r, e, Rep.mono' s l d v h1, Reps.mono' s l ds r h2⟩
end
theorem Rep.mono (l : Le w w') (d : D) (v : V) (h : Rep K w d v) : Rep K w' d v := Rep.mono' l.same l.pre d v h
theorem Reps.mono (l : Le w w') (ds : List D) (vs : List V) (h : Reps K w ds vs) : Reps K w' ds vs := Reps.mono' l.same l.pre ds vs h
theorem Reps.nil : Reps K w [] [] := by simp only [Reps]
theorem Reps.cons {d : D} {ds : List D} {v : V} {vs : List V} (h : Rep K w d v) (r : Reps K w ds vs) : Reps K w (d :: ds) (v :: vs) := by
  simp only [Reps]
  exact ⟨v, vs, rfl, h, r⟩
theorem Reps.inv {d : D} {ds : List D} {vs : List V} (h : Reps K w (d :: ds) vs) : ∃ v r, vs = v :: r ∧ Rep K w d v ∧ Reps K w ds r := by
  simpa only [Reps] using h
theorem Reps.inv0 {vs : List V} (h : Reps K w [] vs) : vs = [] := by simpa only [Reps] using h
theorem Reps.length : ∀ {ds : List D} {vs : List V}, Reps K w ds vs → vs.length = ds.length
  | [], vs, h => by rw [h.inv0]; rfl
  | d :: ds, vs, h => by
    obtain ⟨v, r, rfl, _, h2⟩ := h.inv
    simp [h2.length]
theorem Reps.get : ∀ {ds : List D} {vs : List V} {i : Nat} {d : D}, Reps K w ds vs → ds[i]? = some d → ∃ v, vs[i]? = some v ∧ Rep K w d v
  | [], _, _, _, _, e => by simp at e
  | d :: ds, vs, 0, _, h, e => by
    obtain ⟨v, r, rfl, h1, _⟩ := h.inv
    simp at e
    subst e
    exact ⟨v, rfl, h1⟩
  | d :: ds, vs, i + 1, x, h, e => by
    obtain ⟨v, r, rfl, _, h2⟩ := h.inv
    obtain ⟨u, e1, e2⟩ := h2.get (i := i) (d := x) (by simpa using e)
    exact ⟨u, by simpa using e1, e2⟩
theorem Reps.getv : ∀ {ds : List D} {vs : List V} {i : Nat} {v : V}, Reps K w ds vs → vs[i]? = some v → ∃ d, ds[i]? = some d ∧ Rep K w d v
  | [], _, _, _, h, e => by rw [h.inv0] at e; simp at e
  | d :: ds, vs, 0, _, h, e => by
    obtain ⟨v, r, rfl, h1, _⟩ := h.inv
    simp at e
    subst e
    exact ⟨d, rfl, h1⟩
  | d :: ds, vs, i + 1, x, h, e => by
    obtain ⟨v, r, rfl, _, h2⟩ := h.inv
    obtain ⟨u, e1, e2⟩ := h2.getv (i := i) (v := x) (by simpa using e)
    exact ⟨u, by simpa using e1, e2⟩
theorem Reps.append : ∀ {ds es : List D} {vs us : List V}, Reps K w ds vs → Reps K w es us → Reps K w (ds ++ es) (vs ++ us)
  | [], _, _, _, h, g => by rw [h.inv0]; exact g
  | d :: ds, es, vs, us, h, g => by
    obtain ⟨v, r, rfl, h1, h2⟩ := h.inv
    exact .cons h1 (h2.append g)
theorem Reps.set : ∀ {ds : List D} {vs : List V} (i : Nat) {d : D} {v : V}, Reps K w ds vs → Rep K w d v → Reps K w (ds.set i d) (vs.set i v)
  | [], _, _, _, _, h, _ => by rw [h.inv0]; exact .nil
  | _ :: _, vs, 0, _, _, h, g => by
    obtain ⟨v, r, rfl, h1, h2⟩ := h.inv
    exact .cons g h2
  | _ :: _, vs, i + 1, _, _, h, g => by
    obtain ⟨v, r, rfl, h1, h2⟩ := h.inv
    exact .cons h1 (h2.set i g)
theorem Reps.take : ∀ {ds : List D} {vs : List V} (n : Nat), Reps K w ds vs → Reps K w (ds.take n) (vs.take n)
  | [], _, n, h => by rw [h.inv0]; simp; exact .nil
  | _ :: _, vs, 0, h => by simp; exact .nil
  | _ :: _, vs, n + 1, h => by
    obtain ⟨v, r, rfl, h1, h2⟩ := h.inv
    exact .cons h1 (h2.take n)
theorem Reps.drop : ∀ {ds : List D} {vs : List V} (n : Nat), Reps K w ds vs → Reps K w (ds.drop n) (vs.drop n)
  | [], _, n, h => by rw [h.inv0]; simp; exact .nil
  | _ :: _, vs, 0, h => h
  | _ :: _, vs, n + 1, h => by
    obtain ⟨v, r, rfl, h1, h2⟩ := h.inv
    exact h2.drop n
theorem Reps.rep {ds : List D} {vs : List V} (h : Reps K w ds vs) : ∀ k : Nat, Reps K w (List.replicate k ds).flatten (List.replicate k vs).flatten
  | 0 => .nil
  | k + 1 => by
    rw [List.replicate_succ, List.replicate_succ, List.flatten_cons, List.flatten_cons]
    exact h.append (h.rep k)
theorem Reps.ints : ∀ {ns : List Int} {vs : List V}, Reps K w (ns.map D.int) vs → vs = ns.map V.int
  | [], _, h => h.inv0
  | n :: ns, vs, h => by
    obtain ⟨v, r, rfl, h1, h2⟩ := Reps.inv h
    simp only [Rep] at h1
    rw [h1, h2.ints]
    rfl
theorem Reps.of_ints : ∀ (ns : List Int), Reps K w (ns.map D.int) (ns.map V.int)
  | [] => .nil
  | n :: ns => .cons (by simp only [Rep]) (Reps.of_ints ns)
theorem Reps.bls : ∀ {ns : List Bool} {vs : List V}, Reps K w (ns.map D.bl) vs → vs = ns.map V.bl
  | [], _, h => h.inv0
  | n :: ns, vs, h => by
    obtain ⟨v, r, rfl, h1, h2⟩ := Reps.inv h
    simp only [Rep] at h1
    rw [h1, h2.bls]
    rfl
theorem Reps.strs : ∀ {ns : List Str} {vs : List V}, Reps K w (ns.map D.str) vs → vs = ns.map V.str
  | [], _, h => h.inv0
  | n :: ns, vs, h => by
    obtain ⟨v, r, rfl, h1, h2⟩ := Reps.inv h
    simp only [Rep] at h1
    rw [h1, h2.strs]
    rfl
end

/-! ### the state -/
def SizeOk : HO → Prop
  | .lst xs => xs.length ≤ sizeLine
  | .tup xs => xs.length ≤ sizeLine
  | .frz _ (.lst xs) => xs.length ≤ sizeLine
  | .frz _ (.tup xs) => xs.length ≤ sizeLine
  | _ => True
/-- what an object of the store holds -/
def EntP (K : PySem.W.Frag) (w : Wd) : Option Kd → List D → HO → Prop
  | none, xs, o => ∃ vs, o = .lst vs ∧ vs.length ≤ sizeLine ∧ Reps K w xs vs
  | some (.b false), xs, o => ∃ kvs, o = .dK kvs ∧ kvs.length ≤ sizeLine ∧ RowsK K w xs kvs
  | some (.b true), xs, o => ∃ kvs, o = .dT kvs ∧ kvs.length ≤ sizeLine ∧ RowsT K w xs kvs
  | some (.ins c), xs, o => ∃ dx kvs, o = .ins (He.ga K c) dx (fsOf kvs) ∧ RowsK K w xs kvs
  | some .n, xs, o => ∃ b ys vs, o = ndO b ys vs ∧ nks xs = some ys ∧ Reps K w xs vs
/-- what stands behind the rows of a dict that is being walked -/
def lockD : D := .fdic (.b false) [.non]
/-- each row is a pair -/
def okRows : List D → Bool
  | [] => true
  | .tup [_, _] :: r => okRows r
  | _ => false
theorem okRows_app : ∀ {a b : List D}, okRows (a ++ b) = (okRows a && okRows b)
  | [], b => by simp [okRows]
  | .tup [_, _] :: r, b => by simp only [List.cons_append, okRows, okRows_app (a := r)]
  | .tup [] :: _, _ => by simp [okRows]
  | .tup [_] :: _, _ => by simp [okRows]
  | .tup (_ :: _ :: _ :: _) :: _, _ => by simp [okRows]
  | .non :: _, _ => by simp [okRows]
  | .bl _ :: _, _ => by simp [okRows]
  | .int _ :: _, _ => by simp [okRows]
  | .str _ :: _, _ => by simp [okRows]
  | .lst _ :: _, _ => by simp [okRows]
  | .klst _ :: _, _ => by simp [okRows]
  | .obj _ :: _, _ => by simp [okRows]
  | .dic _ _ :: _, _ => by simp [okRows]
  | .fdic _ _ :: _, _ => by simp [okRows]
  | .gtup _ :: _, _ => by simp [okRows]
theorem okRows_map {α : Type} (f g : α → D) : ∀ xs : List α, okRows (xs.map fun x => .tup [f x, g x]) = true
  | [] => rfl
  | x :: r => by simp only [List.map_cons, okRows, okRows_map f g r]
abbrev Lk := Option (Obj × HO)
def EntL (K : PySem.W.Frag) (w : Wd) (k : Option Kd) (L : Lk) (xs : List D) (o : HO) : Prop := k = some (.b false) ∧ ∃ rows ob kvs, L = some (ob, .dK kvs) ∧ xs = rows ++ [lockD] ∧ o = .frz ob (.dK kvs) ∧ kvs.length ≤ sizeLine ∧ RowsK K w rows kvs
/-- .. where it is a dict with keys of tuples -/
def EntM (K : PySem.W.Frag) (w : Wd) (k : Option Kd) (L : Lk) (xs : List D) (o : HO) : Prop := k = some .n ∧ ∃ rows ob b ys vs, L = some (ob, ndO b ys vs) ∧ xs = rows ++ [lockD] ∧ o = .frz ob (ndO b ys vs) ∧ nks rows = some ys ∧ Reps K w rows vs
def EntR (K : PySem.W.Frag) (w : Wd) (k : Option Kd) (L : Lk) (xs : List D) (o : HO) : Prop := (L = none ∧ EntP K w k xs o) ∨ EntL K w k L xs o ∨ EntM K w k L xs o
theorem EntR.lst {K : PySem.W.Frag} {w : Wd} {L : Lk} {xs : List D} {o : HO} (h : EntR K w none L xs o) : ∃ vs, o = .lst vs ∧ vs.length ≤ sizeLine ∧ Reps K w xs vs := h.elim And.right fun z => z.elim (fun z => nomatch z.1) fun z => nomatch z.1
theorem EntR.dT {K : PySem.W.Frag} {w : Wd} {L : Lk} {xs : List D} {o : HO} (h : EntR K w (some (.b true)) L xs o) : ∃ kvs, o = .dT kvs ∧ kvs.length ≤ sizeLine ∧ RowsT K w xs kvs := h.elim And.right fun z => z.elim (fun z => nomatch z.1) fun z => nomatch z.1
theorem lock_no {rows : List D} (ok : okRows (rows ++ [lockD]) = true) : False := by
  rw [okRows_app] at ok
  simp [okRows, lockD] at ok
theorem EntR.dK {K : PySem.W.Frag} {w : Wd} {L : Lk} {xs : List D} {o : HO} (h : EntR K w (some (.b false)) L xs o) (ok : okRows xs = true) : ∃ kvs, o = .dK kvs ∧ kvs.length ≤ sizeLine ∧ RowsK K w xs kvs := h.elim And.right fun z => z.elim (fun ⟨_, rows, ob, kvs, _, e, _⟩ => (lock_no (e ▸ ok)).elim) fun z => nomatch z.1
theorem EntR.ins {K : PySem.W.Frag} {w : Wd} {c : Str} {L : Lk} {xs : List D} {o : HO} (h : EntR K w (some (.ins c)) L xs o) : ∃ dx kvs, o = .ins (He.ga K c) dx (fsOf kvs) ∧ RowsK K w xs kvs := h.elim And.right fun z => z.elim (fun z => nomatch z.1) fun z => nomatch z.1
theorem EntM.odd {K : PySem.W.Frag} {w : Wd} {k : Option Kd} {L : Lk} {xs : List D} {o : HO} (h : EntM K w k L xs o) (ok : xs.length % 2 = 0) : False := by
  obtain ⟨_, rows, _, _, ys, _, _, e, _, n, _⟩ := h
  have ev : ∀ (n : Nat) {rows : List D} {ys : List PySem.NestedKey}, rows.length = n → nks rows = some ys → rows.length % 2 = 0 := by
    intro n
    induction n using Nat.strongRecOn with
    | ind n ih =>
      intro rows ys e h
      match rows, e, h with
      | [], _, _ => rfl
      | [_], _, h => cases h
      | a :: b :: r, e, h =>
        simp only [nks] at h
        cases z : nks r with
        | none => rw [z] at h; cases y : nkT a <;> rw [y] at h <;> cases h
        | some q =>
          have := ih r.length (by simp only [List.length_cons] at e; omega) rfl z
          simp only [List.length_cons]
          omega
  have := ev _ rfl n
  rw [e, List.length_append, List.length_singleton] at ok
  omega
theorem EntR.nd {K : PySem.W.Frag} {w : Wd} {L : Lk} {xs : List D} {o : HO} (h : EntR K w (some .n) L xs o) (ok : xs.length % 2 = 0) : L = none ∧ ∃ b ys vs, o = ndO b ys vs ∧ nks xs = some ys ∧ Reps K w xs vs := h.elim id fun z => z.elim (fun z => nomatch z.1) fun z => (z.odd ok).elim
theorem EntR.un {K : PySem.W.Frag} {w : Wd} {k : Option Kd} {L : Lk} {xs : List D} {o : HO} (h : EntR K w k L xs o) (ok : k ≠ some (.b false) ∨ okRows xs = true) (hn : k ≠ some .n := by first | nofun | simp) : L = none := by
  rcases h with h | ⟨hk, rows, ob, kvs, _, e, _⟩ | h
  · exact h.1
  · rcases ok with z | z
    · exact absurd hk z
    · exact (lock_no (e ▸ z)).elim
  · exact absurd h.1 hn
theorem EntR.mono' {K : PySem.W.Frag} {w w' : Wd} (s : Same w.G w'.G) (l : Pre w w') {k : Option Kd} {L : Lk} {xs : List D} {o : HO} (h : EntR K w k L xs o) : EntR K w' k L xs o := by
  rcases h with ⟨hL, h⟩ | ⟨hk, rows, ob, kvs, e0, e1, e2, n, r⟩ | ⟨hk, rows, ob, b, ys, vs, e0, e1, e2, n, r⟩
  · refine .inl ⟨hL, ?_⟩
    match k, h with
    | none, ⟨vs, e, n, r⟩ => exact ⟨vs, e, n, Reps.mono' s l _ _ r⟩
    | some (.b false), ⟨vs, e, n, r⟩ => exact ⟨vs, e, n, RowsK.mono' s l _ _ r⟩
    | some (.b true), ⟨vs, e, n, r⟩ => exact ⟨vs, e, n, RowsT.mono' s l _ _ r⟩
    | some (.ins c), ⟨dx, vs, e, r⟩ => exact ⟨dx, vs, e, RowsK.mono' s l _ _ r⟩
    | some .n, ⟨b, ys, vs, e, n, r⟩ => exact ⟨b, ys, vs, e, n, Reps.mono' s l _ _ r⟩
  · exact .inr (.inl ⟨hk, rows, ob, kvs, e0, e1, e2, n, RowsK.mono' s l _ _ r⟩)
  · exact .inr (.inr ⟨hk, rows, ob, b, ys, vs, e0, e1, e2, n, Reps.mono' s l _ _ r⟩)
theorem EntR.mono {K : PySem.W.Frag} {w w' : Wd} (l : Le w w') {k : Option Kd} {L : Lk} {xs : List D} {o : HO} (h : EntR K w k L xs o) : EntR K w' k L xs o := h.mono' l.same l.pre
structure Wld (K : PySem.W.Frag) (w : Wd) (st : Sto) (H : Hp) : Prop where
  same : Same w.G H
  len : w.as.length = st.length
  nd : w.as.Nodup
  at_ : ∀ (i : Nat) (a : Addr), w.as[i]? = some a → w.G a = none ∧ ∃ (xs : List D) (o : HO), st[i]? = some xs ∧ H a = some o ∧ EntR K w (w.dk a) (w.lk a) xs o
  small : ∀ a u, w.G a = some u → SizeOk u
  hidd : ∀ (a : Addr) (vs : List V), (a, vs) ∈ w.hid → w.G a = none ∧ a ∉ w.as ∧ H a = some (.lst vs)
  hnd : (w.hid.map (·.1)).Nodup

section
variable {K : PySem.W.Frag} {w w' : Wd} {st : Sto} {H : Hp}
theorem sq_small {G : Hp} {a : Addr} {vs : List V} (sm : ∀ a u, G a = some u → SizeOk u) (h : SqL K G a vs) : vs.length ≤ sizeLine := by
  rcases h with (h | ⟨o, h⟩) | ⟨o, its, n, _, _, _, _, hz, r⟩
  · exact sm _ _ h
  · exact sm _ _ h
  · have := r.length
    simp only [Array.length_toList] at this
    omega
theorem sqt_small {G : Hp} {a : Addr} {vs : List V} (sm : ∀ a u, G a = some u → SizeOk u) (h : SqT K G a vs) : vs.length ≤ sizeLine := by
  rcases h with (h | ⟨o, h⟩) | ⟨o, its, n, _, _, _, hz, r⟩
  · exact sm _ _ h
  · exact sm _ _ h
  · have := r.length
    simp only [Array.length_toList] at this
    omega
/-- the lists of the store read through -/
def deref (st : Sto) : D → D
  | .obj i => match st[i]? with
    | some xs => .lst xs
    | none => .obj i
  | .klst xs => .lst xs
  | .gtup xs => .tup xs
  | d => d
theorem deref_self {st : Sto} {d e : D} (h : deref st d = e) (n1 : ∀ xs, e ≠ .lst xs) (n2 : ∀ i, e ≠ .obj i) (n3 : ∀ xs, e ≠ .tup xs := by intro _ z; cases z) : d = e := by
  cases d with
  | gtup ys => exact (n3 _ h.symm).elim
  | klst ys => exact (n1 _ h.symm).elim
  | obj i =>
    have h' : (match st[i]? with | some xs => D.lst xs | none => D.obj i) = e := h
    split at h'
    · exact (n1 _ h'.symm).elim
    · exact (n2 _ h'.symm).elim
  | _ => exact h
/-- not for tuples of the module's head -/
def noG (d : D) (p : Prop) : Prop := match d with
  | .gtup _ => False
  | _ => p
theorem noG_of {d : D} {p : Prop} (h : noG d p) : (∀ ys, d ≠ .gtup ys) ∧ p := by
  cases d with
  | gtup _ => exact h.elim
  | _ => exact ⟨fun _ z => by (cases z), h⟩
theorem deref_tup {st : Sto} {d : D} {xs : List D} (h : deref st d = .tup xs) (n : ∀ ys, d ≠ .gtup ys) : d = .tup xs := by
  cases d with
  | gtup ys => exact (n _ rfl).elim
  | obj i =>
    have h' : (match st[i]? with | some xs => D.lst xs | none => D.obj i) = .tup xs := h
    split at h' <;> cases h'
  | klst ys => cases h
  | _ => exact h
theorem deref_tups {st : Sto} {d : D} {xs : List D} (h : deref st d = .tup xs) (st' : Sto) : deref st' d = .tup xs := by
  cases d with
  | gtup ys => exact h
  | obj i =>
    have h' : (match st[i]? with | some xs => D.lst xs | none => D.obj i) = .tup xs := h
    split at h' <;> cases h'
  | klst ys => cases h
  | _ => exact h
theorem rep_lst {d : D} {v : V} {xs : List D} (W : Wld K w st H) (R : Rep K w d v) (e : deref st d = .lst xs) :
    ∃ a vs, v = .ref a ∧ SqL K H a vs ∧ Reps K w xs vs ∧ vs.length ≤ sizeLine := by
  cases d with
  | lst ys =>
    cases e
    simp only [Rep] at R
    obtain ⟨a, vs, e1, q, r⟩ := R
    exact ⟨a, vs, e1, .of (W.same _ _ q), r, W.small _ _ q⟩
  | klst ys =>
    cases e
    simp only [Rep] at R
    obtain ⟨a, vs, e1, q, r⟩ := R
    exact ⟨a, vs, e1, W.same.seq q, r, sq_small W.small q⟩
  | obj i =>
    simp only [Rep] at R
    obtain ⟨a, e1, q, q2⟩ := R
    obtain ⟨g, ys, o, h1, h2, h3⟩ := W.at_ i a q
    rw [q2] at h3
    obtain ⟨vs, rfl, n3, h4⟩ := h3.lst
    have e2 : (match st[i]? with | some xs => D.lst xs | none => D.obj i) = .lst xs := e
    rw [h1] at e2
    cases e2
    exact ⟨a, vs, e1, .of h2, h4, n3⟩
  | _ => cases e
/-- lists that may be put together with others -/
def derefM (st : Sto) : D → Option (List D)
  | .obj i => st[i]?
  | .lst xs => some xs
  | _ => none
theorem rep_lstM {d : D} {v : V} {xs : List D} (W : Wld K w st H) (R : Rep K w d v) (e : derefM st d = some xs) :
    ∃ a vs, v = .ref a ∧ H a = some (.lst vs) ∧ Reps K w xs vs ∧ vs.length ≤ sizeLine := by
  cases d with
  | lst ys =>
    cases e
    simp only [Rep] at R
    obtain ⟨a, vs, e1, q, r⟩ := R
    exact ⟨a, vs, e1, W.same _ _ q, r, W.small _ _ q⟩
  | obj i =>
    simp only [Rep] at R
    obtain ⟨a, e1, q, q2⟩ := R
    obtain ⟨g, ys, o, h1, h2, h3⟩ := W.at_ i a q
    rw [q2] at h3
    obtain ⟨vs, rfl, n3, h4⟩ := h3.lst
    have e2 : st[i]? = some xs := e
    rw [h1] at e2
    cases e2
    exact ⟨a, vs, e1, h2, h4, n3⟩
  | _ => cases e
theorem rep_tup {d : D} {v : V} {xs : List D} (W : Wld K w st H) (R : Rep K w d v) (e : deref st d = .tup xs) :
    ∃ a vs, v = .ref a ∧ SqT K H a vs ∧ Reps K w xs vs ∧ vs.length ≤ sizeLine := by
  cases d with
  | tup ys =>
    cases e
    simp only [Rep] at R
    obtain ⟨a, vs, e1, q, r⟩ := R
    exact ⟨a, vs, e1, .of (W.same _ _ q), r, W.small _ _ q⟩
  | gtup ys =>
    cases e
    simp only [Rep] at R
    obtain ⟨a, vs, e1, q, r⟩ := R
    exact ⟨a, vs, e1, seqT_mono W.same q, r, sqt_small W.small q⟩
  | obj i =>
    have e2 : (match st[i]? with | some xs => D.lst xs | none => D.obj i) = .tup xs := e
    cases h : st[i]? with
    | none => rw [h] at e2; cases e2
    | some _ => rw [h] at e2; cases e2
  | _ => cases e
theorem Wld.free (W : Wld K w st H) {p : Addr} (h : H p = none) : w.G p = none := W.same.free h
theorem Wld.nas (W : Wld K w st H) {p : Addr} (h : H p = none) : p ∉ w.as := fun m => by
  obtain ⟨i, hi⟩ := List.getElem?_of_mem m
  obtain ⟨_, xs, o, _, e, _⟩ := W.at_ i p hi
  rw [h] at e
  cases e
/-- a new frozen object -/
def Wd.put (w : Wd) (p : Addr) (o : HO) : Wd := ⟨upd w.G p o, w.as, w.hid, w.dk, w.lk⟩
theorem Le.put {p : Addr} {o : HO} (h : w.G p = none) : Le w (w.put p o) := ⟨⟨fun b u e => by
  show upd w.G p o b = some u
  rw [upd_ne (ne_of_none e h)]
  exact e, .eq rfl rfl, fun _ _ => rfl⟩, rfl⟩
theorem Wld.put (W : Wld K w st H) {p : Addr} {o : HO} (h : H p = none) (s : SizeOk o) : Wld K (w.put p o) st (upd H p o) := by
  have hg := W.free h
  have l := Le.put (w := w) (o := o) hg
  refine ⟨fun b u e => ?_, W.len, W.nd, fun i a e => ?_, fun a u e => ?_, fun a vs e => ?_, W.hnd⟩
  · by_cases hb : b = p
    · subst hb
      have e' : upd w.G b o b = some u := e
      rw [upd_same] at e' ⊢
      exact e'
    · have e' : upd w.G p o b = some u := e
      rw [upd_ne hb] at e' ⊢
      exact W.same b u e'
  · obtain ⟨g, xs, u, h1, h2, h3⟩ := W.at_ i a e
    have ne : a ≠ p := fun z => by rw [z, h] at h2; cases h2
    refine ⟨?_, xs, u, h1, by rw [upd_ne ne]; exact h2, h3.mono l⟩
    show upd w.G p o a = none
    rw [upd_ne ne]
    exact g
  · have e' : upd w.G p o a = some u := e
    by_cases ha : a = p
    · subst ha
      rw [upd_same] at e'
      cases e'
      exact s
    · rw [upd_ne ha] at e'
      exact W.small a u e'
  · obtain ⟨g, n, h1⟩ := W.hidd a vs e
    have ne : a ≠ p := fun z => by rw [z, h] at h1; cases h1
    refine ⟨?_, n, by rw [upd_ne ne]; exact h1⟩
    show upd w.G p o a = none
    rw [upd_ne ne]
    exact g
/-- a new object of the store -/
def Wd.addK (w : Wd) (p : Addr) (k : Option Kd) : Wd := ⟨w.G, w.as ++ [p], w.hid, fun b => if b = p then k else w.dk b, fun b => if b = p then none else w.lk b⟩
theorem Pre.addK {p : Addr} {k : Option Kd} (h : p ∉ w.as) : Pre w (w.addK p k) := ⟨⟨[p], rfl⟩, fun a ha => if_neg fun (z : a = p) => h (z ▸ ha)⟩
theorem Le.addK {p : Addr} {k : Option Kd} (h : p ∉ w.as) : Le w (w.addK p k) := ⟨⟨Same.refl _, .addK h, fun a ha => if_neg fun (z : a = p) => h (z ▸ ha)⟩, rfl⟩
theorem Wld.addK (W : Wld K w st H) {p : Addr} {k : Option Kd} {xs : List D} {o : HO} (h : H p = none) (r : EntP K w k xs o) : Wld K (w.addK p k) (st ++ [xs]) (upd H p o) := by
  have hg := W.free h
  have hn := W.nas h
  refine ⟨fun b u e => ?_, ?_, ?_, fun i a e => ?_, W.small, fun a vs e => ?_, W.hnd⟩
  · have ne : b ≠ p := fun z => by
      have e' : w.G b = some u := e
      rw [z, hg] at e'
      cases e'
    rw [upd_ne ne]
    exact W.same b u e
  · show (w.as ++ [p]).length = (st ++ [xs]).length
    rw [List.length_append, List.length_append, W.len]
    rfl
  · show (w.as ++ [p]).Nodup
    refine List.nodup_append.mpr ⟨W.nd, by simp, fun a ha b hb z => ?_⟩
    have : b = p := by simpa using hb
    subst this
    rw [z] at ha
    exact hn ha
  · have e' : (w.as ++ [p])[i]? = some a := e
    by_cases hi : i < w.as.length
    · rw [List.getElem?_append_left hi] at e'
      obtain ⟨g, ys, u, h1, h2, h3⟩ := W.at_ i a e'
      have ne : a ≠ p := fun z => by rw [z, h] at h2; cases h2
      have ek : (w.addK p k).dk a = w.dk a := if_neg ne
      have el : (w.addK p k).lk a = w.lk a := if_neg ne
      exact ⟨g, ys, u, by rw [List.getElem?_append_left (by rw [← W.len]; exact hi)]; exact h1, by rw [upd_ne ne]; exact h2, by rw [ek, el]; exact h3.mono (.addK hn)⟩
    · have hi2 : i = w.as.length := by
        have := (List.getElem?_eq_some_iff.mp e').1
        simp at this
        omega
      subst hi2
      rw [List.getElem?_concat_length] at e'
      cases e'
      have ek : (w.addK p k).dk p = k := if_pos rfl
      have el : (w.addK p k).lk p = none := if_pos rfl
      exact ⟨hg, xs, o, by rw [W.len, List.getElem?_concat_length], upd_same, by rw [ek, el]; exact EntR.mono (.addK hn) (.inl ⟨rfl, r⟩)⟩
  · obtain ⟨g, n, h1⟩ := W.hidd a vs e
    have ne : a ≠ p := fun z => by rw [z, h] at h1; cases h1
    refine ⟨g, fun m => ?_, by rw [upd_ne ne]; exact h1⟩
    have m' : a ∈ w.as ++ [p] := m
    rcases List.mem_append.mp m' with z | z
    · exact n z
    · exact ne (by simpa using z)
/-- a new list of the store -/
def Wd.add (w : Wd) (p : Addr) : Wd := w.addK p none
theorem Wld.add (W : Wld K w st H) {p : Addr} {xs : List D} {vs : List V} (h : H p = none) (r : Reps K w xs vs) (s : vs.length ≤ sizeLine) : Wld K (w.add p) (st ++ [xs]) (upd H p (.lst vs)) := W.addK h ⟨vs, rfl, s, r⟩
/-- an object of the store written -/
theorem Wld.wrK (W : Wld K w st H) {i : Nat} {a : Addr} {xs : List D} {o : HO} (ha : w.as[i]? = some a) (r : EntR K w (w.dk a) (w.lk a) xs o) : Wld K w (st.set i xs) (upd H a o) := by
  obtain ⟨g, ys, us, h1, h2, h3⟩ := W.at_ i a ha
  refine ⟨fun b u e => ?_, by rw [List.length_set]; exact W.len, W.nd, fun j b e => ?_, W.small, fun b vs e => ?_, W.hnd⟩
  · have ne : b ≠ a := fun z => by rw [z, g] at e; cases e
    rw [upd_ne ne]
    exact W.same b u e
  · by_cases hj : j = i
    · subst hj
      rw [ha] at e
      cases e
      exact ⟨g, xs, o, List.getElem?_set_self (List.getElem?_eq_some_iff.mp h1).1, upd_same, r⟩
    · obtain ⟨g', zs, ws, k1, k2, k3⟩ := W.at_ j b e
      have ne : b ≠ a := fun z => by
        subst z
        exact hj (nd_ix W.nd e ha)
      exact ⟨g', zs, ws, by rw [List.getElem?_set_ne (Ne.symm hj)]; exact k1, by rw [upd_ne ne]; exact k2, k3⟩
  · obtain ⟨g', n, h'⟩ := W.hidd b vs e
    have ne : b ≠ a := fun z => n (by rw [z]; exact List.mem_of_getElem? ha)
    exact ⟨g', n, by rw [upd_ne ne]; exact h'⟩
/-- a list of the store written -/
theorem Wld.wr (W : Wld K w st H) {i : Nat} {a : Addr} {xs : List D} {vs : List V} (ha : w.as[i]? = some a) (hk : w.dk a = none) (r : Reps K w xs vs) (s : vs.length ≤ sizeLine) : Wld K w (st.set i xs) (upd H a (.lst vs)) :=
  W.wrK ha (by
    obtain ⟨_, ys, o, _, _, h3⟩ := W.at_ i a ha
    have hl := h3.un (.inl (by rw [hk]; exact nofun)) (by rw [hk]; exact nofun)
    rw [hk]
    exact .inl ⟨hl, vs, rfl, s, r⟩)
end

/-! ### readings over data -/
abbrev DK := D → Sto → Prop
abbrev DE := Env → Sto → DK → Prop
abbrev DT := Env → Sto → (Bool → Sto → Prop) → Prop
abbrev DA := Env → Sto → (List D → Sto → Prop) → Prop
structure DEnds where
  nx : Env → Sto → Prop
  rt : DK
abbrev DS := DEnds → Env → Sto → Prop

def EnvR (K : PySem.W.Frag) (w : Wd) (env : Env) (σ : L2.St) : Prop :=
  env.length = σ.length ∧ ∀ (i : Nat) (d : D), env[i]? = some (some d) → ∃ v, σ[i]? = some (some v) ∧ Rep K w d v
theorem EnvR.mono {K : PySem.W.Frag} {w w' : Wd} {env : Env} {σ : L2.St} (h : EnvR K w env σ) (l : Le w w') : EnvR K w' env σ :=
  ⟨h.1, fun i d e => let ⟨v, e1, r⟩ := h.2 i d e; ⟨v, e1, Rep.mono l _ _ r⟩⟩
theorem EnvR.mono0 {K : PySem.W.Frag} {w w' : Wd} {env : Env} {σ : L2.St} (h : EnvR K w env σ) (l : Le0 w w') : EnvR K w' env σ :=
  ⟨h.1, fun i d e => let ⟨v, e1, r⟩ := h.2 i d e; ⟨v, e1, Rep.mono' l.same l.pre _ _ r⟩⟩
theorem EnvR.set {K : PySem.W.Frag} {w : Wd} {env : Env} {σ : L2.St} (h : EnvR K w env σ) {d : D} {v : V} (i : Nat) (r : Rep K w d v) : EnvR K w (env.set i (some d)) (σ.set i (some v)) := by
  refine ⟨by simp [h.1], fun j x e => ?_⟩
  by_cases hj : j = i
  · subst hj
    have hlt : j < env.length := by
      have := (List.getElem?_eq_some_iff.mp e).1
      simpa using this
    rw [List.getElem?_set_self hlt] at e
    cases e
    exact ⟨v, List.getElem?_set_self (by rw [← h.1]; exact hlt), r⟩
  · rw [List.getElem?_set_ne (Ne.symm hj)] at e
    obtain ⟨u, e1, r1⟩ := h.2 j x e
    exact ⟨u, by rw [List.getElem?_set_ne (Ne.symm hj)]; exact e1, r1⟩
theorem EnvR.unset {K : PySem.W.Frag} {w : Wd} {env : Env} {σ : L2.St} (h : EnvR K w env σ) (i : Nat) : EnvR K w (env.set i none) (σ.set i none) := by
  refine ⟨by simp [h.1], fun j x e => ?_⟩
  by_cases hj : j = i
  · subst hj
    have hlt : j < env.length := by
      have := (List.getElem?_eq_some_iff.mp e).1
      simpa using this
    rw [List.getElem?_set_self hlt] at e
    cases e
  · rw [List.getElem?_set_ne (Ne.symm hj)] at e
    obtain ⟨u, e1, r1⟩ := h.2 j x e
    exact ⟨u, by rw [List.getElem?_set_ne (Ne.symm hj)]; exact e1, r1⟩

/-- what must follow a value that comes -/
def Fol (K : PySem.W.Frag) (w : Wd) (kk : DK) (Q : VK) : Prop := ∀ d st' v w' H', kk d st' → Le w w' → Wld K w' st' H' → Rep K w' d v → Q v H'
def tD (K : PySem.W.Frag) (t : DE) : TE := fun σ H Q => ∃ w env st kk, Wld K w st H ∧ EnvR K w env σ ∧ t env st kk ∧ Fol K w kk Q
def FolT (K : PySem.W.Frag) (w : Wd) (kk : Bool → Sto → Prop) (Q : Bool → Hp → Prop) : Prop := ∀ b st' w' H', kk b st' → Le w w' → Wld K w' st' H' → Q b H'
def tDT (K : PySem.W.Frag) (t : DT) : TT := fun σ H Q => ∃ w env st kk, Wld K w st H ∧ EnvR K w env σ ∧ t env st kk ∧ FolT K w kk Q
def FolA (K : PySem.W.Frag) (w : Wd) (kk : List D → Sto → Prop) (Q : List V → Hp → Prop) : Prop := ∀ ds st' vs w' H', kk ds st' → Le w w' → Wld K w' st' H' → Reps K w' ds vs → Q vs H'
def tDA (K : PySem.W.Frag) (t : DA) : TA := fun σ H Q => ∃ w env st kk, Wld K w st H ∧ EnvR K w env σ ∧ t env st kk ∧ FolA K w kk Q
def FolN (K : PySem.W.Frag) (w : Wd) (nx : Env → Sto → Prop) (Q : L2.St → Hp → Prop) : Prop := ∀ env' st' σ' w' H', nx env' st' → Le w w' → Wld K w' st' H' → EnvR K w' env' σ' → Q σ' H'
def tDS (K : PySem.W.Frag) (t : DS) : TS := fun E σ H => ∃ w env st, ∃ (D : DEnds), Wld K w st H ∧ EnvR K w env σ ∧ t D env st ∧ FolN K w D.nx E.nx ∧ Fol K w D.rt E.rt
abbrev PD (X : Cx) (e : Expr) (t : DE) : Prop := PE X e (tD X.K t)
abbrev PDT (X : Cx) (e : Expr) (t : DT) : Prop := PT X e (tDT X.K t)
abbrev PDA (X : Cx) (es : List Expr) (t : DA) : Prop := PA X es (tDA X.K t)
abbrev PDS (X : Cx) (st : Stmt) (t : DS) : Prop := PS X st (tDS X.K t)
abbrev PDSs (X : Cx) (st : List Stmt) (t : DS) : Prop := PSs X st (tDS X.K t)

section
variable {K : PySem.W.Frag} {w w' : Wd} {kk : DK} {Q : VK}
theorem Fol.le (h : Fol K w kk Q) (l : Le w w') : Fol K w' kk Q := fun d st' v w2 H' k l2 => h d st' v w2 H' k (l.trans l2)
theorem FolT.le {kk : Bool → Sto → Prop} {Q : Bool → Hp → Prop} (h : FolT K w kk Q) (l : Le w w') : FolT K w' kk Q := fun d st' w2 H' k l2 => h d st' w2 H' k (l.trans l2)
theorem FolA.le {kk : List D → Sto → Prop} {Q : List V → Hp → Prop} (h : FolA K w kk Q) (l : Le w w') : FolA K w' kk Q := fun d st' v w2 H' k l2 => h d st' v w2 H' k (l.trans l2)
theorem FolN.le {nx : Env → Sto → Prop} {Q : L2.St → Hp → Prop} (h : FolN K w nx Q) (l : Le w w') : FolN K w' nx Q := fun d st' v w2 H' k l2 => h d st' v w2 H' k (l.trans l2)
theorem Fol.id {st : Sto} {H : Hp} {d : D} {v : V} (h : Fol K w kk Q) (k : kk d st) (W : Wld K w st H) (R : Rep K w d v) : Q v H := h d st v w H k (.refl w) W R
end
theorem _root_.L2.PE.wk {X : Cx} {e : Expr} {t t' : TE} (h : PE X e t) (i : ∀ σ H Q, t' σ H Q → t σ H Q) : PE X e t' := ⟨fun pins s σ H Q I q => h.run pins s σ H Q I (i σ H Q q)⟩
theorem _root_.L2.PT.wk {X : Cx} {e : Expr} {t t' : TT} (h : PT X e t) (i : ∀ σ H Q, t' σ H Q → t σ H Q) : PT X e t' := ⟨fun pins s σ H Q I q => h.run pins s σ H Q I (i σ H Q q)⟩
theorem _root_.L2.PA.wk {X : Cx} {e : List Expr} {t t' : TA} (h : PA X e t) (i : ∀ σ H Q, t' σ H Q → t σ H Q) : PA X e t' := ⟨fun ps pins s σ H Q I q => h.run ps pins s σ H Q I (i σ H Q q)⟩
theorem _root_.L2.PS.wk {X : Cx} {e : Stmt} {t t' : TS} (h : PS X e t) (i : ∀ D σ H, t' D σ H → t D σ H) : PS X e t' := ⟨fun pins s σ H D I q => h.run pins s σ H D I (i D σ H q)⟩
theorem _root_.L2.PSs.wk {X : Cx} {e : List Stmt} {t t' : TS} (h : PSs X e t) (i : ∀ D σ H, t' D σ H → t D σ H) : PSs X e t' := ⟨fun pins s σ H D I q => h.run pins s σ H D I (i D σ H q)⟩

/-! ### names, constants -/
section
variable {X : Cx} {e a b : Expr} {es : List Expr} {pos : Pos} {ta tb : DE}
def dVar (i : Nat) : DE := fun env st k => match env[i]? with
  | some (some d) => k d st
  | _ => False
theorem pd_var (i : Nat) {x : Str} (hN : X.N[i]? = some x := by rfl) (hv : Vis X.env.scope x := by first | exact Or.inl rfl | exact Or.inr (Or.inl rfl) | exact Or.inr (Or.inr rfl)) (hd : (x == ("__debug__" : Str)) = false := by decide)
    (hcd : (x == ("__classdict__" : Str)) = false := by decide) : PD X (.Name x pos) (dVar i) := by
  refine (pe_var hN hv hd hcd).wk fun σ H Q ⟨w, env, st, kk, W, E, h, f⟩ => ?_
  unfold dVar at h
  split at h
  · rename_i d e
    obtain ⟨v, e1, r⟩ := E.2 i d e
    exact ⟨v, e1, f.id h W r⟩
  · exact h.elim
def dC (d : D) : DE := fun _ st k => k d st
theorem pd_of {v : V} {d : D} (h : PE X e (tC v)) (r : ∀ w, Rep X.K w d v) : PD X e (dC d) :=
  h.wk fun σ H Q ⟨w, env, st, kk, W, E, h, f⟩ => f.id h W (r w)
theorem pd_int {i j} : PD X (.Constant (.int i) j pos) (dC (.int i)) := pd_of pe_int fun w => by simp only [Rep]
theorem pd_bl {i j} : PD X (.Constant (.bool i) j pos) (dC (.bl i)) := pd_of pe_bl fun w => by simp only [Rep]
theorem pd_str {i j} : PD X (.Constant (.str i) j pos) (dC (.str i)) := pd_of pe_str fun w => by simp only [Rep]
/-! ### two values, an operator -/
abbrev F2 := D → D → Sto → DK → Prop
def dOp (f : F2) (ta tb : DE) : DE := fun env st k => ta env st fun x s1 => tb env s1 fun y s2 => f x y s2 k
def rD (K : PySem.W.Frag) (f : F2) : R2 := fun x y H Q => ∃ w st d e kk, Wld K w st H ∧ Rep K w d x ∧ Rep K w e y ∧ f d e st kk ∧ Fol K w kk Q
theorem d2_in {K : PySem.W.Frag} {f : F2} {σ : L2.St} {H : Hp} {Q : VK} (h : tD K (dOp f ta tb) σ H Q) : tOp (rD K f) (tD K ta) (tD K tb) σ H Q := by
  obtain ⟨w, env, st, kk, W, E, h, fo⟩ := h
  exact ⟨w, env, st, _, W, E, h, fun d st1 v w1 H1 h1 l1 W1 R1 => ⟨w1, env, st1, _, W1, E.mono l1, h1, fun e st2 u w2 H2 h2 l2 W2 R2 =>
    ⟨w2, st2, d, e, kk, W2, Rep.mono l2 _ _ R1, R2, h2, fo.le (l1.trans l2)⟩⟩⟩
theorem pd_op {op : Operator} {f : F2} (ho : OpR X (binaryOp op) (rD X.K f)) (ha : PD X a ta) (hb : PD X b tb) : PD X (.BinOp a op b pos) (dOp f ta tb) :=
  (pe_op ho ha hb).wk fun _ _ _ h => d2_in h
theorem pd_cmp {op : CmpOp} {f : F2} (ho : OpR X (compareOp op) (rD X.K f)) (ha : PD X a ta) (hb : PD X b tb) (hm : behindInMarks op b = false) : PD X (.Compare a [op] [b] pos) (dOp f ta tb) :=
  (pe_cmpR ho ha hb hm).wk fun _ _ _ h => d2_in h
/-- a value that is True or False, as a test -/
def dTest (t : DE) : DT := fun env st k => t env st fun d s1 => match d with
  | .bl b => k b s1
  | _ => False
theorem pd_tcmp {op : CmpOp} {f : F2} (ho : OpR X (compareOp op) (rD X.K f)) (ha : PD X a ta) (hb : PD X b tb) (hm : behindInMarks op b = false) : PDT X (.Compare a [op] [b] pos) (dTest (dOp f ta tb)) := by
  refine (pt_cmpR ho ha hb hm).wk fun σ H Q ⟨w, env, st, kk, W, E, h, fo⟩ => ?_
  refine d2_in (Q := fun x H' => ∃ k, x = .bl k ∧ Q k H') ⟨w, env, st, _, W, E, h, fun d st1 v w1 H1 h1 l1 W1 R1 => ?_⟩
  cases d with
  | bl b =>
    simp only [Rep] at R1
    exact ⟨b, R1, fo b st1 w1 H1 h1 l1 W1⟩
  | _ => exact h1.elim
/-- a one-place operation -/
abbrev F1 := D → Sto → DK → Prop
/-! ### tests -/
def truD (st : Sto) (d : D) : Bool := match deref st d with
  | .non => false
  | .bl b => b
  | .int i => i != 0
  | .str x => (x.length : Int) != 0
  | .lst xs => !xs.isEmpty
  | .tup xs => !xs.isEmpty
  | .klst _ => false
  | .obj _ => false
  | .dic _ _ => false
  | .fdic _ _ => false
  | .gtup _ => false
def OkTru (st : Sto) (d : D) : Prop := match deref st d with
  | .str x => x.length ≤ sizeLine
  | .klst _ => False
  | .obj _ => False
  | .dic _ _ => False
  | .fdic _ _ => False
  | .gtup _ => False
  | _ => True
def dTru (t : DE) : DT := fun env st k => t env st fun d s1 => OkTru s1 d ∧ k (truD s1 d) s1
theorem tru_rep {K : PySem.W.Frag} {w : Wd} {st : Sto} {H : Hp} {d : D} {v : V} (W : Wld K w st H) (R : Rep K w d v) (ok : OkTru st d) : TruV K v H (truD st d) := by
  unfold OkTru at ok
  unfold truD
  have nl : ∀ {xs : List D} {vs : List V}, Reps K w xs vs → (!xs.isEmpty) = !vs.isEmpty := fun {xs vs} r => by
    cases xs with
    | nil => rw [r.inv0]; rfl
    | cons d ds => obtain ⟨v, r', rfl, _, _⟩ := r.inv; rfl
  cases e : deref st d with
  | obj i => rw [e] at ok; exact ok.elim
  | klst i => rw [e] at ok; exact ok.elim
  | dic _ _ => rw [e] at ok; exact ok.elim
  | fdic _ _ => rw [e] at ok; exact ok.elim
  | gtup _ => rw [e] at ok; exact ok.elim
  | lst xs =>
    obtain ⟨a, vs, rfl, q, r, _⟩ := rep_lst W R e
    exact .inl ⟨vs, q, nl r⟩
  | tup xs =>
    obtain ⟨a, vs, rfl, q, r, _⟩ := rep_tup W R e
    exact .inr (.inl ⟨vs, q, nl r⟩)
  | non =>
    have : d = .non := deref_self e (fun _ z => by cases z) (fun _ z => by cases z)
    subst this
    simp only [Rep] at R
    subst R
    rfl
  | bl b =>
    have : d = .bl b := deref_self e (fun _ z => by cases z) (fun _ z => by cases z)
    subst this
    simp only [Rep] at R
    subst R
    rfl
  | int b =>
    have : d = .int b := deref_self e (fun _ z => by cases z) (fun _ z => by cases z)
    subst this
    simp only [Rep] at R
    subst R
    rfl
  | str b =>
    have : d = .str b := deref_self e (fun _ z => by cases z) (fun _ z => by cases z)
    subst this
    simp only [Rep] at R
    subst R
    rw [e] at ok
    exact ⟨ok, rfl⟩
theorem pd_tru (ha : PD X a ta) (he : ∀ whole, isTrue a X.env whole = (do let v ← whole; standAt a.pos; holding [v] (truthy v)) := by intro _; rfl) : PDT X a (dTru ta) := by
  refine (pt_truth ha he).wk fun σ H Q ⟨w, env, st, kk, W, E, h, fo⟩ => ?_
  exact ⟨w, env, st, _, W, E, h, fun d st1 v w1 H1 h1 l1 W1 R1 => ⟨_, tru_rep W1 R1 h1.1, fo _ st1 w1 H1 h1.2 l1 W1⟩⟩
def dNot (t : DT) : DT := fun env st k => t env st fun b s1 => k (!b) s1
theorem pd_tnot {t : DT} (ha : PDT X a t) : PDT X (.UnaryOp .Not a pos) (dNot t) := by
  refine (pt_not ha).wk fun σ H Q ⟨w, env, st, kk, W, E, h, fo⟩ => ?_
  exact ⟨w, env, st, _, W, E, h, fun b st1 w1 H1 h1 l1 W1 => fo _ st1 w1 H1 h1 l1 W1⟩
def dOr (t u : DT) : DT := fun env st k => t env st fun b s1 => if b = true then k true s1 else u env s1 k
abbrev PDW (X : Cx) (e : Expr) (t : DT) : Prop := PW X e (tDT X.K t)
theorem _root_.L2.PW.wk {X : Cx} {e : Expr} {t t' : TT} (h : PW X e t) (i : ∀ σ H Q, t' σ H Q → t σ H Q) : PW X e t' := ⟨fun wh pins s σ H Q I q => h.run wh pins s σ H Q I (i σ H Q q)⟩
theorem pw_dor {rest : List Expr} {t u : DT} (ha : PDT X a t) (hb : PDW X (.BoolOp .Or (b :: rest) pos) u) : PDW X (.BoolOp .Or (a :: b :: rest) pos) (dOr t u) := by
  refine L2.PW.wk (pw_or ha hb) fun σ H Q ⟨w, env, st, kk, W, E, h, fo⟩ => ?_
  refine ⟨w, env, st, _, W, E, h, fun c st1 w1 H1 h1 l1 W1 => ?_⟩
  cases c with
  | false =>
    rw [if_neg Bool.false_ne_true] at h1 ⊢
    exact ⟨w1, env, st1, _, W1, E.mono l1, h1, fo.le l1⟩
  | true =>
    rw [if_pos rfl] at h1 ⊢
    exact fo _ _ _ _ h1 l1 W1
def dIf (c : DT) (t u : DE) : DE := fun env st k => c env st fun b s1 => if b = true then t env s1 k else u env s1 k
theorem pd_ife {c : Expr} {tc : DT} {t u : DE} (hc : PDT X c tc) (ha : PD X a t) (hb : PD X b u) : PD X (.IfExp c a b pos) (dIf tc t u) := by
  refine (pe_ifExp hc ha hb).wk fun σ H Q ⟨w, env, st, kk, W, E, h, fo⟩ => ?_
  refine ⟨w, env, st, _, W, E, h, fun c st1 w1 H1 h1 l1 W1 => ?_⟩
  cases c with
  | true =>
    rw [if_pos rfl] at h1 ⊢
    exact ⟨w1, env, st1, _, W1, E.mono l1, h1, fo.le l1⟩
  | false =>
    rw [if_neg Bool.false_ne_true] at h1 ⊢
    exact ⟨w1, env, st1, _, W1, E.mono l1, h1, fo.le l1⟩

/-! ### argument lists, displays -/
def dNil : DA := fun _ st k => k [] st
def dCons (t : DE) (u : DA) : DA := fun env st k => t env st fun d s1 => u env s1 fun ds s2 => k (d :: ds) s2
theorem pda_nil : PDA X [] dNil := pa_nil.wk fun σ H Q ⟨w, env, st, kk, W, E, h, fo⟩ => fo _ _ _ _ _ h (.refl _) W .nil
theorem pda_cons {t : DE} {u : DA} (ha : PD X e t) (hr : PDA X es u) (hs : starEach (e :: es) X.env = (false, eval e X.env) :: starEach es X.env := by rfl) : PDA X (e :: es) (dCons t u) := by
  refine (pa_cons ha hr hs).wk fun σ H Q ⟨w, env, st, kk, W, E, h, fo⟩ => ?_
  exact ⟨w, env, st, _, W, E, h, fun d st1 v w1 H1 h1 l1 W1 R1 => ⟨w1, env, st1, _, W1, E.mono l1, h1, fun ds st2 vs w2 H2 h2 l2 W2 R2 =>
    fo _ _ _ _ _ h2 (l1.trans l2) W2 (.cons (Rep.mono l2 _ _ R1) R2)⟩⟩
def dTup (t : DA) : DE := fun env st k => t env st fun ds s1 => ds.length ≤ 16777216 ∧ k (.tup ds) s1
/-- a list display that nobody changes -/
def dLst (t : DA) : DE := fun env st k => t env st fun ds s1 => ds.length ≤ 16777216 ∧ k (.lst ds) s1
/-- a list display of the store -/
def dNew (t : DA) : DE := fun env st k => t env st fun ds s1 => ds.length ≤ 16777216 ∧ k (.obj s1.length) (s1 ++ [ds])
theorem line16 {n : Nat} (h : n ≤ 16777216) : n ≤ sizeLine := by rw [sizeLine_eq]; exact h
theorem fol_tup {K : PySem.W.Frag} {w : Wd} {st : Sto} {H : Hp} {kk : DK} {Q : VK} {ds : List D} {vs : List V} (W : Wld K w st H) (R : Reps K w ds vs) (n : vs.length ≤ sizeLine) (k : kk (.tup ds) st) (fo : Fol K w kk Q) :
    ∀ p, H p = none → Q (.ref p) (upd H p (.tup vs)) := fun p hp => by
  have l := Le.put (w := w) (o := .tup vs) (W.free hp)
  refine fo _ _ _ _ _ k l (W.put hp n) ?_
  simp only [Rep]
  exact ⟨p, vs, rfl, upd_same, Reps.mono l _ _ R⟩
theorem fol_lst {K : PySem.W.Frag} {w : Wd} {st : Sto} {H : Hp} {kk : DK} {Q : VK} {ds : List D} {vs : List V} (W : Wld K w st H) (R : Reps K w ds vs) (n : vs.length ≤ sizeLine) (k : kk (.lst ds) st) (fo : Fol K w kk Q) :
    ∀ p, H p = none → Q (.ref p) (upd H p (.lst vs)) := fun p hp => by
  have l := Le.put (w := w) (o := .lst vs) (W.free hp)
  refine fo _ _ _ _ _ k l (W.put hp n) ?_
  simp only [Rep]
  exact ⟨p, vs, rfl, upd_same, Reps.mono l _ _ R⟩
theorem fol_new {K : PySem.W.Frag} {w : Wd} {st : Sto} {H : Hp} {kk : DK} {Q : VK} {ds : List D} {vs : List V} (W : Wld K w st H) (R : Reps K w ds vs) (n : vs.length ≤ sizeLine) (k : kk (.obj st.length) (st ++ [ds])) (fo : Fol K w kk Q) :
    ∀ p, H p = none → Q (.ref p) (upd H p (.lst vs)) := fun p hp => by
  refine fo _ _ _ _ _ k (Le.addK (W.nas hp)) (W.add hp R n) ?_
  simp only [Rep]
  refine ⟨p, rfl, ?_, if_pos rfl⟩
  show (w.as ++ [p])[st.length]? = some p
  rw [← W.len, List.getElem?_concat_length]
theorem pd_tup {x1} {t : DA} (h : PDA X es t) : PD X (.Tuple es x1 pos) (dTup t) := by
  refine (pe_tup h).wk fun σ H Q ⟨w, env, st, kk, W, E, h, fo⟩ => ?_
  refine ⟨w, env, st, _, W, E, h, fun ds st1 vs w1 H1 h1 l1 W1 R1 => ?_⟩
  have n : vs.length ≤ sizeLine := by rw [R1.length]; exact line16 h1.1
  exact ⟨n, fol_tup W1 R1 n h1.2 (fo.le l1)⟩
theorem pd_lst {t : DA} (h : PDA X es t) : PD X (.List es pos) (dLst t) := by
  refine (pe_lst h).wk fun σ H Q ⟨w, env, st, kk, W, E, h, fo⟩ => ?_
  refine ⟨w, env, st, _, W, E, h, fun ds st1 vs w1 H1 h1 l1 W1 R1 => ?_⟩
  have n : vs.length ≤ sizeLine := by rw [R1.length]; exact line16 h1.1
  exact ⟨n, fol_lst W1 R1 n h1.2 (fo.le l1)⟩
theorem pd_new {t : DA} (h : PDA X es t) : PD X (.List es pos) (dNew t) := by
  refine (pe_lst h).wk fun σ H Q ⟨w, env, st, kk, W, E, h, fo⟩ => ?_
  refine ⟨w, env, st, _, W, E, h, fun ds st1 vs w1 H1 h1 l1 W1 R1 => ?_⟩
  have n : vs.length ≤ sizeLine := by rw [R1.length]; exact line16 h1.1
  exact ⟨n, fol_new W1 R1 n h1.2 (fo.le l1)⟩

/-! ### calls of defs -/
abbrev SpD := List D → Sto → DK → Prop
/-- a def's promise over data -/
def spD (K : PySem.W.Frag) (sp : SpD) : Sp := fun vs H Q _ => ∃ w st ds kk, Wld K w st H ∧ Reps K w ds vs ∧ sp ds st kk ∧ Fol K w kk Q
def dCall (sp : SpD) (t : DA) : DE := fun env st k => t env st fun ds s1 => sp ds s1 k
variable {k : Nat} {f : Addr} {fd : FuncData} {ps : List Str} {sp : SpD} {x : Str} {p : Pos}
theorem pd_call {t : DA} (F : FnG X.prog X.w X.K X.mg X.base CX0 k f fd ps (spD X.K sp)) (hr : RoomG k X.A) (hm : X.mg x = some (.ref f)) (hk : PySem.W.keepIn X.K (.ref f) = true) (hb : Binds X.K fd ps [])
    (ha : PDA X (e :: es) t) (hg : Gl X x := by rfl) (hdb : (x == ("__debug__" : Str)) = false := by decide) (he : starEach (e :: es) X.env = (false, eval e X.env) :: starEach es X.env := by rfl) (hpl : (backTo pos (starEach es X.env)).any (·.1) = false := by rfl) :
    PD X (.Call (.Name x p) (e :: es) [] pos) (dCall sp t) := by
  refine ⟨fun pins s σ H Q I ⟨w, env, st, kk, W, E, h, fo⟩ => ?_⟩
  refine wpAny_Call_Name_kw (ld_glob I hg hm ?_ hdb)
  refine PySem.W.callWith_K (h₀ := X.base) I.ok.mod.kin hk (thn (ha.run pos pins s σ H (fun vs H1 => spD X.K sp vs H1 Q E0) I ⟨w, env, st, _, W, E, h, fun ds st1 vs w1 H1 h1 l1 W1 R1 => ⟨w1, st1, ds, kk, W1, R1, h1, fo.le l1⟩⟩) fun us s1 ⟨vs, H1, I1, r, q⟩ => ⟨I1.kIn, ?_⟩) he hpl
  have hl : us.length = ps.length := r.length.symm.trans (F.len _ _ _ _ q)
  have z := hb s1 us I1.kIn (by rw [List.append_nil]; exact hl)
  rw [List.append_nil] at z
  exact run_fnG F hr pass0 I1 z r q
/-! ### statements -/
def dDrop (t : DE) : DS := fun D env st => t env st fun _ s1 => D.nx env s1
def dRet (t : DE) : DS := fun D env st => t env st D.rt
def dSeq (t u : DS) : DS := fun D env st => t { D with nx := u D } env st
def dPass : DS := fun D env st => D.nx env st
def dIfS (c : DT) (t u : DS) : DS := fun D env st => c env st fun b s1 => if b = true then t D env s1 else u D env s1
theorem pds_expr {t : DE} (he : PD X e t) (hs : swapsWith e none pos.line X.env = pure false := by rfl) : PDS X (.Expr e pos) (dDrop t) := by
  refine (ps_expr he hs).wk fun Ed σ H ⟨w, env, st, D, W, E, h, fn, fr⟩ => ?_
  exact ⟨w, env, st, _, W, E, h, fun d st1 v w1 H1 h1 l1 W1 R1 => fn _ _ _ _ _ h1 l1 W1 (E.mono l1)⟩
theorem pds_ret {t : DE} (he : PD X e t) : PDS X (.Return (some e) pos) (dRet t) := by
  refine (ps_ret he).wk fun Ed σ H ⟨w, env, st, D, W, E, h, fn, fr⟩ => ?_
  exact ⟨w, env, st, _, W, E, h, fr⟩
theorem pdss_nil : PDSs X [] dPass := by
  refine pss_nil.wk fun Ed σ H ⟨w, env, st, D, W, E, h, fn, fr⟩ => ?_
  exact fn _ _ _ _ _ h (.refl _) W E
theorem pdss_one {s : Stmt} {t : DS} (h : PDS X s t) : PDSs X [s] t := pss_one h
theorem pdss_cons {s : Stmt} {rest : List Stmt} {t u : DS} (h1 : PDS X s t) (h2 : PDSs X rest u) : PDSs X (s :: rest) (dSeq t u) := by
  refine (pss_cons h1 h2).wk fun Ed σ H ⟨w, env, st, D, W, E, h, fn, fr⟩ => ?_
  exact ⟨w, env, st, _, W, E, h, fun env1 st1 σ1 w1 H1 h1 l1 W1 E1 => ⟨w1, env1, st1, D, W1, E1, h1, fn.le l1, fr.le l1⟩, fr⟩
theorem pds_if {c : Expr} {xs ys : List Stmt} {tc : DT} {t u : DS} (hc : PDT X c tc) (ha : PDSs X xs t) (hb : PDSs X ys u) : PDS X (.If c xs ys pos) (dIfS tc t u) := by
  refine (ps_if hc ha hb).wk fun Ed σ H ⟨w, env, st, D, W, E, h, fn, fr⟩ => ?_
  refine ⟨w, env, st, _, W, E, h, fun c st1 w1 H1 h1 l1 W1 => ?_⟩
  cases c with
  | true =>
    rw [if_pos rfl] at h1 ⊢
    exact ⟨w1, env, st1, D, W1, E.mono l1, h1, fn.le l1, fr.le l1⟩
  | false =>
    rw [if_neg Bool.false_ne_true] at h1 ⊢
    exact ⟨w1, env, st1, D, W1, E.mono l1, h1, fn.le l1, fr.le l1⟩

/-! ### targets -/
abbrev DG := D → Env → Sto → (Env → Sto → Prop) → Prop
abbrev DGs := List D → Env → Sto → (Env → Sto → Prop) → Prop
def tDG (K : PySem.W.Frag) (g : DG) : TG := fun v σ H Q => ∃ w env st d nx, Wld K w st H ∧ EnvR K w env σ ∧ Rep K w d v ∧ g d env st nx ∧ FolN K w nx Q
def tDGs (K : PySem.W.Frag) (g : DGs) : TGs := fun vs σ H Q => ∃ w env st ds nx, Wld K w st H ∧ EnvR K w env σ ∧ Reps K w ds vs ∧ g ds env st nx ∧ FolN K w nx Q
abbrev PDG (X : Cx) (e : Expr) (g : DG) : Prop := PG X e (tDG X.K g)
abbrev PDGs (X : Cx) (e : List Expr) (g : DGs) : Prop := PGs X e (tDGs X.K g)
theorem _root_.L2.PG.wk {X : Cx} {e : Expr} {t t' : TG} (h : PG X e t) (i : ∀ v σ H Q, t' v σ H Q → t v σ H Q) : PG X e t' := ⟨fun pins s σ H v u Q I r q => h.run pins s σ H v u Q I r (i v σ H Q q)⟩
theorem _root_.L2.PGs.wk {X : Cx} {e : List Expr} {t t' : TGs} (h : PGs X e t) (i : ∀ v σ H Q, t' v σ H Q → t v σ H Q) : PGs X e t' := ⟨fun pins s σ H v u Q I r q => h.run pins s σ H v u Q I r (i v σ H Q q)⟩
def dgName (i : Nat) : DG := fun d env st k => k (env.set i (some d)) st
theorem pdg_name (i : Nat) {x : Str} (hN : X.N.Nodup) (hi : X.N[i]? = some x := by rfl) (hx : Loc X.env.scope x := by first | exact Or.inl rfl | exact Or.inr rfl) (hf : X.fn x = true ∨ X.env.scope.names.lookup x = some .local := by first | exact .inl rfl | exact .inr rfl | assumption) : PDG X (.Name x pos) (dgName i) := by
  refine L2.PG.wk (pg_name hN hi hx hf) fun v σ H Q ⟨w, env, st, d, nx, W, E, R, h, fn⟩ => ?_
  exact fn _ _ _ _ _ h (.refl _) W (E.set i R)
def dgNil : DGs := fun ds env st k => match ds with
  | [] => k env st
  | _ => False
def dgCons (g : DG) (h : DGs) : DGs := fun ds env st k => match ds with
  | d :: r => g d env st fun env' st' => h r env' st' k
  | [] => False
theorem pdgs_nil : PDGs X [] dgNil := by
  refine L2.PGs.wk pgs_nil fun v σ H Q ⟨w, env, st, ds, nx, W, E, R, h, fn⟩ => ?_
  cases ds with
  | nil => exact ⟨R.inv0, fn _ _ _ _ _ h (.refl _) W E⟩
  | cons _ _ => exact h.elim
theorem pdgs_cons {t : DG} {u : DGs} (h1 : PDG X e t) (h2 : PDGs X es u)
    (hs : (assignEach (e :: es) X.env).map (·.2) = assign e X.env :: (assignEach es X.env).map (·.2) := by rfl) : PDGs X (e :: es) (dgCons t u) := by
  refine L2.PGs.wk (pgs_cons h1 h2 hs) fun v σ H Q ⟨w, env, st, ds, nx, W, E, R, h, fn⟩ => ?_
  cases ds with
  | nil => exact h.elim
  | cons d r =>
    obtain ⟨v, vr, rfl, R1, R2⟩ := R.inv
    exact ⟨v, vr, rfl, w, env, st, d, _, W, E, R1, h, fun env1 st1 σ1 w1 H1 h1 l1 W1 E1 => ⟨w1, env1, st1, r, nx, W1, E1, Reps.mono l1 _ _ R2, h1, fn.le l1⟩⟩
def dgTup (n : Nat) (g : DGs) : DG := fun d env st k => match deref st d with
  | .tup xs => xs.length = n ∧ g xs env st k
  | _ => False
theorem pdg_tup {kk : Nat} {t : DGs} {n : Nat} (hc : X.calm = true) (h : PDGs X es t)
    (hn : (assignEach es X.env).length = n := by rfl) (hst : (assignEach es X.env).findIdx? (·.1) = none := by rfl) : PDG X (.Tuple es kk pos) (dgTup n t) := by
  refine L2.PG.wk (pg_tup hc h hn hst) fun v σ H Q ⟨w, env, st, d, nx, W, E, R, h, fn⟩ => ?_
  unfold dgTup at h
  split at h
  · rename_i xs e
    obtain ⟨a, vs, rfl, q, r, _⟩ := rep_tup W R e
    exact ⟨a, vs, rfl, q, by rw [r.length]; exact h.1, w, env, st, xs, nx, W, E, r, h.2, fn⟩
  · exact h.elim
def dAsg (t : DE) (g : DG) : DS := fun D env st => t env st fun d s1 => g d env s1 D.nx
theorem asg_in {K : PySem.W.Frag} {t : DE} {g : DG} {Ed : Ends} {σ : L2.St} {H : Hp} (h : tDS K (dAsg t g) Ed σ H) : tAsg (tD K t) (tDG K g) Ed σ H := by
  obtain ⟨w, env, st, D, W, E, h, fn, fr⟩ := h
  exact ⟨w, env, st, _, W, E, h, fun d st1 v w1 H1 h1 l1 W1 R1 => ⟨w1, env, st1, d, _, W1, E.mono l1, R1, h1, fn.le l1⟩⟩
theorem pds_asg {tg : Expr} {t : DE} {g : DG} (he : PD X e t) (hg : PDG X tg g) (hs : swapsWithSole [tg] e pos.line X.env = pure false := by rfl) (hw : swappedStores [tg] e X.env = pure none := by rfl)
    (h1 : (assignEach [tg] X.env).map (·.2) = [assign tg X.env] := by rfl) : PDS X (.Assign [tg] e pos) (dAsg t g) :=
  (ps_asg he hg hs hw h1).wk fun _ _ _ h => asg_in h
theorem pds_set (i : Nat) {x : Str} {t : DE} {pos' : Pos} (hN : X.N.Nodup) (he : PD X e t) (hi : X.N[i]? = some x := by rfl) (hx : Loc X.env.scope x := by first | exact Or.inl rfl | exact Or.inr rfl) (hs : swapsWith e (some (.Name x pos')) pos.line X.env = pure false := by rfl) (hf : X.fn x = true ∨ X.env.scope.names.lookup x = some .local := by first | exact .inl rfl | exact .inr rfl | assumption) :
    PDS X (.Assign [.Name x pos'] e pos) (dAsg t (dgName i)) := by
  refine (ps_set hN hi hx he hs hf).wk fun Ed σ H ⟨w, env, st, D, W, E, h, fn, fr⟩ => ?_
  exact ⟨w, env, st, _, W, E, h, fun d st1 v w1 H1 h1 l1 W1 R1 => fn _ _ _ _ _ h1 l1 W1 ((E.mono l1).set i R1)⟩
/-- a, b = x, y with plain local names: stored from the right -/
def dPar (i j : Nat) (t : DA) : DS := fun D env st => t env st fun ds s1 => match ds with
  | [d, e] => D.nx ((env.set i (some d)).set j (some e)) s1
  | _ => False
theorem pds_par (i j : Nat) {x y : Str} {t : DA} {px py pt : Pos} {kt k2 pt2} (hc : X.calm = true) (hN : X.N.Nodup) (ha : PDA X [a, b] t) (hi : X.N[i]? = some x := by rfl) (hj : X.N[j]? = some y := by rfl) (hij : i ≠ j := by decide)
    (hx : X.env.scope.names.lookup x = some .local := by rfl) (hy : X.env.scope.names.lookup y = some .local := by rfl)
    (hw : swappedStores [.Tuple [.Name x px, .Name y py] kt pt] (.Tuple [a, b] k2 pt2) X.env = pure (some [x, y]) := by rfl)
    (hs : swapsWithSole [.Tuple [.Name x px, .Name y py] kt pt] (.Tuple [a, b] k2 pt2) pos.line X.env = pure false := by rfl) :
    PDS X (.Assign [.Tuple [.Name x px, .Name y py] kt pt] (.Tuple [a, b] k2 pt2) pos) (dPar i j t) := by
  refine (ps_par hc hN hi hj hij hx hy ha hw hs).wk fun Ed σ H ⟨w, env, st, D, W, E, h, fn, fr⟩ => ?_
  refine ⟨w, env, st, _, W, E, h, fun ds st1 vs w1 H1 h1 l1 W1 R1 => ?_⟩
  match ds, h1, R1 with
  | [d, e], h1, R1 =>
    obtain ⟨v, r, rfl, Rv, R2⟩ := R1.inv
    obtain ⟨u, r', rfl, Ru, R3⟩ := R2.inv
    rw [R3.inv0]
    exact ⟨v, u, rfl, fn _ _ _ _ _ h1 l1 W1 (((E.mono l1).set i Rv).set j Ru)⟩
  | [], h1, _ => exact h1.elim
  | [_], h1, _ => exact h1.elim
  | _ :: _ :: _ :: _, h1, _ => exact h1.elim
end
end DL

/-! a tuple taken once -/
namespace DL
open PySem PySem.Spec PyProof.Rows L2
theorem tupOnce (a : Addr) (vs : Array Value) (n : Nat) (dd : Option Addr) (sl : Array (Option Value)) (u : Tok) :
    Meets (Builtin.«tuple.__mul__» ⟨[.ref a, .int 1 u], []⟩) (fun _ R z => z.heap.get? a = some { cls := .type "tuple", dict := dd, data := .seq vs n, slots := sl } ∧ R (.ok (.ret (Value.ref a))) z) :=
  .of_wp fun pr w A R z hh => by
    obtain ⟨hp, gs, dr, tk, os⟩ := z
    obtain ⟨hl, hh⟩ := hh
    have f1 := AutoSeq1.idx_int
    have c1 : (vs.isEmpty || (1 : Int) == 1) = true := by simp
    wp_walk using wpAny_loadPart' hl
    exact ⟨_, rfl, hh⟩
def rOnceT (K : PySem.W.Frag) : R2 := fun x y H Q => ∃ l xs, x = .ref l ∧ y = .int 1 ∧ SqT K H l xs ∧ Q (.ref l) H
theorem op_onceT {X : Cx} : OpR X (binaryOp .Mult) (rOnceT X.K) := by
  intro pins s σ H x y v u Q I rx ry h
  obtain ⟨l, xs, rfl, rfl, hT, q⟩ := h
  cases rx
  obtain ⟨t, rfl⟩ := ry
  obtain ⟨its, r, ⟨⟨cls, dd, data, sl⟩, ho, hc, n, hd⟩, hs⟩ := I.tuple hT
  simp only at hc hd
  subst hc hd
  refine wpAny_binaryOp_repeat_ref (T := "tuple") (U := "int") (by decide) ⟨_, ho, rfl⟩ (fun s' => typeIs_int s' 1 t) noFill_tuple_mul F.fills_int_mul F.slot_int_rmul repeat_tuple F.slot_int_index.lookup
    (call_meets F.slot_int_rmul (typeIs_int s 1 t) F.entry_int_rmul (F.args_int_rmul_2 _ _) (int_rmul_tuple 1 t l its.toArray n dd sl)
      ⟨ho, rfl, ⟨_, ho, rfl⟩, call_meets F.slot_tuple_mul ⟨_, ho, rfl⟩ F.entry_tuple_mul (F.args_tuple_mul_2 _ _) (tupOnce l its.toArray n dd sl t) ⟨ho, ?_⟩⟩)
  exact ⟨.ref l, H, I, rfl, q⟩
end DL

namespace DL
open PySem PySem.Spec PyProof.Rows L2
/-! ### operators by data -/
def MulOk (a b : Int) : Prop := (-(2 ^ 64) < a ∧ a < 2 ^ 64) ∨ (-(2 ^ 64) < b ∧ b < 2 ^ 64) ∨ a.natAbs.log2 + b.natAbs.log2 < 1000000
def DivOk (b : Int) : Prop := 0 < b ∧ b.natAbs.log2 < 9000
def PowOk (a b : Int) : Prop := 0 ≤ b ∧ b ≤ 1000000 ∧ a.natAbs < 2 ^ 64
def addD : F2 := fun d e st k => match d, e with
  | .int a, .int b => k (.int (a + b)) st
  | .int a, .bl b => k (.int (a + b2i b)) st
  | .bl a, .int b => k (.int (b2i a + b)) st
  | .str a, .str b => a.length + b.length ≤ 16777216 ∧ k (.str (a ++ b)) st
  | .tup a, .tup b => a.length + b.length ≤ 16777216 ∧ k (.tup (a ++ b)) st
  | d, e => match derefM st d, derefM st e with
    | some a, some b => a.length + b.length ≤ 16777216 ∧ k (.lst (a ++ b)) st
    | _, _ => False
def subD : F2 := fun d e st k => match d, e with
  | .int a, .int b => k (.int (a - b)) st
  | .int a, .bl b => k (.int (a - b2i b)) st
  | .bl a, .int b => k (.int (b2i a - b)) st
  | _, _ => False
def mulD : F2 := fun d e st k => match d, e with
  | .int a, .int b => MulOk a b ∧ k (.int (a * b)) st
  | .tup a, .int b => a ≠ [] ∧ 1 ≤ b ∧ b ≤ 1000 ∧ a.length ≤ 1000 ∧ k (.tup (List.replicate b.toNat a).flatten) st
  | .str z, .int b => 0 ≤ b ∧ b ≤ 1 ∧ k (.str (if b < 1 then Str.empty else z)) st
  | d, .int b => match derefM st d with
    | some a => -(2 ^ 63) ≤ b ∧ b < 2 ^ 63 ∧ a.length * b.toNat ≤ 16777216 ∧ k (.lst (List.replicate b.toNat a).flatten) st
    | none => False
  | _, _ => False
def divD : F2 := fun d e st k => match d, e with
  | .int a, .int b => DivOk b ∧ k (.int (a / b)) st
  | _, _ => False
def modD : F2 := fun d e st k => match d, e with
  | .int a, .int b => 0 < b ∧ k (.int (a % b)) st
  | _, _ => False
def powD : F2 := fun d e st k => match d, e with
  | .int a, .int b => PowOk a b ∧ k (.int (a ^ b.toNat)) st
  | _, _ => False
section
variable {X : Cx}
theorem rep_int {K : PySem.W.Frag} {w : Wd} {a : Int} : Rep K w (.int a) (.int a) := by simp only [Rep]
theorem rep_bl {K : PySem.W.Frag} {w : Wd} {a : Bool} : Rep K w (.bl a) (.bl a) := by simp only [Rep]
theorem rep_str {K : PySem.W.Frag} {w : Wd} {a : Str} : Rep K w (.str a) (.str a) := by simp only [Rep]
theorem rep_non {K : PySem.W.Frag} {w : Wd} : Rep K w .non .non := by simp only [Rep]
theorem OpR.wk {f : Value → Value → Sem Value} {r r' : R2} (h : OpR X f r) (i : ∀ x y H Q, r' x y H Q → r x y H Q) : OpR X f r' := fun pins s σ H x y v u Q I rx ry q => h pins s σ H x y v u Q I rx ry (i x y H Q q)
/-- a rule by cases of the data -/
theorem OpR.by_ {f : Value → Value → Sem Value} {g : F2}
    (h : ∀ (x y : V) (H : Hp) (Q : VK) (w : Wd) (st : Sto) (d e : D) (kk : DK), Wld X.K w st H → Rep X.K w d x → Rep X.K w e y → g d e st kk → Fol X.K w kk Q → ∃ r : R2, OpR X f r ∧ r x y H Q) : OpR X f (rD X.K g) :=
  fun pins s σ H x y v u Q I rx ry ⟨w, st, d, e, kk, W, R1, R2, q, fo⟩ => by
    obtain ⟨r, hr, q⟩ := h x y H Q w st d e kk W R1 R2 q fo
    exact hr pins s σ H x y v u Q I rx ry q
theorem cat_lists {w : Wd} {st : Sto} {H : Hp} {d e : D} {x y : V} {kk : DK} {Q : VK} {a b : List D} (W : Wld X.K w st H) (R1 : Rep X.K w d x) (R2 : Rep X.K w e y) (h1 : derefM st d = some a) (h2 : derefM st e = some b)
    (n : a.length + b.length ≤ 16777216) (k : kk (.lst (a ++ b)) st) (fo : Fol X.K w kk Q) : ∃ r : L2.R2, OpR X (binaryOp .Add) r ∧ r x y H Q := by
  obtain ⟨p, vs, rfl, q1, r1, _⟩ := rep_lstM W R1 h1
  obtain ⟨p2, us, rfl, q2, r2, _⟩ := rep_lstM W R2 h2
  have n' : vs.length + us.length ≤ sizeLine := by rw [r1.length, r2.length]; exact line16 n
  exact ⟨rCat, op_cat, p, p2, vs, us, rfl, rfl, q1, q2, n', fol_lst W (r1.append r2) (by rw [List.length_append]; exact n') k fo⟩
theorem op_add_bi : OpR X (binaryOp .Add) (fun x y H Q => ∃ k i, x = .bl k ∧ y = .int i ∧ Q (.int (b2i k + i)) H) := by
  rintro pins s σ H x y v u Q I rx ry ⟨k, i, rfl, rfl, q⟩
  obtain ⟨t, rfl⟩ := ry
  cases rx
  exact PySem.IntBool.add_bool_int ⟨.int (b2i k + i), H, I.tok _, ⟨_, rfl⟩, q⟩
theorem op_sub_bi : OpR X (binaryOp .Sub) (fun x y H Q => ∃ k i, x = .bl k ∧ y = .int i ∧ Q (.int (b2i k - i)) H) := by
  rintro pins s σ H x y v u Q I rx ry ⟨k, i, rfl, rfl, q⟩
  obtain ⟨t, rfl⟩ := ry
  cases rx
  exact PySem.IntBool.sub_bool_int ⟨.int (b2i k - i), H, I.tok _, ⟨_, rfl⟩, q⟩
theorem op_sub_ib : OpR X (binaryOp .Sub) (fun x y H Q => ∃ i k, x = .int i ∧ y = .bl k ∧ Q (.int (i - b2i k)) H) := by
  rintro pins s σ H x y v u Q I rx ry ⟨i, k, rfl, rfl, q⟩
  obtain ⟨t, rfl⟩ := rx
  cases ry
  exact PySem.IntBool.sub_int_bool ⟨.int (i - b2i k), H, I.tok _, ⟨_, rfl⟩, q⟩
theorem dop_add : OpR X (binaryOp .Add) (rD X.K addD) := by
  refine OpR.by_ fun x y H Q w st d e kk W R1 R2 q fo => ?_
  unfold addD at q
  split at q
  · rename_i a b
    simp only [Rep] at R1 R2
    exact ⟨_, op_add, a, b, R1, R2, fo.id q W rep_int⟩
  · rename_i a b
    simp only [Rep] at R1 R2
    exact ⟨_, op_add_ib, a, b, R1, R2, fo.id q W rep_int⟩
  · rename_i a b
    simp only [Rep] at R1 R2
    exact ⟨_, op_add_bi, a, b, R1, R2, fo.id q W rep_int⟩
  · rename_i a b
    simp only [Rep] at R1 R2
    exact ⟨_, op_add_str, a, b, R1, R2, line16 q.1, fo.id q.2 W rep_str⟩
  · rename_i a b
    obtain ⟨p, vs, rfl, q1, r1, _⟩ := rep_tup W R1 rfl
    obtain ⟨p2, us, rfl, q2, r2, _⟩ := rep_tup W R2 rfl
    have n' : vs.length + us.length ≤ sizeLine := by rw [r1.length, r2.length]; exact line16 q.1
    refine ⟨rCatA X.K, op_catA, p, p2, vs, us, rfl, rfl, q1, q2, n', fun e => ?_, fun _ e => ?_, fun _ _ => fol_tup W (r1.append r2) (by rw [List.length_append]; exact n') q.2 fo⟩
    · have ea : a = [] := by
        have := r1.length
        rw [e] at this
        exact List.eq_nil_of_length_eq_zero this.symm
      subst ea
      exact fo.id q.2 W R2
    · have eb : b = [] := by
        have := r2.length
        rw [e] at this
        exact List.eq_nil_of_length_eq_zero this.symm
      subst eb
      refine fo.id q.2 W ?_
      rw [List.append_nil]
      exact R1
  · split at q
    · rename_i a b h1 h2
      exact cat_lists W R1 R2 h1 h2 q.1 q.2 fo
    · exact q.elim
theorem MulOk.ok {a b : Int} (h : MulOk a b) : IntMulOk a b := by
  rcases h with h | h | h
  · exact CMul.ok (.inl h)
  · exact CMul.ok (.inr h)
  · exact CMulW.ok h
theorem op_mulD : OpR X (binaryOp .Mult) (rI MulOk fun i j => .int (i * j)) := opI fun _ _ _ _ _ _ _ hc q => mul_int q hc.ok
theorem op_mul_str : OpR X (binaryOp .Mult) (fun x y H Q => ∃ (z : Str) (i : Int), x = .str z ∧ y = .int i ∧ 0 ≤ i ∧ i ≤ 1 ∧ Q (.str (if i < 1 then Str.empty else z)) H) := by
  rintro pins s σ H x y v u Q I rx ry ⟨z, i, rfl, rfl, h0, h1, q⟩
  obtain ⟨t, rfl⟩ := rx
  obtain ⟨t', rfl⟩ := ry
  rcases (show i = 0 ∨ i = 1 by omega) with rfl | rfl
  · exact P.mul_str_none (by decide) (by decide) ⟨.str Str.empty, H, I.tok _, ⟨_, rfl⟩, q⟩
  · exact P.mul_str (by decide) (fun _ h => by simp at h) (fun _ h => by simp at h) (by
      rw [if_neg (by decide), if_pos (by simp)]
      exact ⟨.str z, H, I, ⟨_, rfl⟩, q⟩)
theorem dop_mul : OpR X (binaryOp .Mult) (rD X.K mulD) := by
  refine OpR.by_ fun x y H Q w st d e kk W R1 R2 q fo => ?_
  unfold mulD at q
  split at q
  · simp only [Rep] at R1 R2
    exact ⟨_, op_mulD, _, _, R1, R2, q.1, fo.id q.2 W rep_int⟩
  · rename_i a b
    obtain ⟨p, vs, rfl, q1, r1, _⟩ := rep_tup W R1 rfl
    simp only [Rep] at R2
    obtain ⟨ne, h1, h2, h3, q⟩ := q
    have nv : vs ≠ [] := fun z => ne (by
      have := r1.length
      rw [z] at this
      exact List.eq_nil_of_length_eq_zero this.symm)
    by_cases hb : b = 1
    · subst hb
      refine ⟨_, op_onceT, p, vs, rfl, R2, q1, fo.id q W ?_⟩
      have e : (List.replicate (1 : Int).toNat a).flatten = a := by
        show (List.replicate 1 a).flatten = a
        simp
      rw [e]
      exact R1
    have h1 : 2 ≤ b := by omega
    refine ⟨rRepT X.K, op_repT, p, b, vs, rfl, R2, q1, nv, h1, h2, by rw [r1.length]; exact h3, ?_⟩
    refine fol_tup W (r1.rep b.toNat) ?_ q fo
    rw [PyProof.Rows.lm_len_rep_flat, sizeLine_eq, r1.length]
    have a1 : b.toNat * a.length ≤ 1000 * 1000 := Nat.mul_le_mul (by omega) h3
    omega
  · rename_i z b
    simp only [Rep] at R1 R2
    obtain ⟨h0, h1, q⟩ := q
    exact ⟨_, op_mul_str, z, b, R1, R2, h0, h1, fo.id q W rep_str⟩
  · split at q
    · rename_i a ha
      simp only [Rep] at R2
      obtain ⟨p, vs, rfl, q1, r1, _⟩ := rep_lstM W R1 ha
      obtain ⟨h1, h2, h3, q⟩ := q
      have n' := line16 h3
      rw [← r1.length] at n'
      refine ⟨rRep, op_rep, p, _, vs, rfl, R2, q1, h1, h2, n', fol_lst W (r1.rep _) ?_ q fo⟩
      rw [PyProof.Rows.lm_len_rep_flat, Nat.mul_comm]
      exact n'
    · exact q.elim
  · exact q.elim
theorem dop_sub : OpR X (binaryOp .Sub) (rD X.K subD) := by
  refine OpR.by_ fun x y H Q w st d e kk W R1 R2 q fo => ?_
  unfold subD at q
  split at q
  · simp only [Rep] at R1 R2
    exact ⟨_, op_sub, _, _, R1, R2, fo.id q W rep_int⟩
  · simp only [Rep] at R1 R2
    exact ⟨_, op_sub_ib, _, _, R1, R2, fo.id q W rep_int⟩
  · simp only [Rep] at R1 R2
    exact ⟨_, op_sub_bi, _, _, R1, R2, fo.id q W rep_int⟩
  · exact q.elim
theorem dop_div : OpR X (binaryOp .FloorDiv) (rD X.K divD) := by
  refine OpR.by_ fun x y H Q w st d e kk W R1 R2 q fo => ?_
  unfold divD at q
  split at q
  · simp only [Rep] at R1 R2
    exact ⟨_, op_fdivW, _, _, R1, R2, q.1, fo.id q.2 W rep_int⟩
  · exact q.elim
theorem dop_mod : OpR X (binaryOp .Mod) (rD X.K modD) := by
  refine OpR.by_ fun x y H Q w st d e kk W R1 R2 q fo => ?_
  unfold modD at q
  split at q
  · simp only [Rep] at R1 R2
    exact ⟨_, op_mod, _, _, R1, R2, q.1, fo.id q.2 W rep_int⟩
  · exact q.elim
theorem dop_pow : OpR X (binaryOp .Pow) (rD X.K powD) := by
  refine OpR.by_ fun x y H Q w st d e kk W R1 R2 q fo => ?_
  unfold powD at q
  split at q
  · simp only [Rep] at R1 R2
    exact ⟨_, op_pow, _, _, R1, R2, q.1, fo.id q.2 W rep_int⟩
  · exact q.elim
/-! ### comparisons -/
mutual
def eqD : D → D → Bool
  | .non, .non => true
  | .bl a, .bl b => a == b
  | .bl a, .int j => (if a then 1 else 0) == j
  | .int i, .bl b => i == (if b then 1 else 0)
  | .int i, .int j => i == j
  | .str x, .str y => x == y
  | .lst xs, .lst ys => eqDs xs ys
  | .tup xs, .tup ys => eqDs xs ys
  | _, _ => false
def eqDs : List D → List D → Bool
  | [], [] => true
  | x :: xs, y :: ys => eqD x y && eqDs xs ys
  | _, _ => false
end
mutual
/-- data that == goes through: no list of the store within, so deep at most -/
def okD : Nat → D → Bool
  | _, .non => true
  | _, .bl _ => true
  | _, .int _ => true
  | _, .str x => PyData.strOk x
  | 0, .lst _ => false
  | n + 1, .lst xs => okDs n xs
  | 0, .tup _ => false
  | n + 1, .tup xs => okDs n xs
  | _, .klst _ => false
  | _, .obj _ => false
  | _, .dic _ _ => false
  | _, .fdic _ _ => false
  | _, .gtup _ => false
def okDs : Nat → List D → Bool
  | _, [] => true
  | n, x :: xs => okD n x && okDs n xs
end
mutual
def toP : D → PyData
  | .non => .none
  | .bl b => .bool b
  | .int i => .int i
  | .str x => .str x
  | .lst xs => .list (toPs xs)
  | .tup xs => .tuple (toPs xs)
  | .klst _ => .none
  | .obj _ => .none
  | .dic _ _ => .none
  | .fdic _ _ => .none
  | .gtup _ => .none
def toPs : List D → List PyData
  | [] => []
  | x :: xs => toP x :: toPs xs
end
mutual
theorem eqv_toP : ∀ (n m : Nat) (a b : D), okD n a = true → okD m b = true → PyData.eqv (toP a) (toP b) = eqD a b
  | n, m, .lst xs, .lst ys, h, g => by
    cases n with
    | zero => simp [okD] at h
    | succ n =>
      cases m with
      | zero => simp [okD] at g
      | succ m =>
        simp only [okD] at h g
        simp only [toP, PyData.eqv, eqD]
        exact eqv_toPs n m xs ys h g
  | n, m, .tup xs, .tup ys, h, g => by
    cases n with
    | zero => simp [okD] at h
    | succ n =>
      cases m with
      | zero => simp [okD] at g
      | succ m =>
        simp only [okD] at h g
        simp only [toP, PyData.eqv, eqD]
        exact eqv_toPs n m xs ys h g
  | n, m, .klst xs, _, h, g => by cases n <;> simp [okD] at h
  | n, m, .obj xs, _, h, g => by cases n <;> simp [okD] at h
  | n, m, .dic _ _, _, h, g => by cases n <;> simp [okD] at h
  | n, m, .fdic _ _, _, h, g => by cases n <;> simp [okD] at h
  | n, m, .gtup _, _, h, g => by cases n <;> simp [okD] at h
  | n, m, _, .klst xs, h, g => by cases m <;> simp [okD] at g
  | n, m, _, .obj xs, h, g => by cases m <;> simp [okD] at g
  | n, m, _, .dic _ _, h, g => by cases m <;> simp [okD] at g
  | n, m, _, .fdic _ _, h, g => by cases m <;> simp [okD] at g
  | n, m, _, .gtup _, h, g => by cases m <;> simp [okD] at g
  | n, m, .non, b, h, g => by cases b <;> (first | (simp [toP, PyData.eqv, eqD]; done) | (cases m <;> simp [okD] at g))
  | n, m, .bl _, b, h, g => by cases b <;> (first | (simp [toP, PyData.eqv, eqD]; done) | (cases m <;> simp [okD] at g))
  | n, m, .int _, b, h, g => by cases b <;> (first | (simp [toP, PyData.eqv, eqD]; done) | (cases m <;> simp [okD] at g))
  | n, m, .str _, b, h, g => by cases b <;> (first | (simp [toP, PyData.eqv, eqD]; done) | (cases m <;> simp [okD] at g))
  | n, m, .lst _, .non, h, g => by simp [toP, PyData.eqv, eqD]
  | n, m, .lst _, .bl _, h, g => by simp [toP, PyData.eqv, eqD]
  | n, m, .lst _, .int _, h, g => by simp [toP, PyData.eqv, eqD]
  | n, m, .lst _, .str _, h, g => by simp [toP, PyData.eqv, eqD]
  | n, m, .lst _, .tup _, h, g => by simp [toP, PyData.eqv, eqD]
  | n, m, .tup _, .non, h, g => by simp [toP, PyData.eqv, eqD]
  | n, m, .tup _, .bl _, h, g => by simp [toP, PyData.eqv, eqD]
  | n, m, .tup _, .int _, h, g => by simp [toP, PyData.eqv, eqD]
  | n, m, .tup _, .str _, h, g => by simp [toP, PyData.eqv, eqD]
  | n, m, .tup _, .lst _, h, g => by simp [toP, PyData.eqv, eqD]
theorem eqv_toPs : ∀ (n m : Nat) (a b : List D), okDs n a = true → okDs m b = true → PyData.eqvAll (toPs a) (toPs b) = eqDs a b
  | n, m, [], [], _, _ => by simp [toPs, PyData.eqvAll, eqDs]
  | n, m, [], _ :: _, _, _ => by simp [toPs, PyData.eqvAll, eqDs]
  | n, m, _ :: _, [], _, _ => by simp [toPs, PyData.eqvAll, eqDs]
  | n, m, x :: xs, y :: ys, h, g => by
    simp only [okDs, Bool.and_eq_true] at h g
    simp only [toPs, PyData.eqvAll, eqDs]
    rw [eqv_toP n m x y h.1 g.1, eqv_toPs n m xs ys h.2 g.2]
end
mutual
theorem shape_toP : ∀ (n : Nat) (a : D), okD n a = true → (toP a).canLay0 = true ∧ (toP a).depth ≤ n
  | n, .non, _ => by simp [toP, PyData.canLay0, PyData.depth]
  | n, .bl _, _ => by simp [toP, PyData.canLay0, PyData.depth]
  | n, .int _, _ => by simp [toP, PyData.canLay0, PyData.depth]
  | n, .str x, h => by
    have h' : PyData.strOk x = true := by cases n <;> simpa only [okD] using h
    simp [toP, PyData.canLay0, PyData.depth, h']
  | n, .klst xs, h => by cases n <;> simp [okD] at h
  | n, .obj xs, h => by cases n <;> simp [okD] at h
  | n, .dic _ _, h => by cases n <;> simp [okD] at h
  | n, .fdic _ _, h => by cases n <;> simp [okD] at h
  | n, .gtup _, h => by cases n <;> simp [okD] at h
  | 0, .lst xs, h => by simp [okD] at h
  | n + 1, .lst xs, h => by
    simp only [okD] at h
    obtain ⟨h1, h2⟩ := shape_toPs n xs h
    simp only [toP, PyData.canLay0, PyData.depth]
    exact ⟨h1, by omega⟩
  | 0, .tup xs, h => by simp [okD] at h
  | n + 1, .tup xs, h => by
    simp only [okD] at h
    obtain ⟨h1, h2⟩ := shape_toPs n xs h
    simp only [toP, PyData.canLay0, PyData.depth]
    exact ⟨h1, by omega⟩
theorem shape_toPs : ∀ (n : Nat) (a : List D), okDs n a = true → PyData.canLayAll0 (toPs a) = true ∧ PyData.depthAll (toPs a) ≤ n
  | n, [], _ => by simp [toPs, PyData.canLayAll0, PyData.depthAll]
  | n, x :: xs, h => by
    simp only [okDs, Bool.and_eq_true] at h
    obtain ⟨h1, h2⟩ := shape_toP n x h.1
    obtain ⟨h3, h4⟩ := shape_toPs n xs h.2
    simp only [toPs, PyData.canLayAll0, PyData.depthAll, Bool.and_eq_true]
    exact ⟨⟨h1, h3⟩, Nat.max_le.mpr ⟨h2, h4⟩⟩
end
mutual
theorem dp_of {K : PySem.W.Frag} {w : Wd} {H : Hp} (s : Same w.G H) : ∀ (n : Nat) (a : D) (v : V), okD n a = true → Rep K w a v → Dp K H v (toP a)
  | n, .non, v, _, R => by
    simp only [Rep] at R
    subst R
    simp only [toP]
    exact .non
  | n, .bl _, v, _, R => by
    simp only [Rep] at R
    subst R
    simp only [toP]
    exact .bl _
  | n, .int _, v, _, R => by
    simp only [Rep] at R
    subst R
    simp only [toP]
    exact .int _
  | n, .str _, v, _, R => by
    simp only [Rep] at R
    subst R
    simp only [toP]
    exact .str _
  | n, .klst xs, _, h, _ => by cases n <;> simp [okD] at h
  | n, .obj xs, _, h, _ => by cases n <;> simp [okD] at h
  | n, .dic _ _, _, h, _ => by cases n <;> simp [okD] at h
  | n, .fdic _ _, _, h, _ => by cases n <;> simp [okD] at h
  | n, .gtup _, _, h, _ => by cases n <;> simp [okD] at h
  | 0, .lst xs, _, h, _ => by simp [okD] at h
  | n + 1, .lst xs, v, h, R => by
    simp only [okD] at h
    simp only [Rep] at R
    obtain ⟨a, vs, rfl, q, r⟩ := R
    simp only [toP]
    exact .lst (.of (s _ _ q)) (dps_of s n xs vs h r)
  | 0, .tup xs, _, h, _ => by simp [okD] at h
  | n + 1, .tup xs, v, h, R => by
    simp only [okD] at h
    simp only [Rep] at R
    obtain ⟨a, vs, rfl, q, r⟩ := R
    simp only [toP]
    exact .tup (.of (s _ _ q)) (dps_of s n xs vs h r)
theorem dps_of {K : PySem.W.Frag} {w : Wd} {H : Hp} (s : Same w.G H) : ∀ (n : Nat) (a : List D) (vs : List V), okDs n a = true → Reps K w a vs → DpAll K H vs (toPs a)
  | n, [], vs, _, R => by
    rw [R.inv0]
    simp only [toPs]
    exact .nil
  | n, x :: xs, vs, h, R => by
    simp only [okDs, Bool.and_eq_true] at h
    obtain ⟨v, r, rfl, R1, R2⟩ := R.inv
    simp only [toPs]
    exact .cons (dp_of s n x v h.1 R1) (dps_of s n xs r h.2 R2)
end
theorem dp_deref {K : PySem.W.Frag} {w : Wd} {st : Sto} {H : Hp} {d : D} {v : V} (W : Wld K w st H) (R : Rep K w d v) (ok : okD 60 (deref st d) = true) : Dp K H v (toP (deref st d)) := by
  cases e : deref st d with
  | lst xs =>
    obtain ⟨a, vs, rfl, q, r, _⟩ := rep_lst W R e
    rw [e] at ok
    simp only [okD] at ok
    simp only [toP]
    exact .lst q (dps_of W.same 59 xs vs ok r)
  | obj i =>
    rw [e] at ok
    simp [okD] at ok
  | tup xs =>
    obtain ⟨a, vs, rfl, q, r, _⟩ := rep_tup W R e
    rw [e] at ok
    simp only [okD] at ok
    simp only [toP]
    exact .tup q (dps_of W.same 59 xs vs ok r)
  | _ =>
    rw [e] at ok
    have z := deref_self e (fun _ z => by cases z) (fun _ z => by cases z)
    first
      | (rw [z] at R; exact dp_of W.same 60 _ v ok R)
      | (simp [okD] at ok)
def eqOp (neg : Bool) : F2 := fun d e st k => okD 60 (deref st d) = true ∧ okD 60 (deref st e) = true ∧ k (.bl (if neg then !eqD (deref st d) (deref st e) else eqD (deref st d) (deref st e))) st
theorem shaped_of {a : D} (h : okD 60 a = true) : SeqAt.shaped (toP a) = true := by
  obtain ⟨h1, h2⟩ := shape_toP 60 a h
  unfold SeqAt.shaped
  rw [h1, decide_eq_true (by omega)]
  rfl
theorem dop_eq (hu : X.A.units + 64 < cLine) : OpR X (compareOp .Eq) (rD X.K (eqOp false)) := by
  refine OpR.by_ fun x y H Q w st d e kk W R1 R2 q fo => ?_
  obtain ⟨h1, h2, q⟩ := q
  refine ⟨rEqD X.K, op_eqD hu, _, _, dp_deref W R1 h1, dp_deref W R2 h2, shaped_of h1, shaped_of h2, ?_⟩
  rw [eqv_toP 60 60 _ _ h1 h2]
  exact fo.id q W rep_bl
theorem dop_ne (hu : X.A.units + 64 < cLine) : OpR X (compareOp .NotEq) (rD X.K (eqOp true)) := by
  refine OpR.by_ fun x y H Q w st d e kk W R1 R2 q fo => ?_
  obtain ⟨h1, h2, q⟩ := q
  refine ⟨rNeD X.K, op_neD hu, _, _, dp_deref W R1 h1, dp_deref W R2 h2, shaped_of h1, shaped_of h2, ?_⟩
  rw [eqv_toP 60 60 _ _ h1 h2]
  exact fo.id q W rep_bl
def cmpI (p : Int → Int → Bool) : F2 := fun d e st k => match d, e with
  | .int a, .int b => k (.bl (p a b)) st
  | _, _ => False
theorem dop_cmpI {op : CmpOp} {p : Int → Int → Bool} (h : OpR X (compareOp op) (rI0 fun i j => .bl (p i j))) : OpR X (compareOp op) (rD X.K (cmpI p)) := by
  refine OpR.by_ fun x y H Q w st d e kk W R1 R2 q fo => ?_
  unfold cmpI at q
  split at q
  · simp only [Rep] at R1 R2
    exact ⟨_, h, _, _, R1, R2, fo.id q W rep_bl⟩
  · exact q.elim
theorem dop_lt : OpR X (compareOp .Lt) (rD X.K (cmpI fun i j => decide (i < j))) := dop_cmpI op_lt
theorem dop_gt : OpR X (compareOp .Gt) (rD X.K (cmpI fun i j => decide (j < i))) := dop_cmpI op_gt
theorem dop_ge : OpR X (compareOp .GtE) (rD X.K (cmpI fun i j => decide (j ≤ i))) := dop_cmpI op_ge
/-! ### chained comparisons -/
variable {a b c : Expr} {pos : Pos} {ta tb tc : DE}
def dChain (f g : F2) (ta tb tc : DE) : DE := fun env st k => ta env st fun x s1 => tb env s1 fun y s2 => f x y s2 fun z s3 => match z with
  | .bl b => if b = true then tc env s3 fun u s4 => g y u s4 k else k (.bl false) s3
  | _ => False
theorem ch_in {K : PySem.W.Frag} {f g : F2} {σ : L2.St} {H : Hp} {Q : VK} (h : tD K (dChain f g ta tb tc) σ H Q) : tChain (rD K f) (rD K g) (tD K ta) (tD K tb) (tD K tc) σ H Q := by
  obtain ⟨w, env, st, kk, W, E, h, fo⟩ := h
  refine ⟨w, env, st, _, W, E, h, fun d st1 v w1 H1 h1 l1 W1 R1 => ⟨w1, env, st1, _, W1, E.mono l1, h1, fun e st2 u w2 H2 h2 l2 W2 R2 => ?_⟩⟩
  refine ⟨w2, st2, d, e, _, W2, Rep.mono l2 _ _ R1, R2, h2, fun z st3 x w3 H3 h3 l3 W3 R3 => ?_⟩
  cases z with
  | bl k =>
    simp only [Rep] at R3
    refine ⟨k, R3, ?_⟩
    cases k with
    | true =>
      simp only [↓reduceIte] at h3 ⊢
      exact ⟨w3, env, st3, _, W3, ((E.mono l1).mono l2).mono l3, h3, fun u' st4 v4 w4 H4 h4 l4 W4 R4 =>
        ⟨w4, st4, e, u', kk, W4, Rep.mono (l3.trans l4) _ _ R2, R4, h4, fo.le (((l1.trans l2).trans l3).trans l4)⟩⟩
    | false =>
      simp only [Bool.false_eq_true, ↓reduceIte] at h3 ⊢
      exact fo _ _ _ _ _ h3 ((l1.trans l2).trans l3) W3 rep_bl
  | _ => exact h3.elim
theorem test_in {K : PySem.W.Frag} {t : DE} {σ : L2.St} {H : Hp} {Q : Bool → Hp → Prop} {T : TE} (hT : ∀ Q, tD K t σ H Q → T σ H Q) (h : tDT K (dTest t) σ H Q) : tTest T σ H Q := by
  obtain ⟨w, env, st, kk, W, E, h, fo⟩ := h
  refine hT _ ⟨w, env, st, _, W, E, h, fun d st1 v w1 H1 h1 l1 W1 R1 => ?_⟩
  cases d with
  | bl b =>
    simp only [Rep] at R1
    exact ⟨b, R1, fo b st1 w1 H1 h1 l1 W1⟩
  | _ => exact h1.elim
theorem pd_tchain {op op' : CmpOp} {f g : F2} (ho : OpR X (compareOp op) (rD X.K f)) (ho' : OpR X (compareOp op') (rD X.K g)) (ha : PD X a ta) (hb : PD X b tb) (hc : PD X c tc)
    (hm : lastMarks [op, op'] [b, c] = false := by with_unfolding_all rfl) : PDT X (.Compare a [op, op'] [b, c] pos) (dTest (dChain f g ta tb tc)) :=
  (pt_chain ho ho' ha hb hc hm).wk fun σ H Q h => test_in (fun Q h => ch_in h) h

/-! ### subscripts, slices -/
def ixD : F2 := fun d e st k => match e with
  | .int i => match deref st d with
    | .lst xs => ∃ x, atI xs i = some x ∧ k x st
    | .tup xs => ∃ x, atI xs i = some x ∧ k x st
    | .str z => z.length ≤ 16777216 ∧ ∃ c, atI z.cps.toList i = some c ∧ k (.str ⟨#[c]⟩) st
    | _ => False
  | _ => False
theorem atI_rep {K : PySem.W.Frag} {w : Wd} {xs : List D} {vs : List V} {i : Int} {x : D} (r : Reps K w xs vs) (h : atI xs i = some x) : ∃ v, atI vs i = some v ∧ Rep K w x v := by
  unfold atI at h ⊢
  rw [← r.length] at h
  cases e : ixN vs.length i with
  | none => rw [e] at h; cases h
  | some j =>
    rw [e] at h
    obtain ⟨v, e1, e2⟩ := r.get (i := j) (d := x) h
    exact ⟨v, e1, e2⟩
theorem dix : IxR X (rD X.K ixD) := by
  rintro value slice pins s σ H x y v u Q I rx ry ⟨w, st, d, e, kk, W, R1, R2, q, fo⟩ hs
  unfold ixD at q
  split at q
  · rename_i i
    simp only [Rep] at R2
    split at q
    · rename_i xs hd
      obtain ⟨z, hz, q⟩ := q
      obtain ⟨p, vs, e1, q1, r1, _⟩ := rep_lst W R1 hd
      obtain ⟨zv, hv, rz⟩ := atI_rep r1 hz
      exact ix_list value slice pins s σ H x y v u Q I rx ry ⟨p, vs, i, zv, e1, R2, q1, hv, fo.id q W rz⟩ hs
    · rename_i xs hd
      obtain ⟨z, hz, q⟩ := q
      obtain ⟨p, vs, e1, q1, r1, _⟩ := rep_tup W R1 hd
      obtain ⟨zv, hv, rz⟩ := atI_rep r1 hz
      exact ix_tup value slice pins s σ H x y v u Q I rx ry ⟨p, vs, i, zv, e1, R2, q1, hv, fo.id q W rz⟩ hs
    · rename_i z hd
      obtain ⟨hz, c, hc, q⟩ := q
      have e0 := deref_self hd (fun _ z => by cases z) (fun _ z => by cases z)
      subst e0
      simp only [Rep] at R1
      exact ix_str value slice pins s σ H x y v u Q I rx ry ⟨z, i, c, R1, R2, line16 hz, hc, fo.id q W rep_str⟩ hs
    · exact q.elim
  · exact q.elim
theorem pd_ix (ha : PD X a ta) (hb : PD X b tb) (hs : PlainIx b := by exact fun _ _ => rfl) : PD X (.Subscript a b pos) (dOp ixD ta tb) :=
  (pe_ix dix ha hb hs).wk fun _ _ _ h => d2_in h
/-- the items of xs[lo:hi] -/
def cutD {α : Type} (xs : List α) (lo hi : Option Int) : List α := (xs.drop (HT.sIx xs.length 0 lo)).take (HT.sIx xs.length xs.length hi - HT.sIx xs.length 0 lo)
abbrev DO := Env → Sto → (Option Int → Sto → Prop) → Prop
def tDO (K : PySem.W.Frag) (t : DO) : TO := fun σ H Q => ∃ w env st kk, Wld K w st H ∧ EnvR K w env σ ∧ t env st kk ∧ ∀ o st' w' H', kk o st' → Le w w' → Wld K w' st' H' → Q o H'
abbrev PDO (X : Cx) (e : Option Expr) (t : DO) : Prop := PO X e (tDO X.K t)
theorem _root_.L2.PO.wk {X : Cx} {e : Option Expr} {t t' : TO} (h : PO X e t) (i : ∀ σ H Q, t' σ H Q → t σ H Q) : PO X e t' := ⟨fun pins s σ H Q I q => h.run pins s σ H Q I (i σ H Q q)⟩
def dNo : DO := fun _ st k => k none st
def dSome (t : DE) : DO := fun env st k => t env st fun d s1 => match d with
  | .int i => k (some i) s1
  | _ => False
theorem pdo_none : PDO X none dNo := po_none.wk fun σ H Q ⟨w, env, st, kk, W, E, h, fo⟩ => fo _ _ _ _ h (.refl _) W
theorem pdo_some {e : Expr} (h : PD X e ta) : PDO X (some e) (dSome ta) := by
  refine (po_some h).wk fun σ H Q ⟨w, env, st, kk, W, E, h, fo⟩ => ?_
  refine ⟨w, env, st, _, W, E, h, fun d st1 v w1 H1 h1 l1 W1 R1 => ?_⟩
  cases d with
  | int i =>
    simp only [Rep] at R1
    exact ⟨i, R1, fo _ _ _ _ h1 l1 W1⟩
  | _ => exact h1.elim
def cutOp (d : D) (lo hi : Option Int) (st : Sto) (k : DK) : Prop := match deref st d with
  | .lst xs => k (.lst (cutD xs lo hi)) st
  | .tup xs => noG d (k (.tup (cutD xs lo hi)) st)
  | .str z => z.length ≤ 16777216 ∧ k (.str (L2.cutS z lo hi)) st
  | _ => False
theorem cut_reps {K : PySem.W.Frag} {w : Wd} {xs : List D} {vs : List V} (r : Reps K w xs vs) (lo hi : Option Int) : Reps K w (cutD xs lo hi) (cutV vs lo hi) := by
  unfold cutD cutV
  rw [← r.length]
  exact (r.drop _).take _
def rCut (K : PySem.W.Frag) (f : D → Option Int → Option Int → Sto → DK → Prop) : V → Option Int → Option Int → Hp → VK → Prop := fun x lo hi H Q => ∃ w st d kk, Wld K w st H ∧ Rep K w d x ∧ f d lo hi st kk ∧ Fol K w kk Q
theorem cutV_le (vs : List V) (lo hi : Option Int) (h : vs.length ≤ sizeLine) : (cutV vs lo hi).length ≤ sizeLine := Nat.le_trans (cutV_length vs lo hi) h
theorem sl_cut : SlR X (rCut X.K cutOp) := by
  rintro pins s σ H x v vl vu lo hi sl Q I rx hs pl pu ⟨w, st, d, kk, W, R1, q, fo⟩
  unfold cutOp at q
  split at q
  · rename_i xs hd
    obtain ⟨p, vs, e1, q1, r1, n⟩ := rep_lst W R1 hd
    exact sl_list pins s σ H x v vl vu lo hi sl Q I rx hs pl pu ⟨p, vs, e1, q1, fol_lst W (cut_reps r1 lo hi) (cutV_le vs lo hi n) q fo⟩
  · rename_i xs hd
    obtain ⟨p, vs, e1, q1, r1, n⟩ := rep_tup W R1 hd
    obtain ⟨ng, q⟩ := noG_of q
    refine sl_tupA pins s σ H x v vl vu lo hi sl Q I rx hs pl pu ⟨p, vs, e1, q1, fun hw => ?_, fun _ => fol_tup W (cut_reps r1 lo hi) (cutV_le vs lo hi n) q fo⟩
    have ec : cutD xs lo hi = xs := by
      unfold cutD
      rw [← r1.length, hw.1, hw.2, List.drop_zero, r1.length, Nat.sub_zero, List.take_length]
    refine fo.id q W ?_
    rw [ec]
    have e0 := deref_tup hd ng
    rw [← e0, ← e1]
    exact R1
  · rename_i z hd
    have e0 : d = .str z := by
      cases d <;> simp only [deref] at hd <;> first | exact hd | (cases hd) | (split at hd <;> cases hd)
    subst e0
    simp only [Rep] at R1
    exact sl_str pins s σ H x v vl vu lo hi sl Q I rx hs pl pu ⟨z, R1, line16 q.1, fo.id q.2 W rep_str⟩
  · exact q.elim
def dCut (f : D → Option Int → Option Int → Sto → DK → Prop) (t : DE) (l h : DO) : DE := fun env st k => t env st fun d s1 => l env s1 fun lo s2 => h env s2 fun hi s3 => f d lo hi s3 k
theorem pd_cut {f : D → Option Int → Option Int → Sto → DK → Prop} {lo hi : Option Expr} {tl th : DO} {p2 : Pos} (hf : SlR X (rCut X.K f)) (he : PD X a ta) (hl : PDO X lo tl) (hu : PDO X hi th) : PD X (.Subscript a (.Slice lo hi none p2) pos) (dCut f ta tl th) := by
  refine (pe_slice hf he hl hu).wk fun σ H Q ⟨w, env, st, kk, W, E, h, fo⟩ => ?_
  exact ⟨w, env, st, _, W, E, h, fun d st1 v w1 H1 h1 l1 W1 R1 => ⟨w1, env, st1, _, W1, E.mono l1, h1, fun lo st2 w2 H2 h2 l2 W2 =>
    ⟨w2, env, st2, _, W2, (E.mono l1).mono l2, h2, fun hi st3 w3 H3 h3 l3 W3 => ⟨w3, st3, d, kk, W3, Rep.mono (l2.trans l3) _ _ R1, h3, fo.le ((l1.trans l2).trans l3)⟩⟩⟩⟩

/-! ### built-ins called -/
abbrev FB := List D → Sto → DK → Prop
def rDB (K : PySem.W.Frag) (f : FB) : List V → Hp → VK → Prop := fun vs H Q => ∃ w st ds kk, Wld K w st H ∧ Reps K w ds vs ∧ f ds st kk ∧ Fol K w kk Q
def dB (f : FB) (t : DA) : DE := fun env st k => t env st fun ds s1 => f ds s1 k
variable {e : Expr} {es : List Expr} {x : Str} {p : Pos} {idn T : String} {f : FB} {t : DA}
theorem db_in {K : PySem.W.Frag} {σ : L2.St} {H : Hp} {Q : VK} (h : tD K (dB f t) σ H Q) : tCB (rDB K f) (tDA K t) σ H Q := by
  obtain ⟨w, env, st, kk, W, E, h, fo⟩ := h
  exact ⟨w, env, st, _, W, E, h, fun ds st1 vs w1 H1 h1 l1 W1 R1 => ⟨w1, st1, ds, kk, W1, R1, h1, fo.le l1⟩⟩
theorem pd_callB (hc : CallR X (.builtin idn) (rDB X.K f)) (hm : X.mg x = none) (hv : bootBuiltins x = some (.builtin idn)) (ha : PDA X (e :: es) t) (hg : Gl X x := by rfl) (hn : x ≠ "__name__" := by decide) (hdb : (x == ("__debug__" : Str)) = false := by decide)
    (he : starEach (e :: es) X.env = (false, eval e X.env) :: starEach es X.env := by rfl) (hpl : (backTo pos (starEach es X.env)).any (·.1) = false := by rfl) : PD X (.Call (.Name x p) (e :: es) [] pos) (dB f t) :=
  (pe_callB hc hg hm hv ha hn hdb he hpl).wk fun _ _ _ h => db_in h
theorem pd_callTy (hc : CallR X (.type T) (rDB X.K f)) (hm : X.mg x = none) (hv : bootBuiltins x = some (.type T)) (ha : PDA X (e :: es) t) (hg : Gl X x := by rfl) (hn : x ≠ "__name__" := by decide) (hdb : (x == ("__debug__" : Str)) = false := by decide)
    (he : starEach (e :: es) X.env = (false, eval e X.env) :: starEach es X.env := by rfl) (hpl : (backTo pos (starEach es X.env)).any (·.1) = false := by rfl) : PD X (.Call (.Name x p) (e :: es) [] pos) (dB f t) :=
  (pe_callTy hc hg hm hv ha hn hdb he hpl).wk fun _ _ _ h => db_in h
theorem CallR.by_ {g : Value} {f : FB}
    (h : ∀ (vs : List V) (H : Hp) (Q : VK) (w : Wd) (st : Sto) (ds : List D) (kk : DK), Wld X.K w st H → Reps X.K w ds vs → f ds st kk → Fol X.K w kk Q → ∃ r : List V → Hp → VK → Prop, CallR X g r ∧ r vs H Q) : CallR X g (rDB X.K f) :=
  fun pins s σ H xs us Q I rs ⟨w, st, ds, kk, W, R, q, fo⟩ => by
    obtain ⟨r, hr, q⟩ := h xs H Q w st ds kk W R q fo
    exact hr pins s σ H xs us Q I rs q
theorem one_rep {K : PySem.W.Frag} {w : Wd} {d : D} {vs : List V} (R : Reps K w [d] vs) : ∃ v, vs = [v] ∧ Rep K w d v := by
  obtain ⟨v, r, rfl, h1, h2⟩ := R.inv
  rw [h2.inv0]
  exact ⟨v, rfl, h1⟩
def bLen : FB := fun ds st k => match ds with
  | [d] => match deref st d with
    | .lst xs => k (.int xs.length) st
    | .tup xs => k (.int xs.length) st
    | .str z => z.length ≤ 16777216 ∧ k (.int z.length) st
    | _ => False
  | _ => False
theorem cb_len : CallR X (.builtin "len") (rDB X.K bLen) := by
  refine CallR.by_ fun vs H Q w st ds kk W R q fo => ?_
  unfold bLen at q
  split at q
  · obtain ⟨v, rfl, R1⟩ := one_rep R
    split at q
    · rename_i hd
      obtain ⟨p, us, rfl, q1, r1, _⟩ := rep_lst W R1 hd
      refine ⟨_, call_len_seq, p, us, rfl, .inl q1, ?_⟩
      rw [r1.length]
      exact fo.id q W rep_int
    · rename_i hd
      obtain ⟨p, us, rfl, q1, r1, _⟩ := rep_tup W R1 hd
      refine ⟨_, call_len_seq, p, us, rfl, .inr q1, ?_⟩
      rw [r1.length]
      exact fo.id q W rep_int
    · rename_i hd
      have e0 := deref_self hd (fun _ z => by cases z) (fun _ z => by cases z)
      subst e0
      simp only [Rep] at R1
      subst R1
      exact ⟨_, call_len_str, _, rfl, line16 q.1, fo.id q.2 W rep_int⟩
    · exact q.elim
  · exact q.elim
def bAbs : FB := fun ds st k => match ds with
  | [.int i] => k (.int (if i < 0 then -i else i)) st
  | _ => False
theorem cb_abs : CallR X (.builtin "abs") (rDB X.K bAbs) := by
  refine CallR.by_ fun vs H Q w st ds kk W R q fo => ?_
  unfold bAbs at q
  split at q
  · obtain ⟨v, rfl, R1⟩ := one_rep R
    simp only [Rep] at R1
    subst R1
    exact ⟨_, call_abs, _, rfl, fo.id q W rep_int⟩
  · exact q.elim
def bInt : FB := fun ds st k => match ds with
  | [.int i] => k (.int i) st
  | [.bl b] => k (.int (if b = true then 1 else 0)) st
  | _ => False
theorem cb_int : CallR X (.type "int") (rDB X.K bInt) := by
  refine CallR.by_ fun vs H Q w st ds kk W R q fo => ?_
  unfold bInt at q
  split at q
  · obtain ⟨v, rfl, R1⟩ := one_rep R
    simp only [Rep] at R1
    subst R1
    exact ⟨_, call_int1, .inl ⟨_, rfl, fo.id q W rep_int⟩⟩
  · obtain ⟨v, rfl, R1⟩ := one_rep R
    simp only [Rep] at R1
    subst R1
    exact ⟨_, call_int1, .inr ⟨_, rfl, fo.id q W rep_int⟩⟩
  · exact q.elim
/-- a list of ints, read off -/
def intsD : List D → Option (List Int)
  | [] => some []
  | .int i :: r => (intsD r).map (i :: ·)
  | _ => none
theorem intsD_eq : ∀ {ds : List D} {ns : List Int}, intsD ds = some ns → ds = ns.map D.int
  | [], ns, h => by cases h; rfl
  | .int i :: r, ns, h => by
    have h' : (intsD r).map (i :: ·) = some ns := h
    cases e : intsD r with
    | none => rw [e] at h'; cases h'
    | some ms =>
      rw [e] at h'
      cases h'
      rw [intsD_eq e]
      rfl
  | .non :: _, _, h => by cases h
  | .bl _ :: _, _, h => by cases h
  | .str _ :: _, _, h => by cases h
  | .lst _ :: _, _, h => by cases h
  | .klst _ :: _, _, h => by cases h
  | .tup _ :: _, _, h => by cases h
  | .obj _ :: _, _, h => by cases h
  | .dic _ _ :: _, _, h => by cases h
  | .fdic _ _ :: _, _, h => by cases h
  | .gtup _ :: _, _, h => by cases h
theorem intsD_map : ∀ (ns : List Int), intsD (ns.map D.int) = some ns
  | [] => rfl
  | n :: ns => by
    show (intsD (ns.map D.int)).map (n :: ·) = _
    rw [intsD_map ns]
    rfl
def blsD : List D → Option (List Bool)
  | [] => some []
  | .bl i :: r => (blsD r).map (i :: ·)
  | _ => none
theorem blsD_eq : ∀ {ds : List D} {ns : List Bool}, blsD ds = some ns → ds = ns.map D.bl
  | [], ns, h => by cases h; rfl
  | .bl i :: r, ns, h => by
    have h' : (blsD r).map (i :: ·) = some ns := h
    cases e : blsD r with
    | none => rw [e] at h'; cases h'
    | some ms =>
      rw [e] at h'
      cases h'
      rw [blsD_eq e]
      rfl
  | .non :: _, _, h => by cases h
  | .int _ :: _, _, h => by cases h
  | .str _ :: _, _, h => by cases h
  | .lst _ :: _, _, h => by cases h
  | .klst _ :: _, _, h => by cases h
  | .tup _ :: _, _, h => by cases h
  | .obj _ :: _, _, h => by cases h
  | .dic _ _ :: _, _, h => by cases h
  | .fdic _ _ :: _, _, h => by cases h
  | .gtup _ :: _, _, h => by cases h
theorem blsD_map : ∀ (ns : List Bool), blsD (ns.map D.bl) = some ns
  | [] => rfl
  | n :: ns => by
    show (blsD (ns.map D.bl)).map (n :: ·) = _
    rw [blsD_map ns]
    rfl
def bAll : FB := fun ds st k => match ds with
  | [d] => match deref st d with
    | .lst xs => match blsD xs with
      | some bs => k (.bl (bs.all id)) st
      | none => False
    | _ => False
  | _ => False
theorem cb_all (hc : X.calm = true) : CallR X (.builtin "all") (rDB X.K bAll) := by
  refine CallR.by_ fun vs H Q w st ds kk W R q fo => ?_
  unfold bAll at q
  split at q
  · obtain ⟨v, rfl, R1⟩ := one_rep R
    split at q
    · rename_i hd
      split at q
      · rename_i bs hb
        obtain ⟨p, us, rfl, q1, r1, _⟩ := rep_lst W R1 hd
        rw [blsD_eq hb] at r1
        refine ⟨_, cr_all hc, p, bs, rfl, ?_, fo.id q W rep_bl⟩
        rw [← r1.bls]
        exact q1
      · exact q.elim
    · exact q.elim
  · exact q.elim
def bListNew : FB := fun ds st k => match ds with
  | [d] => match deref st d with
    | .lst xs => k (.obj st.length) (st ++ [xs])
    | .tup xs => k (.obj st.length) (st ++ [xs])
    | _ => False
  | _ => False
theorem cb_listNew : CallR X (.type "list") (rDB X.K bListNew) := by
  refine CallR.by_ fun vs H Q w st ds kk W R q fo => ?_
  unfold bListNew at q
  split at q
  · obtain ⟨v, rfl, R1⟩ := one_rep R
    split at q
    · rename_i hd
      obtain ⟨p, us, rfl, q1, r1, n⟩ := rep_lst W R1 hd
      exact ⟨_, call_list_of, p, us, rfl, .inl q1, fol_new W r1 n q fo⟩
    · rename_i hd
      obtain ⟨p, us, rfl, q1, r1, n⟩ := rep_tup W R1 hd
      exact ⟨_, call_list_of, p, us, rfl, .inr q1, fol_new W r1 n q fo⟩
    · exact q.elim
  · exact q.elim
def bTuple : FB := fun ds st k => match ds with
  | [d] => match deref st d with
    | .lst xs => k (.tup xs) st
    | .tup xs => noG d (k (.tup xs) st)
    | _ => False
  | _ => False
theorem cb_tuple : CallR X (.type "tuple") (rDB X.K bTuple) := by
  refine CallR.by_ fun vs H Q w st ds kk W R q fo => ?_
  unfold bTuple at q
  split at q
  · obtain ⟨v, rfl, R1⟩ := one_rep R
    split at q
    · rename_i hd
      obtain ⟨p, us, rfl, q1, r1, n⟩ := rep_lst W R1 hd
      exact ⟨_, call_tuple_of, p, us, rfl, .inl ⟨q1, fol_tup W r1 n q fo⟩⟩
    · rename_i hd
      obtain ⟨ng, q⟩ := noG_of q
      have e0 := deref_tup hd ng
      obtain ⟨p, us, rfl, q1, r1, n⟩ := rep_tup W R1 hd
      refine ⟨_, call_tuple_of, p, us, rfl, .inr ⟨q1, fo.id q W ?_⟩⟩
      rw [← e0]
      exact R1
    · exact q.elim
  · exact q.elim
end
end DL

/-! enumerate over a tuple, and over either -/
namespace DL
open PySem PySem.Spec PyProof.Rows L2
theorem meetsEnumOne {v : Value} {ob : Obj} {G : Heap → Prop} (B : Begins v ob G) :
    Meets (Builtin.«enumerate.__new__» ⟨[.type "enumerate", v], []⟩) (fun _ R z => G z.heap ∧
      R (.ok (.ret (.ref (z.heap.push ob).objs.size))) { z with heap := (z.heap.push ob).push { cls := .type "enumerate", data := .fields #[.none, .bool false, .ref z.heap.objs.size, rawInt 0, .none, .none] } }) :=
  .of_wp fun pr w A R z hh => by
    obtain ⟨hp, gs, dr, tk, os⟩ := z
    obtain ⟨g1, hh⟩ := hh
    have hsub := sub_enumerate
    have into : ∀ {A1 : Around} {E : Value → Shared → Prop} {Q : Value → Shared → Prop}, Q (.ref hp.objs.size) ⟨hp.push ob, gs, dr, tk, os⟩ → wpAny (model pr w) A1 (pyIter v) Q E ⟨hp, gs, dr, tk, os⟩ :=
      fun q => B.iter pr w _ _ ⟨hp, gs, dr, tk, os⟩ _ g1 q
    wp_walk using into
    refine wpAny_stack_any fun stk => wpAny_pure ?_
    split
    · rename_i cl _ _ _ _ _
      cases (cl == Value.type "enumerate")
      · wp_walk using into
        exact ⟨_, rfl, hh⟩
      · wp_walk using into
        exact ⟨_, rfl, hh⟩
    · wp_walk using into
      exact ⟨_, rfl, hh⟩
theorem callEnumOne {pr : Program} {w : World} {A : Around} {E : Value → Shared → Prop} {z : Shared} {v : Value} {ob : Obj} {G : Heap → Prop} {Q : Value → Shared → Prop} (B : Begins v ob G) (g1 : G z.heap)
    (hh : ∀ h', IsEnum h' (z.heap.objs.size + 1) z.heap.objs.size 0 .none → h'.get? z.heap.objs.size = some ob → (∀ b o, z.heap.get? b = some o → h'.get? b = some o) → Q (.ref (z.heap.objs.size + 1)) { z with heap := h' }) :
    wpAny (model pr w) A (call (.type "enumerate") [v]) Q E z := by
  refine callType_new F.called_enumerate (by decide) (F.typeCall_enumerate_1 _) (F.newCall_enumerate_1 _) (fun ob1 => F.args_object_init_2 ob1 _) F.entry_enumerate_new (meetsEnumOne B) ⟨g1, ?_⟩
  have hz : (z.heap.push ob).objs.size = z.heap.objs.size + 1 := Heap.size_push ..
  show _ ∧ _
  rw [hz]
  have he : IsEnum ((z.heap.push ob).push { cls := .type "enumerate", data := .fields #[.none, .bool false, .ref z.heap.objs.size, rawInt 0, .none, .none] }) (z.heap.objs.size + 1) z.heap.objs.size 0 .none := by
    have this := Heap.get?_push_size (z.heap.push ob) (o := { cls := .type "enumerate", data := .fields #[.none, .bool false, .ref z.heap.objs.size, rawInt 0, .none, .none] }) rfl
    rw [hz] at this
    exact this
  refine ⟨⟨_, he, rfl⟩, hh _ he (Heap.get?_push_of_some _ (Heap.get?_push_size _ B.free)) fun b o q => Heap.get?_push_of_some _ (Heap.get?_push_of_some _ q)⟩
/-- the tuple at a, each item in a new pair -/
def IteT (K : PySem.W.Frag) (a : Addr) : It :=
  ⟨fun n H => ∃ (zs : List V) (u : V), SqT K H a zs ∧ zs[n]? = some u, fun n H v H' => ∃ T u, v = .ref T ∧ H T = none ∧ H' = upd H T (.tup [.int (n : Nat), u]) ∧ ∀ zs, SqT K H a zs → zs[n]? = some u, fun n H => ∃ zs : List V, SqT K H a zs ∧ zs.length = n⟩
theorem turnEnumT {Pg : Program} {w : World} {K : PySem.W.Frag} {elts : List Expr} {kk : Nat} {tpos : Pos} (a en it : Addr) :
    Turn Pg w K (.Tuple elts kk tpos) (IteT K a) [en, it] en (fun n h => (∃ old, IsEnum h en it ((n : Nat) : Int) old) ∧ h.IsTupleIter it a n ∧ en ≠ it ∧ a ≠ it ∧ a ≠ en) where
  mem := by simp
  obj := fun n h s1 b hb => by
    obtain ⟨⟨old, g1⟩, ⟨o, ho, hc, hd⟩, _⟩ := s1
    have e' : b = en ∨ b = it := by simpa using hb
    rcases e' with rfl | rfl
    · exact ⟨_, g1, fun v q => nomatch q⟩
    · exact ⟨o, ho, fun v q => by rw [hd] at q; cases q⟩
  keep := fun n h h' s1 kp => by
    obtain ⟨⟨old, g1⟩, g2, g3, g4, g5⟩ := s1
    exact ⟨⟨old, kp en (by simp) _ g1⟩, g2.at fun o q => kp it (by simp) o q, g3, g4, g5⟩
  item := by
    intro X hP hw hK hc n pins s σ H E I fps s1 hg
    subst hP hw hK
    obtain ⟨⟨old, g1⟩, g2, g3, g4, g5⟩ := s1
    obtain ⟨zs, u, hq, hu⟩ := hg
    obtain ⟨its, rv, p, hz⟩ := I.tuple hq
    obtain ⟨val, hv, ru⟩ := rv.get hu
    have lt1 : en < s.heap.objs.size := Heap.lt_size g1
    have lt2 : it < s.heap.objs.size := by
      obtain ⟨_, q, _⟩ := g2
      exact Heap.lt_size q
    have hn : n < its.toArray.size := by
      obtain ⟨h', _⟩ := List.getElem?_eq_some_iff.mp hv
      simpa using h'
    refine wpAny_pyNext_enum_itemD (Draws.tuple (A := X.A.in1) (show X.A.in1.handled = none from I.ok.hd hc) it a g4 its.toArray) g1 ⟨g2, p⟩ hn g3 (by simp; exact ⟨g3, Ne.symm g5⟩) fun x h' tk hP ho hst hT hsz hk => ?_
    have hx : x = val := by
      have : its.toArray[n]? = some val := by simpa using hv
      rw [this] at hP
      cases hP
      rfl
    subst hx
    refine ⟨_, rfl, wpAny_letOwnedTupleGo_enum (s := { s with heap := h', toks := tk + 1 }) ho fun h'' he' sb => ?_⟩
    have hT2 : h''.get? s.heap.objs.size = some { cls := .type "tuple", data := .seq #[.int n tk, x] } := (sb.2 _ (Nat.ne_of_gt lt1)).trans hT
    have fresh : ObjOk X.prog X.w (upd H s.heap.objs.size (.tup [.int (n : Nat), u])) h'' s.heap.objs.size (.tup [.int (n : Nat), u]) :=
      ⟨by show 2 ≤ sizeLine; decide, [.int n tk, x], .cons ⟨_, rfl⟩ (.cons ru .nil), ⟨_, hT2, rfl, _, rfl⟩⟩
    have I2 : Inv X pins σ (upd H s.heap.objs.size (.tup [.int (n : Nat), u])) { s with heap := h'', toks := tk + 1 } :=
      I.turnedNew (ch := [en, it]) (fun b o1 hb q => (sb.2 b (fun z => hb (by simp [z]))).trans (hk b o1 (fun z => hb (by simp [z])) (fun z => hb (by simp [z])) q)) fps (Nat.le_refl _) fresh
    refine ⟨.ref s.heap.objs.size, _, I2, rfl, ⟨_, u, rfl, I.hok.fresh (Nat.le_refl _), rfl, fun ys hy => by rw [I.tuple_inj hy hq]; exact hu⟩, ⟨⟨x, ?_⟩, hst.1.at fun o q => (sb.2 it (Ne.symm g3)).trans q, g3, g4, g5⟩, fun b hb => ?_⟩
    · have e1 : ((n + 1 : Nat) : Int) = (n : Int) + 1 := by omega
      rw [e1]
      exact he'
    · have hb' : b < s.heap.objs.size := by
        have e' : b = en ∨ b = it := by simpa using hb
        rcases e' with rfl | rfl
        · exact lt1
        · exact lt2
      rw [upd_ne (Nat.ne_of_lt hb')]
      exact (fps b hb).1
  done := by
    intro X hP hw hK hc n pins s σ H E I fps s1 hg
    subst hP hw hK
    obtain ⟨⟨old, g1⟩, g2, g3, g4, g5⟩ := s1
    obtain ⟨zs, hq, hu⟩ := hg
    obtain ⟨its, rv, p, hz⟩ := I.tuple hq
    obtain ⟨f0, f1, f2, f3, f4, f5⟩ := fps it (by simp)
    have hl := rv.length
    have hn : its.toArray.size = n := by
      rw [← hu, hl]
      simp
    subst hn
    exact wpAny_pyNext_enum_endD (Draws.tuple (A := X.A.in1) (show X.A.in1.handled = none from I.ok.hd hc) it a g4 its.toArray) g1 ⟨g2, p⟩ fun h' eb => ⟨rfl, I.turned (t' := s.toks) (fun b o hb q => eb b o hb q) f0 f1 f3 f4 f5⟩
  self := fun A n s Q E s1 h => let ⟨⟨_, g1⟩, _⟩ := s1; wpAny_pyIter_enum g1 h
def iEnumA (K : PySem.W.Frag) (ta : TA) : TI := fun σ H R => ta σ H fun vs H1 => ∃ a xs, vs = [.ref a] ∧ ((SqL K H1 a xs ∧ R (Ite K a) H1) ∨ (SqT K H1 a xs ∧ R (IteT K a) H1))
theorem piEnumA {X : Cx} {e : Expr} {ta : TA} {p pos tpos : Pos} {elts : List Expr} {kk : Nat} (hg : Gl X "enumerate") (hm : X.mg "enumerate" = none) (ha : PA X [e] ta) (hs : starEach [e] X.env = [(false, eval e X.env)] := by rfl) :
    PI X (.Tuple elts kk tpos) (.Call (.Name "enumerate" p) [e] [] pos) (iEnumA X.K ta) := by
  refine ⟨fun pins s σ H R I hh => ?_⟩
  refine Call_ (ld_blt I hg hm boot_enumerate (PyProof.Rows.callWith_type1 (thn (ha.run pos pins s σ H _ I hh) fun us z ⟨vs, H1, I1, r1, q1⟩ => ?_) hs rfl))
  obtain ⟨a, xs, ex, q1⟩ := q1
  subst ex
  cases r1 with
  | cons r rr =>
    cases rr
    cases r
    have fps : ∀ b, b ∈ [z.heap.objs.size + 1, z.heap.objs.size] → FpOk X pins H1 b := fun b hb => by
      have hle : z.heap.objs.size ≤ b := by
        have e' : b = z.heap.objs.size + 1 ∨ b = z.heap.objs.size := by simpa using hb
        omega
      exact I1.fpOk hle (I1.hok.fresh hle)
    rcases q1 with ⟨hq, q⟩ | ⟨hq, q⟩
    · obtain ⟨its, rv, p', hz⟩ := I1.list hq
      refine callEnumOne (begins_list a its.toArray) p'.isList fun h' he hit hk => wpAny_pyIter_enum he ?_
      have I2 : Inv X pins σ H1 { z with heap := h' } := I1.kept (t' := z.toks) hk
      exact ⟨z.heap.objs.size + 1, [z.heap.objs.size + 1, z.heap.objs.size], _, _, H1, rfl, I2, turn_enum a _ _, ⟨⟨.none, he⟩, ⟨_, hit, rfl, rfl⟩, Nat.succ_ne_self _⟩, fps, q⟩
    · obtain ⟨its, rv, p', hz⟩ := I1.tuple hq
      have la : a < z.heap.objs.size := by
        obtain ⟨_, q, _⟩ := p'
        exact Heap.lt_size q
      refine callEnumOne (begins_tuple a its.toArray) p' fun h' he hit hk => wpAny_pyIter_enum he ?_
      have I2 : Inv X pins σ H1 { z with heap := h' } := I1.kept (t' := z.toks) hk
      exact ⟨z.heap.objs.size + 1, [z.heap.objs.size + 1, z.heap.objs.size], _, _, H1, rfl, I2, turnEnumT a _ _, ⟨⟨.none, he⟩, ⟨_, hit, rfl, rfl⟩, Nat.succ_ne_self _, Nat.ne_of_lt la, Nat.ne_of_lt (Nat.lt_succ_of_lt la)⟩, fps, q⟩
end DL

namespace DL
open PySem PySem.Spec PyProof.Rows L2
/-! ### what is walked -/
def SrcOk : List (Nat × List D) → Sto → Prop
  | [], _ => True
  | p :: r, st => st[p.1]? = some p.2 ∧ SrcOk r st
structure DWk (K : PySem.W.Frag) (J : It) (w : Wd) (xs : List D) (src : List (Nat × List D)) : Prop where
  goes : ∀ (i : Nat) (w1 : Wd) (st1 : Sto) (H1 : Hp), i < xs.length → Le0 w w1 → Wld K w1 st1 H1 → SrcOk src st1 → J.go i H1
  stops : ∀ (w1 : Wd) (st1 : Sto) (H1 : Hp), Le0 w w1 → Wld K w1 st1 H1 → SrcOk src st1 → J.stop xs.length H1
  yields : ∀ (i : Nat) (w1 : Wd) (st1 : Sto) (H1 : Hp) (v : V) (H2 : Hp), i < xs.length → Le0 w w1 → Wld K w1 st1 H1 → SrcOk src st1 → J.yld i H1 v H2 →
    ∃ (w2 : Wd) (d : D), Le w1 w2 ∧ Wld K w2 st1 H2 ∧ xs[i]? = some d ∧ Rep K w2 d v
abbrev DIk := List D → List (Nat × List D) → Sto → Prop
abbrev DI := Env → Sto → DIk → Prop
def tDI (K : PySem.W.Frag) (t : DI) : TI := fun σ H R => ∃ w env st kk, Wld K w st H ∧ EnvR K w env σ ∧ t env st kk ∧ ∀ xs src st' w' H' J, kk xs src st' → Le w w' → Wld K w' st' H' → DWk K J w' xs src → R J H'
abbrev PDI (X : Cx) (tg e : Expr) (t : DI) : Prop := PI X tg e (tDI X.K t)
theorem _root_.L2.PI.wk {X : Cx} {tg e : Expr} {t t' : TI} (h : PI X tg e t) (i : ∀ σ H R, t' σ H R → t σ H R) : PI X tg e t' := ⟨fun pins s σ H R I q => h.run pins s σ H R I (i σ H R q)⟩
def srcOf (d : D) (xs : List D) : List (Nat × List D) := match d with
  | .obj i => [(i, xs)]
  | _ => []
section
variable {K : PySem.W.Frag} {w w' w1 : Wd} {st st1 : Sto} {H H1 : Hp}
theorem src_seq {d : D} {a : Addr} {xs : List D} (R : Rep K w d (.ref a)) (e : deref st d = .lst xs) (l : Le0 w w1) (W1 : Wld K w1 st1 H1) (s : SrcOk (srcOf d xs) st1) : ∃ vs, SqL K H1 a vs ∧ Reps K w1 xs vs := by
  have e1 : deref st1 d = .lst xs := by
    cases d with
    | obj i =>
      have s' : st1[i]? = some xs := s.1
      show (match st1[i]? with | some xs => D.lst xs | none => D.obj i) = .lst xs
      rw [s']
    | _ => exact e
  obtain ⟨a', vs, ea, q, r, _⟩ := rep_lst W1 (Rep.mono' l.same l.pre _ _ R) e1
  cases ea
  exact ⟨vs, q, r⟩
theorem tup_seq {d : D} {a : Addr} {xs : List D} (R : Rep K w d (.ref a)) (e : deref st d = .tup xs) (l : Le0 w w1) (W1 : Wld K w1 st1 H1) : ∃ vs, SqT K H1 a vs ∧ Reps K w1 xs vs := by
  obtain ⟨a', vs, ea, q, r, _⟩ := rep_tup W1 (Rep.mono' l.same l.pre _ _ R) (deref_tups e st1)
  cases ea
  exact ⟨vs, q, r⟩
theorem wk_list {d : D} {a : Addr} {xs : List D} (R : Rep K w d (.ref a)) (e : deref st d = .lst xs) : DWk K (Itl K a) w xs (srcOf d xs) where
  goes := fun i w1 st1 H1 hi l W1 s => by
    obtain ⟨vs, q, r⟩ := src_seq R e l W1 s
    exact (walk_list (xs := vs)).goes i H1 (by rw [r.length]; exact hi) q
  stops := fun w1 st1 H1 l W1 s => by
    obtain ⟨vs, q, r⟩ := src_seq R e l W1 s
    rw [← r.length]
    exact (walk_list (xs := vs)).stops H1 q
  yields := fun i w1 st1 H1 v H2 hi l W1 s y => by
    obtain ⟨vs, q, r⟩ := src_seq R e l W1 s
    obtain ⟨rfl, h⟩ := (walk_list (xs := vs)).yields i H1 v H2 (by rw [r.length]; exact hi) q y
    obtain ⟨d', h1, h2⟩ := r.getv h
    exact ⟨w1, d', .refl _, W1, h1, h2⟩
theorem wk_tup {d : D} {a : Addr} {xs : List D} (R : Rep K w d (.ref a)) (e : deref st d = .tup xs) : DWk K (Itt K a) w xs [] where
  goes := fun i w1 st1 H1 hi l W1 s => by
    obtain ⟨vs, q, r⟩ := tup_seq R e l W1
    exact (walk_tup (xs := vs)).goes i H1 (by rw [r.length]; exact hi) q
  stops := fun w1 st1 H1 l W1 s => by
    obtain ⟨vs, q, r⟩ := tup_seq R e l W1
    rw [← r.length]
    exact (walk_tup (xs := vs)).stops H1 q
  yields := fun i w1 st1 H1 v H2 hi l W1 s y => by
    obtain ⟨vs, q, r⟩ := tup_seq R e l W1
    obtain ⟨rfl, h⟩ := (walk_tup (xs := vs)).yields i H1 v H2 (by rw [r.length]; exact hi) q y
    obtain ⟨d', h1, h2⟩ := r.getv h
    exact ⟨w1, d', .refl _, W1, h1, h2⟩
def signs (z : Str) : List D := z.cps.toList.map fun c => .str ⟨#[c]⟩
theorem signs_length (z : Str) : (signs z).length = z.cps.size := by unfold signs; rw [List.length_map, Array.length_toList]
theorem wk_str {z : Str} : DWk K (Its z) w (signs z) [] where
  goes := fun i w1 st1 H1 hi l W1 s => walk_str.goes i H1 (by rw [signs_length] at hi; exact hi) trivial
  stops := fun w1 st1 H1 l W1 s => by
    rw [signs_length]
    exact walk_str.stops H1 trivial
  yields := fun i w1 st1 H1 v H2 hi l W1 s y => by
    rw [signs_length] at hi
    obtain ⟨rfl, c, h1, rfl⟩ := walk_str.yields i H1 v H2 hi trivial y
    refine ⟨w1, .str ⟨#[c]⟩, .refl _, W1, ?_, rep_str⟩
    unfold signs
    rw [List.getElem?_map, Array.getElem?_toList, h1]
    rfl
/-- lo, lo + 1, .. -/
def rangeD (lo : Int) (n : Nat) : List D := (List.range n).map fun i => .int (lo + (i : Nat))
theorem rangeD_length (lo : Int) (n : Nat) : (rangeD lo n).length = n := by simp [rangeD]
theorem wk_range {lo : Int} {n : Nat} : DWk K (Itr lo n) w (rangeD lo n) [] where
  goes := fun i w1 st1 H1 hi l W1 s => walk_range.goes i H1 (by rw [rangeD_length] at hi; exact hi) trivial
  stops := fun w1 st1 H1 l W1 s => by
    rw [rangeD_length]
    exact walk_range.stops H1 trivial
  yields := fun i w1 st1 H1 v H2 hi l W1 s y => by
    rw [rangeD_length] at hi
    obtain ⟨rfl, rfl⟩ := walk_range.yields i H1 v H2 hi trivial y
    refine ⟨w1, .int (lo + (i : Nat)), .refl _, W1, ?_, rep_int⟩
    unfold rangeD
    rw [List.getElem?_map, List.getElem?_range hi]
    rfl
/-- a new pair of what is represented -/
theorem pair_put (W : Wld K w st H) {T : Addr} {x y : V} {d e : D} (hT : H T = none) (r1 : Rep K w d x) (r2 : Rep K w e y) :
    ∃ w2, Le w w2 ∧ Wld K w2 st (upd H T (.tup [x, y])) ∧ Rep K w2 (.tup [d, e]) (.ref T) := by
  have l := Le.put (w := w) (o := .tup [x, y]) (W.free hT)
  refine ⟨w.put T (.tup [x, y]), l, W.put hT (by show 2 ≤ sizeLine; decide), ?_⟩
  simp only [Rep]
  exact ⟨T, [x, y], rfl, upd_same, .cons (Rep.mono l _ _ r1) (.cons (Rep.mono l _ _ r2) .nil)⟩
def enumD : Nat → List D → List D
  | _, [] => []
  | n, x :: r => .tup [.int (n : Nat), x] :: enumD (n + 1) r
theorem enumD_length : ∀ (n : Nat) (xs : List D), (enumD n xs).length = xs.length
  | _, [] => rfl
  | n, x :: r => by simp [enumD, enumD_length (n + 1) r]
theorem enumD_get : ∀ (n : Nat) (xs : List D) (i : Nat) (d : D), xs[i]? = some d → (enumD n xs)[i]? = some (.tup [.int ((n + i : Nat) : Int), d])
  | _, [], _, _, h => by simp at h
  | n, x :: r, 0, d, h => by
    simp at h
    subst h
    simp [enumD]
  | n, x :: r, i + 1, d, h => by
    have := enumD_get (n + 1) r i d (by simpa using h)
    simp only [enumD, List.getElem?_cons_succ]
    rw [this]
    have e : n + 1 + i = n + (i + 1) := by omega
    rw [e]
theorem wk_enum {d : D} {a : Addr} {xs : List D} (R : Rep K w d (.ref a)) (e : deref st d = .lst xs) : DWk K (Ite K a) w (enumD 0 xs) (srcOf d xs) where
  goes := fun i w1 st1 H1 hi l W1 s => by
    obtain ⟨vs, q, r⟩ := src_seq R e l W1 s
    rw [enumD_length] at hi
    exact (walk_enum (xs := vs)).goes i H1 (by rw [r.length]; exact hi) q
  stops := fun w1 st1 H1 l W1 s => by
    obtain ⟨vs, q, r⟩ := src_seq R e l W1 s
    rw [enumD_length, ← r.length]
    exact (walk_enum (xs := vs)).stops H1 q
  yields := fun i w1 st1 H1 v H2 hi l W1 s y => by
    obtain ⟨vs, q, r⟩ := src_seq R e l W1 s
    rw [enumD_length] at hi
    obtain ⟨T, x, y, rfl, hT, rfl, h1, h2⟩ := (walk_enum (xs := vs)).yields i H1 v H2 (by rw [r.length]; exact hi) q y
    cases h1
    obtain ⟨d', g1, g2⟩ := r.getv h2
    obtain ⟨w2, l2, W2, R2⟩ := pair_put W1 hT (rep_int (a := (i : Nat))) g2
    refine ⟨w2, _, l2, W2, ?_, R2⟩
    rw [enumD_get 0 xs i d' g1, Nat.zero_add]
theorem wk_enumT {d : D} {a : Addr} {xs : List D} (R : Rep K w d (.ref a)) (e : deref st d = .tup xs) : DWk K (IteT K a) w (enumD 0 xs) [] where
  goes := fun i w1 st1 H1 hi l W1 s => by
    obtain ⟨vs, q, r⟩ := tup_seq R e l W1
    rw [enumD_length] at hi
    exact ⟨vs, vs[i]'(by rw [r.length]; exact hi), q, List.getElem?_eq_getElem _⟩
  stops := fun w1 st1 H1 l W1 s => by
    obtain ⟨vs, q, r⟩ := tup_seq R e l W1
    rw [enumD_length, ← r.length]
    exact ⟨vs, q, rfl⟩
  yields := fun i w1 st1 H1 v H2 hi l W1 s y => by
    obtain ⟨vs, q, r⟩ := tup_seq R e l W1
    rw [enumD_length] at hi
    obtain ⟨T, y, rfl, hT, rfl, h2⟩ := y
    obtain ⟨d', g1, g2⟩ := r.getv (h2 vs q)
    obtain ⟨w2, l2, W2, R2⟩ := pair_put W1 hT (rep_int (a := (i : Nat))) g2
    refine ⟨w2, _, l2, W2, ?_, R2⟩
    rw [enumD_get 0 xs i d' g1, Nat.zero_add]
theorem SrcOk.split {a b : List (Nat × List D)} {st : Sto} : SrcOk (a ++ b) st → SrcOk a st ∧ SrcOk b st := by
  induction a with
  | nil => intro h; exact ⟨trivial, h⟩
  | cons p r ih => intro h; exact ⟨⟨h.1, (ih h.2).1⟩, (ih h.2).2⟩
end
section
variable {X : Cx} {tg e e2 : Expr} {pos p : Pos} {ta tb : DE}
def rIt (K : PySem.W.Frag) (x : V) (H : Hp) (R : It → Hp → Prop) : Prop :=
  (∃ a xs, x = .ref a ∧ SqL K H a xs ∧ R (Itl K a) H) ∨ (∃ a xs, x = .ref a ∧ SqT K H a xs ∧ R (Itt K a) H) ∨ ∃ z, x = .str z ∧ R (Its z) H
theorem pi_any {tl : TE} (hl : PE X e tl) : PI X tg e (fun σ H R => tl σ H fun x H1 => rIt X.K x H1 R) := by
  refine ⟨fun pins s σ H R I h => thn (hl.run pins s σ H _ I h) fun v s1 ⟨x, H1, I1, r1, q1⟩ => ?_⟩
  rcases q1 with ⟨a, xs, rfl, hq, q⟩ | ⟨a, xs, rfl, hq, q⟩ | ⟨z, rfl, q⟩
  · cases r1
    obtain ⟨its, rv, pl, hz⟩ := I1.list hq
    exact wpAny_pyIter_list pl.isList (pi_one (tk := s1.toks) I1 _ (turn_list a _) ⟨_, Heap.get?_push_size _ rfl, rfl, rfl⟩ q)
  · cases r1
    obtain ⟨its, rv, pl, hz⟩ := I1.tuple hq
    exact wpAny_pyIter_tuple (show s1.heap.IsTuple a its.toArray from pl) (pi_one (tk := s1.toks) I1 _ (turn_tuple a _) ⟨_, Heap.get?_push_size _ rfl, rfl, rfl⟩ q)
  · obtain ⟨t, rfl⟩ := r1
    by_cases ha : z.cps.all (· < 128) = true
    · exact wpAny_pyIter_ascii ha (pi_one (tk := s1.toks) I1 _ (turn_str _ z t "str_ascii_iterator" (.inl rfl)) ⟨_, Heap.get?_push_size _ rfl, rfl, rfl⟩ q)
    · exact wpAny_pyIter_wide (by simpa using ha) (pi_one (tk := s1.toks) I1 _ (turn_str _ z t "str_iterator" (.inr rfl)) ⟨_, Heap.get?_push_size _ rfl, rfl, rfl⟩ q)
def dIter (t : DE) : DI := fun env st kk => t env st fun d s1 => match deref s1 d with
  | .lst xs => xs.length ≤ 16777216 → kk xs (srcOf d xs) s1
  | .tup xs => xs.length ≤ 16777216 → kk xs [] s1
  | .str z => kk (signs z) [] s1
  | _ => False
theorem line_of {n : Nat} (h : n ≤ sizeLine) : n ≤ 16777216 := by rw [sizeLine_eq] at h; exact h
theorem pdi_any (h : PD X e ta) : PDI X tg e (dIter ta) := by
  refine (pi_any h).wk fun σ H R ⟨w, env, st, kk, W, E, h, fo⟩ => ?_
  refine ⟨w, env, st, _, W, E, h, fun d st1 v w1 H1 h1 l1 W1 R1 => ?_⟩
  split at h1
  · rename_i xs hd
    obtain ⟨a, vs, rfl, q, r, n⟩ := rep_lst W1 R1 hd
    exact .inl ⟨a, vs, rfl, q, fo _ _ _ _ _ _ (h1 (by rw [← r.length]; exact line_of n)) l1 W1 (wk_list R1 hd)⟩
  · rename_i xs hd
    obtain ⟨a, vs, rfl, q, r, n⟩ := rep_tup W1 R1 hd
    exact .inr (.inl ⟨a, vs, rfl, q, fo _ _ _ _ _ _ (h1 (by rw [← r.length]; exact line_of n)) l1 W1 (wk_tup R1 hd)⟩)
  · rename_i z hd
    have e0 := deref_self hd (fun _ z => by cases z) (fun _ z => by cases z)
    subst e0
    simp only [Rep] at R1
    exact .inr (.inr ⟨z, R1, fo _ _ _ _ _ _ h1 l1 W1 wk_str⟩)
  · exact h1.elim
def dRng1 (t : DE) : DI := fun env st kk => t env st fun d s1 => match d with
  | .int j => (-(2 ^ 62) ≤ j ∧ j < 2 ^ 62) ∧ kk (rangeD 0 j.toNat) [] s1
  | _ => False
theorem pdi_range1 (hm : X.mg "range" = none) (ha : PD X e ta) (hg : Gl X "range" := by rfl) (hs : starEach [e] X.env = [(false, eval e X.env)] := by rfl) : PDI X tg (.Call (.Name "range" p) [e] [] pos) (dRng1 ta) := by
  refine (pi_range1 hg hm (pa_cons ha pa_nil hs) hs).wk fun σ H R ⟨w, env, st, kk, W, E, h, fo⟩ => ?_
  refine ⟨w, env, st, _, W, E, h, fun d st1 v w1 H1 h1 l1 W1 R1 => ?_⟩
  split at h1
  · simp only [Rep] at R1
    subst R1
    exact ⟨_, rfl, h1.1.1, h1.1.2, fo _ _ _ _ _ _ h1.2 l1 W1 wk_range⟩
  · exact h1.elim
def dEnum (t : DE) : DI := fun env st kk => t env st fun d s1 => match deref s1 d with
  | .lst xs => xs.length ≤ 16777216 → kk (enumD 0 xs) (srcOf d xs) s1
  | .tup xs => xs.length ≤ 16777216 → kk (enumD 0 xs) [] s1
  | _ => False
theorem pdi_enum {elts : List Expr} {k : Nat} {tpos : Pos} (hm : X.mg "enumerate" = none) (ha : PD X e ta) (hg : Gl X "enumerate" := by rfl) (hs : starEach [e] X.env = [(false, eval e X.env)] := by rfl) :
    PDI X (.Tuple elts k tpos) (.Call (.Name "enumerate" p) [e] [] pos) (dEnum ta) := by
  refine (piEnumA hg hm (pa_cons ha pa_nil hs) hs).wk fun σ H R ⟨w, env, st, kk, W, E, h, fo⟩ => ?_
  refine ⟨w, env, st, _, W, E, h, fun d st1 v w1 H1 h1 l1 W1 Rv => ?_⟩
  split at h1
  · rename_i xs hd
    obtain ⟨a, vs, rfl, q, r, n⟩ := rep_lst W1 Rv hd
    exact ⟨a, vs, rfl, .inl ⟨q, fo _ _ _ _ _ _ (h1 (by rw [← r.length]; exact line_of n)) l1 W1 (wk_enum Rv hd)⟩⟩
  · rename_i xs hd
    obtain ⟨a, vs, rfl, q, r, n⟩ := rep_tup W1 Rv hd
    exact ⟨a, vs, rfl, .inr ⟨q, fo _ _ _ _ _ _ (h1 (by rw [← r.length]; exact line_of n)) l1 W1 (wk_enumT Rv hd)⟩⟩
  · exact h1.elim
/-! ### loops -/
def goFor (src : List (Nat × List D)) (g : DG) (b : DS) (E : DEnds) : List D → Env → Sto → Prop
  | [], env, st => SrcOk src st ∧ E.nx env st
  | x :: r, env, st => SrcOk src st ∧ g x env st fun env' st' => b { E with nx := fun env2 st2 => goFor src g b E r env2 st2 } env' st'
def dFor (di : DI) (g : DG) (b : DS) : DS := fun E env st => di env st fun xs src s1 => goFor src g b E xs env s1
theorem pds_for {iter : Expr} {body : List Stmt} {di : DI} {g : DG} {b : DS} (hp : PassesOwn (model X.prog X.w) X.A X.env X.xe) (hc : X.calm = true) (hi : PDI X tg iter di) (hg : PDG X tg g) (hb : PDSs X body b)
    (hs : ∀ x, foldedSetIterable iter X.env x = pure x := by intro _; rfl) : PDS X (.For tg iter body [] pos) (dFor di g b) := by
  refine (ps_for hp hc hi hg hb hs).wk fun Ed σ H ⟨w, env, st, E0, W, E, h, fn, fr⟩ => ?_
  refine ⟨w, env, st, _, W, E, h, fun xs src st1 w1 H1 J h1 l1 W1 wk => ?_⟩
  refine ⟨fun i m σ2 H2 => m = xs.length - i ∧ i ≤ xs.length ∧ ∃ w2 env2 st2, Le w1 w2 ∧ Wld X.K w2 st2 H2 ∧ EnvR X.K w2 env2 σ2 ∧ goFor src g b E0 (xs.drop i) env2 st2,
    ⟨xs.length, by simp, Nat.zero_le _, w1, env, st1, .refl _, W1, E.mono l1, by simpa using h1⟩, ?_⟩
  rintro i m σ2 H2 ⟨rfl, hi, w2, env2, st2, l2, W2, E2, q⟩
  by_cases hlt : i < xs.length
  · rw [List.drop_eq_getElem_cons hlt] at q
    obtain ⟨so, q⟩ := q
    refine .inr ⟨wk.goes i w2 st2 H2 hlt l2.toLe0 W2 so, fun σ' H' => ∃ w3 env3 st3, Le w1 w3 ∧ Wld X.K w3 st3 H' ∧ EnvR X.K w3 env3 σ' ∧ goFor src g b E0 (xs.drop (i + 1)) env3 st3, fun σ' H' pv => ⟨xs.length - (i + 1), by omega, rfl, hlt, pv⟩, fun v H3 y => ?_⟩
    obtain ⟨w3, d, l3, W3, e3, R3⟩ := wk.yields i w2 st2 H2 v H3 hlt l2.toLe0 W2 so y
    have ed : d = xs[i] := by
      rw [List.getElem?_eq_getElem hlt] at e3
      exact (Option.some.inj e3).symm
    rw [← ed] at q
    refine ⟨w3, env2, st2, d, _, W3, E2.mono l3, R3, q, fun env4 st4 σ4 w4 H4 h4 l4 W4 E4 => ?_⟩
    have l14 := (l2.trans l3).trans l4
    exact ⟨w4, env4, st4, _, W4, E4, h4, fun env5 st5 σ5 w5 H5 h5 l5 W5 E5 => ⟨w5, env5, st5, l14.trans l5, W5, E5, h5⟩, fr.le (l1.trans l14)⟩
  · have hie : i = xs.length := by omega
    subst hie
    rw [List.drop_length] at q
    exact .inl ⟨wk.stops w2 st2 H2 l2.toLe0 W2 q.1, fn _ _ _ _ _ q.2 (l1.trans l2) W2 E2⟩
def dWhile (c : DT) (b : DS) : DS := fun E env st => ∃ I : Nat → Env → Sto → Prop, (∃ m, I m env st) ∧ ∀ m env st, I m env st →
  c env st fun k s1 => if k = true then b { E with nx := fun env2 st2 => ∃ m', m' < m ∧ I m' env2 st2 } env s1 else E.nx env s1
theorem pds_while {c : Expr} {body : List Stmt} {tc : DT} {b : DS} (hp : PassesOwn (model X.prog X.w) X.A X.env X.xe) (hc : PDT X c tc) (hb : PDSs X body b) : PDS X (.While c body [] pos) (dWhile tc b) := by
  refine (ps_while hp hc hb).wk fun Ed σ H ⟨w, env, st, E0, W, E, ⟨I, ⟨m0, h0⟩, turn⟩, fn, fr⟩ => ?_
  refine ⟨fun m σ2 H2 => ∃ w2 env2 st2, Le w w2 ∧ Wld X.K w2 st2 H2 ∧ EnvR X.K w2 env2 σ2 ∧ I m env2 st2, ⟨m0, w, env, st, .refl _, W, E, h0⟩, ?_⟩
  rintro m σ2 H2 ⟨w2, env2, st2, l2, W2, E2, q⟩
  refine ⟨w2, env2, st2, _, W2, E2, turn m env2 st2 q, fun k st3 w3 H3 h3 l3 W3 => ?_⟩
  cases k with
  | true =>
    simp only [↓reduceIte] at h3 ⊢
    refine ⟨fun σ' H' => ∃ m', m' < m ∧ ∃ w4 env4 st4, Le w w4 ∧ Wld X.K w4 st4 H' ∧ EnvR X.K w4 env4 σ' ∧ I m' env4 st4, fun σ' H' pv => pv, ?_⟩
    exact ⟨w3, env2, st3, _, W3, E2.mono l3, h3, fun env5 st5 σ5 w5 H5 ⟨m', hm, h5⟩ l5 W5 E5 => ⟨m', hm, w5, env5, st5, (l2.trans l3).trans l5, W5, E5, h5⟩, fr.le (l2.trans l3)⟩
  | false =>
    simp only [Bool.false_eq_true, ↓reduceIte] at h3 ⊢
    exact fn _ _ _ _ _ h3 (l2.trans l3) W3 (E2.mono l3)

/-! ### list comprehensions -/
def wipeE (env : Env) : List Nat → Env
  | [] => env
  | v :: vs => (wipeE env vs).set v none
theorem EnvR.wipe {K : PySem.W.Frag} {w : Wd} {env : Env} {σ : L2.St} (h : EnvR K w env σ) : ∀ vs : List Nat, EnvR K w (wipeE env vs) (wipe σ vs)
  | [] => h
  | v :: vs => (h.wipe vs).unset v
def goLc (src : List (Nat × List D)) (g : DG) (tt : DT) (te : DE) (vs : List Nat) (env : Env) (k : List D → Sto → Prop) : List D → List D → Sto → Prop
  | [], acc, st => SrcOk src st ∧ k acc st
  | x :: r, acc, st => SrcOk src st ∧ g x (wipeE env vs) st fun env' st' => tt env' st' fun b s1 =>
      if b = true then te env' s1 fun d s2 => goLc src g tt te vs env k r (acc ++ [d]) s2 else goLc src g tt te vs env k r acc s1
/-- a comprehension's list: nobody changes it -/
def dLc (di : DI) (g : DG) (tt : DT) (te : DE) (vs : List Nat) : DE := fun env st k => di env st fun xs src s1 => xs.length ≤ 16777216 ∧ goLc src g tt te vs env (fun acc s2 => k (.lst acc) s2) xs [] s1
/-- .. a list of the store -/
def dLcNew (di : DI) (g : DG) (tt : DT) (te : DE) (vs : List Nat) : DE := fun env st k => di env st fun xs src s1 => xs.length ≤ 16777216 ∧ goLc src g tt te vs env (fun acc s2 => k (.obj s2.length) (s2 ++ [acc])) xs [] s1
theorem Reps.rh {K : PySem.W.Frag} {w : Wd} {ds : List D} {vs : List V} (h : Reps K w ds vs) (l : List (Addr × List V)) : Reps K ⟨w.G, w.as, l, w.dk, w.lk⟩ ds vs := Reps.mono' (w := w) (w' := ⟨w.G, w.as, l, w.dk, w.lk⟩) (Same.refl w.G) (.eq rfl rfl) _ _ h
theorem Rep.rh {K : PySem.W.Frag} {w : Wd} {d : D} {v : V} (h : Rep K w d v) (l : List (Addr × List V)) : Rep K ⟨w.G, w.as, l, w.dk, w.lk⟩ d v := Rep.mono' (w := w) (w' := ⟨w.G, w.as, l, w.dk, w.lk⟩) (Same.refl w.G) (.eq rfl rfl) _ _ h
theorem EntR.rh {K : PySem.W.Frag} {w : Wd} {k : Option Kd} {L : Lk} {xs : List D} {o : HO} (h : EntR K w k L xs o) (l : List (Addr × List V)) : EntR K ⟨w.G, w.as, l, w.dk, w.lk⟩ k L xs o := EntR.mono' (w := w) (w' := ⟨w.G, w.as, l, w.dk, w.lk⟩) (Same.refl w.G) (.eq rfl rfl) h
theorem EntR.rg {K : PySem.W.Frag} {w : Wd} {k : Option Kd} {L : Lk} {xs : List D} {o : HO} (h : EntR K w k L xs o) {G : Hp} (s : Same w.G G) (l : List (Addr × List V)) : EntR K ⟨G, w.as, l, w.dk, w.lk⟩ k L xs o := EntR.mono' (w := w) (w' := ⟨G, w.as, l, w.dk, w.lk⟩) s (.eq rfl rfl) h
theorem Reps.rg {K : PySem.W.Frag} {w : Wd} {ds : List D} {vs : List V} (h : Reps K w ds vs) {G : Hp} (s : Same w.G G) (l : List (Addr × List V)) : Reps K ⟨G, w.as, l, w.dk, w.lk⟩ ds vs := Reps.mono' (w := w) (w' := ⟨G, w.as, l, w.dk, w.lk⟩) s (.eq rfl rfl) _ _ h
/-- a list in the making is laid -/
theorem Wld.hide {K : PySem.W.Frag} {w : Wd} {st : Sto} {H : Hp} (W : Wld K w st H) {p : Addr} {vs : List V} (h : H p = none) : Wld K ⟨w.G, w.as, (p, vs) :: w.hid, w.dk, w.lk⟩ st (upd H p (.lst vs)) where
  same := fun b u e => by
    have ne : b ≠ p := fun z => by
      have e' : w.G b = some u := e
      rw [z, W.free h] at e'
      cases e'
    rw [upd_ne ne]
    exact W.same b u e
  len := W.len
  nd := W.nd
  at_ := fun i a e => by
    obtain ⟨g, xs, us, h1, h2, h3⟩ := W.at_ i a e
    have ne : a ≠ p := fun z => by rw [z, h] at h2; cases h2
    exact ⟨g, xs, us, h1, by rw [upd_ne ne]; exact h2, h3.rh _⟩
  small := W.small
  hidd := fun a us m => by
    rcases List.mem_cons.mp m with z | z
    · cases z
      exact ⟨W.free h, W.nas h, upd_same⟩
    · obtain ⟨g, n, h1⟩ := W.hidd a us z
      have ne : a ≠ p := fun z => by rw [z, h] at h1; cases h1
      exact ⟨g, n, by rw [upd_ne ne]; exact h1⟩
  hnd := by
    show (p :: w.hid.map (·.1)).Nodup
    refine List.nodup_cons.mpr ⟨fun m => ?_, W.hnd⟩
    obtain ⟨⟨a, us⟩, m1, m2⟩ := List.mem_map.mp m
    have m2' : a = p := m2
    subst m2'
    have := (W.hidd a us m1).2.2
    rw [h] at this
    cases this
/-- the list in the making has grown -/
theorem Wld.regrow {K : PySem.W.Frag} {w : Wd} {st : Sto} {H : Hp} {p : Addr} {vs us : List V} {r : List (Addr × List V)} (W : Wld K w st H) (hh : w.hid = (p, vs) :: r) : Wld K ⟨w.G, w.as, (p, us) :: r, w.dk, w.lk⟩ st (upd H p (.lst us)) := by
  obtain ⟨g0, n0, h0⟩ := W.hidd p vs (by rw [hh]; exact List.mem_cons_self)
  have hnd := W.hnd
  rw [hh] at hnd
  have hnd' : (p :: r.map (·.1)).Nodup := hnd
  refine ⟨fun b u e => ?_, W.len, W.nd, fun i a e => ?_, W.small, fun a zs m => ?_, hnd'⟩
  · have ne : b ≠ p := fun z => by
      have e' : w.G b = some u := e
      rw [z, g0] at e'
      cases e'
    rw [upd_ne ne]
    exact W.same b u e
  · obtain ⟨g, xs, zs, h1, h2, h3⟩ := W.at_ i a e
    have ne : a ≠ p := fun z => n0 (by rw [← z]; exact List.mem_of_getElem? e)
    exact ⟨g, xs, zs, h1, by rw [upd_ne ne]; exact h2, h3.rh _⟩
  · rcases List.mem_cons.mp m with z | z
    · cases z
      exact ⟨g0, n0, upd_same⟩
    · obtain ⟨g, n, h1⟩ := W.hidd a zs (by rw [hh]; exact List.mem_cons_of_mem _ z)
      have ne : a ≠ p := fun q => (List.nodup_cons.mp hnd').1 (by rw [← q]; exact List.mem_map.mpr ⟨_, z, rfl⟩)
      exact ⟨g, n, by rw [upd_ne ne]; exact h1⟩
/-- the list in the making is done: frozen -/
theorem Wld.done {K : PySem.W.Frag} {w : Wd} {st : Sto} {H : Hp} {p : Addr} {vs : List V} {r : List (Addr × List V)} (W : Wld K w st H) (hh : w.hid = (p, vs) :: r) (n : vs.length ≤ sizeLine) : Wld K ⟨upd w.G p (.lst vs), w.as, r, w.dk, w.lk⟩ st H := by
  obtain ⟨g0, n0, h0⟩ := W.hidd p vs (by rw [hh]; exact List.mem_cons_self)
  have hnd := W.hnd
  rw [hh] at hnd
  have hnd' : (p :: r.map (·.1)).Nodup := hnd
  have s : Same w.G (upd w.G p (.lst vs)) := fun b u e => by
    rw [upd_ne (ne_of_none e g0)]
    exact e
  refine ⟨fun b u e => ?_, W.len, W.nd, fun i a e => ?_, fun a u e => ?_, fun a zs m => ?_, (List.nodup_cons.mp hnd').2⟩
  · have e' : upd w.G p (.lst vs) b = some u := e
    by_cases hb : b = p
    · subst hb
      rw [upd_same] at e'
      cases e'
      exact h0
    · rw [upd_ne hb] at e'
      exact W.same b u e'
  · obtain ⟨g, xs, zs, h1, h2, h3⟩ := W.at_ i a e
    have ne : a ≠ p := fun z => n0 (by rw [← z]; exact List.mem_of_getElem? e)
    refine ⟨?_, xs, zs, h1, h2, h3.rg s _⟩
    show upd w.G p (.lst vs) a = none
    rw [upd_ne ne]
    exact g
  · have e' : upd w.G p (.lst vs) a = some u := e
    by_cases ha : a = p
    · subst ha
      rw [upd_same] at e'
      cases e'
      exact n
    · rw [upd_ne ha] at e'
      exact W.small a u e'
  · obtain ⟨g, n, h1⟩ := W.hidd a zs (by rw [hh]; exact List.mem_cons_of_mem _ m)
    have ne : a ≠ p := fun q => (List.nodup_cons.mp hnd').1 (by rw [← q]; exact List.mem_map.mpr ⟨_, m, rfl⟩)
    refine ⟨?_, n, h1⟩
    show upd w.G p (.lst vs) a = none
    rw [upd_ne ne]
    exact g
/-- .. a list of the store now -/
theorem Wld.doneNew {K : PySem.W.Frag} {w : Wd} {st : Sto} {H : Hp} {p : Addr} {xs : List D} {vs : List V} {r : List (Addr × List V)} (W : Wld K w st H) (hh : w.hid = (p, vs) :: r) (n : vs.length ≤ sizeLine) (R : Reps K w xs vs) : Wld K ⟨w.G, w.as ++ [p], r, fun b => if b = p then none else w.dk b, fun b => if b = p then none else w.lk b⟩ (st ++ [xs]) H := by
  obtain ⟨g0, n0, h0⟩ := W.hidd p vs (by rw [hh]; exact List.mem_cons_self)
  have hnd := W.hnd
  rw [hh] at hnd
  have hnd' : (p :: r.map (·.1)).Nodup := hnd
  have pr : Pre w ⟨w.G, w.as ++ [p], r, fun b => if b = p then none else w.dk b, fun b => if b = p then none else w.lk b⟩ := ⟨⟨[p], rfl⟩, fun a ha => if_neg fun (z : a = p) => n0 (z ▸ ha)⟩
  have sm : Same w.G (Wd.G ⟨w.G, w.as ++ [p], r, fun b => if b = p then none else w.dk b, fun b => if b = p then none else w.lk b⟩) := Same.refl w.G
  refine ⟨W.same, ?_, ?_, fun i a e => ?_, W.small, fun a zs m => ?_, (List.nodup_cons.mp hnd').2⟩
  · show (w.as ++ [p]).length = (st ++ [xs]).length
    rw [List.length_append, List.length_append, W.len]
    rfl
  · show (w.as ++ [p]).Nodup
    refine List.nodup_append.mpr ⟨W.nd, by simp, fun a ha b hb z => ?_⟩
    have hbp : b = p := by simpa using hb
    rw [z, hbp] at ha
    exact n0 ha
  · have e' : (w.as ++ [p])[i]? = some a := e
    by_cases hi : i < w.as.length
    · rw [List.getElem?_append_left hi] at e'
      obtain ⟨g, ys, us, h1, h2, h3⟩ := W.at_ i a e'
      refine ⟨g, ys, us, by rw [List.getElem?_append_left (by rw [← W.len]; exact hi)]; exact h1, h2, ?_⟩
      rw [pr.dk a (List.mem_of_getElem? e')]
      have el : Wd.lk ⟨w.G, w.as ++ [p], r, fun b => if b = p then none else w.dk b, fun b => if b = p then none else w.lk b⟩ a = w.lk a := if_neg fun (z : a = p) => n0 (z ▸ List.mem_of_getElem? e')
      rw [el]
      exact h3.mono' sm pr
    · have hi2 : i = w.as.length := by
        have := (List.getElem?_eq_some_iff.mp e').1
        simp at this
        omega
      subst hi2
      rw [List.getElem?_concat_length] at e'
      cases e'
      refine ⟨g0, xs, _, by rw [W.len, List.getElem?_concat_length], h0, ?_⟩
      rw [show Wd.dk ⟨w.G, w.as ++ [p], r, fun b => if b = p then none else w.dk b, fun b => if b = p then none else w.lk b⟩ p = none from if_pos rfl]
      exact .inl ⟨if_pos rfl, vs, rfl, n, Reps.mono' sm pr _ _ R⟩
  · obtain ⟨g, n, h1⟩ := W.hidd a zs (by rw [hh]; exact List.mem_cons_of_mem _ m)
    have ne : a ≠ p := fun q => (List.nodup_cons.mp hnd').1 (by rw [← q]; exact List.mem_map.mpr ⟨_, m, rfl⟩)
    refine ⟨g, fun m' => ?_, h1⟩
    rcases List.mem_append.mp m' with z | z
    · exact n z
    · exact ne (by simpa using z)
theorem wipe_get (σ : L2.St) (j : Nat) : ∀ vs : List Nat, (wipe σ vs)[j]? = if j ∈ vs then σ[j]?.map (fun _ => none) else σ[j]?
  | [] => by simp [wipe]
  | v :: vs => by
    show ((wipe σ vs).set v none)[j]? = _
    by_cases hj : v = j
    · subst hj
      rw [if_pos List.mem_cons_self]
      by_cases hl : v < σ.length
      · rw [List.getElem?_set_self (by rw [wipe_length]; exact hl), List.getElem?_eq_getElem hl]
        rfl
      · rw [List.getElem?_eq_none (by simp [wipe_length]; omega), List.getElem?_eq_none (by omega)]
        rfl
    · rw [List.getElem?_set_ne hj, wipe_get σ j vs]
      by_cases hm : j ∈ vs
      · rw [if_pos hm, if_pos (List.mem_cons_of_mem _ hm)]
      · rw [if_neg hm, if_neg (fun z => by rcases List.mem_cons.mp z with z | z; exact hj z.symm; exact hm z)]
theorem wipe_set {σ : L2.St} {i : Nat} {x : Option V} {vs : List Nat} (h : i ∈ vs) : wipe (σ.set i x) vs = wipe σ vs := by
  refine List.ext_getElem? fun j => ?_
  rw [wipe_get, wipe_get]
  by_cases hj : j = i
  · subst hj
    rw [if_pos h, if_pos h]
    by_cases hl : j < σ.length
    · rw [List.getElem?_set_self hl, List.getElem?_eq_getElem hl]
      rfl
    · rw [List.getElem?_eq_none (by simp; omega), List.getElem?_eq_none (by omega)]
  · rw [List.getElem?_set_ne (Ne.symm hj)]
theorem wipe_wipe (σ : L2.St) (vs : List Nat) : wipe (wipe σ vs) vs = wipe σ vs := by
  refine List.ext_getElem? fun j => ?_
  rw [wipe_get, wipe_get]
  split
  · cases σ[j]? <;> rfl
  · rfl
/-- a target that is the block's own -/
def tDGo (K : PySem.W.Frag) (vs : List Nat) (g : DG) : TG := fun v σ H Q => ∃ w env st d nx, Wld K w st H ∧ EnvR K w env σ ∧ Rep K w d v ∧ g d env st nx ∧
  ∀ env' st' σ' w' H', nx env' st' → Le w w' → Wld K w' st' H' → EnvR K w' env' σ' → wipe σ' vs = wipe σ vs → Q σ' H'
def tDGso (K : PySem.W.Frag) (vs : List Nat) (g : DGs) : TGs := fun us σ H Q => ∃ w env st ds nx, Wld K w st H ∧ EnvR K w env σ ∧ Reps K w ds us ∧ g ds env st nx ∧
  ∀ env' st' σ' w' H', nx env' st' → Le w w' → Wld K w' st' H' → EnvR K w' env' σ' → wipe σ' vs = wipe σ vs → Q σ' H'
abbrev PDGo (X : Cx) (vs : List Nat) (e : Expr) (g : DG) : Prop := PG X e (tDGo X.K vs g)
abbrev PDGso (X : Cx) (vs : List Nat) (e : List Expr) (g : DGs) : Prop := PGs X e (tDGso X.K vs g)
theorem pdgo_name (i : Nat) {vs : List Nat} {x : Str} (hN : X.N.Nodup) (hi : X.N[i]? = some x := by rfl) (hx : Loc X.env.scope x := by first | exact Or.inl rfl | exact Or.inr rfl) (hf : X.fn x = true ∨ X.env.scope.names.lookup x = some .local := by first | exact .inl rfl | exact .inr rfl | assumption) (hv : i ∈ vs := by decide) : PDGo X vs (.Name x pos) (dgName i) := by
  refine L2.PG.wk (pg_name hN hi hx hf) fun v σ H Q ⟨w, env, st, d, nx, W, E, R, h, fn⟩ => ?_
  exact fn _ _ _ _ _ h (.refl _) W (E.set i R) (wipe_set hv)
theorem pdgso_nil {vs : List Nat} : PDGso X vs [] dgNil := by
  refine L2.PGs.wk pgs_nil fun v σ H Q ⟨w, env, st, ds, nx, W, E, R, h, fn⟩ => ?_
  cases ds with
  | nil => exact ⟨R.inv0, fn _ _ _ _ _ h (.refl _) W E rfl⟩
  | cons _ _ => exact h.elim
theorem pdgso_cons {vs : List Nat} {es : List Expr} {t : DG} {u : DGs} (h1 : PDGo X vs e t) (h2 : PDGso X vs es u)
    (hs : (assignEach (e :: es) X.env).map (·.2) = assign e X.env :: (assignEach es X.env).map (·.2) := by rfl) : PDGso X vs (e :: es) (dgCons t u) := by
  refine L2.PGs.wk (pgs_cons h1 h2 hs) fun v σ H Q ⟨w, env, st, ds, nx, W, E, R, h, fn⟩ => ?_
  cases ds with
  | nil => exact h.elim
  | cons d r =>
    obtain ⟨v, vr, rfl, R1, R2⟩ := R.inv
    exact ⟨v, vr, rfl, w, env, st, d, _, W, E, R1, h, fun env1 st1 σ1 w1 H1 h1 l1 W1 E1 ew => ⟨w1, env1, st1, r, nx, W1, E1, Reps.mono l1 _ _ R2, h1,
      fun env2 st2 σ2 w2 H2 h2 l2 W2 E2 ew2 => fn _ _ _ _ _ h2 (l1.trans l2) W2 E2 (ew2.trans ew)⟩⟩
theorem pdgo_tup {vs : List Nat} {es : List Expr} {kk : Nat} {t : DGs} {n : Nat} (hc : X.calm = true) (h : PDGso X vs es t)
    (hn : (assignEach es X.env).length = n := by rfl) (hst : (assignEach es X.env).findIdx? (·.1) = none := by rfl) : PDGo X vs (.Tuple es kk pos) (dgTup n t) := by
  refine L2.PG.wk (pg_tup hc h hn hst) fun v σ H Q ⟨w, env, st, d, nx, W, E, R, h, fn⟩ => ?_
  unfold dgTup at h
  split at h
  · rename_i xs e
    obtain ⟨a, us, rfl, q, r, _⟩ := rep_tup W R e
    exact ⟨a, us, rfl, q, by rw [r.length]; exact h.1, w, env, st, xs, nx, W, E, r, h.2, fn⟩
  · exact h.elim
def dYes : DT := fun _ st k => k true st
abbrev PDTs (X : Cx) (ifs : List Expr) (t : DT) : Prop := PTs X ifs (tDT X.K t)
theorem pdts_nil : PDTs X [] dYes := ⟨fun pins s σ H Q I ⟨w, env, st, kk, W, E, h, fo⟩ => pts_nil.run pins s σ H Q I (fo _ _ _ _ h (.refl _) W)⟩
theorem pdts_one {c : Expr} {t : DT} (h : PDT X c t) : PDTs X [c] t := pts_one h
theorem lc_in {K : PySem.W.Frag} {di : DI} {g : DG} {tt : DT} {te : DE} {vs : List Nat} {σ : L2.St} {H : Hp} {Q : VK} {w : Wd} {env : Env} {st : Sto} {k : List D → Sto → Prop} (W : Wld K w st H) (E : EnvR K w env σ)
    (h : di env st fun xs src s1 => xs.length ≤ 16777216 ∧ goLc src g tt te vs env k xs [] s1)
    (fin : ∀ (acc : List D) (st2 : Sto) (D : Addr) (us : List V) (w2 : Wd) (H2 : Hp), w2.hid = (D, us) :: w.hid → Le0 w w2 → Wld K w2 st2 H2 → Reps K w2 acc us → us.length ≤ sizeLine → k acc st2 → Q (.ref D) H2) :
    tLc (tDI K di) (tDGo K vs g) (tDT K tt) (tD K te) vs σ H Q := by
  refine ⟨w, env, st, _, W, E, h, fun xs src st1 w1 H1 J ⟨hlen, h1⟩ l1 W1 wk D hD => ?_⟩
  refine ⟨fun i m H2 => m = xs.length - i ∧ i ≤ xs.length ∧ ∃ w2 st2 acc us, w2.hid = (D, us) :: w.hid ∧ Le0 w1 w2 ∧ Wld K w2 st2 H2 ∧ Reps K w2 acc us ∧ us.length ≤ i ∧ goLc src g tt te vs env k (xs.drop i) acc st2,
    ⟨xs.length, by simp, Nat.zero_le _, ⟨w1.G, w1.as, (D, []) :: w1.hid, w1.dk, w1.lk⟩, st1, [], [], by rw [← l1.hid], ⟨Same.refl w1.G, .eq rfl rfl, fun _ _ => rfl⟩, W1.hide (vs := []) hD, .nil, Nat.le_refl _, by simpa using h1⟩, ?_⟩
  rintro i m H2 ⟨rfl, hi, w2, st2, acc, us, hh, l2, W2, R2, hu, q⟩
  by_cases hlt : i < xs.length
  · rw [List.drop_eq_getElem_cons hlt] at q
    obtain ⟨so, q⟩ := q
    refine .inr ⟨wk.goes i w2 st2 H2 hlt l2 W2 so, fun H' => ∃ w3 st3 acc us, w3.hid = (D, us) :: w.hid ∧ Le0 w1 w3 ∧ Wld K w3 st3 H' ∧ Reps K w3 acc us ∧ us.length ≤ i + 1 ∧ goLc src g tt te vs env k (xs.drop (i + 1)) acc st3, fun H' pv => ⟨xs.length - (i + 1), by omega, rfl, hlt, pv⟩, fun v H3 y => ?_⟩
    obtain ⟨w3, d, l3, W3, e3, R3⟩ := wk.yields i w2 st2 H2 v H3 hlt l2 W2 so y
    have ed : d = xs[i] := by
      rw [List.getElem?_eq_getElem hlt] at e3
      exact (Option.some.inj e3).symm
    rw [← ed] at q
    have l03 : Le0 w w3 := (l1.toLe0.trans l2).trans l3.toLe0
    refine ⟨w3, wipeE env vs, st2, d, _, W3, (E.mono0 l03).wipe vs, R3, q, fun env4 st4 σ4 w4 H4 h4 l4 W4 E4 ew => ⟨ew.trans (wipe_wipe σ vs), ?_⟩⟩
    refine ⟨w4, env4, st4, _, W4, E4, h4, fun b st5 w5 H5 h5 l5 W5 => ?_⟩
    have l25 := (l3.trans l4).trans l5
    cases b with
    | true =>
      simp only [↓reduceIte] at h5 ⊢
      refine ⟨w5, env4, st5, _, W5, E4.mono l5, h5, fun d6 st6 v6 w6 H6 h6 l6 W6 R6 => ?_⟩
      have l26 := l25.trans l6
      have h6h : w6.hid = (D, us) :: w.hid := l26.hid.trans hh
      refine ⟨us, (W6.hidd D us (by rw [h6h]; exact List.mem_cons_self)).2.2, by rw [sizeLine_eq]; omega, ⟨w6.G, w6.as, (D, us ++ [v6]) :: w.hid, w6.dk, w6.lk⟩, st6, acc ++ [d6], us ++ [v6], rfl, ?_, W6.regrow h6h, ?_, by simp; omega, h6⟩
      · exact ⟨(l2.trans l26.toLe0).same, ⟨(l2.trans l26.toLe0).pre.as, (l2.trans l26.toLe0).pre.dk⟩, (l2.trans l26.toLe0).lk⟩
      · exact ((Reps.mono l26 _ _ R2).rh _).append (.cons (R6.rh _) .nil)
    | false =>
      simp only [Bool.false_eq_true, ↓reduceIte] at h5 ⊢
      exact ⟨w5, st5, acc, us, l25.hid.trans hh, l2.trans l25.toLe0, W5, Reps.mono l25 _ _ R2, Nat.le_succ_of_le hu, h5⟩
  · have hie : i = xs.length := by omega
    subst hie
    rw [List.drop_length] at q
    exact .inl ⟨wk.stops w2 st2 H2 l2 W2 q.1, fin acc st2 D us w2 H2 hh (l1.toLe0.trans l2) W2 R2 (by rw [sizeLine_eq]; omega) q.2⟩
theorem lc_fin {K : PySem.W.Frag} {w : Wd} {kk : DK} {Q : VK} (fo : Fol K w kk Q) (acc : List D) (st2 : Sto) (p : Addr) (us : List V) (w2 : Wd) (H2 : Hp) (hh : w2.hid = (p, us) :: w.hid) (l : Le0 w w2) (W2 : Wld K w2 st2 H2) (R : Reps K w2 acc us) (n : us.length ≤ sizeLine) (k : kk (.lst acc) st2) : Q (.ref p) H2 := by
  have g0 := (W2.hidd p us (by rw [hh]; exact List.mem_cons_self)).1
  have s : Same w2.G (upd w2.G p (.lst us)) := fun b u e => by
    rw [upd_ne (ne_of_none e g0)]
    exact e
  refine fo _ _ _ ⟨upd w2.G p (.lst us), w2.as, w.hid, w2.dk, w2.lk⟩ _ k ⟨⟨l.same.trans s, ⟨l.pre.as, l.pre.dk⟩, l.lk⟩, rfl⟩ (W2.done hh n) ?_
  simp only [Rep]
  exact ⟨p, us, rfl, upd_same, R.rg s _⟩
theorem lc_finNew {K : PySem.W.Frag} {w : Wd} {kk : DK} {Q : VK} (fo : Fol K w kk Q) (acc : List D) (st2 : Sto) (p : Addr) (us : List V) (w2 : Wd) (H2 : Hp) (hh : w2.hid = (p, us) :: w.hid) (l : Le0 w w2) (W2 : Wld K w2 st2 H2) (R : Reps K w2 acc us) (n : us.length ≤ sizeLine) (k : kk (.obj st2.length) (st2 ++ [acc])) : Q (.ref p) H2 := by
  have n0 := (W2.hidd p us (by rw [hh]; exact List.mem_cons_self)).2.1
  have l2 : Le0 w2 ⟨w2.G, w2.as ++ [p], w.hid, fun b => if b = p then none else w2.dk b, fun b => if b = p then none else w2.lk b⟩ :=
    ⟨Same.refl w2.G, ⟨⟨[p], rfl⟩, fun a ha => if_neg fun (z : a = p) => n0 (z ▸ ha)⟩, fun a ha => if_neg fun (z : a = p) => n0 (z ▸ ha)⟩
  refine fo _ _ _ ⟨w2.G, w2.as ++ [p], w.hid, fun b => if b = p then none else w2.dk b, fun b => if b = p then none else w2.lk b⟩ _ k ⟨⟨l.same, (l.trans l2).pre, (l.trans l2).lk⟩, rfl⟩ (W2.doneNew hh n R) ?_
  simp only [Rep]
  refine ⟨p, rfl, ?_, if_pos rfl⟩
  show (w2.as ++ [p])[st2.length]? = some p
  rw [← W2.len, List.getElem?_concat_length]
variable {elt iter : Expr} {ifs : List Expr} {scope : Scope} {own : List (Str × Nat)} {di : DI} {g : DG} {tt : DT} {te : DE}
theorem pd_lc (own : List (Str × Nat)) (hc : X.calm = true) (hN : X.N.Nodup) (hi : PDI X tg iter di) (ok : BlkOk X.N X.env.scope scope own)
    (hg : ∀ (s : Shared) (H : Hp) (C : Addr) (cl : List (Str × Addr)) (fp : List Addr), PDGo (X.blk s H scope (compEnvC scope cl C X.env) fp) (own.map (·.2)) tg g) (ht : ∀ (s : Shared) (H : Hp) (C : Addr) (cl : List (Str × Addr)) (fp : List Addr), PDTs (X.blk s H scope (compEnvC scope cl C X.env) fp) ifs tt)
    (he : ∀ (s : Shared) (H : Hp) (C : Addr) (cl : List (Str × Addr)) (fp : List Addr), PD (X.blk s H scope (compEnvC scope cl C X.env) fp) elt te) (hs : ∀ x, foldedSetIterable iter X.env x = pure x := by intro _; rfl) :
    PD X (.ListComp elt [⟨tg, iter, ifs, 0⟩] scope pos) (dLc di g tt te (own.map (·.2))) :=
  (L2.pe_lc hc hN hi ok hg ht he hs).wk fun σ H Q ⟨w, env, st, kk, W, E, h, fo⟩ => lc_in W E h (lc_fin fo)
theorem pds_setLcNew (i : Nat) (own : List (Str × Nat)) {y : Str} {py spos : Pos} (hc : X.calm = true) (hN : X.N.Nodup) (hi : PDI X tg iter di) (ok : BlkOk X.N X.env.scope scope own)
    (hg : ∀ (s : Shared) (H : Hp) (C : Addr) (cl : List (Str × Addr)) (fp : List Addr), PDGo (X.blk s H scope (compEnvC scope cl C X.env) fp) (own.map (·.2)) tg g) (ht : ∀ (s : Shared) (H : Hp) (C : Addr) (cl : List (Str × Addr)) (fp : List Addr), PDTs (X.blk s H scope (compEnvC scope cl C X.env) fp) ifs tt)
    (he : ∀ (s : Shared) (H : Hp) (C : Addr) (cl : List (Str × Addr)) (fp : List Addr), PD (X.blk s H scope (compEnvC scope cl C X.env) fp) elt te)
    (hsw : swapsWith (.ListComp elt [⟨tg, iter, ifs, 0⟩] scope pos) (some (.Name y py)) spos.line X.env = pure true) (hy : X.N[i]? = some y := by rfl) (hyl : X.env.scope.names.lookup y = some .local := by rfl) (hs : ∀ x, foldedSetIterable iter X.env x = pure x := by intro _; rfl) :
    PDS X (.Assign [.Name y py] (.ListComp elt [⟨tg, iter, ifs, 0⟩] scope pos) spos) (dAsg (dLcNew di g tt te (own.map (·.2))) (dgName i)) := by
  refine (L2.ps_setLc (g := tDGo X.K (own.map (·.2)) g) (tt := tDT X.K tt) (te := tD X.K te) hc hN hy hyl hsw hi ok hg ht he hs).wk fun Ed σ H ⟨w, env, st, E0, W, E, h, fn, fr⟩ => ?_
  exact lc_in W E h (lc_finNew (kk := fun d s1 => dgName i d env s1 E0.nx) fun d st1 v w1 H1 h1 l1 W1 R1 => fn _ _ _ _ _ h1 l1 W1 ((E.mono l1).set i R1))
end
end DL

namespace DL
open PySem PySem.Spec PyProof.Rows L2
section
variable {X : Cx} {tg e e2 o i : Expr} {es : List Expr} {pos p : Pos} {ta tb to ti : DE}
/-! ### methods of lists -/
abbrev FM := D → List D → Sto → DK → Prop
def rDM (K : PySem.W.Frag) (f : FM) : V → List V → Hp → VK → Prop := fun x vs H Q => ∃ w st d ds kk, Wld K w st H ∧ Rep K w d x ∧ Reps K w ds vs ∧ f d ds st kk ∧ Fol K w kk Q
def isLst (st : Sto) (d : D) : Bool := match deref st d with
  | .lst _ => true
  | _ => false
def dMeth (f : FM) (to : DE) (ta : DA) : DE := fun env st k => to env st fun d s1 => isLst s1 d = true ∧ ta env s1 fun ds s2 => f d ds s2 k
theorem isLst_rep {K : PySem.W.Frag} {w : Wd} {st : Sto} {H : Hp} {d : D} {v : V} (W : Wld K w st H) (R : Rep K w d v) (h : isLst st d = true) : tyV K "list" v H := by
  unfold isLst at h
  split at h
  · rename_i xs hd
    obtain ⟨a, vs, rfl, q, _⟩ := rep_lst W R hd
    exact .inl ⟨rfl, vs, q⟩
  · cases h
theorem pd_bm {nm : Str} {idn : String} {apos cpos : Pos} {f : FM} {t : DA} (slot : Slot "list" nm idn) (hty : typeOf (.builtin idn) = pure (.type "method_descriptor")) (hm : MtR X idn (rDM X.K f)) (ho : PD X o to) (ha : PDA X (e :: es) t)
    (hbase : attributeBase o nm X.env (eval o X.env) = eval o X.env := by rfl)
    (hfew : ((backTo cpos (starEach (e :: es) X.env)).all (fun x => !x.1) && (backToKw cpos (keywordEach [] X.env)).all (fun x => x.1.isSome)
      && decide ((e :: es).length + ([] : List Keyword).length + (if ([] : List Keyword).isEmpty then 0 else 1) < 30)) = true := by rfl)
    (hline : (apos.endLine == cpos.line) = true := by rfl) (hs : starEach (e :: es) X.env = (false, eval e X.env) :: starEach es X.env := by rfl) (hplain : (backTo cpos (starEach es X.env)).any (·.1) = false := by rfl) :
    PD X (.Call (.Attribute o nm apos) (e :: es) [] cpos) (dMeth f to t) := by
  refine (pe_bm PySem.F.plainAttrs_list slot hty hm ho ha hbase hfew hline hs hplain).wk fun σ H Q ⟨w, env, st, kk, W, E, h, fo⟩ => ?_
  refine ⟨w, env, st, _, W, E, h, fun d st1 v w1 H1 h1 l1 W1 R1 => ⟨isLst_rep W1 R1 h1.1, ?_⟩⟩
  exact ⟨w1, env, st1, _, W1, E.mono l1, h1.2, fun ds st2 vs w2 H2 h2 l2 W2 R2 => ⟨w2, st2, d, ds, kk, W2, Rep.mono l2 _ _ R1, R2, h2, fo.le (l1.trans l2)⟩⟩
def mAppend : FM := fun d ds st k => match d, ds with
  | .obj i, [x] => match st[i]? with
    | some xs => xs.length < 16777216 ∧ k .non (st.set i (xs ++ [x]))
    | none => False
  | _, _ => False
theorem obj_rep {K : PySem.W.Frag} {w : Wd} {st : Sto} {H : Hp} {i : Nat} {v : V} {xs : List D} (W : Wld K w st H) (R : Rep K w (.obj i) v) (h : st[i]? = some xs) :
    ∃ a vs, v = .ref a ∧ (w.as[i]? = some a ∧ w.dk a = none) ∧ H a = some (.lst vs) ∧ Reps K w xs vs ∧ vs.length ≤ sizeLine := by
  simp only [Rep] at R
  obtain ⟨a, e1, q, q2⟩ := R
  obtain ⟨g, ys, o, h1, h2, h3⟩ := W.at_ i a q
  rw [h] at h1
  cases h1
  rw [q2] at h3
  obtain ⟨vs, rfl, n3, h4⟩ := h3.lst
  exact ⟨a, vs, e1, ⟨q, q2⟩, h2, h4, n3⟩
theorem md_append : MtR X "list.append" (rDM X.K mAppend) := by
  rintro pins s σ H x xs v us Q I rx rs ⟨w, st, d, ds, kk, W, R1, R2, q, fo⟩
  unfold mAppend at q
  split at q
  · rename_i j y
    split at q
    · rename_i ys hj
      obtain ⟨a, vs, rfl, ha, hH, r, n⟩ := obj_rep W R1 hj
      obtain ⟨yv, rfl, ry⟩ := one_rep R2
      have n' : vs.length < sizeLine := by rw [r.length, sizeLine_eq]; exact q.1
      refine mt_append pins s σ H _ _ v us Q I rx rs ⟨a, vs, yv, rfl, rfl, hH, n', ?_⟩
      exact fo _ _ _ _ _ q.2 (.refl _) (W.wr ha.1 ha.2 (r.append (.cons ry .nil)) (by rw [List.length_append]; exact n')) rep_non
    · exact q.elim
  · exact q.elim
/-! ### o[i] = v -/
def setD (o i v : D) (st : Sto) (k : Sto → Prop) : Prop := match o, i with
  | .obj j, .int n => match st[j]? with
    | some xs => ∃ m, ixN xs.length n = some m ∧ k (st.set j (xs.set m v))
    | none => False
  | _, _ => False
def dgSub (to ti : DE) : DG := fun v env st k => to env st fun o s1 => ti env s1 fun i s2 => setD o i v s2 fun s3 => k env s3
theorem pdg_sub (ho : PD X o to) (hi : PD X i ti)
    (ha : ∀ v, assign (.Subscript o i pos) X.env v = (do
      let ov ← holding [v] (eval o X.env)
      let iv ← holding [v, ov] (eval i X.env)
      standAt pos
      holding [v, ov, iv] (setItem ov iv v)
      release [v, ov, iv] []) := by intro _; rfl) : PDG X (.Subscript o i pos) (dgSub to ti) := by
  refine L2.PG.wk (pg_sub ho hi set_list ha) fun v σ H Q ⟨w, env, st, d, nx, W, E, R, h, fn⟩ => ?_
  refine ⟨w, env, st, _, W, E, h, fun d1 st1 v1 w1 H1 h1 l1 W1 R1 => ⟨w1, env, st1, _, W1, E.mono l1, h1, fun d2 st2 v2 w2 H2 h2 l2 W2 R2 => ?_⟩⟩
  unfold setD at h2
  split at h2
  · rename_i j n
    split at h2
    · rename_i xs hj
      obtain ⟨m, hm, h2⟩ := h2
      obtain ⟨a, vs, rfl, ha, hH, r, nn⟩ := obj_rep W2 (Rep.mono l2 _ _ R1) hj
      simp only [Rep] at R2
      subst R2
      refine ⟨a, vs, n, m, rfl, rfl, hH, by rw [r.length]; exact hm, ?_⟩
      refine fn _ _ _ _ _ h2 (l1.trans l2) (W2.wr ha.1 ha.2 (r.set m (Rep.mono (l1.trans l2) _ _ R)) (by rw [List.length_set]; exact nn)) (E.mono (l1.trans l2))
    · exact h2.elim
  · exact h2.elim
/-! ### isinstance -/
def tyD : D → String
  | .non => "NoneType"
  | .bl _ => "bool"
  | .int _ => "int"
  | .str _ => "str"
  | .lst _ => "list"
  | .klst _ => "list"
  | .tup _ => "tuple"
  | .obj _ => "list"
  | .dic _ _ => "dict"
  | .fdic _ _ => "dict"
  | .gtup _ => "tuple"
/-- is a value of the type a one of the type b -/
def subTy (a b : String) : Bool := a == b || (a == "bool" && b == "int")
theorem kit_all : (["NoneType", "bool", "int", "str", "list", "tuple", "dict"].all fun a => okTy.all fun b => kitB a b == some (subTy a b)) = true := by decide +kernel
theorem kit_at (d : D) {b : String} (hb : b ∈ okTy) : kitB (tyD d) b = some (subTy (tyD d) b) := by
  have h := List.all_eq_true.mp kit_all (tyD d) (by cases d <;> simp [tyD])
  exact eq_of_beq (List.all_eq_true.mp h b hb)
/-- a value's type, as isinstance needs it; of a dict with keys of tuples, too -/
def TyZ (K : PySem.W.Frag) (H : Hp) (v : V) (t : Value) : Prop := TyX K H v t ∨ (t = .type "dict" ∧ ∃ a b ys vs, v = .ref a ∧ (H a = some (ndO b ys vs) ∨ ∃ ob, H a = some (.frz ob (ndO b ys vs))))
theorem nd_self {P : Program} {wo : World} {H : Hp} {h : Heap} {a b : Addr} {ys : List PySem.NestedKey} {vs : List V} (x : ObjOk P wo H h a (ndO b ys vs)) : b = a := by
  obtain ⟨z, _, st⟩ := x
  refine Classical.byContradiction fun ne => ?_
  obtain ⟨G, g1, g2⟩ := restrict h fun c => decide (c ≠ b)
  have y := st h G z fun o e => by rw [g1 a (decide_eq_true (Ne.symm ne))]; exact e
  obtain ⟨us, _, ⟨o, es, ep, e, _⟩, _⟩ := y
  rw [g2 b (by simp)] at e
  cases e
theorem nd_at {P : Program} {wo : World} {H : Hp} {h : Heap} {a b : Addr} {ys : List PySem.NestedKey} {vs : List V} (x : ObjOk P wo H h a (ndO b ys vs)) : ∃ us, Vals vs us ∧ NdRaw h a ys us ∧ (a == sysModules) = false ∧ ys.Nodup ∧ vs.length ≤ 2 * sizeLine := by
  have e := nd_self x
  subst e
  exact x.1
theorem kit_ofZ {X : Cx} {pins : List (Addr × Obj)} {σ : L2.St} {H : Hp} {s : Shared} {x : V} {u t : Value} (I : Inv X pins σ H s) (rx : RelV x u) (ty : TyZ X.K H x t) : ∃ P : Heap → Prop, PySem.W.KitX X.K u t P ∧ P s.heap ∧ u ≠ .builtin "__main__.__loader__#opaque" := by
  rcases ty with ty | ⟨rfl, a, b, ys, vs, rfl, h⟩
  · exact kit_of I rx ty
  · obtain ⟨us, _, ⟨o, es, ep, e, ex, _⟩, _⟩ := nd_at (P := X.prog) (wo := X.w) (H := H) (h := s.heap) (a := a) (b := b) (ys := ys) (vs := vs) (by
      rcases h with h | ⟨ob, h⟩
      · exact I.hok a _ h
      · exact (I.hok a _ h).2)
    obtain rfl : u = Value.ref a := rx
    exact ⟨_, PySem.W.kitx_dict, ⟨o, e, ex.1⟩, fun z => nomatch z⟩
/-- isinstance(x, c), isinstance(x, (c1, c2)) -/
def rIsiZ (K : PySem.W.Frag) : List V → Hp → VK → Prop := fun xs H Q => ∃ (x c : V) (t u : Value) (b : Bool), xs = [x, c] ∧ ClsV c u ∧ TyZ K H x t ∧ PySem.W.kitOne K t u = some b ∧ Q (.bl b) H
theorem call_isiZ {X : Cx} : CallR X (.builtin "isinstance") (rIsiZ X.K) := by
  rintro pins s σ H _ ws Q I r ⟨x, c, t, u, b, rfl, k, ty, e, q⟩
  obtain ⟨w1, w2, rfl, r1, r2⟩ := vals2 r
  obtain ⟨P, Z, p, hx⟩ := kit_ofZ I r1 ty
  rw [k.eq r2]
  exact PySem.W.kia_one Z I.kIn p e hx fun tk => ⟨.bl b, _, I.tok tk, rfl, q⟩
def TyI (K : PySem.W.Frag) (H : Hp) (v : V) (y : String) : Prop := ∃ t, TyZ K H v t ∧ ∀ b ∈ okTy, PySem.W.kitOne K t (.type b) = some (subTy y b)
theorem tyI_of {K : PySem.W.Frag} {H : Hp} {v : V} (d : D) (h : TyX K H v (.type (tyD d))) : TyI K H v (tyD d) := ⟨_, .inl h, fun _ hb => kit_ty (kit_at d hb)⟩
theorem dict_no : ∀ b ∈ okTy, subTy "dict" b = false := by decide +kernel
theorem tyI_ins {K : PySem.W.Frag} {H : Hp} {a dx : Addr} {fs : List (Str × V)} {c : Str} (h : H a = some (.ins (He.ga K c) dx fs)) (q : ClsT K c) : TyI K H (.ref a) "dict" :=
  ⟨_, .inl (.base (.ins h q.cls q.ha q.hn q.htk q.hm)), fun b hb => by rw [q.no b hb, dict_no b hb]⟩
theorem tyI_nd {K : PySem.W.Frag} {H : Hp} {a b : Addr} {ys : List PySem.NestedKey} {vs : List V} (h : H a = some (ndO b ys vs)) : TyI K H (.ref a) "dict" :=
  ⟨_, .inr ⟨rfl, a, b, ys, vs, rfl, .inl h⟩, fun _ hb => kit_ty (kit_at (.dic .n 0) hb)⟩
theorem tyI_ndf {K : PySem.W.Frag} {H : Hp} {a b : Addr} {ob : Obj} {ys : List PySem.NestedKey} {vs : List V} (h : H a = some (.frz ob (ndO b ys vs))) : TyI K H (.ref a) "dict" :=
  ⟨_, .inr ⟨rfl, a, b, ys, vs, rfl, .inr ⟨ob, h⟩⟩, fun _ hb => kit_ty (kit_at (.dic .n 0) hb)⟩
theorem tyX_rep {K : PySem.W.Frag} {w : Wd} {st : Sto} {H : Hp} {d : D} {v : V} (W : Wld K w st H) (R : Rep K w d v) : TyI K H v (tyD d) := by
  have lst : ∀ {a : Addr} {vs : List V}, SqL K H a vs → TyX K H (.ref a) (.type "list") := fun {a vs} q => by
    rcases q with (h | ⟨o, h⟩) | ⟨o, its, n, h, hc, _⟩
    · exact .base (.lst h)
    · exact .base (.frz h)
    · exact .kList h hc
  cases d with
  | non => simp only [Rep] at R; subst R; exact tyI_of .non (.base .non)
  | bl b => simp only [Rep] at R; subst R; exact tyI_of (.bl b) (.base (.bl b))
  | int b => simp only [Rep] at R; subst R; exact tyI_of (.int b) (.base (.int b))
  | str b => simp only [Rep] at R; subst R; exact tyI_of (.str b) (.base (.str b))
  | lst xs => simp only [Rep] at R; obtain ⟨a, vs, rfl, q, _⟩ := R; exact tyI_of (.lst xs) (.base (.lst (W.same _ _ q)))
  | klst xs => simp only [Rep] at R; obtain ⟨a, vs, rfl, q, _⟩ := R; exact tyI_of (.klst xs) (lst (W.same.seq q))
  | tup xs =>
    simp only [Rep] at R
    obtain ⟨a, vs, rfl, q, _⟩ := R
    exact tyI_of (.tup xs) (.base (.tup (W.same _ _ q)))
  | gtup xs =>
    simp only [Rep] at R
    obtain ⟨a, vs, rfl, q, _⟩ := R
    rcases seqT_mono W.same q with (h | ⟨o, h⟩) | ⟨o, its, n, h, hc, _⟩
    · exact tyI_of (.gtup xs) (.base (.tup h))
    · exact tyI_of (.gtup xs) (.fTuple h)
    · exact tyI_of (.gtup xs) (.kTuple h hc)
  | obj i =>
    simp only [Rep] at R
    obtain ⟨a, rfl, q, q2⟩ := R
    obtain ⟨_, _, o, _, h, h3⟩ := W.at_ i a q
    rw [q2] at h3
    obtain ⟨vs, rfl, _⟩ := h3.lst
    exact tyI_of (.obj i) (.base (.lst h))
  | dic t i =>
    simp only [Rep] at R
    obtain ⟨a, rfl, q, q2, q3⟩ := R
    obtain ⟨_, _, o, _, h, h3⟩ := W.at_ i a q
    rw [q2] at h3
    rcases t with (_ | _) | c | _
    · rcases h3 with ⟨_, vs, rfl, _⟩ | ⟨_, _, _, _, _, _, rfl, _⟩ | ⟨z, _⟩
      · exact tyI_of (.dic false i) (.base (.dK h))
      · exact tyI_of (.dic false i) (.fDict h)
      · cases z
    · obtain ⟨vs, rfl, _⟩ := h3.dT
      exact tyI_of (.dic true i) (.base (.dT h))
    · obtain ⟨dx, kvs, rfl, _⟩ := h3.ins
      exact tyI_ins h q3
    · rcases h3 with ⟨_, b, ys, vs, rfl, _⟩ | ⟨z, _⟩ | ⟨_, rows, ob, b, ys, vs, _, _, rfl, _⟩
      · exact tyI_nd h
      · cases z
      · exact tyI_ndf h
  | fdic t rows =>
    rcases t with (_ | _) | c | _
    · simp only [Rep] at R
      obtain ⟨a, kvs, rfl, q, _⟩ := R
      exact tyI_of (.fdic false rows) (.base (.dK (W.same _ _ q)))
    · simp only [Rep] at R
      obtain ⟨a, kvs, rfl, q, _⟩ := R
      exact tyI_of (.fdic true rows) (.base (.dT (W.same _ _ q)))
    · simp only [Rep] at R
      obtain ⟨a, dx, kvs, rfl, q, q3, _⟩ := R
      exact tyI_ins (W.same _ _ q) q3
    · simp only [Rep] at R
      obtain ⟨a, b, ys, vs, rfl, q, _⟩ := R
      exact tyI_nd (W.same _ _ q)
def dIsi (t : DE) (ts : List String) : DE := fun env st k => t env st fun d s1 => k (.bl (ts.any (subTy (tyD d)))) s1
theorem pd_isi {x : Str} {T : String} {q1 q2 : Pos} (hm : X.mg "isinstance" = none) (ha : PD X e ta) (hmx : X.mg x = none) (hv : bootBuiltins x = some (.type T)) (hT : T ∈ okTy := by decide)
    (hg : Gl X "isinstance" := by rfl) (hgx : Gl X x := by rfl) (hn : x ≠ "__name__" := by decide) (hdb : (x == ("__debug__" : Str)) = false := by decide)
    (he : starEach [e, .Name x q1] X.env = (false, eval e X.env) :: starEach [.Name x q1] X.env := by rfl) (he2 : starEach [.Name x q1] X.env = [(false, eval (.Name x q1) X.env)] := by rfl) (hpl : (backTo pos (starEach [.Name x q1] X.env)).any (·.1) = false := by rfl) :
    PD X (.Call (.Name "isinstance" q2) [e, .Name x q1] [] pos) (dIsi ta [T]) := by
  refine (pe_callB call_isiZ hg hm (by decide +kernel) (pa_cons ha (pa_cons (pe_bltn (v := .ty T) hgx hmx hv rfl hn hdb) pa_nil he2) he) (by decide) (by decide) he hpl).wk fun σ H Q ⟨w, env, st, kk, W, E, h, fo⟩ => ?_
  refine ⟨w, env, st, _, W, E, h, fun d st1 v w1 H1 h1 l1 W1 R1 => ?_⟩
  obtain ⟨ty, hty, hto⟩ := tyX_rep W1 R1
  refine ⟨v, .ty T, _, _, _, rfl, .ty T, hty, hto T hT, ?_⟩
  have h2 : kk (.bl (subTy (tyD d) T || false)) st1 := h1
  rw [Bool.or_false] at h2
  exact fo _ _ _ _ _ h2 l1 W1 rep_bl
theorem Wld.other {K : PySem.W.Frag} {w : Wd} {st : Sto} {H : Hp} (W : Wld K w st H) {p : Addr} {o : HO} (h : H p = none) : Wld K w st (upd H p o) where
  same := fun b u e => by rw [upd_ne (ne_of_none (W.same b u e) h)]; exact W.same b u e
  len := W.len
  nd := W.nd
  at_ := fun i a e => by
    obtain ⟨g, xs, vs, h1, h2, h3⟩ := W.at_ i a e
    exact ⟨g, xs, vs, h1, by rw [upd_ne (ne_of_none h2 h)]; exact h2, h3⟩
  small := W.small
  hidd := fun a vs m => by
    obtain ⟨g, n, h1⟩ := W.hidd a vs m
    exact ⟨g, n, by rw [upd_ne (ne_of_none h1 h)]; exact h1⟩
  hnd := W.hnd
/-! ### calls with keywords -/
/-- the values in the parameters' order: the written ones, then the keywords' -/
def kperm {α : Type} (ix : List Nat) (us ws : List α) : List α := ix.filterMap fun i => (us ++ ws)[i]?
theorem _root_.L2.PK.wk {X : Cx} {kws : List Keyword} {t t' : TA} (h : PK X kws t) (i : ∀ σ H Q, t' σ H Q → t σ H Q) : PK X kws t' := ⟨fun ps pins s σ H Q I q => h.run ps pins s σ H Q I (i σ H Q q)⟩
variable {k : Nat} {f : Addr} {fd : FuncData} {ps ks : List Str} {sp : SpD} {x : Str} {kws : List Keyword}
end

/-! ### behind a def: its own lists are frozen -/
mutual
def sub (n : Nat) (a : List D) : D → D
  | .non => .non
  | .bl b => .bl b
  | .int b => .int b
  | .str b => .str b
  | .lst xs => .lst (subs n a xs)
  | .klst xs => .klst (subs n a xs)
  | .tup xs => .tup (subs n a xs)
  | .obj i => if i = n then .lst a else .obj i
  | .dic t i => if i = n then .fdic t a else .dic t i
  | .fdic t rows => .fdic t (subs n a rows)
  | .gtup xs => .gtup (subs n a xs)
def subs (n : Nat) (a : List D) : List D → List D
  | [] => []
  | x :: xs => sub n a x :: subs n a xs
end
mutual
def below (n : Nat) : D → Bool
  | .lst xs => belows n xs
  | .klst xs => belows n xs
  | .tup xs => belows n xs
  | .obj i => decide (i < n)
  | .dic _ i => decide (i < n)
  | .fdic .n rows => belows n rows
  | .fdic (.b _) rows => okRows rows && belows n rows
  | .fdic (.ins _) rows => okRows rows && belows n rows
  | .gtup xs => belows n xs
  | _ => true
def belows (n : Nat) : List D → Bool
  | [] => true
  | x :: xs => below n x && belows n xs
end
theorem subs_map (n : Nat) (a : List D) : ∀ xs : List D, subs n a xs = xs.map (sub n a)
  | [] => rfl
  | x :: xs => by simp only [subs, List.map_cons, subs_map n a xs]
mutual
theorem sub_below {n : Nat} {a : List D} : ∀ d : D, below n d = true → sub n a d = d
  | .non, _ => by simp only [sub]
  | .bl _, _ => by simp only [sub]
  | .int _, _ => by simp only [sub]
  | .str _, _ => by simp only [sub]
  | .lst xs, h => by simp only [below] at h; simp only [sub, subs_below xs h]
  | .klst xs, h => by simp only [below] at h; simp only [sub, subs_below xs h]
  | .tup xs, h => by simp only [below] at h; simp only [sub, subs_below xs h]
  | .obj i, h => by
    simp only [below, decide_eq_true_eq] at h
    simp only [sub]
    rw [if_neg (by omega)]
  | .dic t i, h => by
    simp only [below, decide_eq_true_eq] at h
    simp only [sub]
    rw [if_neg (by omega)]
  | .fdic .n rows, h => by simp only [below] at h; simp only [sub, subs_below rows h]
  | .fdic (.b _) rows, h => by simp only [below, Bool.and_eq_true] at h; simp only [sub, subs_below rows h.2]
  | .fdic (.ins _) rows, h => by simp only [below, Bool.and_eq_true] at h; simp only [sub, subs_below rows h.2]
  | .gtup rows, h => by simp only [below] at h; simp only [sub, subs_below rows h]
theorem subs_below {n : Nat} {a : List D} : ∀ ds : List D, belows n ds = true → subs n a ds = ds
  | [], _ => by simp only [subs]
  | x :: xs, h => by
    simp only [belows, Bool.and_eq_true] at h
    simp only [subs, sub_below x h.1, subs_below xs h.2]
end
mutual
theorem below_mono {n m : Nat} (l : n ≤ m) : ∀ d : D, below n d = true → below m d = true
  | .non, _ => by simp only [below]
  | .bl _, _ => by simp only [below]
  | .int _, _ => by simp only [below]
  | .str _, _ => by simp only [below]
  | .lst xs, h => by simp only [below] at h ⊢; exact belows_mono l xs h
  | .klst xs, h => by simp only [below] at h ⊢; exact belows_mono l xs h
  | .tup xs, h => by simp only [below] at h ⊢; exact belows_mono l xs h
  | .obj i, h => by
    simp only [below, decide_eq_true_eq] at h ⊢
    omega
  | .dic t i, h => by
    simp only [below, decide_eq_true_eq] at h ⊢
    omega
  | .fdic .n rows, h => by simp only [below] at h ⊢; exact belows_mono l rows h
  | .fdic (.b _) rows, h => by simp only [below, Bool.and_eq_true] at h ⊢; exact ⟨h.1, belows_mono l rows h.2⟩
  | .fdic (.ins _) rows, h => by simp only [below, Bool.and_eq_true] at h ⊢; exact ⟨h.1, belows_mono l rows h.2⟩
  | .gtup rows, h => by simp only [below] at h ⊢; exact belows_mono l rows h
theorem belows_mono {n m : Nat} (l : n ≤ m) : ∀ ds : List D, belows n ds = true → belows m ds = true
  | [], _ => by simp only [belows]
  | x :: xs, h => by
    simp only [belows, Bool.and_eq_true] at h ⊢
    exact ⟨below_mono l x h.1, belows_mono l xs h.2⟩
end
theorem rowsK_okRows {K : PySem.W.Frag} {w : Wd} : ∀ {ds : List D} {kvs : List (Key × V)}, RowsK K w ds kvs → okRows ds = true
  | [], _, _ => rfl
  | .tup [k, d] :: ds, kvs, h => by
    simp only [RowsK] at h
    obtain ⟨y, v, r, _, _, _, h3⟩ := h
    simp only [okRows]
    exact rowsK_okRows h3
  | .tup [] :: _, _, h => by simp only [RowsK] at h
  | .tup [_] :: _, _, h => by simp only [RowsK] at h
  | .tup (_ :: _ :: _ :: _) :: _, _, h => by simp only [RowsK] at h
  | .non :: _, _, h => by simp only [RowsK] at h
  | .bl _ :: _, _, h => by simp only [RowsK] at h
  | .int _ :: _, _, h => by simp only [RowsK] at h
  | .str _ :: _, _, h => by simp only [RowsK] at h
  | .lst _ :: _, _, h => by simp only [RowsK] at h
  | .klst _ :: _, _, h => by simp only [RowsK] at h
  | .obj _ :: _, _, h => by simp only [RowsK] at h
  | .dic _ _ :: _, _, h => by simp only [RowsK] at h
  | .fdic _ _ :: _, _, h => by simp only [RowsK] at h
  | .gtup _ :: _, _, h => by simp only [RowsK] at h
theorem rowsT_okRows {K : PySem.W.Frag} {w : Wd} : ∀ {ds : List D} {kvs : List (List Key × V)}, RowsT K w ds kvs → okRows ds = true
  | [], _, _ => rfl
  | .tup [k, d] :: ds, kvs, h => by
    simp only [RowsT] at h
    obtain ⟨y, v, r, _, _, _, h3⟩ := h
    simp only [okRows]
    exact rowsT_okRows h3
  | .tup [] :: _, _, h => by simp only [RowsT] at h
  | .tup [_] :: _, _, h => by simp only [RowsT] at h
  | .tup (_ :: _ :: _ :: _) :: _, _, h => by simp only [RowsT] at h
  | .non :: _, _, h => by simp only [RowsT] at h
  | .bl _ :: _, _, h => by simp only [RowsT] at h
  | .int _ :: _, _, h => by simp only [RowsT] at h
  | .str _ :: _, _, h => by simp only [RowsT] at h
  | .lst _ :: _, _, h => by simp only [RowsT] at h
  | .klst _ :: _, _, h => by simp only [RowsT] at h
  | .obj _ :: _, _, h => by simp only [RowsT] at h
  | .dic _ _ :: _, _, h => by simp only [RowsT] at h
  | .fdic _ _ :: _, _, h => by simp only [RowsT] at h
  | .gtup _ :: _, _, h => by simp only [RowsT] at h
theorem key_below {n : Nat} {d : D} {y : Key} (h : keyD d = some y) : below n d = true := by
  cases d <;> first | rfl | (simp only [below]; done) | simp [keyD] at h
theorem keys_below {n : Nat} : ∀ {ds : List D} {ys : List Key}, keysD ds = some ys → belows n ds = true
  | [], _, _ => rfl
  | d :: r, ys, h => by
    unfold keysD at h
    cases h1 : keyD d with
    | none => rw [h1] at h; cases h
    | some y =>
      cases h2 : keysD r with
      | none => rw [h1, h2] at h; cases h
      | some zs => simp only [belows, key_below h1, keys_below h2, Bool.and_true]
theorem tkey_below {n : Nat} {d : D} {y : List Key} (h : tkeyD d = some y) : below n d = true := by
  cases d with
  | tup xs => simp only [below]; exact keys_below h
  | _ => cases h
section
variable {K : PySem.W.Frag} {w w' : Wd} {st : Sto} {H : Hp}
mutual
theorem rep_below : ∀ (d : D) (v : V), Rep K w d v → below w.as.length d = true
  | .non, _, _ => by simp only [below]
  | .bl _, _, _ => by simp only [below]
  | .int _, _, _ => by simp only [below]
  | .str _, _, _ => by simp only [below]
  | .lst xs, v, h => by
    simp only [Rep] at h
    obtain ⟨a, vs, _, _, r⟩ := h
    simp only [below]
    exact reps_below xs vs r
  | .klst xs, v, h => by
    simp only [Rep] at h
    obtain ⟨a, vs, _, _, r⟩ := h
    simp only [below]
    exact reps_below xs vs r
  | .tup xs, v, h => by
    simp only [Rep] at h
    obtain ⟨a, vs, _, _, r⟩ := h
    simp only [below]
    exact reps_below xs vs r
  | .gtup xs, v, h => by
    simp only [Rep] at h
    obtain ⟨a, vs, _, _, r⟩ := h
    simp only [below]
    exact reps_below xs vs r
  | .obj i, v, h => by
    simp only [Rep] at h
    obtain ⟨a, _, q, _⟩ := h
    simp only [below, decide_eq_true_eq]
    exact (List.getElem?_eq_some_iff.mp q).1
  | .dic t i, v, h => by
    simp only [Rep] at h
    obtain ⟨a, _, q, _⟩ := h
    simp only [below, decide_eq_true_eq]
    exact (List.getElem?_eq_some_iff.mp q).1
  | .fdic .n rows, v, h => by
    simp only [Rep] at h
    obtain ⟨a, b, ys, vs, _, _, _, r⟩ := h
    simp only [below]
    exact reps_below rows vs r
  | .fdic (.ins c) rows, v, h => by
    simp only [Rep] at h
    obtain ⟨a, dx, kvs, _, _, _, r⟩ := h
    simp only [below, Bool.and_eq_true]
    exact ⟨rowsK_okRows r, rowsK_below rows kvs r⟩
  | .fdic (.b false) rows, v, h => by
    simp only [Rep] at h
    obtain ⟨a, kvs, _, _, _, r⟩ := h
    simp only [below, Bool.and_eq_true]
    exact ⟨rowsK_okRows r, rowsK_below rows kvs r⟩
  | .fdic (.b true) rows, v, h => by
    simp only [Rep] at h
    obtain ⟨a, kvs, _, _, _, r⟩ := h
    simp only [below, Bool.and_eq_true]
    exact ⟨rowsT_okRows r, rowsT_below rows kvs r⟩
theorem rowsK_below : ∀ (ds : List D) (kvs : List (Key × V)), RowsK K w ds kvs → belows w.as.length ds = true
  | [], _, _ => by simp only [belows]
  | .tup [k, d] :: ds, kvs, h => by
    simp only [RowsK] at h
    obtain ⟨y, v, r, _, h1, h2, h3⟩ := h
    simp only [belows, below, Bool.and_true, Bool.and_eq_true]
    exact ⟨⟨key_below h1, rep_below d v h2⟩, rowsK_below ds r h3⟩
  | .tup [] :: _, _, h => by simp only [RowsK] at h
  | .tup [_] :: _, _, h => by simp only [RowsK] at h
  | .tup (_ :: _ :: _ :: _) :: _, _, h => by simp only [RowsK] at h
  | .non :: _, _, h => by simp only [RowsK] at h
  | .bl _ :: _, _, h => by simp only [RowsK] at h
  | .int _ :: _, _, h => by simp only [RowsK] at h
  | .str _ :: _, _, h => by simp only [RowsK] at h
  | .lst _ :: _, _, h => by simp only [RowsK] at h
  | .klst _ :: _, _, h => by simp only [RowsK] at h
  | .obj _ :: _, _, h => by simp only [RowsK] at h
  | .dic _ _ :: _, _, h => by simp only [RowsK] at h
  | .fdic _ _ :: _, _, h => by simp only [RowsK] at h
  | .gtup _ :: _, _, h => by simp only [RowsK] at h
theorem rowsT_below : ∀ (ds : List D) (kvs : List (List Key × V)), RowsT K w ds kvs → belows w.as.length ds = true
  | [], _, _ => by simp only [belows]
  | .tup [k, d] :: ds, kvs, h => by
    simp only [RowsT] at h
    obtain ⟨y, v, r, _, h1, h2, h3⟩ := h
    simp only [belows, below, Bool.and_true, Bool.and_eq_true]
    exact ⟨⟨tkey_below h1, rep_below d v h2⟩, rowsT_below ds r h3⟩
  | .tup [] :: _, _, h => by simp only [RowsT] at h
  | .tup [_] :: _, _, h => by simp only [RowsT] at h
  | .tup (_ :: _ :: _ :: _) :: _, _, h => by simp only [RowsT] at h
  | .non :: _, _, h => by simp only [RowsT] at h
  | .bl _ :: _, _, h => by simp only [RowsT] at h
  | .int _ :: _, _, h => by simp only [RowsT] at h
  | .str _ :: _, _, h => by simp only [RowsT] at h
  | .lst _ :: _, _, h => by simp only [RowsT] at h
  | .klst _ :: _, _, h => by simp only [RowsT] at h
  | .obj _ :: _, _, h => by simp only [RowsT] at h
  | .dic _ _ :: _, _, h => by simp only [RowsT] at h
  | .fdic _ _ :: _, _, h => by simp only [RowsT] at h
  | .gtup _ :: _, _, h => by simp only [RowsT] at h
theorem reps_below : ∀ (ds : List D) (vs : List V), Reps K w ds vs → belows w.as.length ds = true
  | [], _, _ => by simp only [belows]
  | x :: xs, vs, h => by
    obtain ⟨v, r, rfl, h1, h2⟩ := h.inv
    simp only [belows, Bool.and_eq_true]
    exact ⟨rep_below x v h1, reps_below xs r h2⟩
end
theorem entR_ok {k : Option Kd} {L : Lk} {xs : List D} {o : HO} (h : EntR K w k L xs o) : ∀ d ∈ xs, below w.as.length d = true ∨ d = lockD := by
  have mem : ∀ {xs : List D} {d : D}, belows w.as.length xs = true → d ∈ xs → below w.as.length d = true := by
    intro xs
    induction xs with
    | nil => intro d _ m; cases m
    | cons x xs ih =>
      intro d h m
      simp only [belows, Bool.and_eq_true] at h
      rcases List.mem_cons.mp m with e | m
      · rw [e]; exact h.1
      · exact ih h.2 m
  intro d hd
  rcases h with ⟨_, h⟩ | ⟨_, rows, ob, kvs, _, e, _, _, r⟩ | ⟨_, rows, ob, b, ys, vs, _, e, _, _, r⟩
  · left
    refine mem ?_ hd
    match k, h with
    | none, ⟨vs, _, _, r⟩ => exact reps_below _ _ r
    | some (.b false), ⟨vs, _, _, r⟩ => exact rowsK_below _ _ r
    | some (.b true), ⟨vs, _, _, r⟩ => exact rowsT_below _ _ r
    | some (.ins c), ⟨dx, vs, _, r⟩ => exact rowsK_below _ _ r
    | some .n, ⟨b, ys, vs, _, _, r⟩ => exact reps_below _ _ r
  · rw [e] at hd
    rcases List.mem_append.mp hd with z | z
    · exact .inl (mem (rowsK_below _ _ r) z)
    · exact .inr (List.mem_singleton.mp z)
  · rw [e] at hd
    rcases List.mem_append.mp hd with z | z
    · exact .inl (mem (reps_below _ _ r) z)
    · exact .inr (List.mem_singleton.mp z)
theorem belows_lock {n : Nat} {rows : List D} : belows n (rows ++ [lockD]) = false := by
  induction rows with
  | nil => simp only [List.nil_append, belows, lockD, below, okRows, Bool.false_and]
  | cons x r ih => simp only [List.cons_append, belows, ih, Bool.and_false]
mutual
theorem nkD_below {n : Nat} : ∀ (d : D) (y : PySem.NestedKey), nkD d = some y → below n d = true
  | .non, _, _ => rfl
  | .bl _, _, _ => rfl
  | .int _, _, _ => rfl
  | .tup xs, y, h => by
    simp only [nkD] at h
    simp only [below]
    cases e : nkDs xs with
    | none => rw [e] at h; cases h
    | some ks => exact nkDs_below xs ks e
  | .str _, _, h => by simp only [nkD] at h; cases h
  | .lst _, _, h => by simp only [nkD] at h; cases h
  | .klst _, _, h => by simp only [nkD] at h; cases h
  | .obj _, _, h => by simp only [nkD] at h; cases h
  | .dic _ _, _, h => by simp only [nkD] at h; cases h
  | .fdic _ _, _, h => by simp only [nkD] at h; cases h
  | .gtup _, _, h => by simp only [nkD] at h; cases h
theorem nkDs_below {n : Nat} : ∀ (ds : List D) (ys : List PySem.NestedKey), nkDs ds = some ys → belows n ds = true
  | [], _, _ => rfl
  | x :: r, ys, h => by
    simp only [nkDs] at h
    cases e : nkD x with
    | none => rw [e] at h; cases h
    | some k =>
      cases e2 : nkDs r with
      | none => rw [e, e2] at h; cases h
      | some ks => simp only [belows, nkD_below x k e, nkDs_below r ks e2, Bool.and_self]
end
theorem nkT_nkD {d : D} {y : PySem.NestedKey} (h : nkT d = some y) : nkD d = some y ∧ y.depth ≤ 8 ∧ ∃ xs, d = .tup xs := by
  unfold nkT at h
  cases d <;> try (cases h; done)
  rename_i xs
  simp only at h
  cases e : nkD (.tup xs) with
  | none => rw [e] at h; cases h
  | some z =>
    rw [e] at h
    simp only at h
    split at h
    · rename_i q
      cases h
      exact ⟨rfl, q, xs, rfl⟩
    · cases h
theorem nks_cons {k d : D} {r : List D} {zs : List PySem.NestedKey} (h : nks (k :: d :: r) = some zs) : ∃ y ys, zs = y :: ys ∧ nkT k = some y ∧ nks r = some ys := by
  simp only [nks] at h
  cases e : nkT k with
  | none => rw [e] at h; cases h
  | some y =>
    cases e2 : nks r with
    | none => rw [e, e2] at h; cases h
    | some ys =>
      rw [e, e2] at h
      cases h
      exact ⟨y, ys, rfl, rfl, rfl⟩
theorem nks_sub {n : Nat} {a : List D} : ∀ {ds : List D} {ys : List PySem.NestedKey}, nks ds = some ys → nks (subs n a ds) = some ys
  | [], _, h => by simpa only [subs] using h
  | [_], _, h => by simp only [nks] at h; cases h
  | k :: d :: r, zs, h => by
    obtain ⟨y, ys, rfl, h1, h2⟩ := nks_cons h
    obtain ⟨h3, _, _⟩ := nkT_nkD h1
    simp only [subs, nks]
    rw [sub_below k (nkD_below k y h3), h1, nks_sub h2]
mutual
/-- the last object of the store frozen: what is represented -/
theorem rep_sub {p : Addr} {o : HO} {a : List D} {as : List Addr} (e : w.as = as ++ [p]) (e' : w'.as = as) (ed : w'.dk = w.dk) (s : Same w.G w'.G) (g : w'.G p = some o) (r : EntP K w' (w.dk p) a o) : ∀ (d : D) (v : V), Rep K w d v → Rep K w' (sub as.length a d) v
  | .non, _, h => by simpa only [Rep, sub] using h
  | .bl _, _, h => by simpa only [Rep, sub] using h
  | .int _, _, h => by simpa only [Rep, sub] using h
  | .str _, _, h => by simpa only [Rep, sub] using h
  | .lst xs, v, h => by
    simp only [Rep] at h
    obtain ⟨b, vs, e1, q, r1⟩ := h
    simp only [sub, Rep]
    exact ⟨b, vs, e1, s _ _ q, reps_sub e e' ed s g r xs vs r1⟩
  | .klst xs, v, h => by
    simp only [Rep] at h
    obtain ⟨b, vs, e1, q, r1⟩ := h
    simp only [sub, Rep]
    exact ⟨b, vs, e1, s.seq q, reps_sub e e' ed s g r xs vs r1⟩
  | .tup xs, v, h => by
    simp only [Rep] at h
    obtain ⟨b, vs, e1, q, r1⟩ := h
    simp only [sub, Rep]
    exact ⟨b, vs, e1, s _ _ q, reps_sub e e' ed s g r xs vs r1⟩
  | .gtup xs, v, h => by
    simp only [Rep] at h
    obtain ⟨b, vs, e1, q, r1⟩ := h
    simp only [sub, Rep]
    exact ⟨b, vs, e1, seqT_mono s q, reps_sub e e' ed s g r xs vs r1⟩
  | .obj i, v, h => by
    simp only [Rep] at h
    obtain ⟨b, e1, q, q2⟩ := h
    simp only [sub]
    rw [e] at q
    by_cases hi : i = as.length
    · subst hi
      rw [List.getElem?_concat_length] at q
      cases q
      rw [if_pos rfl]
      rw [q2] at r
      obtain ⟨us, rfl, _, r⟩ := r
      simp only [Rep]
      exact ⟨p, us, e1, g, r⟩
    · rw [if_neg hi]
      simp only [Rep]
      refine ⟨b, e1, ?_, by rw [ed]; exact q2⟩
      have hlt : i < (as ++ [p]).length := (List.getElem?_eq_some_iff.mp q).1
      rw [List.length_append, List.length_singleton] at hlt
      rw [List.getElem?_append_left (by omega)] at q
      rw [e']
      exact q
  | .dic t i, v, h => by
    simp only [Rep] at h
    obtain ⟨b, e1, q, q2, q3⟩ := h
    simp only [sub]
    rw [e] at q
    by_cases hi : i = as.length
    · subst hi
      rw [List.getElem?_concat_length] at q
      cases q
      rw [if_pos rfl]
      rw [q2] at r
      rcases t with (_ | _) | c | _
      · obtain ⟨kvs, rfl, n, r⟩ := r
        simp only [Rep]
        exact ⟨p, kvs, e1, g, n, r⟩
      · obtain ⟨kvs, rfl, n, r⟩ := r
        simp only [Rep]
        exact ⟨p, kvs, e1, g, n, r⟩
      · obtain ⟨dx, kvs, rfl, r⟩ := r
        simp only [Rep]
        exact ⟨p, dx, kvs, e1, g, q3, r⟩
      · obtain ⟨b0, ys, vs, rfl, n, r⟩ := r
        simp only [Rep]
        exact ⟨p, b0, ys, vs, e1, g, n, r⟩
    · rw [if_neg hi]
      simp only [Rep]
      refine ⟨b, e1, ?_, by rw [ed]; exact q2, q3⟩
      have hlt : i < (as ++ [p]).length := (List.getElem?_eq_some_iff.mp q).1
      rw [List.length_append, List.length_singleton] at hlt
      rw [List.getElem?_append_left (by omega)] at q
      rw [e']
      exact q
  | .fdic .n rows, v, h => by
    simp only [Rep] at h
    obtain ⟨b, b0, ys, vs, e1, q, n, r1⟩ := h
    simp only [sub, Rep]
    exact ⟨b, b0, ys, vs, e1, s _ _ q, nks_sub n, reps_sub e e' ed s g r rows vs r1⟩
  | .fdic (.ins c) rows, v, h => by
    simp only [Rep] at h
    obtain ⟨b, dx, kvs, e1, q, n, r1⟩ := h
    simp only [sub, Rep]
    exact ⟨b, dx, kvs, e1, s _ _ q, n, rowsK_sub e e' ed s g r rows kvs r1⟩
  | .fdic (.b false) rows, v, h => by
    simp only [Rep] at h
    obtain ⟨b, kvs, e1, q, n, r1⟩ := h
    simp only [sub, Rep]
    exact ⟨b, kvs, e1, s _ _ q, n, rowsK_sub e e' ed s g r rows kvs r1⟩
  | .fdic (.b true) rows, v, h => by
    simp only [Rep] at h
    obtain ⟨b, kvs, e1, q, n, r1⟩ := h
    simp only [sub, Rep]
    exact ⟨b, kvs, e1, s _ _ q, n, rowsT_sub e e' ed s g r rows kvs r1⟩
theorem rowsK_sub {p : Addr} {o : HO} {a : List D} {as : List Addr} (e : w.as = as ++ [p]) (e' : w'.as = as) (ed : w'.dk = w.dk) (s : Same w.G w'.G) (g : w'.G p = some o) (r : EntP K w' (w.dk p) a o) : ∀ (ds : List D) (kvs : List (Key × V)), RowsK K w ds kvs → RowsK K w' (subs as.length a ds) kvs
  | [], _, h => by simpa only [RowsK, subs] using h
  | .tup [k, d] :: ds, kvs, h => by
    simp only [RowsK] at h
    obtain ⟨y, v, r1, e1, h1, h2, h3⟩ := h
    simp only [subs, sub, RowsK]
    exact ⟨y, v, r1, e1, by rw [sub_below k (key_below h1)]; exact h1, rep_sub e e' ed s g r d v h2, rowsK_sub e e' ed s g r ds r1 h3⟩
  | .tup [] :: _, _, h => by simp only [RowsK] at h
  | .tup [_] :: _, _, h => by simp only [RowsK] at h
  | .tup (_ :: _ :: _ :: _) :: _, _, h => by simp only [RowsK] at h
  | .non :: _, _, h => by simp only [RowsK] at h
  | .bl _ :: _, _, h => by simp only [RowsK] at h
  | .int _ :: _, _, h => by simp only [RowsK] at h
  | .str _ :: _, _, h => by simp only [RowsK] at h
  | .lst _ :: _, _, h => by simp only [RowsK] at h
  | .klst _ :: _, _, h => by simp only [RowsK] at h
  | .obj _ :: _, _, h => by simp only [RowsK] at h
  | .dic _ _ :: _, _, h => by simp only [RowsK] at h
  | .fdic _ _ :: _, _, h => by simp only [RowsK] at h
  | .gtup _ :: _, _, h => by simp only [RowsK] at h
theorem rowsT_sub {p : Addr} {o : HO} {a : List D} {as : List Addr} (e : w.as = as ++ [p]) (e' : w'.as = as) (ed : w'.dk = w.dk) (s : Same w.G w'.G) (g : w'.G p = some o) (r : EntP K w' (w.dk p) a o) : ∀ (ds : List D) (kvs : List (List Key × V)), RowsT K w ds kvs → RowsT K w' (subs as.length a ds) kvs
  | [], _, h => by simpa only [RowsT, subs] using h
  | .tup [k, d] :: ds, kvs, h => by
    simp only [RowsT] at h
    obtain ⟨y, v, r1, e1, h1, h2, h3⟩ := h
    simp only [subs, sub, RowsT]
    exact ⟨y, v, r1, e1, by rw [sub_below k (tkey_below h1)]; exact h1, rep_sub e e' ed s g r d v h2, rowsT_sub e e' ed s g r ds r1 h3⟩
  | .tup [] :: _, _, h => by simp only [RowsT] at h
  | .tup [_] :: _, _, h => by simp only [RowsT] at h
  | .tup (_ :: _ :: _ :: _) :: _, _, h => by simp only [RowsT] at h
  | .non :: _, _, h => by simp only [RowsT] at h
  | .bl _ :: _, _, h => by simp only [RowsT] at h
  | .int _ :: _, _, h => by simp only [RowsT] at h
  | .str _ :: _, _, h => by simp only [RowsT] at h
  | .lst _ :: _, _, h => by simp only [RowsT] at h
  | .klst _ :: _, _, h => by simp only [RowsT] at h
  | .obj _ :: _, _, h => by simp only [RowsT] at h
  | .dic _ _ :: _, _, h => by simp only [RowsT] at h
  | .fdic _ _ :: _, _, h => by simp only [RowsT] at h
  | .gtup _ :: _, _, h => by simp only [RowsT] at h
theorem reps_sub {p : Addr} {o : HO} {a : List D} {as : List Addr} (e : w.as = as ++ [p]) (e' : w'.as = as) (ed : w'.dk = w.dk) (s : Same w.G w'.G) (g : w'.G p = some o) (r : EntP K w' (w.dk p) a o) : ∀ (ds : List D) (vs : List V), Reps K w ds vs → Reps K w' (subs as.length a ds) vs
  | [], _, h => by simpa only [Reps, subs] using h
  | x :: xs, vs, h => by
    obtain ⟨v, r1, rfl, h1, h2⟩ := h.inv
    simp only [subs]
    exact .cons (rep_sub e e' ed s g r x v h1) (reps_sub e e' ed s g r xs r1 h2)
end
mutual
theorem rep_low {as m : List Addr} (e : w.as = as ++ m) (e' : w'.as = as) (ed : w'.dk = w.dk) (s : Same w.G w'.G) : ∀ (d : D) (v : V), below as.length d = true → Rep K w d v → Rep K w' d v
  | .non, _, _, h => by simpa only [Rep] using h
  | .bl _, _, _, h => by simpa only [Rep] using h
  | .int _, _, _, h => by simpa only [Rep] using h
  | .str _, _, _, h => by simpa only [Rep] using h
  | .lst xs, v, l, h => by
    simp only [below] at l
    simp only [Rep] at h ⊢
    obtain ⟨b, vs, e1, q, r1⟩ := h
    exact ⟨b, vs, e1, s _ _ q, reps_low e e' ed s xs vs l r1⟩
  | .klst xs, v, l, h => by
    simp only [below] at l
    simp only [Rep] at h ⊢
    obtain ⟨b, vs, e1, q, r1⟩ := h
    exact ⟨b, vs, e1, s.seq q, reps_low e e' ed s xs vs l r1⟩
  | .tup xs, v, l, h => by
    simp only [below] at l
    simp only [Rep] at h ⊢
    obtain ⟨b, vs, e1, q, r1⟩ := h
    exact ⟨b, vs, e1, s _ _ q, reps_low e e' ed s xs vs l r1⟩
  | .gtup xs, v, l, h => by
    simp only [below] at l
    simp only [Rep] at h ⊢
    obtain ⟨b, vs, e1, q, r1⟩ := h
    exact ⟨b, vs, e1, seqT_mono s q, reps_low e e' ed s xs vs l r1⟩
  | .obj i, v, l, h => by
    simp only [below, decide_eq_true_eq] at l
    simp only [Rep] at h ⊢
    obtain ⟨b, e1, q, q2⟩ := h
    refine ⟨b, e1, ?_, by rw [ed]; exact q2⟩
    rw [e, List.getElem?_append_left l] at q
    rw [e']
    exact q
  | .dic t i, v, l, h => by
    simp only [below, decide_eq_true_eq] at l
    simp only [Rep] at h ⊢
    obtain ⟨b, e1, q, q2, q3⟩ := h
    refine ⟨b, e1, ?_, by rw [ed]; exact q2, q3⟩
    rw [e, List.getElem?_append_left l] at q
    rw [e']
    exact q
  | .fdic .n rows, v, l, h => by
    simp only [below] at l
    simp only [Rep] at h ⊢
    obtain ⟨b, b0, ys, vs, e1, q, n, r1⟩ := h
    exact ⟨b, b0, ys, vs, e1, s _ _ q, n, reps_low e e' ed s rows vs l r1⟩
  | .fdic (.ins c) rows, v, l, h => by
    simp only [below, Bool.and_eq_true] at l
    simp only [Rep] at h ⊢
    obtain ⟨b, dx, kvs, e1, q, n, r1⟩ := h
    exact ⟨b, dx, kvs, e1, s _ _ q, n, rowsK_low e e' ed s rows kvs l.2 r1⟩
  | .fdic (.b false) rows, v, l, h => by
    simp only [below, Bool.and_eq_true] at l
    simp only [Rep] at h ⊢
    obtain ⟨b, kvs, e1, q, n, r1⟩ := h
    exact ⟨b, kvs, e1, s _ _ q, n, rowsK_low e e' ed s rows kvs l.2 r1⟩
  | .fdic (.b true) rows, v, l, h => by
    simp only [below, Bool.and_eq_true] at l
    simp only [Rep] at h ⊢
    obtain ⟨b, kvs, e1, q, n, r1⟩ := h
    exact ⟨b, kvs, e1, s _ _ q, n, rowsT_low e e' ed s rows kvs l.2 r1⟩
theorem rowsK_low {as m : List Addr} (e : w.as = as ++ m) (e' : w'.as = as) (ed : w'.dk = w.dk) (s : Same w.G w'.G) : ∀ (ds : List D) (kvs : List (Key × V)), belows as.length ds = true → RowsK K w ds kvs → RowsK K w' ds kvs
  | [], _, _, h => by simpa only [RowsK] using h
  | .tup [k, d] :: ds, kvs, l, h => by
    simp only [belows, below, Bool.and_true, Bool.and_eq_true] at l
    simp only [RowsK] at h ⊢
    obtain ⟨y, v, r1, e1, h1, h2, h3⟩ := h
    exact ⟨y, v, r1, e1, h1, rep_low e e' ed s d v l.1.2 h2, rowsK_low e e' ed s ds r1 l.2 h3⟩
  | .tup [] :: _, _, _, h => by simp only [RowsK] at h
  | .tup [_] :: _, _, _, h => by simp only [RowsK] at h
  | .tup (_ :: _ :: _ :: _) :: _, _, _, h => by simp only [RowsK] at h
  | .non :: _, _, _, h => by simp only [RowsK] at h
  | .bl _ :: _, _, _, h => by simp only [RowsK] at h
  | .int _ :: _, _, _, h => by simp only [RowsK] at h
  | .str _ :: _, _, _, h => by simp only [RowsK] at h
  | .lst _ :: _, _, _, h => by simp only [RowsK] at h
  | .klst _ :: _, _, _, h => by simp only [RowsK] at h
  | .obj _ :: _, _, _, h => by simp only [RowsK] at h
  | .dic _ _ :: _, _, _, h => by simp only [RowsK] at h
  | .fdic _ _ :: _, _, _, h => by simp only [RowsK] at h
  | .gtup _ :: _, _, _, h => by simp only [RowsK] at h
theorem rowsT_low {as m : List Addr} (e : w.as = as ++ m) (e' : w'.as = as) (ed : w'.dk = w.dk) (s : Same w.G w'.G) : ∀ (ds : List D) (kvs : List (List Key × V)), belows as.length ds = true → RowsT K w ds kvs → RowsT K w' ds kvs
  | [], _, _, h => by simpa only [RowsT] using h
  | .tup [k, d] :: ds, kvs, l, h => by
    simp only [belows, below, Bool.and_true, Bool.and_eq_true] at l
    simp only [RowsT] at h ⊢
    obtain ⟨y, v, r1, e1, h1, h2, h3⟩ := h
    exact ⟨y, v, r1, e1, h1, rep_low e e' ed s d v l.1.2 h2, rowsT_low e e' ed s ds r1 l.2 h3⟩
  | .tup [] :: _, _, _, h => by simp only [RowsT] at h
  | .tup [_] :: _, _, _, h => by simp only [RowsT] at h
  | .tup (_ :: _ :: _ :: _) :: _, _, _, h => by simp only [RowsT] at h
  | .non :: _, _, _, h => by simp only [RowsT] at h
  | .bl _ :: _, _, _, h => by simp only [RowsT] at h
  | .int _ :: _, _, _, h => by simp only [RowsT] at h
  | .str _ :: _, _, _, h => by simp only [RowsT] at h
  | .lst _ :: _, _, _, h => by simp only [RowsT] at h
  | .klst _ :: _, _, _, h => by simp only [RowsT] at h
  | .obj _ :: _, _, _, h => by simp only [RowsT] at h
  | .dic _ _ :: _, _, _, h => by simp only [RowsT] at h
  | .fdic _ _ :: _, _, _, h => by simp only [RowsT] at h
  | .gtup _ :: _, _, _, h => by simp only [RowsT] at h
theorem reps_low {as m : List Addr} (e : w.as = as ++ m) (e' : w'.as = as) (ed : w'.dk = w.dk) (s : Same w.G w'.G) : ∀ (ds : List D) (vs : List V), belows as.length ds = true → Reps K w ds vs → Reps K w' ds vs
  | [], _, _, h => by simpa only [Reps] using h
  | x :: xs, vs, l, h => by
    simp only [belows, Bool.and_eq_true] at l
    obtain ⟨v, r1, rfl, h1, h2⟩ := h.inv
    exact .cons (rep_low e e' ed s x v l.1 h1) (reps_low e e' ed s xs r1 l.2 h2)
end
theorem entR_low {as m : List Addr} (e : w.as = as ++ m) (e' : w'.as = as) (ed : w'.dk = w.dk) (s : Same w.G w'.G) {k : Option Kd} {L : Lk} {xs : List D} {o : HO} (l : belows as.length xs = true) (h : EntR K w k L xs o) : EntP K w' k xs o := by
  rcases h with ⟨_, h⟩ | ⟨_, rows, ob, kvs, _, e1, _⟩ | ⟨_, rows, _, _, _, _, _, e1, _⟩
  · match k, h with
    | none, ⟨vs, z, n, r⟩ => exact ⟨vs, z, n, reps_low e e' ed s _ _ l r⟩
    | some (.b false), ⟨vs, z, n, r⟩ => exact ⟨vs, z, n, rowsK_low e e' ed s _ _ l r⟩
    | some (.b true), ⟨vs, z, n, r⟩ => exact ⟨vs, z, n, rowsT_low e e' ed s _ _ l r⟩
    | some (.ins c), ⟨dx, vs, z, r⟩ => exact ⟨dx, vs, z, rowsK_low e e' ed s _ _ l r⟩
    | some .n, ⟨b, ys, vs, z, n, r⟩ => exact ⟨b, ys, vs, z, n, reps_low e e' ed s _ _ l r⟩
  · rw [e1, belows_lock] at l
    cases l
  · rw [e1, belows_lock] at l
    cases l
theorem entR_sub {p : Addr} {o : HO} {a : List D} {as : List Addr} (e : w.as = as ++ [p]) (e' : w'.as = as) (ed : w'.dk = w.dk) (s : Same w.G w'.G) (g : w'.G p = some o) (r : EntP K w' (w.dk p) a o) {k : Option Kd} {L : Lk} {xs : List D} {u : HO} (h : EntR K w k L xs u) : EntR K w' k L (xs.map (sub as.length a)) u := by
  rw [← subs_map]
  rcases h with ⟨hL, h⟩ | ⟨hk, rows, ob, kvs, e0, e1, e2, n, q⟩ | ⟨hk, rows, ob, b, ys, vs, e0, e1, e2, n, q⟩
  · refine .inl ⟨hL, ?_⟩
    match k, h with
    | none, ⟨vs, z, n, q⟩ => exact ⟨vs, z, n, reps_sub e e' ed s g r _ _ q⟩
    | some (.b false), ⟨vs, z, n, q⟩ => exact ⟨vs, z, n, rowsK_sub e e' ed s g r _ _ q⟩
    | some (.b true), ⟨vs, z, n, q⟩ => exact ⟨vs, z, n, rowsT_sub e e' ed s g r _ _ q⟩
    | some (.ins c), ⟨dx, vs, z, q⟩ => exact ⟨dx, vs, z, rowsK_sub e e' ed s g r _ _ q⟩
    | some .n, ⟨b, ys, vs, z, n, q⟩ => exact ⟨b, ys, vs, z, nks_sub n, reps_sub e e' ed s g r _ _ q⟩
  · refine .inr (.inl ⟨hk, subs as.length a rows, ob, kvs, e0, ?_, e2, n, rowsK_sub e e' ed s g r _ _ q⟩)
    rw [e1, subs_map, List.map_append, ← subs_map, List.map_singleton]
    simp only [lockD, sub, subs]
  · refine .inr (.inr ⟨hk, subs as.length a rows, ob, b, ys, vs, e0, ?_, e2, nks_sub n, reps_sub e e' ed s g r _ _ q⟩)
    rw [e1, subs_map, List.map_append, ← subs_map, List.map_singleton]
    simp only [lockD, sub, subs]
theorem entR_small {k : Option Kd} {L : Lk} {xs : List D} {o : HO} (h : EntR K w k L xs o) : SizeOk o := by
  rcases h with ⟨_, h⟩ | ⟨_, _, _, _, _, _, rfl, _⟩ | ⟨_, _, _, _, _, _, _, _, rfl, _⟩
  · cases k with
    | none =>
      obtain ⟨vs, rfl, n, _⟩ := h
      exact n
    | some t =>
      rcases t with (_ | _) | c | _
      · obtain ⟨vs, rfl, _⟩ := h
        trivial
      · obtain ⟨vs, rfl, _⟩ := h
        trivial
      · obtain ⟨dx, vs, rfl, _⟩ := h
        trivial
      · obtain ⟨b, ys, vs, rfl, _⟩ := h
        trivial
  · trivial
  · trivial
theorem frz_one {sx : Sto} {b : List D} (W : Wld K w (sx ++ [b]) H) (hb : belows sx.length b = true) :
    ∃ w', (∃ m, w.as = w'.as ++ m) ∧ Same w.G w'.G ∧ (w'.hid = w.hid ∧ w'.dk = w.dk ∧ w'.lk = w.lk) ∧ Wld K w' (sx.map (List.map (sub sx.length b))) H ∧ ∀ d v, Rep K w d v → Rep K w' (sub sx.length b d) v := by
  have hlen : w.as.length = sx.length + 1 := by rw [W.len, List.length_append, List.length_singleton]
  obtain ⟨as, p, e⟩ : ∃ as p, w.as = as ++ [p] := by
    refine ⟨w.as.dropLast, w.as.getLast (fun z => by rw [z] at hlen; simp at hlen), ?_⟩
    rw [List.dropLast_concat_getLast]
  have elen : as.length = sx.length := by
    rw [e, List.length_append, List.length_singleton] at hlen
    omega
  obtain ⟨g, xs, us, h1, h2, h3⟩ := W.at_ as.length p (by rw [e, List.getElem?_concat_length])
  have exs : xs = b := by
    rw [elen, List.getElem?_concat_length] at h1
    exact (Option.some.inj h1).symm
  subst exs
  have s : Same w.G (upd w.G p us) := fun c u q => by
    rw [upd_ne (ne_of_none q g)]
    exact q
  have R0 : EntP K ⟨upd w.G p us, as, w.hid, w.dk, w.lk⟩ (w.dk p) xs us := entR_low (w' := ⟨upd w.G p us, as, w.hid, w.dk, w.lk⟩) e rfl rfl s (by rw [elen]; exact hb) h3
  have conv : ∀ d v, Rep K w d v → Rep K ⟨upd w.G p us, as, w.hid, w.dk, w.lk⟩ (sub sx.length xs d) v := fun d v h => by
    rw [← elen]
    exact rep_sub (w' := ⟨upd w.G p us, as, w.hid, w.dk, w.lk⟩) e rfl rfl s upd_same R0 d v h
  have convs : ∀ {k : Option Kd} {L : Lk} {ds : List D} {u : HO}, EntR K w k L ds u → EntR K ⟨upd w.G p us, as, w.hid, w.dk, w.lk⟩ k L (ds.map (sub sx.length xs)) u := fun h => by
    rw [← elen]
    exact entR_sub (w' := ⟨upd w.G p us, as, w.hid, w.dk, w.lk⟩) e rfl rfl s upd_same R0 h
  have nd : (as ++ [p]).Nodup := by rw [← e]; exact W.nd
  have pas : p ∉ as := fun z => (List.nodup_append.mp nd).2.2 p z p (by simp) rfl
  have inas : p ∈ w.as := by rw [e]; simp
  refine ⟨⟨upd w.G p us, as, w.hid, w.dk, w.lk⟩, ⟨[p], e⟩, s, ⟨rfl, rfl, rfl⟩, ⟨fun c u q => ?_, by rw [List.length_map]; exact elen, (List.nodup_append.mp nd).1, fun i a q => ?_, fun c u q => ?_, fun c vs m => ?_, W.hnd⟩, conv⟩
  · have q' : upd w.G p us c = some u := q
    by_cases hc : c = p
    · subst hc
      rw [upd_same] at q'
      cases q'
      exact h2
    · rw [upd_ne hc] at q'
      exact W.same c u q'
  · have hlt : i < as.length := (List.getElem?_eq_some_iff.mp q).1
    obtain ⟨g', ys, vs, k1, k2, k3⟩ := W.at_ i a (by rw [e, List.getElem?_append_left hlt]; exact q)
    have ne : a ≠ p := fun z => pas (by rw [← z]; exact List.mem_of_getElem? q)
    rw [List.getElem?_append_left (by omega)] at k1
    refine ⟨?_, ys.map (sub sx.length xs), vs, by rw [List.getElem?_map, k1]; rfl, k2, convs k3⟩
    show upd w.G p us a = none
    rw [upd_ne ne]
    exact g'
  · have q' : upd w.G p us c = some u := q
    by_cases hc : c = p
    · subst hc
      rw [upd_same] at q'
      cases q'
      exact entR_small h3
    · rw [upd_ne hc] at q'
      exact W.small c u q'
  · obtain ⟨g', n, k1⟩ := W.hidd c vs m
    have ne : c ≠ p := fun z => n (by rw [z]; exact inas)
    refine ⟨?_, fun z => n (by rw [e]; exact List.mem_append_left _ z), k1⟩
    show upd w.G p us c = none
    rw [upd_ne ne]
    exact g'
/-- the store's lists from place n on, frozen in what is told -/
def frzs : Nat → List (List D) → D → D
  | _, [], d => d
  | n, a :: r, d => sub n (a.map (frzs (n + 1) r)) (frzs (n + 1) r d)
def SafeLoc : Nat → List (List D) → Prop
  | _, [] => True
  | n, a :: r => belows n (a.map (frzs (n + 1) r)) = true ∧ SafeLoc (n + 1) r
theorem frz_loc : ∀ (loc : List (List D)) (w : Wd) (s1 : Sto), Wld K w (s1 ++ loc) H → SafeLoc s1.length loc →
    ∃ w', (∃ m, w.as = w'.as ++ m) ∧ Same w.G w'.G ∧ (w'.hid = w.hid ∧ w'.dk = w.dk ∧ w'.lk = w.lk) ∧ Wld K w' (s1.map (List.map (frzs s1.length loc))) H ∧ ∀ d v, Rep K w d v → Rep K w' (frzs s1.length loc d) v
  | [], w, s1, W, _ => by
    refine ⟨w, ⟨[], by simp⟩, Same.refl _, ⟨rfl, rfl, rfl⟩, ?_, fun d v h => h⟩
    have e : s1.map (List.map (frzs s1.length [])) = s1 := by
      have : List.map (frzs s1.length []) = id := by
        funext xs
        show xs.map (fun d => d) = xs
        simp
      rw [this, List.map_id]
    rw [e]
    rw [List.append_nil] at W
    exact W
  | a :: r, w, s1, W, h => by
    have W' : Wld K w ((s1 ++ [a]) ++ r) H := by rw [List.append_assoc]; exact W
    have n1 : (s1 ++ [a]).length = s1.length + 1 := by simp
    obtain ⟨w1, p1, g1, hd1, W1, c1⟩ := frz_loc r w (s1 ++ [a]) W' (by rw [n1]; exact h.2)
    rw [n1] at W1 c1
    rw [List.map_append, List.map_singleton] at W1
    have n2 : (s1.map (List.map (frzs (s1.length + 1) r))).length = s1.length := by simp
    obtain ⟨w2, p2, g2, hd2, W2, c2⟩ := frz_one W1 (by rw [n2]; exact h.1)
    rw [n2] at W2 c2
    refine ⟨w2, ?_, g1.trans g2, ⟨hd2.1.trans hd1.1, hd2.2.1.trans hd1.2.1, hd2.2.2.trans hd1.2.2⟩, ?_, fun d v q => c2 _ _ (c1 d v q)⟩
    · obtain ⟨m1, e1⟩ := p1
      obtain ⟨m2, e2⟩ := p2
      exact ⟨m2 ++ m1, by rw [e1, e2, List.append_assoc]⟩
    · have e : s1.map (List.map (frzs s1.length (a :: r))) = (s1.map (List.map (frzs (s1.length + 1) r))).map (List.map (sub s1.length (a.map (frzs (s1.length + 1) r)))) := by
        rw [List.map_map]
        congr 1
        funext xs
        show xs.map (frzs s1.length (a :: r)) = (xs.map (frzs (s1.length + 1) r)).map (sub s1.length (a.map (frzs (s1.length + 1) r)))
        rw [List.map_map]
        rfl
      rw [e]
      exact W2
theorem frzs_below : ∀ (loc : List (List D)) (n : Nat) (d : D), below n d = true → frzs n loc d = d
  | [], _, _, _ => rfl
  | a :: r, n, d, h => by
    show sub n _ (frzs (n + 1) r d) = d
    rw [frzs_below r (n + 1) d (below_mono (Nat.le_succ n) d h)]
    exact sub_below d h
theorem frzs_lock : ∀ (loc : List (List D)) (n : Nat), frzs n loc lockD = lockD
  | [], _ => rfl
  | a :: r, n => by
    show sub n _ (frzs (n + 1) r lockD) = lockD
    rw [frzs_lock r (n + 1)]
    simp only [lockD, sub, subs]
theorem belows_mem {n : Nat} : ∀ {xs : List D} {d : D}, belows n xs = true → d ∈ xs → below n d = true
  | [], _, _, m => by cases m
  | x :: xs, d, h, m => by
    simp only [belows, Bool.and_eq_true] at h
    rcases List.mem_cons.mp m with rfl | m
    · exact h.1
    · exact belows_mem h.2 m
/-- what a def leaves: st1 in the place of the callers' store, loc its own lists -/
def Frz (st : Sto) (d : D) (st' : Sto) (kk : DK) : Prop := ∃ st1 loc, st' = st1 ++ loc ∧ st1.length = st.length ∧ (∀ (i : Nat) (xs : List D), st1[i]? = some xs → st[i]? = some xs ∨ belows st.length xs = true) ∧ SafeLoc st.length loc ∧ kk (frzs st.length loc d) st1
theorem Frz.none {st : Sto} {d : D} {kk : DK} (h : kk d st) : Frz st d st kk := ⟨st, [], by simp, rfl, fun _ _ e => .inl e, trivial, h⟩
theorem Frz.one {st : Sto} {a : List D} {d : D} {kk : DK} (hb : belows st.length a = true) (h : kk (sub st.length a d) st) : Frz st d (st ++ [a]) kk := by
  have e : a.map (frzs (st.length + 1) []) = a := by
    show a.map (fun d => d) = a
    simp
  refine ⟨st, [a], rfl, rfl, fun _ _ e => .inl e, ⟨?_, trivial⟩, ?_⟩
  · rw [e]; exact hb
  · show kk (sub st.length (a.map (frzs (st.length + 1) [])) d) st
    rw [e]
    exact h
theorem fol_frz {kk : DK} {Q : VK} (W : Wld K w st H) (fo : Fol K w kk Q) : Fol K w (fun d st' => Frz st d st' kk) Q := by
  rintro d st' v w1 H' ⟨st1, loc, rfl, hl, hs, hloc, k⟩ l1 W1 R1
  rw [← hl] at hloc
  obtain ⟨w2, p2, g2, hd2, W2, c2⟩ := frz_loc loc w1 st1 W1 hloc
  have low : ∀ xs ∈ st1, ∀ d ∈ xs, below st1.length d = true ∨ d = lockD := fun xs m => by
    obtain ⟨i, hi⟩ := List.getElem?_of_mem m
    rcases hs i xs hi with h | h
    · have hi' : i < w.as.length := by
        rw [W.len, ← hl]
        exact (List.getElem?_eq_some_iff.mp hi).1
      obtain ⟨_, ys, vs, k1, _, k4⟩ := W.at_ i w.as[i] (by rw [List.getElem?_eq_getElem hi'])
      rw [h] at k1
      cases k1
      rw [hl, ← W.len]
      exact entR_ok k4
    · rw [hl]; exact fun d md => .inl (belows_mem h md)
  have est : st1.map (List.map (frzs st1.length loc)) = st1 := by
    have : ∀ xs ∈ st1, List.map (frzs st1.length loc) xs = xs := fun xs m => by
      have : ∀ d ∈ xs, frzs st1.length loc d = d := fun d md => by
        rcases low xs m d md with z | z
        · exact frzs_below loc _ d z
        · rw [z]
          exact frzs_lock loc _
      rw [List.map_congr_left this]
      simp
    rw [List.map_congr_left this]
    simp
  rw [est] at W2
  have eas : w2.as = w.as := by
    obtain ⟨m1, e1⟩ := l1.pre.as
    obtain ⟨m2, e2⟩ := p2
    have n2 : w2.as.length = w.as.length := by rw [W2.len, hl, W.len]
    have h : w2.as ++ m2 = w.as ++ m1 := by rw [← e2, e1]
    exact (List.append_inj h n2).1
  refine fo _ _ v w2 H' k ⟨⟨l1.same.trans g2, ⟨⟨[], by rw [eas]; simp⟩, fun a ha => by rw [hd2.2.1]; exact l1.pre.dk a ha⟩, fun a ha => by rw [hd2.2.2]; exact l1.lk a ha⟩, hd2.1.trans l1.hid⟩ W2 ?_
  rw [← hl]
  exact c2 d v R1
end

/-! ### a def keeps its promise -/
def startD (N : List Str) (ds : List D) : Env := ds.map some ++ List.replicate (N.length - ds.length) none
theorem startD_rep {K : PySem.W.Frag} {w : Wd} {N : List Str} {ds : List D} {vs : List V} (R : Reps K w ds vs) : EnvR K w (startD N ds) (L2.start N vs) := by
  unfold startD L2.start
  refine ⟨by simp [R.length], fun i d e => ?_⟩
  by_cases hi : i < ds.length
  · rw [List.getElem?_append_left (by simpa using hi), List.getElem?_map, List.getElem?_eq_getElem hi] at e
    obtain ⟨v, h1, h2⟩ := R.get (i := i) (d := d) (by rw [List.getElem?_eq_getElem hi]; simpa using e)
    refine ⟨v, ?_, h2⟩
    rw [List.getElem?_append_left (by rw [List.length_map, R.length]; exact hi), List.getElem?_map, h1]
    rfl
  · rw [List.getElem?_append_right (by simpa using hi), List.getElem?_replicate] at e
    split at e <;> cases e
section
variable {P : Program} {wo : World} {K : PySem.W.Frag} {mg : Str → Option Value} {base : Heap} {x qual : Str} {params : Arguments} {body : List Stmt} {scope : Scope} {kws : List (Str × V)} {f : Addr} {fd : FuncData} {N ps : List Str} {k : Nat} {sp : SpD} {t : DS}
/-- what the body reads to: frozen (fz) or as it stands -/
def BodyD (fz : Bool) (N : List Str) (sp : SpD) (t : DS) : Prop := ∀ ds st kk, sp ds st kk →
  t ⟨fun _ st' => if fz = true then Frz st .non st' kk else kk .non st', fun d st' => if fz = true then Frz st d st' kk else kk d st'⟩ (startD N ds) st
theorem fnD (fz : Bool) (F : FunD K x qual params body scope [] kws f fd) (S : FnScope N ps scope) (len : ∀ ds st kk, sp ds st kk → ds.length = ps.length)
    (hd : ∀ (cdv : Value) (A : Around) (outer : List PySem.Env) (s : Shared) (H : Hp) (E : XK), RoomG k (A.deeper (envOfC qual scope s.heap.objs.size f cdv)) → PDSs (cxOf CX0 P wo K mg base N qual scope f cdv A outer s H E).nox body t)
    (hp : BodyD fz N sp t) : FnG P wo K mg base CX0 (k + 1) f fd ps (spD K sp) := by
  refine fnG_body F S (fun vs H Q E ⟨w, st, ds, kk, W, R, q, fo⟩ => R.length.trans (len ds st kk q)) fun cdv A outer s H vs Q E hr ⟨w, st, ds, kk, W, R, q, fo⟩ => ?_
  refine ⟨_, PSs.nox (hd cdv A outer s H E hr), w, startD N ds, st, _, W, startD_rep R, hp ds st kk q, ?_, ?_⟩
  · intro env' st' σ' w' H' h l W' E'
    cases fz with
    | true => exact fol_frz W fo _ _ _ _ _ h l W' rep_non
    | false => exact fo _ _ _ _ _ h l W' rep_non
  · cases fz with
    | true => exact fol_frz W fo
    | false => exact fo
end

/-! ### the law -/
/-- what is promised of a law: True, whatever numbers the script has -/
def spLaw : SpD := fun ds st kk => ∃ ns : List Int, ds = [.klst (ns.map D.int)] ∧ ns.length ≤ 63 ∧ (∀ z ∈ ns, Builtin.Int.intBits z ≤ 1048576) ∧ st = [] ∧ ∀ st', kk (.bl true) st'
theorem law_start {K : PySem.W.Frag} {H : Hp} {a : Addr} {ns : List Int} (hn : ns.length ≤ 63) (hb : ∀ z ∈ ns, Builtin.Int.intBits z ≤ 1048576) (hS : SqL K H a (ns.map V.int)) : spD K spLaw [.ref a] H (fun v _ => v = .bl true) fun _ _ _ => False := by
  have small : (ns.map V.int).length ≤ sizeLine := by rw [List.length_map, sizeLine_eq]; omega
  have fin : ∀ G : Hp, Same G H → (∀ a u, G a = some u → SizeOk u) → SqL K G a (ns.map V.int) → spD K spLaw [.ref a] H (fun v _ => v = .bl true) fun _ _ _ => False := fun G s sm q => by
    refine ⟨⟨G, [], [], fun _ => none, fun _ => none⟩, [], [.klst (ns.map D.int)], fun d _ => d = .bl true, ⟨s, rfl, List.nodup_nil, fun i a e => (by simp at e), sm, fun a vs m => (by cases m), List.nodup_nil⟩, .cons ?_ .nil, ⟨ns, rfl, hn, hb, rfl, fun _ => rfl⟩, fun d st' v w' H' e _ _ R => ?_⟩
    · simp only [Rep]
      exact ⟨a, _, rfl, q, Reps.of_ints ns⟩
    · subst e
      simpa only [Rep] using R
  rcases hS with (h | ⟨o, h⟩) | h
  · refine fin (fun b => if b = a then some (.lst (ns.map V.int)) else none) (fun b u e => ?_) (fun b u e => ?_) (.of (if_pos rfl))
    · by_cases hb : b = a
      · subst hb
        have e' := (if_pos rfl).symm.trans e
        cases e'
        exact h
      · have e' := (if_neg hb).symm.trans e
        cases e'
    · by_cases hb : b = a
      · have e' := (if_pos hb).symm.trans e
        cases e'
        exact small
      · have e' := (if_neg hb).symm.trans e
        cases e'
  · refine fin (fun b => if b = a then some (.frz o (.lst (ns.map V.int))) else none) (fun b u e => ?_) (fun b u e => ?_) (.inl (.inr ⟨o, if_pos rfl⟩))
    · by_cases hb : b = a
      · subst hb
        have e' := (if_pos rfl).symm.trans e
        cases e'
        exact h
      · have e' := (if_neg hb).symm.trans e
        cases e'
    · by_cases hb : b = a
      · have e' := (if_pos hb).symm.trans e
        cases e'
        exact small
      · have e' := (if_neg hb).symm.trans e
        cases e'
  · exact fin (fun _ => none) (fun b u e => by cases e) (fun b u e => by cases e) (.inr h)
/-- the end of a law's proof, the script's sizes told -/
theorem law_end {l : PySem.W.OpenLaw} {k : Nat} {q : Program} {loose : List Str} {XP : (Str → Option Value) → Heap → Prop} {YP : World → Heap → Prop} {d : DefRec} {x : Str}
    (hn : l.most = some 63) (hdf : d.params.defaults = []) (hr : RoomG k callerA)
    (F : ∀ (w : World) (mg : Str → Option Value) (fa : Addr) (h : Heap), YP w h → h.Ns mainGlobals mg → mg d.name = some (.ref fa) →
      ∃ (K : PySem.W.Frag) (fd : FuncData), K.In h ∧ (∀ (s : Shared) (u : Value), BindsTo s fd ⟨[u], []⟩ [(x, u)]) ∧
        ∀ base : Heap, K.In base → base.Ns mainGlobals mg → FnG l.prog w K mg base CX0 k fa fd [x] (spD K spLaw)) :
    PySem.W.WalkO q loose XP YP l.row.toRowW d [] (fun f vs => PySem.call f vs) := by
  refine Att.attach_callB hn hdf ?_
  intro w s₀ s₁ mg mb fa o pm cd doc a vs ns G Y ho hd hcd hmg hobj hints hlen hbits hg
  obtain ⟨K, fd, KX, hb, hF⟩ := F w mg fa _ Y G.T.g hmg
  refine law_callG KX G.T.g G.T.b G.T.builtins G.T.nolimit hg hobj hints (Nat.le_trans hlen (by decide)) hr hF hb ?_ ?_
  · exact fun H _ hS => law_start hlen hbits hS
  · exact fun H e s' z => z
end DL

namespace DL
open PySem PySem.Spec PyProof.Rows L2
/-! ### callees, as a def's derivation takes them -/
def Cal (P : Program) (wo : World) (K : PySem.W.Frag) (mg : Str → Option Value) (base : Heap) (k : Nat) (nm : Str) (ps : List Str) (sp : SpD) : Prop :=
  ∃ f fd, mg nm = some (.ref f) ∧ PySem.W.keepIn K (.ref f) = true ∧ FnG P wo K mg base CX0 k f fd ps (spD K sp) ∧ Binds K fd ps []
def Calk (P : Program) (wo : World) (K : PySem.W.Frag) (mg : Str → Option Value) (base : Heap) (k : Nat) (nm : Str) (ps : List Str) (sp : SpD) (n : Nat) (ks : List Str) (ix : List Nat) : Prop :=
  ∃ f fd, mg nm = some (.ref f) ∧ PySem.W.keepIn K (.ref f) = true ∧ FnG P wo K mg base CX0 k f fd ps (spD K sp) ∧ KBn K fd ps n ks (kperm ix) (kperm ix)
section
variable {P : Program} {wo : World} {K : PySem.W.Frag} {mg : Str → Option Value} {base : Heap} {k j : Nat} {nm : Str} {ps : List Str} {sp : SpD}
theorem Cal.up (c : Cal P wo K mg base k nm ps sp) (h : k ≤ j) : Cal P wo K mg base j nm ps sp :=
  let ⟨f, fd, a, b, F, d⟩ := c; ⟨f, fd, a, b, F.mono h, d⟩
theorem Calk.up {n : Nat} {ks : List Str} {ix : List Nat} (c : Calk P wo K mg base k nm ps sp n ks ix) (h : k ≤ j) : Calk P wo K mg base j nm ps sp n ks ix :=
  let ⟨f, fd, a, b, F, d⟩ := c; ⟨f, fd, a, b, F.mono h, d⟩
variable {X : Cx} {e : Expr} {es : List Expr} {p pos : Pos} {t tk : DA}
theorem pd_callC (c : Cal X.prog X.w X.K X.mg X.base k nm ps sp) (hr : RoomG j X.A)
    (ha : PDA X (e :: es) t) (hkj : k ≤ j := by decide) (hg : Gl X nm := by rfl) (hdb : (nm == ("__debug__" : Str)) = false := by decide) (he : starEach (e :: es) X.env = (false, eval e X.env) :: starEach es X.env := by rfl) (hpl : (backTo pos (starEach es X.env)).any (·.1) = false := by rfl) :
    PD X (.Call (.Name nm p) (e :: es) [] pos) (dCall sp t) := by
  obtain ⟨f, fd, a, b, F, d⟩ := c
  exact pd_call F (hr.mono hkj) a b d ha hg hdb he hpl
end
/-- a def without defaults as it stands behind the top -/
abbrev FnP (K : PySem.W.Frag) (x : Str) (st : Stmt) (f : Addr) (fd : FuncData) : Prop := FunD K x x (defArgs st) (defBody st) (defScope st) [] [] f fd
/-- a promise that is the body's own reading: nothing is said of it -/
def inl (fz : Bool) (N : List Str) (n : Nat) (t : DS) : SpD := fun ds st kk => ds.length = n ∧
  t ⟨fun _ st' => if fz = true then Frz st .non st' kk else kk .non st', fun d st' => if fz = true then Frz st d st' kk else kk d st'⟩ (startD N ds) st
end DL

/-! readings evaluated: one equation a form -/
namespace DL
open PySem PySem.Spec PyProof.Rows L2
def testK (k : Bool → Sto → Prop) : DK := fun d s1 => match d with
  | .bl b => k b s1
  | _ => False
def truK (k : Bool → Sto → Prop) : DK := fun d s1 => OkTru s1 d ∧ k (truD s1 d) s1
def notK (k : DK) : DK := fun d s1 => match d with
  | .bl b => k (.bl (!b)) s1
  | _ => False
def chK (g : F2) (tc : DE) (env : DL.Env) (y : D) (k : DK) : DK := fun z s3 => match z with
  | .bl b => if b = true then tc env s3 fun u s4 => g y u s4 k else k (.bl false) s3
  | _ => False
def someK (k : Option Int → Sto → Prop) : DK := fun d s1 => match d with
  | .int i => k (some i) s1
  | _ => False
def iterK (kk : DIk) : DK := fun d s1 => match deref s1 d with
  | .lst xs => xs.length ≤ 16777216 → kk xs (srcOf d xs) s1
  | .tup xs => xs.length ≤ 16777216 → kk xs [] s1
  | .str z => kk (signs z) [] s1
  | _ => False
def enumK (kk : DIk) : DK := fun d s1 => match deref s1 d with
  | .lst xs => xs.length ≤ 16777216 → kk (enumD 0 xs) (srcOf d xs) s1
  | .tup xs => xs.length ≤ 16777216 → kk (enumD 0 xs) [] s1
  | _ => False
def rng1K (kk : DIk) : DK := fun d s1 => match d with
  | .int j => (-(2 ^ 62) ≤ j ∧ j < 2 ^ 62) ∧ kk (rangeD 0 j.toNat) [] s1
  | _ => False
def parK (i j : Nat) (env : DL.Env) (nx : DL.Env → Sto → Prop) : List D → Sto → Prop := fun ds s1 => match ds with
  | [d, e] => dgName i d env s1 fun env1 s2 => dgName j e env1 s2 nx
  | _ => False
section
variable {env r : DL.Env} {st : Sto} {k : DK} {kt : Bool → Sto → Prop} {ka : List D → Sto → Prop} {kg : DL.Env → Sto → Prop} {kk : DIk} {d e : D} {ds es : List D} {a : Option D} {n m i j : Nat} {t u v : DE} {c c2 : DT} {ta tb : DA} {f g : F2} {f1 : F1} {fb : FB} {fm : FM} {sp : SpD} {E : DEnds} {s1 s2 : DS} {tg : DG} {tgs : DGs} {di : DI} {o o2 : DO} {fc : D → Option Int → Option Int → Sto → DK → Prop}
theorem e_v0 : dVar 0 (some d :: r) st k = k d st := rfl
theorem e_vs : dVar (n + 1) (a :: r) st k = dVar n r st k := rfl
theorem e_c : dC d env st k = k d st := rfl
theorem e_op : dOp f t u env st k = t env st fun x s1 => u env s1 fun y s2 => f x y s2 k := rfl
theorem e_test : dTest t env st kt = t env st (testK kt) := rfl
theorem e_testK {b : Bool} : testK kt (.bl b) st = kt b st := rfl
theorem e_tru : dTru t env st kt = t env st (truK kt) := rfl
theorem e_truL : truK kt (.lst ds) st = kt (!ds.isEmpty) st := by simp [truK, OkTru, truD, deref]
theorem e_truT : truK kt (.tup ds) st = kt (!ds.isEmpty) st := by simp [truK, OkTru, truD, deref]
theorem e_truB {b : Bool} : truK kt (.bl b) st = kt b st := by simp [truK, OkTru, truD, deref]
theorem e_truI {b : Int} : truK kt (.int b) st = kt (b != 0) st := by simp [truK, OkTru, truD, deref]
theorem e_truN : truK kt .non st = kt false st := by simp [truK, OkTru, truD, deref]
theorem e_truS {x : Str} : truK kt (.str x) st = (x.length ≤ sizeLine ∧ kt ((x.length : Int) != 0) st) := by simp [truK, OkTru, truD, deref]
theorem e_not : dNot c env st kt = c env st fun b s1 => kt (!b) s1 := rfl
theorem e_or : dOr c c2 env st kt = c env st fun b s1 => if b = true then kt true s1 else c2 env s1 kt := rfl
theorem e_notK {b : Bool} : notK k (.bl b) st = k (.bl (!b)) st := rfl
theorem e_if : dIf c t u env st k = c env st fun b s1 => if b = true then t env s1 k else u env s1 k := rfl
theorem e_nil : dNil env st ka = ka [] st := rfl
theorem e_cons : dCons t ta env st ka = t env st fun d s1 => ta env s1 fun ds s2 => ka (d :: ds) s2 := rfl
theorem e_tup : dTup ta env st k = ta env st fun ds s1 => ds.length ≤ 16777216 ∧ k (.tup ds) s1 := rfl
theorem e_lst : dLst ta env st k = ta env st fun ds s1 => ds.length ≤ 16777216 ∧ k (.lst ds) s1 := rfl
theorem e_new : dNew ta env st k = ta env st fun ds s1 => ds.length ≤ 16777216 ∧ k (.obj s1.length) (s1 ++ [ds]) := rfl
theorem e_call : dCall sp ta env st k = ta env st fun ds s1 => sp ds s1 k := rfl
theorem e_drop : dDrop t E env st = t env st fun _ s1 => E.nx env s1 := rfl
theorem e_ret : dRet t E env st = t env st E.rt := rfl
theorem e_pass : dPass E env st = E.nx env st := rfl
theorem e_ifS : dIfS c s1 s2 E env st = c env st fun b s => if b = true then s1 E env s else s2 E env s := rfl
theorem e_g0 : dgName 0 d (a :: r) st kg = kg (some d :: r) st := rfl
theorem e_gs : dgName (n + 1) d (a :: r) st kg = dgName n d r st fun env' st' => kg (a :: env') st' := rfl
theorem e_gnil : dgNil [] env st kg = kg env st := rfl
theorem e_gcons : dgCons tg tgs (d :: ds) env st kg = tg d env st fun env' st' => tgs ds env' st' kg := rfl
theorem e_gtup : dgTup n tgs (.tup ds) env st kg = (ds.length = n ∧ tgs ds env st kg) := rfl
theorem e_asg : dAsg t tg E env st = t env st fun d s1 => tg d env s1 E.nx := rfl
theorem e_par : dPar i j ta E env st = ta env st (parK i j env E.nx) := by
  unfold dPar
  congr 1
theorem e_parK : parK i j env kg [d, e] st = dgName i d env st fun env1 s2 => dgName j e env1 s2 kg := rfl
theorem e_chain : dChain f g t u v env st k = t env st fun x s1 => u env s1 fun y s2 => f x y s2 (chK g v env y k) := rfl
theorem e_chK {b : Bool} : chK g v env e k (.bl b) st = if b = true then v env st fun w s4 => g e w s4 k else k (.bl false) st := rfl
theorem e_no {ko : Option Int → Sto → Prop} : dNo env st ko = ko none st := rfl
theorem e_some {ko : Option Int → Sto → Prop} : dSome t env st ko = t env st (someK ko) := rfl
theorem e_someK {ko : Option Int → Sto → Prop} {b : Int} : someK ko (.int b) st = ko (some b) st := rfl
theorem e_cut : dCut fc t o o2 env st k = t env st fun d s1 => o env s1 fun lo s2 => o2 env s2 fun hi s3 => fc d lo hi s3 k := rfl
theorem e_b : dB fb ta env st k = ta env st fun ds s1 => fb ds s1 k := rfl
theorem e_iter : dIter t env st kk = t env st (iterK kk) := rfl
theorem e_iterL : iterK kk (.lst ds) st = (ds.length ≤ 16777216 → kk ds [] st) := rfl
theorem e_iterT : iterK kk (.tup ds) st = (ds.length ≤ 16777216 → kk ds [] st) := rfl
theorem e_iterS {x : Str} : iterK kk (.str x) st = kk (signs x) [] st := rfl
theorem e_iterO {xs : List D} (h : st[i]? = some xs) : iterK kk (.obj i) st = (xs.length ≤ 16777216 → kk xs [(i, xs)] st) := by simp [iterK, deref, srcOf, h]
theorem e_rng1 : dRng1 t env st kk = t env st (rng1K kk) := rfl
theorem e_rng1K {b : Int} : rng1K kk (.int b) st = ((-(2 ^ 62) ≤ b ∧ b < 2 ^ 62) ∧ kk (rangeD 0 b.toNat) [] st) := rfl
theorem e_enum : dEnum t env st kk = t env st (enumK kk) := rfl
theorem e_enumL : enumK kk (.lst ds) st = (ds.length ≤ 16777216 → kk (enumD 0 ds) [] st) := rfl
theorem e_enumT : enumK kk (.tup ds) st = (ds.length ≤ 16777216 → kk (enumD 0 ds) [] st) := rfl
theorem e_for : dFor di tg s1 E env st = di env st fun xs src s => goFor src tg s1 E xs env s := rfl
theorem e_lc {vs : List Nat} : dLc di tg c t vs env st k = di env st fun xs src s1 => xs.length ≤ 16777216 ∧ goLc src tg c t vs env (fun acc s2 => k (.lst acc) s2) xs [] s1 := rfl
theorem e_lcNew {vs : List Nat} : dLcNew di tg c t vs env st k = di env st fun xs src s1 => xs.length ≤ 16777216 ∧ goLc src tg c t vs env (fun acc s2 => k (.obj s2.length) (s2 ++ [acc])) xs [] s1 := rfl
theorem e_forN {src : List (Nat × List D)} : goFor src tg s1 E [] env st = (SrcOk src st ∧ E.nx env st) := rfl
theorem e_forC {src : List (Nat × List D)} {x : D} {xs : List D} : goFor src tg s1 E (x :: xs) env st = (SrcOk src st ∧ tg x env st fun env' st' => s1 ⟨fun env2 st2 => goFor src tg s1 E xs env2 st2, E.rt⟩ env' st') := rfl
theorem e_lcN {src : List (Nat × List D)} {vs : List Nat} : goLc src tg c t vs env ka [] ds st = (SrcOk src st ∧ ka ds st) := rfl
theorem e_lcC {src : List (Nat × List D)} {vs : List Nat} {x : D} {xs : List D} : goLc src tg c t vs env ka (x :: xs) ds st = (SrcOk src st ∧ tg x (wipeE env vs) st fun env' st' => c env' st' fun b s1 =>
      if b = true then t env' s1 fun d s2 => goLc src tg c t vs env ka xs (ds ++ [d]) s2 else goLc src tg c t vs env ka xs ds s1) := rfl
theorem e_srcN : SrcOk [] st = True := rfl
theorem e_srcC {p : Nat × List D} {r : List (Nat × List D)} : SrcOk (p :: r) st = (st[p.1]? = some p.2 ∧ SrcOk r st) := rfl
theorem e_meth : dMeth fm t ta env st k = t env st fun d s1 => isLst s1 d = true ∧ ta env s1 fun ds s2 => fm d ds s2 k := rfl
theorem e_isL : isLst st (.lst ds) = true := rfl
theorem e_isO {xs : List D} (h : st[i]? = some xs) : isLst st (.obj i) = true := by simp [isLst, deref, h]
theorem e_app {xs : List D} (h : st[i]? = some xs) : mAppend (.obj i) [d] st k = (xs.length < 16777216 ∧ k .non (st.set i (xs ++ [d]))) := by simp [mAppend, h]
theorem e_sub {to ti : DE} : dgSub to ti d env st kg = to env st fun o s1 => ti env s1 fun i s2 => setD o i d s2 fun s3 => kg env s3 := rfl
theorem e_setO {xs : List D} {b : Int} {ks : Sto → Prop} (h : st[i]? = some xs) : setD (.obj i) (.int b) d st ks = ∃ m, ixN xs.length b = some m ∧ ks (st.set i (xs.set m d)) := by simp [setD, h]
theorem e_isi {ts : List String} : dIsi t ts env st k = t env st fun d s1 => k (.bl (ts.any (subTy (tyD d)))) s1 := rfl
theorem e_yes : dYes env st kt = kt true st := rfl
-- operators
theorem e_addI {a b : Int} : addD (.int a) (.int b) st k = k (.int (a + b)) st := rfl
theorem e_addB {a : Int} {b : Bool} : addD (.int a) (.bl b) st k = k (.int (a + b2i b)) st := rfl
theorem e_addBI {a : Bool} {b : Int} : addD (.bl a) (.int b) st k = k (.int (b2i a + b)) st := rfl
theorem e_subBI {a : Bool} {b : Int} : subD (.bl a) (.int b) st k = k (.int (b2i a - b)) st := rfl
theorem e_subIB {a : Int} {b : Bool} : subD (.int a) (.bl b) st k = k (.int (a - b2i b)) st := rfl
theorem e_addS {a b : Str} : addD (.str a) (.str b) st k = (a.length + b.length ≤ 16777216 ∧ k (.str (a ++ b)) st) := rfl
theorem e_addT {a b : List D} : addD (.tup a) (.tup b) st k = (a.length + b.length ≤ 16777216 ∧ k (.tup (a ++ b)) st) := rfl
theorem e_addL {a b : List D} : addD (.lst a) (.lst b) st k = (a.length + b.length ≤ 16777216 ∧ k (.lst (a ++ b)) st) := rfl
theorem e_subI {a b : Int} : subD (.int a) (.int b) st k = k (.int (a - b)) st := rfl
theorem e_mulI {a b : Int} : mulD (.int a) (.int b) st k = (MulOk a b ∧ k (.int (a * b)) st) := rfl
theorem e_mulT {a : List D} {b : Int} : mulD (.tup a) (.int b) st k = (a ≠ [] ∧ 1 ≤ b ∧ b ≤ 1000 ∧ a.length ≤ 1000 ∧ k (.tup (List.replicate b.toNat a).flatten) st) := rfl
theorem e_mulL {a : List D} {b : Int} : mulD (.lst a) (.int b) st k = (-(2 ^ 63) ≤ b ∧ b < 2 ^ 63 ∧ a.length * b.toNat ≤ 16777216 ∧ k (.lst (List.replicate b.toNat a).flatten) st) := rfl
theorem e_divI {a b : Int} : divD (.int a) (.int b) st k = (DivOk b ∧ k (.int (a / b)) st) := rfl
theorem e_modI {a b : Int} : modD (.int a) (.int b) st k = (0 < b ∧ k (.int (a % b)) st) := rfl
theorem e_powI {a b : Int} : powD (.int a) (.int b) st k = (PowOk a b ∧ k (.int (a ^ b.toNat)) st) := rfl
theorem e_cmpI {p : Int → Int → Bool} {a b : Int} : cmpI p (.int a) (.int b) st k = k (.bl (p a b)) st := rfl
theorem e_eq : eqOp false d e st k = (okD 60 (deref st d) = true ∧ okD 60 (deref st e) = true ∧ k (.bl (eqD (deref st d) (deref st e))) st) := rfl
theorem e_ne : eqOp true d e st k = (okD 60 (deref st d) = true ∧ okD 60 (deref st e) = true ∧ k (.bl (!eqD (deref st d) (deref st e))) st) := rfl
theorem e_ixL {a : List D} {b : Int} : ixD (.lst a) (.int b) st k = ∃ x, atI a b = some x ∧ k x st := rfl
theorem e_ixKL {a : List D} {b : Int} : ixD (.klst a) (.int b) st k = ∃ x, atI a b = some x ∧ k x st := rfl
theorem e_ixT {a : List D} {b : Int} : ixD (.tup a) (.int b) st k = ∃ x, atI a b = some x ∧ k x st := rfl
theorem e_ixO {a : List D} {b : Int} (h : st[i]? = some a) : ixD (.obj i) (.int b) st k = ∃ x, atI a b = some x ∧ k x st := by simp [ixD, deref, h]
theorem e_cutL {a : List D} {lo hi : Option Int} : cutOp (.lst a) lo hi st k = k (.lst (cutD a lo hi)) st := rfl
theorem e_cutKL {a : List D} {lo hi : Option Int} : cutOp (.klst a) lo hi st k = k (.lst (cutD a lo hi)) st := rfl
theorem e_cutT {a : List D} {lo hi : Option Int} : cutOp (.tup a) lo hi st k = k (.tup (cutD a lo hi)) st := rfl
theorem e_lenL : bLen [.lst ds] st k = k (.int ds.length) st := rfl
theorem e_lenKL : bLen [.klst ds] st k = k (.int ds.length) st := rfl
theorem e_lenT : bLen [.tup ds] st k = k (.int ds.length) st := rfl
theorem e_lenO {xs : List D} (h : st[i]? = some xs) : bLen [.obj i] st k = k (.int xs.length) st := by simp [bLen, deref, h]
theorem e_abs {a : Int} : bAbs [.int a] st k = k (.int (if a < 0 then -a else a)) st := rfl
theorem e_intI {a : Int} : bInt [.int a] st k = k (.int a) st := rfl
theorem e_intB {b : Bool} : bInt [.bl b] st k = k (.int (if b = true then 1 else 0)) st := rfl
theorem e_listNL : bListNew [.lst ds] st k = k (.obj st.length) (st ++ [ds]) := rfl
theorem e_listNT : bListNew [.tup ds] st k = k (.obj st.length) (st ++ [ds]) := rfl
theorem e_tupL : bTuple [.lst ds] st k = k (.tup ds) st := rfl
theorem e_tupT : bTuple [.tup ds] st k = k (.tup ds) st := rfl
theorem e_tupO {xs : List D} (h : st[i]? = some xs) : bTuple [.obj i] st k = k (.tup xs) st := by simp [bTuple, deref, h]
theorem e_all {bs : List Bool} (h : blsD ds = some bs) : bAll [.lst ds] st k = k (.bl (bs.all id)) st := by simp [bAll, deref, h]
theorem e_drI {b : Int} : deref st (.int b) = .int b := rfl
theorem e_drB {b : Bool} : deref st (.bl b) = .bl b := rfl
theorem e_drS {b : Str} : deref st (.str b) = .str b := rfl
theorem e_drN : deref st .non = .non := rfl
theorem e_drL : deref st (.lst ds) = .lst ds := rfl
theorem e_drT : deref st (.tup ds) = .tup ds := rfl
theorem e_seq : dSeq s1 s2 E env st = s1 ⟨s2 E, E.rt⟩ env st := rfl
end
theorem okDs_int (n : Nat) : ∀ xs : List Int, okDs n (xs.map D.int) = true
  | [] => by simp only [List.map_nil, okDs]
  | x :: r => by simp only [List.map_cons, okDs, okD, Bool.true_and]; exact okDs_int n r
mutual
theorem eqD_refl : ∀ (n : Nat) (d : D), okD n d = true → eqD d d = true
  | _, .non, _ => by simp [eqD]
  | _, .bl _, _ => by simp [eqD]
  | _, .int _, _ => by simp [eqD]
  | _, .str _, _ => by simp [eqD]
  | 0, .lst _, h => by simp [okD] at h
  | 0, .tup _, h => by simp [okD] at h
  | n + 1, .lst xs, h => by simp only [okD] at h; simp only [eqD]; exact eqDs_refl n xs h
  | n + 1, .tup xs, h => by simp only [okD] at h; simp only [eqD]; exact eqDs_refl n xs h
  | n, .klst _, h => by cases n <;> simp [okD] at h
  | n, .obj _, h => by cases n <;> simp [okD] at h
  | n, .dic _ _, h => by cases n <;> simp [okD] at h
  | n, .fdic _ _, h => by cases n <;> simp [okD] at h
  | n, .gtup _, h => by cases n <;> simp [okD] at h
theorem eqDs_refl : ∀ (n : Nat) (ds : List D), okDs n ds = true → eqDs ds ds = true
  | _, [], _ => by simp [eqDs]
  | n, x :: r, h => by
    simp only [okDs, Bool.and_eq_true] at h
    simp only [eqDs, Bool.and_eq_true]
    exact ⟨eqD_refl n x h.1, eqDs_refl n r h.2⟩
end
end DL

/-! tests by chains of any length -/
namespace DL
open PySem PySem.Spec PyProof.Rows L2
abbrev DCh := D → DL.Env → Sto → (Bool → Sto → Prop) → Prop
section
variable {X : Cx} {a b : Expr} {ta tb : DE}
end
section
variable {env : DL.Env} {st : Sto} {k : Bool → Sto → Prop} {f : F2} {t : DE} {c : DCh} {x : D} {b : Bool}
theorem q_okI {n : Nat} {i : Int} : okD n (.int i) = true := by cases n <;> rfl
theorem q_okB {n : Nat} {i : Bool} : okD n (.bl i) = true := by cases n <;> rfl
theorem q_okN {n : Nat} : okD n .non = true := by cases n <;> rfl
theorem q_okS {n : Nat} {s : Str} : okD n (.str s) = PyData.strOk s := by cases n <;> rfl
theorem q_okL {n : Nat} {ds : List D} : okD (n + 1) (.lst ds) = okDs n ds := by simp only [okD]
theorem q_okT {n : Nat} {ds : List D} : okD (n + 1) (.tup ds) = okDs n ds := by simp only [okD]
theorem q_oks0 {n : Nat} : okDs n [] = true := by simp only [okDs]
theorem q_oks1 {n : Nat} {d : D} {ds : List D} : okDs n (d :: ds) = (okD n d && okDs n ds) := by simp only [okDs]
theorem q_eqII {i j : Int} : eqD (.int i) (.int j) = (i == j) := by simp only [eqD]
theorem q_eqBB {i j : Bool} : eqD (.bl i) (.bl j) = (i == j) := by simp only [eqD]
theorem q_eqSS {i j : Str} : eqD (.str i) (.str j) = (i == j) := by simp only [eqD]
theorem q_eqLL {i j : List D} : eqD (.lst i) (.lst j) = eqDs i j := by simp only [eqD]
theorem q_eqTT {i j : List D} : eqD (.tup i) (.tup j) = eqDs i j := by simp only [eqD]
theorem q_eqNN : eqD .non .non = true := by simp only [eqD]
theorem q_eqNI {i : Int} : eqD .non (.int i) = false := by simp only [eqD]
theorem q_eqIN {i : Int} : eqD (.int i) .non = false := by simp only [eqD]
theorem q_eqs0 : eqDs [] [] = true := by simp only [eqDs]
theorem q_eqs1 {d e : D} {ds es : List D} : eqDs (d :: ds) (e :: es) = (eqD d e && eqDs ds es) := by simp only [eqDs]
end
end DL

/-! sum, max, min of a list or a tuple of ints -/
namespace DL
open PySem PySem.Spec PyProof.Rows L2
section
variable {prog : Program} {w : World} {A : Around} {E : Value → Shared → Prop} {s : Shared} {l : Addr} {its : List Value} {ns : List Int} {Q : Value → Shared → Prop}
theorem sumTup (hh : A.handled = none) (hl : s.heap.IsTuple l its.toArray) (hi : IntsAre its ns)
    (h : ∀ h' tk t', (∀ b o, s.heap.get? b = some o → h'.get? b = some o) → Q (.int ns.sum t') { s with heap := h', toks := tk }) : wpAny (model prog w) A (call (.builtin "sum") [.ref l]) Q E s := by
  obtain ⟨ys, e⟩ := hi.allInts.items
  have hn : numsOf (intItems ys).toList = ns := by
    rw [← e]
    exact hi.numsOf
  rw [nums_intItems] at hn
  rw [e] at hl
  refine PySem.W.ktm_sumG hh hl fun h' tk t' hk => ?_
  have hq := h h' tk t' hk
  rw [preSum_eq, List.take_of_length_le (by simp), hn]
  exact hq
theorem bestTup (hh : A.handled = none) {ys : Array (Int × Tok)} (hl : s.heap.IsTuple l (intItems ys)) {P : Value → Shared → Prop}
    (h : ∀ s₂ I, I = s.heap.objs.size → s₂.heap.IsTupleIter I l 0 → s₂.heap.IsTuple l (intItems ys) → (∀ b ∈ [I, l], b < s₂.heap.objs.size) → l ≠ I → (∀ b o, s.heap.get? b = some o → s₂.heap.get? b = some o) → s₂ = { s with heap := s₂.heap } → P (.ref I) s₂) :
    wpAny (model prog w) A (pyIter (.ref l)) P E s := by
  obtain ⟨o, ho, _⟩ := id hl
  refine wpAny_pyIter_tuple hl (h _ _ rfl ⟨_, Heap.get?_push_size _ rfl, rfl, rfl⟩ (hl.at fun o e => Heap.get?_push_of_some _ e) (fun b hb => ?_) (Nat.ne_of_lt (Heap.lt_size ho)) (fun b o e => Heap.get?_push_of_some _ e) rfl)
  have hb' : b = s.heap.objs.size ∨ b = l := by simpa using hb
  rcases hb' with rfl | rfl
  · exact Heap.lt_size (Heap.get?_push_size _ rfl)
  · exact Heap.lt_size (Heap.get?_push_of_some _ ho)
theorem maxTup (hh : A.handled = none) (hl : s.heap.IsTuple l its.toArray) (hi : IntsAre its ns) (hne : 0 < ns.length)
    (h : ∀ h' tk M t', (∀ b o, s.heap.get? b = some o → h'.get? b = some o) → M ∈ ns → (∀ a, a ∈ ns → a ≤ M) → Q (.int M t') { s with heap := h', toks := tk }) : wpAny (model prog w) A (call (.builtin "max") [.ref l]) Q E s := by
  obtain ⟨ys, e⟩ := hi.allInts.items
  have hn : numsOf (intItems ys).toList = ns := by
    rw [← e]
    exact hi.numsOf
  rw [nums_intItems] at hn
  subst hn
  rw [e] at hl
  have hsz : 0 < ys.size := by simpa using hne
  refine call_max_walk (bestTup (A := A.in1) (show A.in1.handled = none from hh) hl fun s₂ I eI st ht hfp hlI old es => ?_)
  refine ⟨_, _, _, _, _, _, _, rfl, Walks.tuple (A := A.in1) hh I l hlI (intItems ys), ⟨st, ht⟩, hfp, by simpa [intItems] using hsz, CmpOf.ints_gt (numAt ys) (fun _ _ => intItems_at), fun v h' tk hP hk => ?_⟩
  obtain ⟨t, rfl⟩ := intItems_at (by simpa [intItems] using hP)
  obtain ⟨h1, h2⟩ := argBest_gt (numAt ys) (ys.size - 1)
  rw [es]
  have hsz2 : (intItems ys).size = ys.size := by simp [intItems]
  rw [hsz2] at *
  refine h h' tk _ t (fun b o q => hk b o (fun z => ?_) (old b o q)) ?_ fun a ha => ?_
  · have hlt := Heap.lt_size q
    have z' : b = I := by simpa using z
    rw [z', eI] at hlt
    exact absurd hlt (Nat.lt_irrefl _)
  · rw [numAt_eq]
    exact PySem.getD_mem (by rw [List.length_map, Array.length_toList]; exact Nat.lt_of_le_of_lt h1 (by omega))
  · obtain ⟨j, hj, rfl⟩ := mem_getD ha
    rw [List.length_map, Array.length_toList] at hj
    rw [← numAt_eq]
    exact h2 j (by omega)
end
section
variable {X : Cx}
def rSumT (K : PySem.W.Frag) : List V → Hp → VK → Prop := fun vs H Q => ∃ (a : Addr) (ns : List Int), vs = [V.ref a] ∧ SqT K H a (ns.map V.int) ∧ Q (.int ns.sum) H
def rMaxT (K : PySem.W.Frag) : List V → Hp → VK → Prop := fun vs H Q => ∃ (a : Addr) (ns : List Int), vs = [V.ref a] ∧ SqT K H a (ns.map V.int) ∧ 0 < ns.length ∧ ∀ m, m ∈ ns → (∀ y, y ∈ ns → y ≤ m) → Q (.int m) H
theorem crSumT (hc : X.calm = true) : CallR X (.builtin "sum") (rSumT X.K) := by
  intro pins s σ H vs us Q I r h
  obtain ⟨a, ns, rfl, hs, q⟩ := h
  obtain ⟨its, rv, hl, _⟩ := I.tuple hs
  rw [Vals.ref1 r]
  exact sumTup (I.ok.hd hc) hl rv.ints fun h' tk t' hk => ⟨.int _, H, I.kept hk, ⟨_, rfl⟩, q⟩
theorem crMaxT (hc : X.calm = true) : CallR X (.builtin "max") (rMaxT X.K) := by
  intro pins s σ H vs us Q I r h
  obtain ⟨a, ns, rfl, hs, hne, q⟩ := h
  obtain ⟨its, rv, hl, _⟩ := I.tuple hs
  rw [Vals.ref1 r]
  exact maxTup (I.ok.hd hc) hl rv.ints hne fun h' tk m t' hk h1 h2 => ⟨.int _, H, I.kept hk, ⟨_, rfl⟩, q m h1 h2⟩
/-- of a list, a tuple of ints -/
def intsOf (st : Sto) (d : D) : Option (List Int) := match deref st d with
  | .lst xs => intsD xs
  | .tup xs => intsD xs
  | _ => none
def bSum1 : FB := fun ds st k => match ds with
  | [d] => match intsOf st d with
    | some ns => k (.int ns.sum) st
    | none => False
  | _ => False
def bMax1 : FB := fun ds st k => match ds with
  | [d] => match intsOf st d with
    | some ns => 0 < ns.length ∧ ∀ m, m ∈ ns → (∀ y, y ∈ ns → y ≤ m) → k (.int m) st
    | none => False
  | _ => False
theorem intsOf_rep {K : PySem.W.Frag} {w : Wd} {st : Sto} {H : Hp} {d : D} {v : V} {ns : List Int} (W : Wld K w st H) (R : Rep K w d v) (h : intsOf st d = some ns) :
    ∃ a, v = .ref a ∧ (SqL K H a (ns.map V.int) ∨ SqT K H a (ns.map V.int)) := by
  unfold intsOf at h
  split at h
  · rename_i xs hd
    obtain ⟨a, us, rfl, q1, r1, _⟩ := rep_lst W R hd
    rw [intsD_eq h] at r1
    exact ⟨a, rfl, .inl (by rw [← r1.ints]; exact q1)⟩
  · rename_i xs hd
    obtain ⟨a, us, rfl, q1, r1, _⟩ := rep_tup W R hd
    rw [intsD_eq h] at r1
    exact ⟨a, rfl, .inr (by rw [← r1.ints]; exact q1)⟩
  · cases h
theorem cb_sum1 (hc : X.calm = true) : CallR X (.builtin "sum") (rDB X.K bSum1) := by
  refine CallR.by_ fun vs H Q w st ds kk W R q fo => ?_
  unfold bSum1 at q
  split at q
  · obtain ⟨v, rfl, R1⟩ := one_rep R
    split at q
    · rename_i ns hb
      obtain ⟨a, rfl, q1 | q1⟩ := intsOf_rep W R1 hb
      · exact ⟨_, cr_sum hc, a, ns, rfl, q1, fo.id q W rep_int⟩
      · exact ⟨_, crSumT hc, a, ns, rfl, q1, fo.id q W rep_int⟩
    · exact q.elim
  · exact q.elim
theorem cb_max1 (hc : X.calm = true) : CallR X (.builtin "max") (rDB X.K bMax1) := by
  refine CallR.by_ fun vs H Q w st ds kk W R q fo => ?_
  unfold bMax1 at q
  split at q
  · obtain ⟨v, rfl, R1⟩ := one_rep R
    split at q
    · rename_i ns hb
      obtain ⟨a, rfl, q1 | q1⟩ := intsOf_rep W R1 hb
      · exact ⟨_, cr_max hc, a, ns, rfl, q1, q.1, fun m h1 h2 => fo.id (q.2 m h1 h2) W rep_int⟩
      · exact ⟨_, crMaxT hc, a, ns, rfl, q1, q.1, fun m h1 h2 => fo.id (q.2 m h1 h2) W rep_int⟩
    · exact q.elim
  · exact q.elim
variable {st : Sto} {k : DK} {ns : List Int}
theorem intsOf_T : intsOf st (.tup (ns.map D.int)) = some ns := intsD_map ns
theorem intsOf_L : intsOf st (.lst (ns.map D.int)) = some ns := intsD_map ns
theorem e_sum1T : bSum1 [.tup (ns.map D.int)] st k = k (.int ns.sum) st := by simp only [bSum1, intsOf_T]
theorem e_sum1L : bSum1 [.lst (ns.map D.int)] st k = k (.int ns.sum) st := by simp only [bSum1, intsOf_L]
theorem e_max1T : bMax1 [.tup (ns.map D.int)] st k = (0 < ns.length ∧ ∀ m, m ∈ ns → (∀ y, y ∈ ns → y ≤ m) → k (.int m) st) := by simp only [bMax1, intsOf_T]
theorem e_max1L : bMax1 [.lst (ns.map D.int)] st k = (0 < ns.length ∧ ∀ m, m ∈ ns → (∀ y, y ∈ ns → y ≤ m) → k (.int m) st) := by simp only [bMax1, intsOf_L]
end
section
variable {X : Cx} {tg e e2 e3 : Expr} {ta tb tc : DE} {p pos : Pos}
variable {env : DL.Env} {st : Sto} {kk : DIk} {i j c : Int}
end
end DL

/-! bit_length; reversed -/
namespace DL
open PySem PySem.Spec PyProof.Rows L2
section
variable {X : Cx} {o : Expr} {to : DE}
theorem mt_bits : MtR X "int.bit_length" (fun x xs H Q => ∃ i, x = .int i ∧ xs = [] ∧ Q (.int ((Builtin.Int.intBits i : Nat) : Int)) H) := by
  rintro pins s σ H x xs v us Q I rx rs ⟨i, rfl, rfl, q⟩
  obtain ⟨t, rfl⟩ := rx
  cases rs
  refine call_gives F.slot_int_bit_length (typeIs_int s i t) F.entry_int_bit_length (F.args_int_bit_length_1 _) (AutoIntG2.int_bit_length_int_0 i t) ?_
  exact ⟨.int _, H, I.kept fun _ _ h => h, ⟨_, rfl⟩, q⟩
def bitsK (k : DK) : DK := fun d s1 => match d with
  | .int i => k (.int ((Builtin.Int.intBits i : Nat) : Int)) s1
  | _ => False
def dBits (to : DE) : DE := fun env st k => to env st (bitsK k)
theorem pd_bits {apos cpos : Pos} (ho : PD X o to) (hbase : attributeBase o "bit_length" X.env (eval o X.env) = eval o X.env := by rfl) (hline : (apos.endLine == cpos.line) = true := by rfl) : PD X (.Call (.Attribute o "bit_length" apos) [] [] cpos) (dBits to) := by
  refine (pe_bm0 PySem.F.plainAttrs_int F.slot_int_bit_length F.type_int_bit_length mt_bits ho hbase hline).wk fun σ H Q ⟨w, env, st, kk, W, E, h, fo⟩ => ?_
  refine ⟨w, env, st, _, W, E, h, fun d st1 v w1 H1 h1 l1 W1 R1 => ?_⟩
  unfold bitsK at h1
  split at h1
  · simp only [Rep] at R1
    subst R1
    exact ⟨rfl, _, rfl, rfl, fo _ _ _ _ _ h1 l1 W1 rep_int⟩
  · exact h1.elim
variable {env : DL.Env} {st : Sto} {k : DK} {i : Int}
theorem e_bits : dBits to env st k = to env st (bitsK k) := rfl
theorem e_bitsK : bitsK k (.int i) st = k (.int ((Builtin.Int.intBits i : Nat) : Int)) st := rfl
end
def par3K (i j l : Nat) (env : DL.Env) (nx : DL.Env → Sto → Prop) : List D → Sto → Prop := fun ds s1 => match ds with
  | [d, e, f] => dgName i d env s1 fun env1 s2 => dgName j e env1 s2 fun env2 s3 => dgName l f env2 s3 nx
  | _ => False
def dPar3 (i j l : Nat) (t : DA) : DS := fun E env st => t env st (par3K i j l env E.nx)
section
variable {X : Cx} {a b c : Expr} {pos : Pos}
theorem pds_par3 (i j l : Nat) {x y z : Str} {t : DA} {px py pz pt : Pos} {kt k2 pt2} (hc : X.calm = true) (hN : X.N.Nodup) (ha : PDA X [a, b, c] t) (hi : X.N[i]? = some x := by rfl) (hj : X.N[j]? = some y := by rfl) (hl : X.N[l]? = some z := by rfl) (hij : i ≠ j := by decide) (hil : i ≠ l := by decide) (hjl : j ≠ l := by decide)
    (hx : X.env.scope.names.lookup x = some .local := by rfl) (hy : X.env.scope.names.lookup y = some .local := by rfl) (hz : X.env.scope.names.lookup z = some .local := by rfl)
    (hw : swappedStores [.Tuple [.Name x px, .Name y py, .Name z pz] kt pt] (.Tuple [a, b, c] k2 pt2) X.env = pure (some [x, y, z]) := by rfl)
    (hs : swapsWithSole [.Tuple [.Name x px, .Name y py, .Name z pz] kt pt] (.Tuple [a, b, c] k2 pt2) pos.line X.env = pure false := by rfl) :
    PDS X (.Assign [.Tuple [.Name x px, .Name y py, .Name z pz] kt pt] (.Tuple [a, b, c] k2 pt2) pos) (dPar3 i j l t) := by
  refine (ps_par3 hc hN hi hj hl hij hil hjl hx hy hz ha hw hs).wk fun Ed σ H ⟨w, env, st, D, W, E, h, fn, fr⟩ => ?_
  refine ⟨w, env, st, _, W, E, h, fun ds st1 vs w1 H1 h1 l1 W1 R1 => ?_⟩
  match ds, h1, R1 with
  | [d, e, f], h1, R1 =>
    obtain ⟨v, r, rfl, Rv, R2⟩ := R1.inv
    obtain ⟨u, r', rfl, Ru, R3⟩ := R2.inv
    obtain ⟨q, r'', rfl, Rq, R4⟩ := R3.inv
    rw [R4.inv0]
    exact ⟨v, u, q, rfl, fn _ _ _ _ _ h1 l1 W1 ((((E.mono l1).set i Rv).set j Ru).set l Rq)⟩
  | [], h1, _ => exact h1.elim
  | [_], h1, _ => exact h1.elim
  | [_, _], h1, _ => exact h1.elim
  | _ :: _ :: _ :: _ :: _, h1, _ => exact h1.elim
variable {i j l : Nat} {t : DA} {E : DEnds} {env : DL.Env} {st : Sto} {d e f : D} {kg : DL.Env → Sto → Prop}
theorem e_par3 : dPar3 i j l t E env st = t env st (par3K i j l env E.nx) := rfl
theorem e_par3K : par3K i j l env kg [d, e, f] st = dgName i d env st fun env1 s2 => dgName j e env1 s2 fun env2 s3 => dgName l f env2 s3 kg := rfl
end
end DL

/-! zip(.., strict=True) of a list and a tuple of one length -/
namespace DL
open PySem PySem.Spec PyProof.Rows L2
section
variable {pr : Program} {w : World} {A : Around} {E : Value → Shared → Prop} {z : Shared} {zz TI TO j1 j2 : Addr} {f1 f2 : List Addr} {m1 m2 i : Nat} {P1 P2 : Nat → Value → Prop} {S1 S2 : Nat → Heap → Prop} {c1 c2 : Value}
end
end DL

/-! for .. in zip(a, b, strict=True), by data -/
namespace DL
open PySem PySem.Spec PyProof.Rows L2
section
variable {K : PySem.W.Frag} {w : Wd} {st : Sto}
end
section
variable {X : Cx} {e e2 : Expr} {ta tb : DE} {p pos kp : Pos}
variable {env : DL.Env} {st : Sto} {kk : DIk} {ds es : List D} {i : Nat}
end
end DL

/-! zip of a list and a tuple, not strict -/
namespace DL
open PySem PySem.Spec PyProof.Rows L2
section
variable {K : PySem.W.Frag} {w : Wd} {st : Sto}
end
section
variable {X : Cx} {e e2 : Expr} {ta tb : DE} {p pos : Pos}
variable {env : DL.Env} {st : Sto} {kk : DIk} {ds es : List D} {i : Nat}
end
end DL

/-! The data layer: what is taken backwards, sorted lists and sets of ints, lists of ranges, divmod, ranges backwards. -/
namespace DLA
open PySem PySem.Spec PyProof.Rows L2 HT
section
variable {prog : Program} {w : World} {A : Around} {E : Value → Shared → Prop} {s : Shared}
end
end DLA
namespace DLA
open PySem PySem.Spec PyProof.Rows L2
section
variable {P : Program} {w : World} {A : Around} {E : Value → Shared → Prop} {s : Shared}
/-- a type called whose __init__ asks after its first argument -/
theorem type_called {T nid iid : String} {Bd : Builtin} {xs : List Value} {Q R : Value → Shared → Prop} (tc : TypeCalled T nid iid) (hk : checkTypeCall T ⟨xs, []⟩ = pure ()) (hI : entryFor table iid = some Bd)
    (hN : codeAny (model P w) A.in1 (.call (.builtin nid) ⟨.type T :: xs, []⟩) (wants R E) s)
    (hi : ∀ ob s1, R ob s1 → s1.TypeIs ob T ∧ codeAny (model P w) A.in1 (.call (.builtin iid) ⟨ob :: xs, []⟩) (wants (fun r s2 => r = .none ∧ Q ob s2) E) s1) : wpAny (model P w) A (call (.type T) xs) Q E s := by
  obtain ⟨tc1, tc2, tc3⟩ := tc.mro
  have tc4 := tc.made
  have tc5 := tc.sub
  refine wpAny_call ?_
  refine codeAny_of_tree ?_
  show wpAny _ _ (callAny (.type T) _) _ _ _
  have quiet : (Code.builtin "type.__call__" ⟨.type T :: xs, []⟩).quiet = true := Code.quiet_builtin _ (by decide +kernel)
  refine wpAny_pure ⟨quiet, ?_⟩
  refine codeAny_builtin F.entry_type_call ?_
  rw [Around.under_plain (weight_type_call_type T xs []) rfl]
  have tc6 := tc.notType
  have tc7 := tc.canCreate
  repeat (any_goals (first | assumption | wp_step))
  refine codeAny_mono hN fun r s1 hr => ?_
  match r, hr with
  | .ok (.ret ob), hr =>
    obtain ⟨hT, hi⟩ := hi _ _ hr
    have tc8 := tc.init.lookup
    have tc9 := tc.init.bind ob
    repeat (any_goals (first | assumption | wp_step))
    refine codeAny_mono hi fun r2 s2 hr2 => ?_
    match r2, hr2 with
    | .ok (.ret v), hr2 =>
      obtain ⟨rfl, hq⟩ := hr2
      repeat (any_goals (first | assumption | wp_step))
    | .error e, hr2 => exact hr2
  | .error e, hr => exact hr
/-- set(xs) of a list of ints -/
theorem set_ofList {l : Addr} {its : Array Value} (ns : List Int) {Q : Value → Shared → Prop} (hh : A.handled = none) (hl : s.heap.IsList l its) (hi : IntsAre its.toList ns) (hb : ns.length + 1 < scanBound)
    (h : ∀ (h' : Heap) (tk c : Nat), SetR w h' s.heap.objs.size (fun j => decide (j ∈ ns)) c → c ≤ ns.length → (∀ b o, s.heap.get? b = some o → h'.get? b = some o) → Q (.ref s.heap.objs.size) { s with heap := h', toks := tk }) :
    wpAny (model P w) A (call (.type "set") [.ref l]) Q E s := by
  have hn : its.size = ns.length := by
    have q := hi.length
    rw [Array.length_toList] at q
    exact q
  refine type_called (R := fun ob s1 => ob = .ref s.heap.objs.size ∧ s1 = { s with heap := s.heap.push { cls := .type "set", dict := none, data := .set #[] 0 (.fresh 0 0 (!w.params.followText "set-order")) } })
    F.called_set (F.typeCall_set_1 _) F.entry_set_init (code_set_led1 _ ⟨rfl, rfl⟩) ?_
  rintro ob s1 ⟨rfl, rfl⟩
  obtain ⟨lo, hlo, hlc, ln, hld⟩ := hl
  obtain ⟨c0, d0, x0, sl0⟩ := lo
  simp only at hlc hld
  subst hlc hld
  generalize hob : ({ cls := .type "set", dict := none, data := .set #[] 0 (.fresh 0 0 (!w.params.followText "set-order")) } : Obj) = ob
  have hS : (s.heap.push ob).get? s.heap.objs.size = some ob := Heap.get?_push_size _ (by rw [← hob]; rfl)
  have hlt : l < s.heap.objs.size := Heap.lt_size hlo
  have hl1 : (s.heap.push ob).IsList l its := ⟨_, Heap.get?_push_of_some _ hlo, rfl, ln, rfl⟩
  have hz : (s.heap.push ob).objs.size = s.heap.objs.size + 1 := Heap.size_push ..
  have hT : Shared.TypeIs { s with heap := s.heap.push ob } (.ref s.heap.objs.size) "set" := ⟨_, hS, by rw [← hob]⟩
  refine ⟨hT, codeAny_call_builtin F.called_set.init.plain F.entry_set_init (check_set_init_1 hT ?_)⟩
  have no1 := F.sub_list_set
  have no2 := F.sub_list_frozenset
  have ne : (Value.type "list" == Value.type "dict") = false := by decide
  unfold Builtin.«set.__init__» noKeywords Builtin.Frozenset.updateFrom
  generalize hPI : pyIter = PI
  subst hob
  wp_walk
  subst hPI
  refine wpAny_pyIter_list hl1 ?_
  refine wpAny_bind (wpAny_runValue ?_)
  have fresh : ∀ (ob : Obj), s.heap.objs.size ∉ [(s.heap.push ob).objs.size, l] := fun ob => by
    rw [Heap.size_push]
    simp only [List.mem_cons, List.not_mem_nil, or_false, not_or]
    exact ⟨Nat.ne_of_lt (Nat.lt_succ_self _), Nat.ne_of_gt hlt⟩
  have neI : ∀ (ob : Obj), l ≠ (s.heap.push ob).objs.size := fun ob => by
    rw [Heap.size_push]
    exact Nat.ne_of_lt (Nat.lt_succ_of_lt hlt)
  have got : ∀ (i : Nat) (v : Value), its[i]? = some v → ∃ k t, ns[i]? = some k ∧ v = .int k t := fun i v hv => by
    have lt : i < ns.length := by rw [← hn]; exact (Array.getElem?_eq_some_iff.mp hv).1
    obtain ⟨t, e⟩ := PyProof.Rows.IntsAre.int_at hi i v (by rw [Array.getElem?_toList]; exact hv)
    exact ⟨ns[i], t, List.getElem?_eq_getElem lt, by rw [e, List.getD_eq_getElem?_getD, List.getElem?_eq_getElem lt]; rfl⟩
  have calm3 : A.in1.in1.in1.handled = none := by simp [hh]
  refine set_update_ints ((Walks.list calm3 _ l (neI _) its).toS) s.heap.objs.size (fresh _) ns hn hb got (its.size - 0) 0 _ (by omega) (Nat.zero_le _)
    ⟨⟨_, Heap.get?_push_size _ rfl, rfl, rfl⟩, (hl1.push _)⟩ ⟨0, Nat.le_refl 0, setR_new_at (Heap.get?_push_of_some _ hS)⟩ ?_
  intro s' c' hm hc' hS'
  obtain ⟨h', g2, d', tk', os'⟩ := s'
  have eg : g2 = s.gens := hm.gens
  have ed : d' = s.drawn := hm.drawn
  have eo : os' = s.os := hm.os
  subst eg ed eo
  refine wpAny_pure (wpAny_pure ⟨rfl, h h' tk' c' hS' (by omega) fun b o e => ?_⟩)
  have lt := Heap.lt_size e
  refine hm.heap b o ?_ (Heap.get?_push_of_some _ (Heap.get?_push_of_some _ e))
  rw [Heap.size_push]
  simp only [List.mem_cons, List.not_mem_nil, or_false, not_or]
  exact ⟨Nat.ne_of_lt lt, Nat.ne_of_lt (Nat.lt_succ_of_lt lt)⟩
end
end DLA
namespace DL
open PySem PySem.Spec PyProof.Rows L2
/-! ### sorted ints -/
def sortZ (ns : List Int) : List Int := ns.mergeSort (fun a b => decide (a ≤ b))
theorem sortZ_perm (ns : List Int) : (sortZ ns).Perm ns := List.mergeSort_perm _ _
theorem sortZ_le (ns : List Int) : (sortZ ns).Pairwise (· ≤ ·) := by
  have h := List.pairwise_mergeSort (le := fun a b : Int => decide (a ≤ b)) (fun a b c h1 h2 => by simp only [decide_eq_true_eq] at *; omega) (fun a b => by simp only [Bool.or_eq_true, decide_eq_true_eq]; omega) ns
  exact h.imp fun h => by simpa using h
theorem sorted_one : ∀ {xs ys : List Int}, xs.Perm ys → xs.Pairwise (· ≤ ·) → ys.Pairwise (· ≤ ·) → xs = ys
  | [], ys, p, _, _ => by rw [p.nil_eq]
  | x :: r, [], p, _, _ => by cases p.length_eq
  | x :: r, y :: s, p, h1, h2 => by
    have e : x = y := by
      have a : x ∈ y :: s := p.mem_iff.mp List.mem_cons_self
      have b : y ∈ x :: r := p.mem_iff.mpr List.mem_cons_self
      rcases List.mem_cons.mp a with a | a
      · exact a
      · rcases List.mem_cons.mp b with b | b
        · exact b.symm
        · have c1 := List.rel_of_pairwise_cons h2 a
          have c2 := List.rel_of_pairwise_cons h1 b
          omega
    subst e
    rw [sorted_one ((List.perm_cons _).mp p) h1.of_cons h2.of_cons]
theorem sortZ_of {xs ns : List Int} (p : xs.Perm ns) (h : xs.Pairwise (· ≤ ·)) : xs = sortZ ns := sorted_one (p.trans (sortZ_perm ns).symm) h (sortZ_le ns)
/-- each of them once, rising -/
def setZ (ns : List Int) : List Int := sortZ ns.eraseDups
theorem mem_setZ {ns : List Int} {k : Int} : k ∈ setZ ns ↔ k ∈ ns := by
  unfold setZ
  rw [(sortZ_perm _).mem_iff, List.mem_eraseDups]
theorem nodup_eraseDups (ns : List Int) : ns.eraseDups.Nodup := by
  induction h : ns.length using Nat.strongRecOn generalizing ns with
  | _ n ih =>
    cases ns with
    | nil => simp
    | cons a r =>
      rw [List.eraseDups_cons]
      refine List.nodup_cons.mpr ⟨?_, ?_⟩
      · rw [List.mem_eraseDups]
        simp
      · refine ih (r.filter fun b => !b == a).length ?_ _ rfl
        subst h
        have := List.length_filter_le (fun b => !b == a) r
        simp only [List.length_cons]
        omega
theorem setZ_lt (ns : List Int) : (setZ ns).Pairwise (· < ·) := by
  have h1 := sortZ_le ns.eraseDups
  have h2 : (setZ ns).Nodup := (sortZ_perm _).nodup_iff.mpr (nodup_eraseDups ns)
  unfold setZ at *
  refine (h1.and h2).imp fun ⟨a, b⟩ => ?_
  omega
theorem setZ_length_le (ns : List Int) : (setZ ns).length ≤ ns.length := by
  have h2 : (setZ ns).Nodup := (setZ_lt ns).imp fun h => by omega
  exact List.Nodup.length_le_of_subset h2 fun k hk => mem_setZ.mp hk
section
variable {X : Cx} {e e2 e3 : Expr} {ta tb tc : DE} {p p2 pos pos2 : Pos}
def bSorted : FB := fun ds st k => match ds with
  | [d] => match deref st d with
    | .lst xs => match intsD xs with
      | some ns => k (.lst ((sortZ ns).map D.int)) st
      | none => False
    | _ => False
  | _ => False
theorem sortZ_length (ns : List Int) : (sortZ ns).length = ns.length := (sortZ_perm ns).length_eq
theorem cb_sorted : CallR X (.builtin "sorted") (rDB X.K bSorted) := by
  refine CallR.by_ fun vs H Q w st ds kk W R q fo => ?_
  unfold bSorted at q
  split at q
  · obtain ⟨v, rfl, R1⟩ := one_rep R
    split at q
    · rename_i hd
      split at q
      · rename_i ns hb
        obtain ⟨a, us, rfl, q1, r1, n⟩ := rep_lst W R1 hd
        rw [intsD_eq hb] at r1
        rw [r1.ints] at q1 n
        refine ⟨_, cr_sortedI, a, ns, rfl, q1, fun ns' p h1 h2 hp => ?_⟩
        rw [sortZ_of h1 h2]
        refine fol_lst W (Reps.of_ints _) ?_ q fo p hp
        rw [List.length_map, sortZ_length]
        rw [List.length_map] at n
        exact n
      · exact q.elim
    · exact q.elim
  · exact q.elim
variable {st : Sto} {k : DK} {ns : List Int} {env : DL.Env}
theorem e_sortedL : bSorted [.lst (ns.map D.int)] st k = k (.lst ((sortZ ns).map D.int)) st := by simp only [bSorted, deref, intsD_map]
/-! ### divmod -/
theorem DivOk.plain {i j : Int} (h : DivOk j) : CDivP i j := by
  refine ⟨h.1, ?_⟩
  have h2 := h.2
  unfold Builtin.divisionGoesByPylong
  have e : ¬ (300 < if j = 0 then 0 else j.natAbs.log2 / 30 + 1) := by
    split <;> omega
  simp
  exact fun q => absurd q e
/-! ### what is taken backwards -/
end
end DL
namespace DLA
open PySem PySem.Spec PyProof.Rows L2
variable {X : Cx}
/-! ### lists of ranges with a step -/
end DLA
namespace DL
open PySem PySem.Spec PyProof.Rows L2
section
variable {X : Cx} {tg e e2 e3 : Expr} {ta tb tc : DE} {p p2 pos pos2 : Pos}
variable {env : DL.Env} {st : Sto} {k : DK} {kk : DIk} {i j c : Int} {xs : List D} {ns : List Int}
/-! ### list(range(..)) -/
theorem reps_range {K : PySem.W.Frag} {w : Wd} (a : Int) (n : Nat) : Reps K w (rangeD a n) ((List.range n).map fun i => V.int (a + (i : Nat))) := by
  have h := Reps.of_ints (K := K) (w := w) ((List.range n).map fun i => a + ((i : Nat) : Int))
  rw [List.map_map, List.map_map] at h
  exact h
def lr2K (k : DK) (d : D) : DK := fun e s2 => match d, e with
  | .int i, .int j => RgOk i j ∧ k (.lst (rangeD i (j - i).toNat)) s2
  | _, _ => False
def dLR2 (t u : DE) : DE := fun env st k => t env st fun d s1 => u env s1 (lr2K k d)
theorem pd_listR2 (hc : X.calm = true) (hm : X.mg "list" = none) (hm2 : X.mg "range" = none) (ha : PD X e ta) (hb : PD X e2 tb) (hg : Gl X "list" := by rfl) (hg2 : Gl X "range" := by rfl) (na : starEach [e, e2] X.env = (false, eval e X.env) :: starEach [e2] X.env := by rfl)
    (na2 : starEach [e2] X.env = (false, eval e2 X.env) :: starEach [] X.env := by rfl) (hp : (backTo pos2 (starEach [e2] X.env)).any (·.1) = false := by rfl)
    (nb : starEach [.Call (.Name "range" p2) [e, e2] [] pos2] X.env = (false, eval (.Call (.Name "range" p2) [e, e2] [] pos2) X.env) :: starEach [] X.env := by rfl) : PD X (.Call (.Name "list" p) [.Call (.Name "range" p2) [e, e2] [] pos2] [] pos) (dLR2 ta tb) := by
  refine (pe_listRg hc hg hm (prg_2 hg2 hm2 ha hb na na2 hp) nb).wk fun σ H Q ⟨w, env, st, kk, W, E, h, fo⟩ => ?_
  refine ⟨w, env, st, _, W, E, h, fun d st1 v w1 H1 h1 l1 W1 R1 => ⟨w1, env, st1, _, W1, E.mono l1, h1, fun e' st2 u w2 H2 h2 l2 W2 R2 => ?_⟩⟩
  unfold lr2K at h2
  split at h2
  · rename_i i j
    simp only [Rep] at R1 R2
    subst R1 R2
    refine ⟨i, j, rfl, rfl, h2.1, fol_lst W2 (reps_range i (j - i).toNat) ?_ h2.2 (fo.le (l1.trans l2))⟩
    rw [rgV_length]
    exact line16 (by have := h2.1.2.2.2.2; omega)
  · exact h2.elim
theorem e_lr2 : dLR2 ta tb env st k = ta env st fun d s1 => tb env s1 (lr2K k d) := rfl
theorem e_lr2K : lr2K k (.int i) (.int j) st = (RgOk i j ∧ k (.lst (rangeD i (j - i).toNat)) st) := rfl
/-! ### reversed(range(n)) -/
/-! ### sorted(set(xs)), len(set(xs)) of a list of ints -/
def rSetL (K : PySem.W.Frag) (w : World) : List V → Hp → VK → Prop := fun vs H Q => ∃ (a : Addr) (ns : List Int), vs = [V.ref a] ∧ SqL K H a (ns.map V.int) ∧ ns.length + 1 < scanBound ∧
  ∀ p, H p = none → Q (.ref p) (upd H p (SetO w p (fun j => decide (j ∈ ns)) (setZ ns).length))
theorem cr_setL (hc : X.calm = true) : CallR X (.type "set") (rSetL X.K X.w) := by
  intro pins s σ H vs us Q I r h
  obtain ⟨a, ns, rfl, hs, hb, q⟩ := h
  obtain ⟨its, rv, hl, hz⟩ := I.list hs
  rw [Vals.ref1 r]
  refine DLA.set_ofList ns (I.ok.hd hc) hl.isList (by simpa using rv.ints) hb fun h' tk c hS hc' hk => ?_
  have ec : c = (setZ ns).length := by
    obtain ⟨o, es, ep, t, _, _, _, _, nd, hm, _, _, en, _⟩ := hS
    have h2 : (setZ ns).Nodup := (setZ_lt ns).imp fun h => by omega
    have e1 : (es.toList.map keyOf).length = c := by rw [List.length_map, Array.length_toList, en]
    have l1 := List.Nodup.length_le_of_subset h2 (l₂ := es.toList.map keyOf) fun k hk => (hm k).mp (by rw [decide_eq_true_eq]; exact mem_setZ.mp hk)
    have l2 := List.Nodup.length_le_of_subset nd (l₂ := setZ ns) fun k hk => mem_setZ.mpr (by have := (hm k).mpr hk; rwa [decide_eq_true_eq] at this)
    omega
  subst ec
  exact ⟨.ref _, _, I.laid (t' := tk) (o := SetO X.w s.heap.objs.size (fun j => decide (j ∈ ns)) (setZ ns).length) hk (Nat.le_refl _) (setO_new hS), rfl, q _ (I.hok.fresh (Nat.le_refl _))⟩
end
end DL

/-! Loops by an invariant, comprehensions by what each turn tells, the tape of draws. -/
namespace DL
open PySem PySem.Spec PyProof.Rows L2
theorem set_same {st : Sto} {i : Nat} {xs : List D} (h : st[i]? = some xs) : st.set i xs = st := by
  obtain ⟨hi, e⟩ := List.getElem?_eq_some_iff.mp h
  rw [← e]
  exact List.set_getElem_self ..
def Tape (n : Nat) (xs : List D) : Prop := ∃ a b c : Int, xs = [.int a, .int b, .int c] ∧ 0 ≤ b ∧ b < 4611686018427387904 ∧ 0 ≤ c ∧ c ≤ n
def Tp (i n : Nat) (st : Sto) : Prop := ∃ xs, st[i]? = some xs ∧ Tape n xs
theorem Tp.mono {i n m : Nat} {st : Sto} (h : Tp i n st) (l : n ≤ m) : Tp i m st := by
  obtain ⟨xs, e, a, b, c, r, h1, h2, h3, h4⟩ := h
  exact ⟨xs, e, a, b, c, r, h1, h2, h3, by omega⟩
theorem Tp.app {i n : Nat} {st : Sto} (h : Tp i n st) (ys : Sto) : Tp i n (st ++ ys) := by
  obtain ⟨xs, e, t⟩ := h
  exact ⟨xs, by rw [List.getElem?_append_left (List.getElem?_eq_some_iff.mp e).1]; exact e, t⟩
theorem Tp.set {i n j : Nat} {st : Sto} (h : Tp i n st) (ys : List D) (ne : j ≠ i) : Tp i n (st.set j ys) := by
  obtain ⟨xs, e, t⟩ := h
  exact ⟨xs, by rw [List.getElem?_set_ne ne]; exact e, t⟩
theorem Tp.lt {i n : Nat} {st : Sto} (h : Tp i n st) : i < st.length := by
  obtain ⟨xs, e, _⟩ := h
  exact (List.getElem?_eq_some_iff.mp e).1
theorem Tp.same {i n : Nat} {st : Sto} (h : Tp i n st) : ∃ xs, st.set i xs = st := by
  obtain ⟨xs, e, _⟩ := h
  exact ⟨xs, set_same e⟩
section
variable {α β : Type} {src : List (Nat × List D)} {g : DG} {b : DS} {e : DE} {tt : DT} {own : List Nat} {env : DL.Env} {kk : DL.Env → Sto → Prop} {rt : DK} {k : List D → Sto → Prop}
/-- a loop by an invariant over what is left -/
theorem go_for (f : α → D) (I : List α → DL.Env → Sto → Prop)
    (step : ∀ x r env st (nx : DL.Env → Sto → Prop), I (x :: r) env st → (∀ e s, I r e s → nx e s) → SrcOk src st ∧ g (f x) env st fun e s => b ⟨nx, rt⟩ e s)
    (done : ∀ env st, I [] env st → SrcOk src st ∧ kk env st) : ∀ xs env st, I xs env st → goFor src g b ⟨kk, rt⟩ (xs.map f) env st
  | [], env, st, h => done env st h
  | x :: r, env, st, h => step x r env st _ h fun e s q => go_for f I step done r e s q
/-- a loop over 0, 1, .. by an invariant -/
theorem go_range (n : Nat) (I : Nat → DL.Env → Sto → Prop)
    (step : ∀ j env st (nx : DL.Env → Sto → Prop), j < n → I j env st → (∀ e s, I (j + 1) e s → nx e s) → SrcOk src st ∧ g (.int (j : Nat)) env st fun e s => b ⟨nx, rt⟩ e s)
    (done : ∀ env st, I n env st → SrcOk src st ∧ kk env st) (env : DL.Env) (st : Sto) (h : I 0 env st) : goFor src g b ⟨kk, rt⟩ (rangeD 0 n) env st := by
  have e : rangeD 0 n = (List.range n).map fun i => D.int (i : Nat) := by
    unfold rangeD
    refine List.map_congr_left fun x _ => ?_
    rw [Int.zero_add]
  rw [e]
  refine go_for (fun i : Nat => D.int (i : Nat)) (fun r env st => ∃ j, r = (List.range n).drop j ∧ j ≤ n ∧ I j env st) ?_ ?_ _ env st ⟨0, rfl, Nat.zero_le _, h⟩
  · rintro x r env st nx ⟨j, hr, hj, hI⟩ q
    have lt : j < n := by
      apply Nat.lt_of_not_le
      intro z
      rw [List.drop_eq_nil_of_le (by rw [List.length_range]; exact z)] at hr
      cases hr
    have hd := List.drop_eq_getElem_cons (l := List.range n) (i := j) (by rw [List.length_range]; exact lt)
    rw [hd] at hr
    injection hr with h1 h2
    rw [List.getElem_range] at h1
    subst h1
    exact step x env st nx lt hI fun e s hi => q e s ⟨x + 1, h2, lt, hi⟩
  · rintro env st ⟨j, hr, hj, hI⟩
    have : j = n := by
      have := congrArg List.length hr
      rw [List.length_nil, List.length_drop, List.length_range] at this
      omega
    subst this
    exact done env st hI
/-- each turn tells one thing, the store stays -/
theorem lc_eachD (st : Sto) (hs : SrcOk src st) : ∀ (xs ys acc : List D), xs.length = ys.length → (∀ x y, (x, y) ∈ xs.zip ys → ∀ kd : DK, kd y st → g x (wipeE env own) st fun e1 s1 => e e1 s1 kd) → k (acc ++ ys) st → goLc src g dYes e own env k xs acc st
  | [], [], acc, _, _, h => ⟨hs, by simpa using h⟩
  | [], _ :: _, _, q, _, _ => by cases q
  | _ :: _, [], _, q, _, _ => by cases q
  | x :: xs, y :: ys, acc, q, f, h => by
    refine ⟨hs, ?_⟩
    refine f x y (by simp) (fun d s2 => goLc src g dYes e own env k xs (acc ++ [d]) s2) ?_
    refine lc_eachD st hs xs ys (acc ++ [y]) (by simpa using q) (fun a b m => f a b (by simp [m])) ?_
    rw [List.append_assoc]
    exact h
theorem lc_map (f h : α → D) (xs : List α) (st : Sto) (hs : SrcOk src st) (acc : List D) (step : ∀ x ∈ xs, ∀ kd : DK, kd (h x) st → g (f x) (wipeE env own) st fun e1 s1 => e e1 s1 kd) (q : k (acc ++ xs.map h) st) : goLc src g dYes e own env k (xs.map f) acc st := by
  refine lc_eachD st hs _ _ _ (by rw [List.length_map, List.length_map]) (fun x y m kd hk => ?_) q
  rw [List.zip_map'] at m
  obtain ⟨a, ha, e⟩ := List.mem_map.mp m
  cases e
  exact step a ha kd hk
theorem lc_filter (f h : α → D) (p : α → Bool) (st : Sto) (hs : SrcOk src st) : ∀ (xs : List α) (acc : List D), (∀ x ∈ xs, ∀ (k1 : DK) (k2 : Sto → Prop), (p x = true → k1 (h x) st) → (p x = false → k2 st) → g (f x) (wipeE env own) st fun e1 s1 => tt e1 s1 fun b s2 => if b = true then e e1 s2 k1 else k2 s2) →
    k (acc ++ (xs.filter p).map h) st → goLc src g tt e own env k (xs.map f) acc st
  | [], acc, _, q => ⟨hs, by simpa using q⟩
  | x :: xs, acc, step, q => by
    refine ⟨hs, ?_⟩
    refine step x List.mem_cons_self (fun d s2 => goLc src g tt e own env k (xs.map f) (acc ++ [d]) s2) (fun s2 => goLc src g tt e own env k (xs.map f) acc s2) (fun hp => ?_) (fun hp => ?_)
    · refine lc_filter f h p st hs xs _ (fun y hy => step y (List.mem_cons_of_mem _ hy)) ?_
      rw [List.filter_cons, if_pos hp, List.map_cons] at q
      rw [List.append_assoc]
      exact q
    · refine lc_filter f h p st hs xs _ (fun y hy => step y (List.mem_cons_of_mem _ hy)) ?_
      rw [List.filter_cons, if_neg (by simp [hp])] at q
      exact q
/-- each turn draws -/
theorem lc_draws (f : α → D) (P : α → Prop) (i c B : Nat) (step : ∀ x n st (kd : DK), Tp i n st → n < B → (∀ a ys, P a → Tp i (n + c) (st.set i ys) → kd (f a) (st.set i ys)) → g x (wipeE env own) st fun e1 s1 => e e1 s1 kd) :
    ∀ (xs : List D) (n : Nat) (st : Sto) (acc : List D), Tp i n st → n + c * xs.length < B →
    (∀ (as : List α) ys, as.length = xs.length → (∀ a ∈ as, P a) → Tp i (n + c * xs.length) (st.set i ys) → k (acc ++ as.map f) (st.set i ys)) → goLc [] g dYes e own env k xs acc st
  | [], n, st, acc, ht, _, h => by
    obtain ⟨xs, hx, hT⟩ := id ht
    have q := set_same hx
    refine ⟨trivial, ?_⟩
    have := h [] xs rfl (fun _ m => by cases m) (by rw [q]; exact ht)
    rw [q] at this
    simpa using this
  | x :: r, n, st, acc, ht, hn, h => by
    simp only [List.length_cons, Nat.mul_add] at hn
    refine ⟨trivial, ?_⟩
    refine step x n st (fun d s2 => goLc [] g dYes e own env k r (acc ++ [d]) s2) ht (by omega) fun a ys ha t => ?_
    refine lc_draws f P i c B step r (n + c) _ _ t (by omega) fun as zs hl hp t' => ?_
    rw [List.set_set] at t' ⊢
    rw [List.append_assoc]
    refine h (a :: as) zs (by simp [hl]) (fun y hy => ?_) (t'.mono ?_)
    · rcases List.mem_cons.mp hy with rfl | hy
      · exact ha
      · exact hp y hy
    · rw [List.length_cons, Nat.mul_add]
      omega
end
end DL

/-! The plain law of a balance: falls, runs, what stays. No program in sight. -/
namespace DL
open PySem
def sd (s : Int) : Str := if s < 0 then "left" else "right"
def foldR (r : Int × Int) (w : Int) : Int × Int :=
  if r.1 < 2 * w ∧ 2 * w < r.2 then (1, if r.2 - 2 * w > 2 * w - r.1 then r.2 - 2 * w else 2 * w - r.1)
  else if r.2 < 2 * w then (2 * w - r.2, 2 * w - r.1) else (r.1 - 2 * w, r.2 - 2 * w)
def foldsR : Int × Int → List Int → Int × Int
  | r, [] => r
  | r, w :: ws => foldsR (foldR r w) ws
def OkRun (r : Int × Int) : Prop := 1 ≤ r.1 ∧ r.1 ≤ r.2 ∧ r.1 % 2 = 1 ∧ r.2 % 2 = 1
def wholeR : Int × Int → List Int → Bool
  | _, [] => true
  | r, w :: ws => if r.1 < 2 * w ∧ 2 * w < r.2 then false else wholeR (foldR r w) ws
def MaxOf (m : Int) (ws : List Int) : Prop := m ∈ ws ∧ ∀ y ∈ ws, y ≤ m
theorem MaxOf.eq {m m' : Int} {ws : List Int} (h : MaxOf m ws) (h1 : m' ∈ ws) (h2 : ∀ y, y ∈ ws → y ≤ m') : m' = m := by
  have a1 := h.2 _ h1
  have a2 := h2 _ h.1
  omega
theorem MaxOf.pos {m : Int} {ws : List Int} (h : MaxOf m ws) : 0 < ws.length := List.length_pos_of_mem h.1
def spotR (r : Int × Int) : Int := (r.2 - r.1) / 2 + 1
def halvR (r : Int × Int) : Int := (r.1 - 1) / 2 + spotR r / 2
def ResetC : Int × Int → List Int → Prop
  | r, [] => ¬ 1 < spotR r
  | r, h :: hs => 1 < spotR r ∧ h = halvR r ∧ ResetC (foldR r h) hs
instance decReset : ∀ (hs : List Int) (r : Int × Int), Decidable (ResetC r hs)
  | [], r => inferInstanceAs (Decidable (¬ 1 < spotR r))
  | h :: hs, r => by
    have := decReset hs (foldR r h)
    exact inferInstanceAs (Decidable (1 < spotR r ∧ h = halvR r ∧ ResetC (foldR r h) hs))
/-! ### sizes, runs -/
def sz (s : Int) : Int := if s < 0 then -s else s
def Sub (r q : Int × Int) : Prop := q.1 ≤ r.1 ∧ r.2 ≤ q.2
theorem fold_ok {r : Int × Int} (h : OkRun r) (w : Int) : OkRun (foldR r w) := by
  obtain ⟨h1, h2, h3, h4⟩ := h
  unfold foldR
  split
  · refine ⟨?_, ?_, ?_, ?_⟩ <;> dsimp only
    · omega
    · split <;> omega
    · decide
    · split <;> omega
  · split
    · refine ⟨?_, ?_, ?_, ?_⟩ <;> (try dsimp only) <;> omega
    · refine ⟨?_, ?_, ?_, ?_⟩ <;> (try dsimp only) <;> omega
def WOk (m : Int) (ws : List Int) : Prop := MaxOf m ws ∧ ∀ w ∈ ws, 1 ≤ w
theorem WOk.all {m : Int} {ws : List Int} (h : WOk m ws) : ∀ w ∈ ws, 1 ≤ w ∧ w ≤ m := fun w hw => ⟨h.2 w hw, h.1.2 w hw⟩
theorem WOk.one {m : Int} {ws : List Int} (h : WOk m ws) : 1 ≤ m := h.2 m h.1.1
/-- a fold never makes more spots; fewer, where it parts -/
theorem spot_fold {r : Int × Int} (h : OkRun r) (w : Int) : spotR (foldR r w) ≤ spotR r ∧ (r.1 < 2 * w ∧ 2 * w < r.2 → spotR (foldR r w) < spotR r) := by
  obtain ⟨h1, h2, h3, h4⟩ := h
  unfold foldR spotR
  constructor
  · split
    · dsimp only
      split <;> omega
    · split <;> dsimp only <;> omega
  · intro p
    rw [if_pos p]
    dsimp only
    split <;> omega
theorem spot_folds : ∀ (ws : List Int) {r : Int × Int}, OkRun r → spotR (foldsR r ws) ≤ spotR r
  | [], _, _ => Int.le_refl _
  | w :: ws, _, h => Int.le_trans (spot_folds ws (fold_ok h w)) (spot_fold h w).1
theorem whole_of : ∀ (ws : List Int) {r : Int × Int}, OkRun r → spotR (foldsR r ws) = spotR r → wholeR r ws = true
  | [], _, _, _ => rfl
  | w :: ws, r, h, e => by
    have a := spot_folds ws (fold_ok h w)
    have b := spot_fold h w
    simp only [foldsR] at e
    unfold wholeR
    by_cases p : r.1 < 2 * w ∧ 2 * w < r.2
    · have := b.2 p
      omega
    · rw [if_neg p]
      exact whole_of ws (fold_ok h w) (by omega)
/-! ### rounds -/
/-- the run that stays -/
structure Stays (ws : List Int) (T : Int × Int) : Prop where
  ok : OkRun T
  fix : foldsR T ws = T
theorem Stays.whole {ws : List Int} {T : Int × Int} (h : Stays ws T) : wholeR T ws = true := whole_of ws h.ok (by rw [h.fix])
/-! ### far off -/
/-! ### pounds -/
/-! ### the sizes of a run, one by one -/
end DL

/-! x in xs, x not in xs: lists and tuples of data of any depth. -/
namespace DL
open PySem PySem.Spec PyProof.Rows L2
def inD (d : D) (ys : List D) : Bool := ys.any fun z => eqD z d
def inK (neg : Bool) (x : D) (ys : List D) (st : Sto) (k : DK) : Prop := okD 60 x = true ∧ okDs 59 ys = true ∧ k (.bl (if neg = true then !inD x ys else inD x ys)) st
def inOp (neg : Bool) : F2 := fun d e st k => match deref st e with
  | .lst ys => inK neg (deref st d) ys st k
  | .tup ys => inK neg (deref st d) ys st k
  | _ => False
theorem any_toPs {n m : Nat} {d : D} (h : okD n d = true) : ∀ (ys : List D), okDs m ys = true → ((toPs ys).any fun z => PyData.eqv z (toP d)) = inD d ys
  | [], _ => by simp [toPs, inD]
  | y :: ys, g => by
    simp only [okDs, Bool.and_eq_true] at g
    have ih := any_toPs h ys g.2
    unfold inD at ih ⊢
    simp only [toPs, List.any_cons]
    rw [eqv_toP m n y d g.1 h, ih]
section
variable {X : Cx}
theorem in_room {A : Around} {d : D} {n : Nat} (h : okD n d = true) (hn : n ≤ 60) (hu : A.units + 64 < cLine) (xs : List PyData) : A.units + 1 + min (PyData.depthAll xs) (toP d).depth < cLine := by
  have := (shape_toP n d h).2
  have := Nat.min_le_right (PyData.depthAll xs) (toP d).depth
  omega
theorem dop_notin (hu : X.A.units + 64 < cLine) : OpR X (compareOp .NotIn) (rD X.K (inOp true)) := by
  intro pins s σ H x y v u Q I rx ry ⟨w, st, d, e, kk, W, R1, R2, q, fo⟩
  unfold inOp at q
  split at q
  · rename_i ys hd
    obtain ⟨h1, h2, q⟩ := q
    obtain ⟨as, r1⟩ := Dp.reads I _ x v (dp_deref W R1 h1) rx
    have ok2 : okD 60 (deref st e) = true := by rw [hd]; exact h2
    have hp := dp_deref W R2 ok2
    rw [hd] at hp
    obtain ⟨bs, r2⟩ := Dp.reads I _ y u hp ry
    refine SeqAt.notIn_list_reads r2 r1 (shape_toPs 59 ys h2).1 (shape_toP 60 _ h1).1 (in_room h1 (Nat.le_refl _) hu _) ⟨.bl _, H, I, rfl, ?_⟩
    rw [any_toPs h1 ys h2]
    exact fo.id q W rep_bl
  · rename_i ys hd
    obtain ⟨h1, h2, q⟩ := q
    obtain ⟨as, r1⟩ := Dp.reads I _ x v (dp_deref W R1 h1) rx
    have ok2 : okD 60 (deref st e) = true := by rw [hd]; exact h2
    have hp := dp_deref W R2 ok2
    rw [hd] at hp
    obtain ⟨bs, r2⟩ := Dp.reads I _ y u hp ry
    refine SeqAt.notIn_tuple_reads r2 r1 (shape_toPs 59 ys h2).1 (shape_toP 60 _ h1).1 (in_room h1 (Nat.le_refl _) hu _) ⟨.bl _, H, I, rfl, ?_⟩
    rw [any_toPs h1 ys h2]
    exact fo.id q W rep_bl
  · exact q.elim
variable {neg : Bool} {d : D} {ys : List D} {st : Sto} {k : DK} {i : Nat}
theorem e_inL : inOp neg d (.lst ys) st k = inK neg (deref st d) ys st k := rfl
theorem e_inKL : inOp neg d (.klst ys) st k = inK neg (deref st d) ys st k := rfl
theorem e_inT : inOp neg d (.tup ys) st k = inK neg (deref st d) ys st k := rfl
theorem e_inFlat : inK neg d ys st k = (okD 60 d = true ∧ okDs 59 ys = true ∧ k (.bl (if neg = true then !inD d ys else inD d ys)) st) := rfl
theorem e_drK : deref st (.klst ys) = .lst ys := rfl
end
section
variable {X : Cx} {es : List Expr} {pos : Pos}
/-- a list taken apart into names -/
def dgUnl (n : Nat) (g : DGs) : DG := fun d env st k => match deref st d with
  | .lst xs => xs.length = n ∧ g xs env st k
  | _ => False
theorem pdg_unl {kk : Nat} {t : DGs} {n : Nat} (hc : X.calm = true) (h : PDGs X es t)
    (hn : (assignEach es X.env).length = n := by rfl) (hst : (assignEach es X.env).findIdx? (·.1) = none := by rfl) : PDG X (.Tuple es kk pos) (dgUnl n t) := by
  refine L2.PG.wk (pg_unl hc h hn hst) fun v σ H Q ⟨w, env, st, d, nx, W, E, R, h, fn⟩ => ?_
  unfold dgUnl at h
  split at h
  · rename_i xs e
    obtain ⟨a, vs, rfl, q, r, _⟩ := rep_lst W R e
    exact ⟨a, vs, rfl, q, by rw [r.length]; exact h.1, w, env, st, xs, nx, W, E, r, h.2, fn⟩
  · exact h.elim
variable {n : Nat} {g : DGs} {xs : List D} {env : DL.Env} {st : Sto} {k : DL.Env → Sto → Prop} {i : Nat}
theorem e_unlL : dgUnl n g (.lst xs) env st k = (xs.length = n ∧ g xs env st k) := rfl
end
theorem all_true {α : Type} (xs : List α) (st : Sto) (k : DK) : bAll [.lst (xs.map fun _ => D.bl true)] st k = k (.bl true) st := by
  have e : ∀ xs : List α, blsD (xs.map fun _ => D.bl true) = some (xs.map fun _ => true) := by
    intro xs
    induction xs with
    | nil => rfl
    | cons x r ih =>
      show (blsD (r.map fun _ => D.bl true)).map (true :: ·) = _
      rw [ih]
      rfl
  have a : (xs.map fun _ => true).all id = true := by simp
  show (match deref st (.lst (xs.map fun _ => D.bl true)) with
    | .lst xs => match blsD xs with
      | some bs => k (.bl (bs.all id)) st
      | none => False
    | _ => False) = _
  show (match blsD (xs.map fun _ => D.bl true) with
      | some bs => k (.bl (bs.all id)) st
      | none => False) = _
  rw [e xs]
  show k (.bl ((xs.map fun _ => true).all id)) st = _
  rw [a]
end DL

/-! len(set(xs)), xs a list of tuples of ints. -/
namespace DL
open PySem PySem.Spec PyProof.Rows L2
section
variable {X : Cx}
variable {e : Expr} {ta : DE} {p p2 pos2 pos : Pos}
end
end DL

namespace DL
open PySem PySem.Spec PyProof.Rows L2

/-! ### a Hook with looks of one's own beside the head's facts -/
abbrev AlX : Type := Bool × He.AlD
def obsX (ex : List (PySem.W.Frag → Bool)) (fa : List He.Fa) (fn : List He.DefD) (K : PySem.W.Frag) : AlX := (ex.all fun g => g K, He.obsD fa fn K)
def valX (fn : List He.DefD) : AlX := (true, He.valD fn)
def SaysX (ex : List (PySem.W.Frag → Bool)) (fa : List He.Fa) (fn : List He.DefD) (K : PySem.W.Frag) : Prop := obsX ex fa fn K = valX fn
def obsXG (n : Nat) (ex : List (PySem.W.Frag → Bool)) (fa : List He.Fa) (fn : List He.DefD) (g : Addr → Option Obj) : AlX := obsX ex fa fn (He.frG g (He.asD g n))
def hookX (n : Nat) (ex : List (PySem.W.Frag → Bool)) (fa : List He.Fa) (fn : List He.DefD) : PySem.W.Hook where
  α := AlX
  obs := fun s => obsXG n ex fa fn s.heap.get?
  val := fun _ => valX fn
  says := fun _ h => ∃ K : PySem.W.Frag, K.In h ∧ SaysX ex fa fn K
  of := fun _ _ e => ⟨_, He.frG_in, e⟩
  keeps := fun _ _ _ ⟨K, inK, c⟩ kp => ⟨K, PySem.W.Frag.In.keeps inK kp, c⟩
theorem obsXG_eq {n : Nat} {ex : List (PySem.W.Frag → Bool)} {fa : List He.Fa} {fn : List He.DefD} {g : Addr → Option Obj} {s : Shared} (h : ∀ a, g a = s.heap.get? a) : obsXG n ex fa fn g = (hookX n ex fa fn).obs s := by
  rw [show g = s.heap.get? from funext h]
  rfl
section
variable {ex : List (PySem.W.Frag → Bool)} {fa : List He.Fa} {fn : List He.DefD} {K : PySem.W.Frag}
theorem SaysX.d (c : SaysX ex fa fn K) : He.SaysD fa fn K := congrArg (fun z : AlX => z.2) c
theorem SaysX.own (c : SaysX ex fa fn K) (i : Nat) {g : PySem.W.Frag → Bool} (h : ex[i]? = some g := by rfl) : g K = true := by
  have c1 : (ex.all fun g => g K) = true := congrArg (fun z : AlX => z.1) c
  exact List.all_eq_true.mp c1 g (List.mem_of_getElem? h)
end

/-! ### a tuple of the module's head -/
section
variable {X : Cx} {x : Str} {pos : Pos} {ds : List D}
end

/-! ### repr -/
section
variable {X : Cx}
end
/-! ### signs of a text that is shown are signs -/
section
variable {st : Sto} {k : DK} {xs : List D}
end
end DL

/-! enumerate(tuple, s0) -/
namespace DL
open PySem PySem.Spec PyProof.Rows L2
section
variable {K : PySem.W.Frag} {w : Wd} {st : Sto}
end
section
variable {X : Cx} {e : Expr} {ta : DE} {p pos : Pos}
end
end DL

/-! DLI: dicts of the store. -/
namespace DL
open PySem PySem.Spec PyProof.Rows L2
/-- a key, whatever the dict's kind -/
def ky (t : Bool) (d : D) : Option (List Key) := if t = true then tkeyD d else (keyD d).map fun k => [k]
def valR (t : Bool) : List D → D → Option D
  | .tup [k', d] :: r, k => if ky t k' = ky t k then some d else valR t r k
  | _, _ => none
def setR (t : Bool) (k d : D) : D → D
  | .tup [k', d'] => if ky t k' = ky t k then .tup [k', d] else .tup [k', d']
  | x => x
theorem setR_row {t : Bool} {k d k' d' : D} : setR t k d (.tup [k', d']) = if ky t k' = ky t k then .tup [k', d] else .tup [k', d'] := rfl
def putR (t : Bool) (rows : List D) (k d : D) : List D :=
  if (valR t rows k).isSome = true then rows.map (setR t k d) else rows ++ [.tup [k, d]]
def dicOf (st : Sto) : D → Option (Bool × List D)
  | .dic (.b t) i => (st[i]?).map fun xs => (t, xs)
  | .fdic (.b t) rows => some (t, rows)
  | _ => none
section
variable {K : PySem.W.Frag} {w : Wd} {st : Sto} {H : Hp}
def OptR (K : PySem.W.Frag) (w : Wd) : Option D → Option V → Prop
  | some d, some v => Rep K w d v
  | none, none => True
  | _, _ => False
theorem key_rep {d : D} {v : V} {q : Key} (R : Rep K w d v) (h : keyD d = some q) : v = kV q := by
  cases d with
  | int i => cases h; simp only [Rep] at R; subst R; rfl
  | str i => cases h; simp only [Rep] at R; subst R; rfl
  | _ => cases h
theorem keys_rep : ∀ {ds : List D} {vs : List V} {qs : List Key}, Reps K w ds vs → keysD ds = some qs → vs = qs.map kV
  | [], vs, qs, R, h => by
    cases h
    exact R.inv0
  | d :: r, vs, qs, R, h => by
    obtain ⟨v, u, rfl, R1, R2⟩ := R.inv
    unfold keysD at h
    cases h1 : keyD d with
    | none => rw [h1] at h; cases h
    | some y =>
      cases h2 : keysD r with
      | none => rw [h1, h2] at h; cases h
      | some zs =>
        rw [h1, h2] at h
        cases h
        rw [key_rep R1 h1, keys_rep R2 h2]
        rfl
theorem tkey_rep {d : D} {v : V} {q : List Key} (R : Rep K w d v) (h : tkeyD d = some q) : ∃ b, v = .ref b ∧ w.G b = some (.tup (q.map kV)) := by
  cases d with
  | tup xs =>
    simp only [Rep] at R
    obtain ⟨a, vs, rfl, g, r⟩ := R
    rw [keys_rep r h] at g
    exact ⟨a, rfl, g⟩
  | _ => cases h
theorem rowsK_val {k : D} {q : Key} (hk : keyD k = some q) : ∀ {rows : List D} {kvs : List (Key × V)}, RowsK K w rows kvs → OptR K w (valR false rows k) (valV kvs q)
  | [], kvs, h => by
    simp only [RowsK] at h
    subst h
    trivial
  | .tup [k', d] :: r, kvs, h => by
    simp only [RowsK] at h
    obtain ⟨y, v, s, rfl, h1, h2, h3⟩ := h
    unfold valR
    have e : (ky false k' = ky false k) ↔ y = q := by
      unfold ky
      rw [if_neg (by decide), if_neg (by decide), h1, hk]
      simp
    by_cases z : y = q
    · rw [if_pos (e.mpr z), valV_pos z]
      exact h2
    · rw [if_neg (fun x => z (e.mp x)), valV_neg z]
      exact rowsK_val hk h3
  | .tup [] :: _, _, h => by simp only [RowsK] at h
  | .tup [_] :: _, _, h => by simp only [RowsK] at h
  | .tup (_ :: _ :: _ :: _) :: _, _, h => by simp only [RowsK] at h
  | .non :: _, _, h => by simp only [RowsK] at h
  | .bl _ :: _, _, h => by simp only [RowsK] at h
  | .int _ :: _, _, h => by simp only [RowsK] at h
  | .str _ :: _, _, h => by simp only [RowsK] at h
  | .lst _ :: _, _, h => by simp only [RowsK] at h
  | .klst _ :: _, _, h => by simp only [RowsK] at h
  | .obj _ :: _, _, h => by simp only [RowsK] at h
  | .dic _ _ :: _, _, h => by simp only [RowsK] at h
  | .fdic _ _ :: _, _, h => by simp only [RowsK] at h
  | .gtup _ :: _, _, h => by simp only [RowsK] at h
theorem rowsT_val {k : D} {q : List Key} (hk : tkeyD k = some q) : ∀ {rows : List D} {kvs : List (List Key × V)}, RowsT K w rows kvs → OptR K w (valR true rows k) (valV kvs q)
  | [], kvs, h => by
    simp only [RowsT] at h
    subst h
    trivial
  | .tup [k', d] :: r, kvs, h => by
    simp only [RowsT] at h
    obtain ⟨y, v, s, rfl, h1, h2, h3⟩ := h
    unfold valR
    have e : (ky true k' = ky true k) ↔ y = q := by
      unfold ky
      rw [if_pos rfl, if_pos rfl, h1, hk]
      simp
    by_cases z : y = q
    · rw [if_pos (e.mpr z), valV_pos z]
      exact h2
    · rw [if_neg (fun x => z (e.mp x)), valV_neg z]
      exact rowsT_val hk h3
  | .tup [] :: _, _, h => by simp only [RowsT] at h
  | .tup [_] :: _, _, h => by simp only [RowsT] at h
  | .tup (_ :: _ :: _ :: _) :: _, _, h => by simp only [RowsT] at h
  | .non :: _, _, h => by simp only [RowsT] at h
  | .bl _ :: _, _, h => by simp only [RowsT] at h
  | .int _ :: _, _, h => by simp only [RowsT] at h
  | .str _ :: _, _, h => by simp only [RowsT] at h
  | .lst _ :: _, _, h => by simp only [RowsT] at h
  | .klst _ :: _, _, h => by simp only [RowsT] at h
  | .obj _ :: _, _, h => by simp only [RowsT] at h
  | .dic _ _ :: _, _, h => by simp only [RowsT] at h
  | .fdic _ _ :: _, _, h => by simp only [RowsT] at h
  | .gtup _ :: _, _, h => by simp only [RowsT] at h
theorem rowsK_map {k d : D} {q : Key} {v : V} (hk : keyD k = some q) (R : Rep K w d v) : ∀ {rows : List D} {kvs : List (Key × V)}, RowsK K w rows kvs → RowsK K w (rows.map (setR false k d)) (kvs.map fun kv => if kv.1 = q then (kv.1, v) else kv)
  | [], kvs, h => by
    simp only [RowsK] at h
    subst h
    simp only [List.map_nil, RowsK]
  | .tup [k', d'] :: r, kvs, h => by
    simp only [RowsK] at h
    obtain ⟨y, u, s, rfl, h1, h2, h3⟩ := h
    have e : (ky false k' = ky false k) ↔ y = q := by
      unfold ky
      rw [if_neg (by decide), if_neg (by decide), h1, hk]
      simp
    rw [List.map_cons, List.map_cons, setR_row]
    by_cases z : y = q
    · rw [if_pos (e.mpr z), if_pos z]
      simp only [RowsK]
      exact ⟨y, v, _, rfl, h1, R, rowsK_map hk R h3⟩
    · rw [if_neg (fun x => z (e.mp x)), if_neg z]
      simp only [RowsK]
      exact ⟨y, u, _, rfl, h1, h2, rowsK_map hk R h3⟩
  | .tup [] :: _, _, h => by simp only [RowsK] at h
  | .tup [_] :: _, _, h => by simp only [RowsK] at h
  | .tup (_ :: _ :: _ :: _) :: _, _, h => by simp only [RowsK] at h
  | .non :: _, _, h => by simp only [RowsK] at h
  | .bl _ :: _, _, h => by simp only [RowsK] at h
  | .int _ :: _, _, h => by simp only [RowsK] at h
  | .str _ :: _, _, h => by simp only [RowsK] at h
  | .lst _ :: _, _, h => by simp only [RowsK] at h
  | .klst _ :: _, _, h => by simp only [RowsK] at h
  | .obj _ :: _, _, h => by simp only [RowsK] at h
  | .dic _ _ :: _, _, h => by simp only [RowsK] at h
  | .fdic _ _ :: _, _, h => by simp only [RowsK] at h
  | .gtup _ :: _, _, h => by simp only [RowsK] at h
theorem rowsT_map {k d : D} {q : List Key} {v : V} (hk : tkeyD k = some q) (R : Rep K w d v) : ∀ {rows : List D} {kvs : List (List Key × V)}, RowsT K w rows kvs → RowsT K w (rows.map (setR true k d)) (kvs.map fun kv => if kv.1 = q then (kv.1, v) else kv)
  | [], kvs, h => by
    simp only [RowsT] at h
    subst h
    simp only [List.map_nil, RowsT]
  | .tup [k', d'] :: r, kvs, h => by
    simp only [RowsT] at h
    obtain ⟨y, u, s, rfl, h1, h2, h3⟩ := h
    have e : (ky true k' = ky true k) ↔ y = q := by
      unfold ky
      rw [if_pos rfl, if_pos rfl, h1, hk]
      simp
    rw [List.map_cons, List.map_cons, setR_row]
    by_cases z : y = q
    · rw [if_pos (e.mpr z), if_pos z]
      simp only [RowsT]
      exact ⟨y, v, _, rfl, h1, R, rowsT_map hk R h3⟩
    · rw [if_neg (fun x => z (e.mp x)), if_neg z]
      simp only [RowsT]
      exact ⟨y, u, _, rfl, h1, h2, rowsT_map hk R h3⟩
  | .tup [] :: _, _, h => by simp only [RowsT] at h
  | .tup [_] :: _, _, h => by simp only [RowsT] at h
  | .tup (_ :: _ :: _ :: _) :: _, _, h => by simp only [RowsT] at h
  | .non :: _, _, h => by simp only [RowsT] at h
  | .bl _ :: _, _, h => by simp only [RowsT] at h
  | .int _ :: _, _, h => by simp only [RowsT] at h
  | .str _ :: _, _, h => by simp only [RowsT] at h
  | .lst _ :: _, _, h => by simp only [RowsT] at h
  | .klst _ :: _, _, h => by simp only [RowsT] at h
  | .obj _ :: _, _, h => by simp only [RowsT] at h
  | .dic _ _ :: _, _, h => by simp only [RowsT] at h
  | .fdic _ _ :: _, _, h => by simp only [RowsT] at h
  | .gtup _ :: _, _, h => by simp only [RowsT] at h
theorem rowsK_snoc {k d : D} {q : Key} {v : V} (hk : keyD k = some q) (R : Rep K w d v) : ∀ {rows : List D} {kvs : List (Key × V)}, RowsK K w rows kvs → RowsK K w (rows ++ [.tup [k, d]]) (kvs ++ [(q, v)])
  | [], kvs, h => by
    simp only [RowsK] at h
    subst h
    simp only [List.nil_append, RowsK]
    exact ⟨q, v, [], rfl, hk, R, rfl⟩
  | .tup [k', d'] :: r, kvs, h => by
    simp only [RowsK] at h
    obtain ⟨y, u, s, rfl, h1, h2, h3⟩ := h
    simp only [List.cons_append, RowsK]
    exact ⟨y, u, _, rfl, h1, h2, rowsK_snoc hk R h3⟩
  | .tup [] :: _, _, h => by simp only [RowsK] at h
  | .tup [_] :: _, _, h => by simp only [RowsK] at h
  | .tup (_ :: _ :: _ :: _) :: _, _, h => by simp only [RowsK] at h
  | .non :: _, _, h => by simp only [RowsK] at h
  | .bl _ :: _, _, h => by simp only [RowsK] at h
  | .int _ :: _, _, h => by simp only [RowsK] at h
  | .str _ :: _, _, h => by simp only [RowsK] at h
  | .lst _ :: _, _, h => by simp only [RowsK] at h
  | .klst _ :: _, _, h => by simp only [RowsK] at h
  | .obj _ :: _, _, h => by simp only [RowsK] at h
  | .dic _ _ :: _, _, h => by simp only [RowsK] at h
  | .fdic _ _ :: _, _, h => by simp only [RowsK] at h
  | .gtup _ :: _, _, h => by simp only [RowsK] at h
theorem rowsT_snoc {k d : D} {q : List Key} {v : V} (hk : tkeyD k = some q) (R : Rep K w d v) : ∀ {rows : List D} {kvs : List (List Key × V)}, RowsT K w rows kvs → RowsT K w (rows ++ [.tup [k, d]]) (kvs ++ [(q, v)])
  | [], kvs, h => by
    simp only [RowsT] at h
    subst h
    simp only [List.nil_append, RowsT]
    exact ⟨q, v, [], rfl, hk, R, rfl⟩
  | .tup [k', d'] :: r, kvs, h => by
    simp only [RowsT] at h
    obtain ⟨y, u, s, rfl, h1, h2, h3⟩ := h
    simp only [List.cons_append, RowsT]
    exact ⟨y, u, _, rfl, h1, h2, rowsT_snoc hk R h3⟩
  | .tup [] :: _, _, h => by simp only [RowsT] at h
  | .tup [_] :: _, _, h => by simp only [RowsT] at h
  | .tup (_ :: _ :: _ :: _) :: _, _, h => by simp only [RowsT] at h
  | .non :: _, _, h => by simp only [RowsT] at h
  | .bl _ :: _, _, h => by simp only [RowsT] at h
  | .int _ :: _, _, h => by simp only [RowsT] at h
  | .str _ :: _, _, h => by simp only [RowsT] at h
  | .lst _ :: _, _, h => by simp only [RowsT] at h
  | .klst _ :: _, _, h => by simp only [RowsT] at h
  | .obj _ :: _, _, h => by simp only [RowsT] at h
  | .dic _ _ :: _, _, h => by simp only [RowsT] at h
  | .fdic _ _ :: _, _, h => by simp only [RowsT] at h
  | .gtup _ :: _, _, h => by simp only [RowsT] at h
theorem optR_some {o : Option D} {u : Option V} (h : OptR K w o u) : o.isSome = u.isSome := by
  cases o <;> cases u <;> first | rfl | exact h.elim
theorem rowsK_put {k d : D} {q : Key} {v : V} (hk : keyD k = some q) (R : Rep K w d v) {rows : List D} {kvs : List (Key × V)} (h : RowsK K w rows kvs) : RowsK K w (putR false rows k d) (putK kvs q v) := by
  unfold putR putK
  rw [valV_any, ← optR_some (rowsK_val hk h)]
  split
  · exact rowsK_map hk R h
  · exact rowsK_snoc hk R h
theorem rowsT_put {k d : D} {q : List Key} {v : V} (hk : tkeyD k = some q) (R : Rep K w d v) {rows : List D} {kvs : List (List Key × V)} (h : RowsT K w rows kvs) : RowsT K w (putR true rows k d) (putK kvs q v) := by
  unfold putR putK
  rw [valV_any, ← optR_some (rowsT_val hk h)]
  split
  · exact rowsT_map hk R h
  · exact rowsT_snoc hk R h
theorem rowsK_length : ∀ {rows : List D} {kvs : List (Key × V)}, RowsK K w rows kvs → rows.length = kvs.length
  | [], kvs, h => by
    simp only [RowsK] at h
    subst h
    rfl
  | .tup [k', d'] :: r, kvs, h => by
    simp only [RowsK] at h
    obtain ⟨y, u, s, rfl, h1, h2, h3⟩ := h
    rw [List.length_cons, List.length_cons, rowsK_length h3]
  | .tup [] :: _, _, h => by simp only [RowsK] at h
  | .tup [_] :: _, _, h => by simp only [RowsK] at h
  | .tup (_ :: _ :: _ :: _) :: _, _, h => by simp only [RowsK] at h
  | .non :: _, _, h => by simp only [RowsK] at h
  | .bl _ :: _, _, h => by simp only [RowsK] at h
  | .int _ :: _, _, h => by simp only [RowsK] at h
  | .str _ :: _, _, h => by simp only [RowsK] at h
  | .lst _ :: _, _, h => by simp only [RowsK] at h
  | .klst _ :: _, _, h => by simp only [RowsK] at h
  | .obj _ :: _, _, h => by simp only [RowsK] at h
  | .dic _ _ :: _, _, h => by simp only [RowsK] at h
  | .fdic _ _ :: _, _, h => by simp only [RowsK] at h
  | .gtup _ :: _, _, h => by simp only [RowsK] at h
theorem rowsT_length : ∀ {rows : List D} {kvs : List (List Key × V)}, RowsT K w rows kvs → rows.length = kvs.length
  | [], kvs, h => by
    simp only [RowsT] at h
    subst h
    rfl
  | .tup [k', d'] :: r, kvs, h => by
    simp only [RowsT] at h
    obtain ⟨y, u, s, rfl, h1, h2, h3⟩ := h
    rw [List.length_cons, List.length_cons, rowsT_length h3]
  | .tup [] :: _, _, h => by simp only [RowsT] at h
  | .tup [_] :: _, _, h => by simp only [RowsT] at h
  | .tup (_ :: _ :: _ :: _) :: _, _, h => by simp only [RowsT] at h
  | .non :: _, _, h => by simp only [RowsT] at h
  | .bl _ :: _, _, h => by simp only [RowsT] at h
  | .int _ :: _, _, h => by simp only [RowsT] at h
  | .str _ :: _, _, h => by simp only [RowsT] at h
  | .lst _ :: _, _, h => by simp only [RowsT] at h
  | .klst _ :: _, _, h => by simp only [RowsT] at h
  | .obj _ :: _, _, h => by simp only [RowsT] at h
  | .dic _ _ :: _, _, h => by simp only [RowsT] at h
  | .fdic _ _ :: _, _, h => by simp only [RowsT] at h
  | .gtup _ :: _, _, h => by simp only [RowsT] at h
/-- a dict's rows may be locked (walked): read so or so -/
theorem valR_lock : ∀ {rows : List D} {k : D}, valR false (rows ++ [lockD]) k = valR false rows k
  | [], _ => rfl
  | .tup [k', d] :: r, k => by simp only [List.cons_append, valR, valR_lock (rows := r)]
  | .tup [] :: _, _ => rfl
  | .tup [_] :: _, _ => rfl
  | .tup (_ :: _ :: _ :: _) :: _, _ => rfl
  | .non :: _, _ => rfl
  | .bl _ :: _, _ => rfl
  | .int _ :: _, _ => rfl
  | .str _ :: _, _ => rfl
  | .lst _ :: _, _ => rfl
  | .klst _ :: _, _ => rfl
  | .obj _ :: _, _ => rfl
  | .dic _ _ :: _, _ => rfl
  | .fdic _ _ :: _, _ => rfl
  | .gtup _ :: _, _ => rfl
theorem entK_rd {a : Addr} {L : Lk} {xs : List D} {o : HO} (h : H a = some o) (r : EntR K w (some (.b false)) L xs o) : ∃ kvs, Rd H a (.dK kvs) ∧ kvs.length ≤ sizeLine ∧ ∃ rows, RowsK K w rows kvs ∧ ∀ k, valR false xs k = valR false rows k := by
  rcases r with ⟨_, kvs, rfl, n, r⟩ | ⟨_, rows, ob, kvs, _, rfl, rfl, n, r⟩ | ⟨z, _⟩
  · exact ⟨kvs, .inl h, n, xs, r, fun _ => rfl⟩
  · exact ⟨kvs, .inr ⟨ob, h⟩, n, rows, r, fun _ => valR_lock⟩
  · cases z
/-- the object of a dict -/
theorem dic_obj {d : D} {v : V} {t : Bool} {rows : List D} (W : Wld K w st H) (R : Rep K w d v) (e : dicOf st d = some (t, rows)) : ∃ a o L, v = .ref a ∧ H a = some o ∧ EntR K w (some (.b t)) L rows o := by
  cases d with
  | dic kd i =>
    rcases kd with t' | c | _
    rotate_left
    · cases e
    · cases e
    simp only [Rep] at R
    obtain ⟨a, rfl, q, q2, _⟩ := R
    obtain ⟨g, ys, o, h1, h2, h3⟩ := W.at_ i a q
    have e' : (st[i]?).map (fun xs => (t', xs)) = some (t, rows) := e
    rw [h1] at e'
    cases e'
    rw [q2] at h3
    exact ⟨a, o, _, rfl, h2, h3⟩
  | fdic kd rs =>
    rcases kd with t' | c | _
    rotate_left
    · cases e
    · cases e
    cases e
    cases t with
    | false =>
      simp only [Rep] at R
      obtain ⟨a, kvs, rfl, q, n, r⟩ := R
      exact ⟨a, _, none, rfl, W.same _ _ q, .inl ⟨rfl, kvs, rfl, n, r⟩⟩
    | true =>
      simp only [Rep] at R
      obtain ⟨a, kvs, rfl, q, n, r⟩ := R
      exact ⟨a, _, none, rfl, W.same _ _ q, .inl ⟨rfl, kvs, rfl, n, r⟩⟩
  | _ => cases e
theorem dic_isD {d : D} {v : V} {t : Bool} {rows : List D} (W : Wld K w st H) (R : Rep K w d v) (e : dicOf st d = some (t, rows)) : ∃ a, v = .ref a ∧ IsD H a := by
  obtain ⟨a, o, L, rfl, h, r⟩ := dic_obj W R e
  cases t with
  | false =>
    obtain ⟨kvs, hr, _⟩ := entK_rd h r
    exact ⟨a, rfl, .inl ⟨kvs, hr⟩⟩
  | true =>
    obtain ⟨kvs, rfl, _⟩ := r.dT
    exact ⟨a, rfl, .inr ⟨kvs, .inl h⟩⟩
/-- what a dict holds at a key -/
theorem dic_get {d k : D} {v y : V} {t : Bool} {rows : List D} (W : Wld K w st H) (R : Rep K w d v) (e : dicOf st d = some (t, rows)) (Rk : Rep K w k y) (hk : (ky t k).isSome = true) : ∃ a o, v = .ref a ∧ DGet H a y o ∧ OptR K w (valR t rows k) o := by
  obtain ⟨a, o, L, rfl, h, r⟩ := dic_obj W R e
  cases t with
  | false =>
    obtain ⟨kvs, hr, _, rows', r, er⟩ := entK_rd h r
    cases hq : keyD k with
    | none =>
      unfold ky at hk
      rw [if_neg (by decide), hq] at hk
      cases hk
    | some q =>
      rw [key_rep Rk hq]
      exact ⟨a, _, rfl, .inl ⟨kvs, q, hr, rfl, rfl⟩, by rw [er]; exact rowsK_val hq r⟩
  | true =>
    obtain ⟨kvs, rfl, _, r⟩ := r.dT
    cases hq : tkeyD k with
    | none =>
      unfold ky at hk
      rw [if_pos rfl, hq] at hk
      cases hk
    | some q =>
      obtain ⟨b, rfl, g⟩ := tkey_rep Rk hq
      exact ⟨a, _, rfl, .t h (W.same _ _ g), rowsT_val hq r⟩
/-- the heap behind d[k] = x -/
theorem dic_put {k x : D} {v y u : V} {t : Bool} {i : Nat} {rows : List D} (W : Wld K w st H) (R : Rep K w (.dic t i) v) (e : st[i]? = some rows) (Rk : Rep K w k y) (hk : (ky t k).isSome = true) (Rx : Rep K w x u) (hn : rows.length < 16777216) (ok : okRows rows = true) :
    ∃ a H', v = .ref a ∧ DPut H a y u H' ∧ Wld K w (st.set i (putR t rows k x)) H' := by
  simp only [Rep] at R
  obtain ⟨a, rfl, q, q2, _⟩ := R
  obtain ⟨g, ys, o, h1, h2, h3⟩ := W.at_ i a q
  rw [e] at h1
  cases h1
  rw [q2] at h3
  have hl := h3.un (.inr ok)
  cases t with
  | false =>
    obtain ⟨kvs, rfl, _, r⟩ := h3.dK ok
    cases hq : keyD k with
    | none =>
      unfold ky at hk
      rw [if_neg (by decide), hq] at hk
      cases hk
    | some z =>
      rw [key_rep Rk hq]
      have hz : kvs.length < sizeLine := by rw [← rowsK_length r, sizeLine_eq]; exact hn
      refine ⟨a, _, rfl, .k h2 hz, W.wrK q ?_⟩
      rw [q2]
      exact .inl ⟨hl, _, rfl, by have := length_putK kvs z u; omega, rowsK_put hq Rx r⟩
  | true =>
    obtain ⟨kvs, rfl, _, r⟩ := h3.dT
    cases hq : tkeyD k with
    | none =>
      unfold ky at hk
      rw [if_pos rfl, hq] at hk
      cases hk
    | some z =>
      obtain ⟨b, rfl, gb⟩ := tkey_rep Rk hq
      have hz : kvs.length < sizeLine := by rw [← rowsT_length r, sizeLine_eq]; exact hn
      refine ⟨a, _, rfl, .t h2 (W.same _ _ gb) hz, W.wrK q ?_⟩
      rw [q2]
      exact .inl ⟨hl, _, rfl, by have := length_putK kvs z u; omega, rowsT_put hq Rx r⟩
end

/-! ### readings -/
/-- {} -/
def dNewD (t : Bool) : DE := fun _ st k => k (.dic t st.length) (st ++ [[]])
def getD (d y : D) (st : Sto) (k : DK) : Prop := match dicOf st d with
  | some (t, rows) => (ky t y).isSome = true ∧ ∃ x, valR t rows y = some x ∧ k x st
  | none => False
def getOrD (x : D) (d y : D) (st : Sto) (k : DK) : Prop := match dicOf st d with
  | some (t, rows) => (ky t y).isSome = true ∧ k ((valR t rows y).getD x) st
  | none => False
def putD (o i v : D) (st : Sto) (k : Sto → Prop) : Prop := match o with
  | .dic (.b t) j => match st[j]? with
    | some rows => (ky t i).isSome = true ∧ rows.length < 16777216 ∧ okRows rows = true ∧ k (st.set j (putR t rows i v))
    | none => False
  | _ => False
def dGet2 (td ty tx : DE) : DE := fun env st k => td env st fun d s1 => (dicOf s1 d).isSome = true ∧ ty env s1 fun y s2 => tx env s2 fun x s3 => getOrD x d y s3 k
/-- d.setdefault(y, x), keys numbers and texts -/
def setdD (d y x : D) (st : Sto) (k : DK) : Prop := match d with
  | .dic (.b false) i => match st[i]? with
    | some rows => (ky false y).isSome = true ∧ rows.length < 16777216 ∧ okRows rows = true ∧ match valR false rows y with
      | some v => k v st
      | none => k x (st.set i (putR false rows y x))
    | none => False
  | _ => False
def dSetd (td ty tx : DE) : DE := fun env st k => td env st fun d s1 => (dicOf s1 d).isSome = true ∧ ty env s1 fun y s2 => tx env s2 fun x s3 => setdD d y x s3 k
def dgPut (to ti : DE) : DG := fun v env st k => to env st fun o s1 => ti env s1 fun i s2 => putD o i v s2 fun s3 => k env s3
section
variable {X : Cx} {o i e f : Expr} {pos apos cpos : Pos} {to ti td ty tx : DE}
theorem pd_dnewK : PD X (.Dict [] [] pos) (dNewD false) := by
  refine pe_dnewK.wk fun σ H Q ⟨w, env, st, kk, W, E, h, fo⟩ p hp => ?_
  refine fo _ _ _ _ _ h (Le.addK (W.nas hp)) (W.addK hp (k := some (.b false)) ⟨[], rfl, Nat.zero_le _, by simp only [RowsK]⟩) ?_
  simp only [Rep]
  refine ⟨p, rfl, ?_, if_pos rfl, trivial⟩
  show (w.as ++ [p])[st.length]? = some p
  rw [← W.len, List.getElem?_concat_length]
theorem pd_dget (hu : X.A.units + 64 < cLine) (ho : PD X o to) (hi : PD X i ti) (hs : NoSl i := by exact fun _ _ => rfl) : PD X (.Subscript o i pos) (dOp getD to ti) := by
  refine (pe_dget (by omega) ho hi hs).wk fun σ H Q ⟨w, env, st, kk, W, E, h, fo⟩ => ?_
  refine ⟨w, env, st, _, W, E, h, fun d st1 v w1 H1 h1 l1 W1 R1 => ⟨w1, env, st1, _, W1, E.mono l1, h1, fun y st2 u w2 H2 h2 l2 W2 R2 => ?_⟩⟩
  unfold getD at h2
  split at h2
  · rename_i t rows hd
    obtain ⟨hk, x, hx, h2⟩ := h2
    obtain ⟨a, ov, rfl, g, r⟩ := dic_get W2 (Rep.mono l2 _ _ R1) hd R2 hk
    rw [hx] at r
    cases ov with
    | none => exact r.elim
    | some z => exact ⟨a, z, rfl, g, fo _ _ _ _ _ h2 (l1.trans l2) W2 r⟩
  · exact h2.elim
theorem isD_of {K : PySem.W.Frag} {w : Wd} {st : Sto} {H : Hp} {d : D} {v : V} (W : Wld K w st H) (R : Rep K w d v) (h : (dicOf st d).isSome = true) : ∃ a, v = .ref a ∧ IsD H a := by
  cases e : dicOf st d with
  | none => rw [e] at h; cases h
  | some p => exact dic_isD W R (t := p.1) (rows := p.2) e
theorem getD_optR {K : PySem.W.Frag} {w : Wd} {a : Option D} {b : Option V} {x : D} {z : V} (r : OptR K w a b) (R : Rep K w x z) : Rep K w (a.getD x) (b.getD z) := by
  cases a <;> cases b <;> first | exact R | exact r | exact r.elim
theorem pd_dget2 (hu : X.A.units + 64 < cLine) (ho : PD X o td) (he : PD X e ty) (hf : PD X f tx)
    (b : attributeBase o "get" X.env (eval o X.env) = eval o X.env := by rfl)
    (f1 : ((backTo cpos (starEach [e, f] X.env)).all (fun x => !x.1) && (backToKw cpos (keywordEach [] X.env)).all (fun x => x.1.isSome)
      && decide (([e, f] : List Expr).length + ([] : List Keyword).length + (if ([] : List Keyword).isEmpty then 0 else 1) < 30)) = true := by rfl)
    (l : (apos.endLine == cpos.line) = true := by rfl) (tr : backTo cpos (starEach [e, f] X.env) = [(false, eval e X.env), (false, eval f X.env)] := by rfl) : PD X (.Call (.Attribute o "get" apos) [e, f] [] cpos) (dGet2 td ty tx) := by
  refine (pe_dget2 (by omega) ho he hf ⟨b, f1, l, tr⟩).wk fun σ H Q ⟨w, env, st, kk, W, E, h, fo⟩ => ?_
  refine ⟨w, env, st, _, W, E, h, fun d st1 v w1 H1 ⟨hd1, h1⟩ l1 W1 R1 => ?_⟩
  obtain ⟨a, rfl, isd⟩ := isD_of W1 R1 hd1
  refine ⟨a, rfl, isd, w1, env, st1, _, W1, E.mono l1, h1, fun y st2 u w2 H2 h2 l2 W2 R2 => ⟨w2, env, st2, _, W2, (E.mono l1).mono l2, h2, fun x st3 z w3 H3 h3 l3 W3 R3 => ?_⟩⟩
  unfold getOrD at h3
  split at h3
  · rename_i t rows hd
    obtain ⟨a', ov, ea, g, r⟩ := dic_get W3 (Rep.mono (l2.trans l3) _ _ R1) hd (Rep.mono l3 _ _ R2) h3.1
    cases ea
    exact ⟨ov, g, fo _ _ _ _ _ h3.2 ((l1.trans l2).trans l3) W3 (getD_optR r R3)⟩
  · exact h3.elim
theorem pd_dsetd (ho : PD X o td) (he : PD X e ty) (hf : PD X f tx)
    (b : attributeBase o "setdefault" X.env (eval o X.env) = eval o X.env := by rfl)
    (f1 : ((backTo cpos (starEach [e, f] X.env)).all (fun x => !x.1) && (backToKw cpos (keywordEach [] X.env)).all (fun x => x.1.isSome)
      && decide (([e, f] : List Expr).length + ([] : List Keyword).length + (if ([] : List Keyword).isEmpty then 0 else 1) < 30)) = true := by rfl)
    (l : (apos.endLine == cpos.line) = true := by rfl) (tr : backTo cpos (starEach [e, f] X.env) = [(false, eval e X.env), (false, eval f X.env)] := by rfl) : PD X (.Call (.Attribute o "setdefault" apos) [e, f] [] cpos) (dSetd td ty tx) := by
  refine (pe_dsetd ho he hf ⟨b, f1, l, tr⟩).wk fun σ H Q ⟨w, env, st, kk, W, E, h, fo⟩ => ?_
  refine ⟨w, env, st, _, W, E, h, fun d st1 v w1 H1 ⟨hd1, h1⟩ l1 W1 R1 => ?_⟩
  obtain ⟨a, rfl, isd⟩ := isD_of W1 R1 hd1
  refine ⟨a, rfl, isd, w1, env, st1, _, W1, E.mono l1, h1, fun y st2 u w2 H2 h2 l2 W2 R2 => ⟨w2, env, st2, _, W2, (E.mono l1).mono l2, h2, fun x st3 z w3 H3 h3 l3 W3 R3 => ?_⟩⟩
  unfold setdD at h3
  split at h3
  · split at h3
    · rename_i rows hi
      obtain ⟨hk, hn, hok, h3⟩ := h3
      have R13 := Rep.mono (l2.trans l3) _ _ R1
      simp only [Rep] at R13
      obtain ⟨a', ea, q, q2, _⟩ := R13
      cases ea
      obtain ⟨g, ys, ob, k1, k2, k3⟩ := W3.at_ _ a q
      rw [hi] at k1
      cases k1
      rw [q2] at k3
      have hlk := k3.un (.inr hok)
      obtain ⟨kvs, rfl, nn, r⟩ := k3.dK hok
      cases hq : keyD y with
      | none =>
        unfold ky at hk
        rw [if_neg (by decide), hq] at hk
        cases hk
      | some y' =>
        have ov := rowsK_val hq r
        have hl : kvs.length < sizeLine := by rw [← rowsK_length r, sizeLine_eq]; exact hn
        refine ⟨kvs, y', k2, key_rep R2 hq, hl, fun v hv => ?_, fun hv => ?_⟩
        · rw [hv] at ov
          cases ev : valR false rows y with
          | none => rw [ev] at ov; exact ov.elim
          | some v' =>
            rw [ev] at ov h3
            exact fo _ _ _ _ _ h3 ((l1.trans l2).trans l3) W3 ov
        · rw [hv] at ov
          cases ev : valR false rows y with
          | some v' => rw [ev] at ov; exact ov.elim
          | none =>
            rw [ev] at h3
            refine fo _ _ _ _ _ h3 ((l1.trans l2).trans l3) (W3.wrK q ?_) R3
            rw [q2]
            exact .inl ⟨hlk, _, rfl, by have := length_putK kvs y' z; omega, rowsK_put hq R3 r⟩
    · exact h3.elim
  · exact h3.elim
/-- the setter of a dict's items -/
def rSetD (K : PySem.W.Frag) : TSet := fun x y v H Q => ∃ a H', x = .ref a ∧ DPut H a y v H' ∧ Q H'
theorem set_dict (hu : X.A.units + 64 < cLine) : PSet X (rSetD X.K) := by
  rintro pins s σ H x y v xv yv u Q I rx ry rv ⟨a, H', rfl, g, q⟩
  cases rx
  exact d_setItem (by omega) I g ry rv fun s' I' => ⟨H', I', q⟩
theorem pdg_put (hu : X.A.units + 64 < cLine) (ho : PD X o to) (hi : PD X i ti)
    (ha : ∀ v, assign (.Subscript o i pos) X.env v = (do
      let ov ← holding [v] (eval o X.env)
      let iv ← holding [v, ov] (eval i X.env)
      standAt pos
      holding [v, ov, iv] (setItem ov iv v)
      release [v, ov, iv] []) := by intro _; rfl) : PDG X (.Subscript o i pos) (dgPut to ti) := by
  refine L2.PG.wk (pg_sub ho hi (set_dict hu) ha) fun v σ H Q ⟨w, env, st, d, nx, W, E, R, h, fn⟩ => ?_
  refine ⟨w, env, st, _, W, E, h, fun d1 st1 v1 w1 H1 h1 l1 W1 R1 => ⟨w1, env, st1, _, W1, E.mono l1, h1, fun d2 st2 v2 w2 H2 h2 l2 W2 R2 => ?_⟩⟩
  unfold putD at h2
  split at h2
  · split at h2
    · rename_i rows hj
      obtain ⟨hk, hn, hok, h2⟩ := h2
      obtain ⟨a, H', rfl, g, W3⟩ := dic_put W2 (Rep.mono l2 _ _ R1) hj R2 hk (Rep.mono (l1.trans l2) _ _ R) hn hok
      exact ⟨a, H', rfl, g, fn _ _ _ _ _ h2 (l1.trans l2) W3 (E.mono (l1.trans l2))⟩
    · exact h2.elim
  · exact h2.elim
end
end DL

/-! DLJ: sorted of a dict's keys and of its values. -/
namespace DL
open PySem PySem.Spec PyProof.Rows L2
def keysR : List D → List D
  | .tup [k, _] :: r => k :: keysR r
  | _ => []
def valsR : List D → List D
  | .tup [_, v] :: r => v :: valsR r
  | _ => []
theorem keysR_lock : ∀ {rows : List D}, keysR (rows ++ [lockD]) = keysR rows
  | [] => rfl
  | .tup [k, d] :: r => by simp only [List.cons_append, keysR, keysR_lock (rows := r)]
  | .tup [] :: _ => rfl
  | .tup [_] :: _ => rfl
  | .tup (_ :: _ :: _ :: _) :: _ => rfl
  | .non :: _ => rfl
  | .bl _ :: _ => rfl
  | .int _ :: _ => rfl
  | .str _ :: _ => rfl
  | .lst _ :: _ => rfl
  | .klst _ :: _ => rfl
  | .obj _ :: _ => rfl
  | .dic _ _ :: _ => rfl
  | .fdic _ _ :: _ => rfl
  | .gtup _ :: _ => rfl
section
variable {K : PySem.W.Frag} {w : Wd} {st : Sto} {H : Hp} {X : Cx}
/-! ### evaluation -/
variable {kk : DK} {i : Nat} {rows : List D} {y x d : D} {t : Bool}
theorem e_dnew : dNewD t env st kk = kk (.dic t st.length) (st ++ [[]]) := rfl
theorem e_dget (h : st[i]? = some rows) : getD (.dic t i) y st kk = ((ky t y).isSome = true ∧ ∃ x, valR t rows y = some x ∧ kk x st) := by simp [getD, dicOf, h]
theorem e_dgetF : getD (.fdic t rows) y st kk = ((ky t y).isSome = true ∧ ∃ x, valR t rows y = some x ∧ kk x st) := rfl
theorem e_dgetOr (h : st[i]? = some rows) : getOrD x (.dic t i) y st kk = ((ky t y).isSome = true ∧ kk ((valR t rows y).getD x) st) := by simp [getOrD, dicOf, h]
theorem e_dput {ks : Sto → Prop} (h : st[i]? = some rows) : putD (.dic t i) y x st ks = ((ky t y).isSome = true ∧ rows.length < 16777216 ∧ okRows rows = true ∧ ks (st.set i (putR t rows y x))) := by simp [putD, h]
theorem e_dsome (h : st[i]? = some rows) : (dicOf st (.dic t i)).isSome = true := by simp [dicOf, h]
theorem e_dsetd (h : st[i]? = some rows) : setdD (.dic false i) y x st kk = ((ky false y).isSome = true ∧ rows.length < 16777216 ∧ okRows rows = true ∧ match valR false rows y with
      | some v => kk v st
      | none => kk x (st.set i (putR false rows y x))) := by
  unfold setdD
  simp only [h]
  all_goals rfl
theorem e_dget2 {td ty tx : DE} {env : Env} : dGet2 td ty tx env st kk = td env st fun d s1 => (dicOf s1 d).isSome = true ∧ ty env s1 fun y s2 => tx env s2 fun x s3 => getOrD x d y s3 kk := rfl
theorem e_dsetdS {td ty tx : DE} {env : Env} : dSetd td ty tx env st kk = td env st fun d s1 => (dicOf s1 d).isSome = true ∧ ty env s1 fun y s2 => tx env s2 fun x s3 => setdD d y x s3 kk := rfl
theorem e_dgPut {to ti : DE} {env : Env} {v : D} {ke : Env → Sto → Prop} : dgPut to ti v env st ke = to env st fun o s1 => ti env s1 fun i s2 => putD o i v s2 fun s3 => ke env s3 := rfl
theorem e_drG {ds : List D} : deref st (.gtup ds) = .tup ds := rfl
theorem e_kyI {n : Int} : (ky false (.int n)).isSome = true := rfl
theorem e_kyS {n : Str} : (ky false (.str n)).isSome = true := rfl
end
/-! ### tables -/
section
variable {κ α : Type} [DecidableEq κ]
def look : List (κ × α) → κ → Option α
  | [], _ => none
  | p :: r, k => if p.1 = k then some p.2 else look r k
/-- in its place, or at the end -/
def putL (ks : List (κ × α)) (k : κ) (a : α) : List (κ × α) := if (look ks k).isSome = true then ks.map (fun p => if p.1 = k then (p.1, a) else p) else ks ++ [(k, a)]
/-- keys as data -/
structure KeyE (t : Bool) (e : κ → D) : Prop where
  some : ∀ a, (ky t (e a)).isSome = true
  inj : ∀ a b, ky t (e a) = ky t (e b) → a = b
def tabR (e : κ → D) (f : α → D) (ks : List (κ × α)) : List D := ks.map fun p => .tup [e p.1, f p.2]
variable {t : Bool} {e : κ → D} {f : α → D}
theorem valR_tab (h : KeyE t e) (k : κ) : ∀ ks : List (κ × α), valR t (tabR e f ks) (e k) = (look ks k).map f
  | [] => rfl
  | p :: r => by
    show (if ky t (e p.1) = ky t (e k) then some (f p.2) else valR t (tabR e f r) (e k)) = _
    unfold look
    by_cases z : p.1 = k
    · rw [if_pos (by rw [z]), if_pos z]; rfl
    · rw [if_neg (fun q => z (h.inj _ _ q)), if_neg z]
      exact valR_tab h k r
theorem putR_tab (h : KeyE t e) (k : κ) (a : α) (ks : List (κ × α)) : putR t (tabR e f ks) (e k) (f a) = tabR e f (putL ks k a) := by
  unfold putR putL
  rw [valR_tab h, Option.isSome_map]
  by_cases z : (look ks k).isSome = true
  · rw [if_pos z, if_pos z]
    unfold tabR
    rw [List.map_map, List.map_map]
    refine List.map_congr_left fun p _ => ?_
    show setR t (e k) (f a) (.tup [e p.1, f p.2]) = _
    rw [setR_row]
    by_cases y : p.1 = k
    · rw [if_pos (by rw [y])]
      simp [y]
    · rw [if_neg (fun q => y (h.inj _ _ q))]
      simp [y]
  · rw [if_neg z, if_neg z]
    unfold tabR
    rw [List.map_append]
    rfl
theorem tabR_length (ks : List (κ × α)) : (tabR e f ks).length = ks.length := List.length_map _
theorem keysR_tab : ∀ ks : List (κ × α), keysR (tabR e f ks) = ks.map fun p => e p.1
  | [] => rfl
  | p :: r => congrArg (e p.1 :: ·) (keysR_tab r)
theorem valsR_tab : ∀ ks : List (κ × α), valsR (tabR e f ks) = ks.map fun p => f p.2
  | [] => rfl
  | p :: r => congrArg (f p.2 :: ·) (valsR_tab r)
theorem look_app (ks ls : List (κ × α)) (k : κ) : look (ks ++ ls) k = match look ks k with
    | some a => some a
    | none => look ls k := by
  induction ks with
  | nil => rfl
  | cons p r ih =>
    show (if p.1 = k then some p.2 else look (r ++ ls) k) = match (if p.1 = k then some p.2 else look r k) with
      | some a => some a
      | none => look ls k
    by_cases z : p.1 = k
    · rw [if_pos z, if_pos z]
    · rw [if_neg z, if_neg z]
      exact ih
theorem look_map (k j : κ) (a : α) : ∀ ks : List (κ × α), look (ks.map (fun p => if p.1 = k then (p.1, a) else p)) j = if j = k then (look ks j).map (fun _ => a) else look ks j
  | [] => by simp [look]
  | p :: r => by
    have ih := look_map k j a r
    rw [List.map_cons]
    by_cases h : p.1 = k
    · rw [if_pos h]
      by_cases q : p.1 = j
      · have jk : j = k := q.symm.trans h
        simp [look, q, jk]
      · have : look ((p.1, a) :: r.map (fun p => if p.1 = k then (p.1, a) else p)) j = look (r.map (fun p => if p.1 = k then (p.1, a) else p)) j := if_neg q
        rw [this, ih]
        simp [look, q]
    · rw [if_neg h]
      by_cases q : p.1 = j
      · have : ¬ j = k := fun z => h (q.trans z)
        simp [look, q, this]
      · have : look (p :: r.map (fun p => if p.1 = k then (p.1, a) else p)) j = look (r.map (fun p => if p.1 = k then (p.1, a) else p)) j := if_neg q
        rw [this, ih]
        simp [look, q]
theorem look_put (ks : List (κ × α)) (k j : κ) (a : α) : look (putL ks k a) j = if j = k then some a else look ks j := by
  unfold putL
  by_cases z : (look ks k).isSome = true
  · rw [if_pos z, look_map]
    by_cases q : j = k
    · rw [if_pos q, if_pos q, q]
      cases h : look ks k with
      | none => rw [h] at z; cases z
      | some b => rfl
    · rw [if_neg q, if_neg q]
  · rw [if_neg z, look_app]
    have hn : look ks k = none := by
      cases h : look ks k with
      | none => rfl
      | some b => rw [h] at z; exact absurd rfl z
    by_cases q : j = k
    · rw [if_pos q, q, hn]
      simp [look]
    · rw [if_neg q]
      cases look ks j with
      | none => simp [look, Ne.symm q]
      | some b => rfl
theorem look_mem {ks : List (κ × α)} {k : κ} {a : α} (h : look ks k = some a) : (k, a) ∈ ks := by
  induction ks with
  | nil => cases h
  | cons p r ih =>
    unfold look at h
    by_cases z : p.1 = k
    · rw [if_pos z] at h
      cases h
      rw [← z]
      exact List.mem_cons_self
    · rw [if_neg z] at h
      exact List.mem_cons_of_mem _ (ih h)
theorem look_none {ks : List (κ × α)} {k : κ} : look ks k = none ↔ k ∉ ks.map (·.1) := by
  induction ks with
  | nil => exact ⟨fun _ => List.not_mem_nil, fun _ => rfl⟩
  | cons p r ih =>
    rw [List.map_cons, List.mem_cons, not_or, ← ih]
    show (if p.1 = k then some p.2 else look r k) = none ↔ _
    by_cases z : p.1 = k
    · rw [if_pos z]
      refine ⟨fun h => (by cases h), fun h => absurd z.symm h.1⟩
    · rw [if_neg z]
      refine ⟨fun h => ⟨fun q => z q.symm, h⟩, fun h => h.2⟩
theorem look_of_mem {ks : List (κ × α)} (nd : (ks.map (·.1)).Nodup) {p : κ × α} (h : p ∈ ks) : look ks p.1 = some p.2 := by
  induction ks with
  | nil => cases h
  | cons q r ih =>
    rw [List.map_cons, List.nodup_cons] at nd
    show (if q.1 = p.1 then some q.2 else look r p.1) = _
    rcases List.mem_cons.mp h with e | e
    · subst e
      rw [if_pos rfl]
    · have : ¬ q.1 = p.1 := fun z => nd.1 (by rw [z]; exact List.mem_map.mpr ⟨p, e, rfl⟩)
      rw [if_neg this]
      exact ih nd.2 e
theorem putL_new {ks : List (κ × α)} {k : κ} {a : α} (h : look ks k = none) : putL ks k a = ks ++ [(k, a)] := by
  unfold putL
  rw [h]
  exact if_neg (fun z => by cases z)
theorem putL_length (ks : List (κ × α)) (k : κ) (a : α) : (putL ks k a).length ≤ ks.length + 1 := by
  unfold putL
  split
  · rw [List.length_map]; omega
  · rw [List.length_append]; simp
end
theorem keyS : KeyE false D.str := ⟨fun _ => rfl, fun a b h => by
  have h' : some [(Sum.inr a : Key)] = some [Sum.inr b] := h
  cases h'
  rfl⟩
def panD (p : Int × Int) : D := .tup [.int p.1, .int p.2]
/-! ### a def's own objects -/
end DL

/-! DLK: len(set(xs)) of a list of numbers. -/
namespace DL
open PySem PySem.Spec PyProof.Rows L2
section
variable {X : Cx} {e : Expr} {ta : DE} {p p2 pos2 pos : Pos}
def rLenSetO (w : World) : List V → Hp → VK → Prop := fun vs H Q => ∃ (a : Addr) (S : Int → Bool) (n : Nat), vs = [V.ref a] ∧ H a = some (SetO w a S n) ∧ n < 4000 ∧ Q (.int (n : Nat)) H
theorem cr_lenSetO : CallR X (.builtin "len") (rLenSetO X.w) := by
  intro pins s σ H vs us Q I r h
  obtain ⟨a, S, n, rfl, ha, hn4, q⟩ := h
  rw [Vals.ref1 r]
  obtain ⟨o, es, ep, t, ho, hex, hd, _, _, _, _, hf, hn, _⟩ := setO_get I ha
  refine call_len_set ho hex hd hf (by omega) ?_
  exact ⟨.int n, H, I.tok _, ⟨_, by rw [hn]⟩, q⟩
def lnSetZ (k : DK) : DK := fun d s1 => match deref s1 d with
  | .lst xs => match intsD xs with
    | some ns => ns.length < 4000 ∧ k (.int ((setZ ns).length : Nat)) s1
    | none => False
  | _ => False
def dLenSetZ (t : DE) : DE := fun env st k => t env st (lnSetZ k)
theorem pd_lenSetZ (hc : X.calm = true) (hm : X.mg "len" = none) (hm2 : X.mg "set" = none) (hv : bootBuiltins "len" = some (.builtin "len")) (hv2 : bootBuiltins "set" = some (.type "set")) (ha : PD X e ta) (hg : Gl X "len" := by rfl) (hg2 : Gl X "set" := by rfl)
    (na : starEach [e] X.env = (false, eval e X.env) :: starEach [] X.env := by rfl) (nb : starEach [.Call (.Name "set" p2) [e] [] pos2] X.env = (false, eval (.Call (.Name "set" p2) [e] [] pos2) X.env) :: starEach [] X.env := by rfl) :
    PD X (.Call (.Name "len" p) [.Call (.Name "set" p2) [e] [] pos2] [] pos) (dLenSetZ ta) := by
  have hs := pe_callTy (pos := pos2) (p := p2) (cr_setL hc) hg2 hm2 hv2 (pa_cons ha pa_nil na) (by decide) (by decide) na (by rfl)
  refine (pe_callB (pos := pos) (p := p) cr_lenSetO hg hm hv (pa_cons hs pa_nil nb) (by decide) (by decide) nb (by rfl)).wk fun σ H Q ⟨w, env, st, kk, W, E, h, fo⟩ => ?_
  refine ⟨w, env, st, _, W, E, h, fun d st1 v w1 H1 h1 l1 W1 R1 => ?_⟩
  unfold lnSetZ at h1
  split at h1
  · rename_i hd
    split at h1
    · rename_i ns hb
      obtain ⟨a, us, rfl, q1, r1, n⟩ := rep_lst W1 R1 hd
      rw [intsD_eq hb] at r1
      rw [r1.ints] at q1
      refine ⟨a, ns, rfl, q1, by unfold scanBound; omega, fun p hp => ⟨p, _, _, rfl, upd_same, ?_, ?_⟩⟩
      · have := setZ_length_le ns
        omega
      · exact fo _ _ _ _ _ h1.2 l1 (W1.other hp) rep_int
    · exact h1.elim
  · exact h1.elim
theorem e_lenSetZ {env : DL.Env} {st : Sto} {k : DK} : dLenSetZ ta env st k = ta env st (lnSetZ k) := rfl
theorem e_lenSetZL {ns : List Int} {st : Sto} {k : DK} : lnSetZ k (.lst (ns.map D.int)) st = (ns.length < 4000 ∧ k (.int ((setZ ns).length : Nat)) st) := by simp only [lnSetZ, deref, intsD_map]
/-! a sum of lists that is changed later: a list of the store -/
end
end DL

/-! DLL: texts joined. -/
namespace DL
open PySem PySem.Spec PyProof.Rows L2
section
variable {X : Cx} {o e : Expr} {td te : DE}
def strsD : List D → Option (List Str)
  | [] => some []
  | .str z :: r => (strsD r).map (z :: ·)
  | _ :: _ => none
theorem strsD_eq : ∀ {xs : List D} {zs : List Str}, strsD xs = some zs → xs = zs.map D.str
  | [], zs, h => by cases h; rfl
  | d :: r, zs, h => by
    cases d with
    | str z =>
      simp only [strsD] at h
      cases hr : strsD r with
      | none => rw [hr] at h; cases h
      | some ys =>
        rw [hr] at h
        cases h
        rw [strsD_eq hr]
        rfl
    | _ => simp only [strsD] at h; cases h
theorem strsD_map : ∀ zs : List Str, strsD (zs.map D.str) = some zs
  | [] => rfl
  | z :: r => by
    show (strsD (r.map D.str)).map (z :: ·) = _
    rw [strsD_map r]
    rfl
/-- a.join(xs), xs a list of texts -/
def joinK (a : D) (e : D) (st : Sto) (k : DK) : Prop := match a, deref st e with
  | .str a, .lst xs => match strsD xs with
    | some ys => (ys.map (·.length)).sum + ys.length * a.length ≤ 16777216 ∧ k (.str (Txt.join a ys)) st
    | none => False
  | _, _ => False
def dJoin (to te : DE) : DE := fun env st k => to env st fun d s1 => (∃ a, d = .str a) ∧ te env s1 fun e s2 => joinK d e s2 k
theorem pd_join {apos pos : Pos} (ho : PD X o td) (he : PD X e te) (hs : starEach [e] X.env = [(false, eval e X.env)] := by rfl) (hbase : attributeBase o "join" X.env (eval o X.env) = eval o X.env := by rfl) (hline : (apos.endLine == pos.line) = true := by rfl) :
    PD X (.Call (.Attribute o "join" apos) [e] [] pos) (dJoin td te) := by
  refine (pe_join ho he hs hbase hline).wk fun σ H Q ⟨w, env, st, kk, W, E, h, fo⟩ => ?_
  refine ⟨w, env, st, _, W, E, h, fun d st1 v w1 H1 ⟨hd1, h1⟩ l1 W1 R1 => ?_⟩
  obtain ⟨a, rfl⟩ := hd1
  simp only [Rep] at R1
  subst R1
  refine ⟨⟨a, rfl⟩, w1, env, st1, _, W1, E.mono l1, h1, fun y st2 u w2 H2 h2 l2 W2 R2 => ?_⟩
  unfold joinK at h2
  split at h2
  · rename_i a' xs ea hd
    cases ea
    split at h2
    · rename_i ys hy
      obtain ⟨p, us, rfl, q1, r1, n⟩ := rep_lst W2 R2 hd
      rw [strsD_eq hy] at r1
      rw [Reps.strs r1] at q1
      exact ⟨a, p, ys, rfl, rfl, .inl q1, h2.1, fo _ _ _ _ _ h2.2 (l1.trans l2) W2 rep_str⟩
    · exact h2.elim
  · exact h2.elim
theorem e_join {env : DL.Env} {st : Sto} {k : DK} : dJoin td te env st k = td env st fun d s1 => (∃ a, d = .str a) ∧ te env s1 fun e s2 => joinK d e s2 k := rfl
theorem e_joinL {a : Str} {zs : List Str} {st : Sto} {k : DK} : joinK (.str a) (.lst (zs.map D.str)) st k = ((zs.map (·.length)).sum + zs.length * a.length ≤ 16777216 ∧ k (.str (Txt.join a zs)) st) := by simp only [joinK, deref, strsD_map]
theorem e_cutS {a : Str} {lo hi : Option Int} {st : Sto} {k : DK} : cutOp (.str a) lo hi st k = (a.length ≤ 16777216 ∧ k (.str (L2.cutS a lo hi)) st) := rfl
theorem e_mulS {a : Str} {b : Int} {st : Sto} {k : DK} : mulD (.str a) (.int b) st k = (0 ≤ b ∧ b ≤ 1 ∧ k (.str (if b < 1 then Str.empty else a)) st) := rfl
theorem e_ixS {z : Str} {i : Int} {st : Sto} {k : DK} : ixD (.str z) (.int i) st k = (z.length ≤ 16777216 ∧ ∃ c, atI z.cps.toList i = some c ∧ k (.str ⟨#[c]⟩) st) := rfl
def andD : F2 := fun d e st k => match d, e with
  | .int a, .int b => k (.int (Builtin.bitAnd a b)) st
  | _, _ => False
theorem dop_and : OpR X (binaryOp .BitAnd) (rD X.K andD) := by
  refine OpR.by_ fun x y H Q w st d e kk W R1 R2 q fo => ?_
  unfold andD at q
  split at q
  · rename_i a b
    simp only [Rep] at R1 R2
    exact ⟨_, op_and, a, b, R1, R2, fo.id q W rep_int⟩
  · exact q.elim
theorem e_andI {a b : Int} {st : Sto} {k : DK} : andD (.int a) (.int b) st k = k (.int (Builtin.bitAnd a b)) st := rfl
/-! texts compared, a sign in a text: readings that take either -/
end
end DL

/-! DLM: list.remove, sorted pairs, d.values() sorted and summed, dict(pairs), lists put together again and again, o[i] += e. -/
namespace DL
open PySem PySem.Spec PyProof.Rows L2
section
variable {X : Cx} {tg e e2 o i : Expr} {es : List Expr} {pos p : Pos} {ta tb to ti td : DE}
/-! ### xs.remove(y) -/
def findD (y : D) (xs : List D) : Option Nat := xs.findIdx? fun z => eqD z y
def mRemove : FM := fun d ds st k => match d, ds with
  | .obj i, [y] => match st[i]? with
    | some xs => okDs 59 xs = true ∧ okD 60 (deref st y) = true ∧ ∃ j, findD (deref st y) xs = some j ∧ k .non (st.set i (xs.eraseIdx j))
    | none => False
  | _, _ => False
theorem find_toP {n m : Nat} {y : D} (h : okD m y = true) : ∀ (xs : List D), okDs n xs = true → SeqAt.dataPlace (toPs xs) (toP y) = findD y xs := by
  unfold SeqAt.dataPlace findD
  intro xs
  induction xs with
  | nil => intro _; rfl
  | cons x r ih =>
    intro g
    simp only [okDs, Bool.and_eq_true] at g
    simp only [toPs, List.findIdx?_cons]
    rw [eqv_toP n m x y g.1 h, ih g.2]
theorem Reps.eraseIdx {K : PySem.W.Frag} {w : Wd} : ∀ {ds : List D} {vs : List V} (j : Nat), Reps K w ds vs → Reps K w (ds.eraseIdx j) (vs.eraseIdx j)
  | [], _, _, h => by rw [h.inv0]; exact .nil
  | _ :: _, _, 0, h => by
    obtain ⟨v, r, rfl, _, h2⟩ := h.inv
    exact h2
  | _ :: _, _, j + 1, h => by
    obtain ⟨v, r, rfl, h1, h2⟩ := h.inv
    exact .cons h1 (h2.eraseIdx j)
theorem md_remove (hu : X.A.units + 64 < cLine) : MtR X "list.remove" (rDM X.K mRemove) := by
  rintro pins s σ H x xs v us Q I rx rs ⟨w, st, d, ds, kk, W, R1, R2, q, fo⟩
  unfold mRemove at q
  split at q
  · rename_i j y
    split at q
    · rename_i ys hj
      obtain ⟨k1, k2, m, hm, q⟩ := q
      obtain ⟨a, vs, rfl, ha, hH, r, n⟩ := obj_rep W R1 hj
      obtain ⟨yv, rfl, ry⟩ := one_rep R2
      cases rx
      obtain ⟨u, rfl, ru⟩ := rs.one
      have ok2 : okD 60 (deref st (.obj j)) = true := by
        have : deref st (.obj j) = .lst ys := by simp [deref, hj]
        rw [this]
        exact k1
      have hp := dp_deref W R1 ok2
      have hd : deref st (.obj j) = .lst ys := by simp [deref, hj]
      rw [hd] at hp
      obtain ⟨bs, r2⟩ := Dp.reads I _ _ _ hp (show RelV (.ref a) (.ref a) from rfl)
      obtain ⟨as, r1⟩ := Dp.reads I _ yv u (dp_deref W ry k2) ru
      obtain ⟨z, its, nn, rv, hl, e⟩ := I.lstM hH
      cases r2 with
      | list h1 h2 h3 h4 =>
        rw [e] at h1
        cases h1
        cases h3
        have hsh := shape_toPs 59 ys k1
        refine SeqAt.remove_list_data (j := m) ⟨_, e, rfl, _, rfl⟩ h4 r1 (PyData.plainAll_of_canLay0 _ hsh.1) (PyData.plain_of_canLay0 _ (shape_toP 60 _ k2).1) (in_room k2 (Nat.le_refl _) hu _) (by rw [find_toP k2 ys k1]; exact hm) (by rw [List.size_toArray, ← hl]; exact n) ?_
        refine ⟨.non, _, I.lset (its' := its.eraseIdx m) (t' := s.toks) hH e ?_ (rv.eraseIdx m) ?_, rfl, ?_⟩
        · show its.toArray.eraseIdxIfInBounds m = (its.eraseIdx m).toArray
          rw [List.eraseIdxIfInBounds_toArray]
        · exact Nat.le_trans (List.length_eraseIdx_le ..) n
        · exact fo _ _ _ _ _ q (.refl _) (W.wr ha.1 ha.2 (r.eraseIdx m) (Nat.le_trans (List.length_eraseIdx_le ..) n)) rep_non
    · exact q.elim
  · exact q.elim
theorem e_remO {st : Sto} {i : Nat} {xs : List D} {y : D} {k : DK} (h : st[i]? = some xs) : mRemove (.obj i) [y] st k = (okDs 59 xs = true ∧ okD 60 (deref st y) = true ∧ ∃ j, findD (deref st y) xs = some j ∧ k .non (st.set i (xs.eraseIdx j))) := by simp [mRemove, h]
/-! ### sorted(xs), pairs of numbers: the same ones in some order -/
/-! ### [..] * n, a list of the store -/
/-! ### dict(pairs) -/
def mergeR (t : Bool) (rows : List D) (ps : List (D × D)) : List D := ps.foldl (fun r p => putR t r p.1 p.2) rows
def pairsOf : List D → Option (List (D × D))
  | [] => some []
  | .tup [k, v] :: r => match keyD k, pairsOf r with
    | some _, some ps => some ((k, v) :: ps)
    | _, _ => none
  | _ => none
def bDictNew : FB := fun ds st k => match ds with
  | [d] => match deref st d with
    | .lst xs => match pairsOf xs with
      | some ps => k (.dic false st.length) (st ++ [mergeR false [] ps])
      | none => False
    | _ => False
  | _ => False
theorem pairsOf_rep {K : PySem.W.Frag} {w : Wd} {H : Hp} (s : Same w.G H) : ∀ {xs : List D} {vs : List V} {ps : List (D × D)}, Reps K w xs vs → pairsOf xs = some ps →
    ∃ (as : List Addr) (kvs : List (Key × V)), vs = as.map V.ref ∧ Paired (fun p kv => SqT K H p [kV kv.1, kv.2]) as kvs ∧ ∀ (rows : List D) (k0 : List (Key × V)), RowsK K w rows k0 → RowsK K w (mergeR false rows ps) (mergeK k0 kvs)
  | [], vs, ps, h, e => by
    cases e
    rw [h.inv0]
    exact ⟨[], [], rfl, .nil, fun _ _ r => r⟩
  | x :: xs, vs, ps, h, e => by
    obtain ⟨v, r, rfl, h1, h2⟩ := h.inv
    match x, e, h1 with
    | .tup [k, d], e, h1 =>
      unfold pairsOf at e
      cases hk : keyD k with
      | none => rw [hk] at e; cases e
      | some y =>
        cases hp : pairsOf xs with
        | none => rw [hk, hp] at e; cases e
        | some qs =>
          rw [hk, hp] at e
          cases e
          obtain ⟨as, kvs, rfl, pr, m⟩ := pairsOf_rep s h2 hp
          simp only [Rep] at h1
          obtain ⟨a, us, rfl, q, r1⟩ := h1
          obtain ⟨v1, r2, rfl, e1, r3⟩ := r1.inv
          obtain ⟨v2, r4, rfl, e2, r5⟩ := r3.inv
          rw [r5.inv0] at q
          rw [key_rep e1 hk] at q
          refine ⟨a :: as, (y, v2) :: kvs, rfl, .cons (.inl (.inl (s _ _ q))) pr, fun rows k0 rr => ?_⟩
          exact m _ _ (rowsK_put hk e2 rr)
theorem cb_dictP (hc : X.calm = true) : CallR X (.type "dict") (rDB X.K bDictNew) := by
  refine CallR.by_ fun vs H Q w st ds kk W R q fo => ?_
  unfold bDictNew at q
  split at q
  · obtain ⟨v, rfl, R1⟩ := one_rep R
    split at q
    · rename_i xs hd
      split at q
      · rename_i ps hp
        obtain ⟨a, us, rfl, q1, r1, n⟩ := rep_lst W R1 hd
        obtain ⟨as, kvs, rfl, pr, m⟩ := pairsOf_rep W.same r1 hp
        refine ⟨_, call_dictP hc, a, as, kvs, rfl, q1, pr, fun p hn => ?_⟩
        have rr := m [] [] (by simp only [RowsK])
        have hl : kvs.length ≤ sizeLine := by
          have := Paired.length pr
          rw [List.length_map] at n
          omega
        refine fo _ _ _ _ _ q (Le.addK (W.nas hn)) (W.addK hn (k := some (.b false)) ⟨_, rfl, ?_, rr⟩) ?_
        · have := length_mergeK kvs ([] : List (Key × V))
          rw [List.length_nil] at this
          omega
        · simp only [Rep]
          refine ⟨p, rfl, ?_, if_pos rfl, trivial⟩
          show (w.as ++ [p])[st.length]? = some p
          rw [← W.len, List.getElem?_concat_length]
      · exact q.elim
    · exact q.elim
  · exact q.elim
theorem e_dictL {st : Sto} {xs : List D} {ps : List (D × D)} {k : DK} (h : pairsOf xs = some ps) : bDictNew [.lst xs] st k = k (.dic false st.length) (st ++ [mergeR false [] ps]) := by simp [bDictNew, deref, h]
/-! ### o[i] op= e -/
end

/-! ### d.values() -/
section
variable {X : Cx} {o : Expr} {p pos apos mpos : Pos} {td : TE}
end
/-! readings -/
section
variable {K : PySem.W.Frag} {w : Wd} {st : Sto} {H : Hp} {X : Cx} {o : Expr} {p pos apos mpos : Pos} {td : DE}
end
end DL

/-! DLN: tuple.index of a text. -/
namespace DL
open PySem PySem.Spec PyProof.Rows L2
section
variable {X : Cx} {e : Expr} {x : Str} {p apos cpos : Pos} {te : DE} {ds : List D}
def strsOf : List D → Option (List Str)
  | [] => some []
  | .str z :: r => (strsOf r).map (z :: ·)
  | _ => none
theorem strsOf_eq : ∀ {ds : List D} {ys : List Str}, strsOf ds = some ys → ds = ys.map D.str
  | [], ys, h => by cases h; rfl
  | d :: r, ys, h => by
    match d, h with
    | .str z, h =>
      have h' : (strsOf r).map (z :: ·) = some ys := h
      cases e : strsOf r with
      | none => rw [e] at h'; cases h'
      | some zs =>
        rw [e] at h'
        cases h'
        rw [strsOf_eq e]
        rfl
end
end DL

/-! DLP: sorted({e for x in xs for y in ys if ..}), the members texts. -/
namespace DL
open PySem PySem.Spec PyProof.Rows L2
open PySem.Froz (SD TxOk sObj addTx tailTx is_str)
/-! ### a set of texts -/
structure TPay (P : Program) (w : World) (D : SD) (ks : List Str) : Prop where
  tx : TxOk P w D ks
  ris : Ris D.2.2.place.toList
  led : w.params.followText "set-order" = true ∨ D.2.2.led = true
  nd : ks.Nodup
def TxSet (P : Program) (w : World) (h : Heap) (a : Addr) (ks : List Str) : Prop := ∃ D : SD, h.get? a = some (sObj "set" D) ∧ TPay P w D ks
def addS (k : Str) (ks : List Str) : List Str := if k ∈ ks then ks else k :: ks
section
variable {P : Program} {w : World} {A : Around} {E : Value → Shared → Prop} {s : Shared} {a : Addr} {ks : List Str} {k : Str} {u : Tok}
theorem tail_keeps {ep : Nat} {es1 : Array (Int × Value)} {t2 : SetTable} {wd b : Bool} (r : Ris t2.place.toList) (l : b = true ∨ t2.led = true) : Ris (tailTx ep es1 t2 wd).2.2.place.toList ∧ (b = true ∨ (tailTx ep es1 t2 wd).2.2.led = true) := by
  unfold tailTx
  split
  · refine ⟨relayAll_ris _ _ _, l.imp id fun z => ?_⟩
    dsimp only
    rw [relayAll_led]
    exact z
  · exact ⟨r, l⟩
theorem TPay.more {D : SD} (T : TPay P w D ks) (u : Tok) (hk : k ∉ ks) : TPay P w (addTx (hashStr w k) (.str k u) D) (k :: ks) := by
  obtain ⟨es, ep, t⟩ := D
  have r1 := layNew_ris t es (hashStr w k) (.str k u) T.ris
  have l1 := T.led.imp id fun z => (layNew_led t es (hashStr w k) (.str k u)).trans z
  have q := tail_keeps (ep := ep) (es1 := (layNew t es (hashStr w k) (.str k u)).1) (wd := (layNew t es (hashStr w k) (.str k u)).2.2.1)
    (t2 := if (layNew t es (hashStr w k) (.str k u)).2.1.plain = true then { (layNew t es (hashStr w k) (.str k u)).2.1 with plain := false } else (layNew t es (hashStr w k) (.str k u)).2.1) (b := w.params.followText "set-order") (by split <;> exact r1) (by split <;> exact l1)
  exact ⟨PySem.Froz.add_ok u T.tx, q.1, q.2, List.nodup_cons.mpr ⟨hk, T.nd⟩⟩
theorem old_hashed {D : SD} {Q : Bool → Shared → Prop} (ho : s.heap.get? a = some (sObj "set" D)) (T : TxOk P w D ks) (hk : k ∈ ks) (hb : ks.length < 4000) (h : Q false s) : wpAny (model P w) A (setAddHashed a (.str k u) (hashStr w k)) Q E s := by
  have hb0 : D.1.size < scanBound := by rw [T.sz]; unfold scanBound; omega
  obtain ⟨e, he, q⟩ := (T.mem k).mp hk
  obtain ⟨j, hj⟩ : ∃ j, D.1.toList.findIdx? (fun e => (strKind P w).is k e.2) = some j := by
    cases c : D.1.toList.findIdx? (fun e => (strKind P w).is k e.2) with
    | some j => exact ⟨j, rfl⟩
    | none => exact absurd q (by rw [List.findIdx?_eq_none_iff.mp c e he]; exact Bool.false_ne_true)
  unfold setAddHashed setAddHashedIn
  refine wpAny_holding (wpAny_bind (wpAny_setState_of ho rfl T.fit ?_))
  dsimp only
  rw [byScan_of rfl hb0 T.el]
  simp only [↓reduceIte]
  unfold setAddByScan
  refine wpAny_bind (wpAny_bind (wpAny_rule (wpAny_bind (wpAny_setScan_of (knd := strKind P w) (k := k) (is_str k u) ho rfl T.fit T.el ?_))))
  rw [hj]
  exact wpAny_pure (wpAny_pure h)
theorem perm_sub : ∀ {ks m : List Str}, ks.Nodup → (∀ k ∈ ks, k ∈ m) → m.length ≤ ks.length → m.Perm ks
  | [], m, _, _, l => by
    have e : m = [] := List.length_eq_zero_iff.mp (Nat.le_zero.mp l)
    rw [e]
  | k :: r, m, nd, sb, l => by
    have p := List.perm_cons_erase (sb k List.mem_cons_self)
    obtain ⟨n1, n2⟩ := List.nodup_cons.mp nd
    have l1 := p.length_eq
    simp only [List.length_cons] at l l1
    refine p.trans ((perm_sub n2 (fun j hj => ?_) (by omega)).cons k)
    refine (List.mem_erase_of_ne fun (e : j = k) => n1 (by rw [← e]; exact hj)).mpr (sb j (List.mem_cons_of_mem _ hj))
def txV (v : Value) : Str := match v with | .str k _ => k | _ => ⟨#[]⟩
theorem strsAre_txV : ∀ (l : List Value), (∀ v ∈ l, ∃ k t, v = Value.str k t) → StrsAre l (l.map txV)
  | [], _ => .nil
  | v :: l, h => by
    obtain ⟨k, t, rfl⟩ := h v List.mem_cons_self
    exact .cons k t (strsAre_txV l fun x hx => h x (List.mem_cons_of_mem _ hx))
theorem txOk_keys {D : SD} (T : TxOk P w D ks) (nd : ks.Nodup) : (D.1.toList.map fun e => txV e.2).Perm ks ∧ ∀ e ∈ D.1.toList, ∃ x t, e.2 = Value.str x t := by
  have shape : ∀ e ∈ D.1.toList, ∃ x t, e.2 = Value.str x t := fun e he => by
    obtain ⟨⟨x, hx, _⟩, _⟩ := T.el e he
    obtain ⟨t, ht⟩ := Value.isStrOf_shape hx
    exact ⟨x, t, ht⟩
  refine ⟨perm_sub nd (fun j hj => ?_) (by rw [List.length_map, Array.length_toList, T.sz]; exact Nat.le_refl _), shape⟩
  obtain ⟨e, he, q⟩ := (T.mem j).mp hj
  obtain ⟨t, ht⟩ := Value.isStrOf_shape q
  exact List.mem_map.mpr ⟨e, he, by rw [ht] <;> rfl⟩
theorem txset_sorted {Q : Value → Shared → Prop} (R : TxSet P w s.heap a ks) (hh : A.handled = none) (h64 : ks.length < 64)
    (hQ : ∀ (s' : Shared) (p : Addr) (out : Array Value) (c : Nat) (ys : List Str), (∀ b o, s.heap.get? b = some o → s'.heap.get? b = some o) → s'.gens = s.gens → s'.os = s.os → s.heap.objs.size ≤ p →
      s'.heap.get? p = some (seqObj "list" out c) → StrsAre out.toList ys → ys.Perm ks → sortedS ys = true → Q (.ref p) s') :
    wpAny (model P w) A (call (.builtin "sorted") [.ref a]) Q E s := by
  obtain ⟨D, ho, T⟩ := R
  obtain ⟨pk, sh⟩ := txOk_keys T.tx T.nd
  have hsz : D.1.size = ks.length := T.tx.sz
  refine Calls.call_function_entry kind_sorted plain_sorted entry_sorted (args_sorted1 _) ?_
  unfold Builtin.«sorted»
  refine wpAny_bind (m := checkCount "sorted" 1 1 _) (wpAny_pure ?_)
  refine wpAny_bind (collect_set (A := A.in1) hh ⟨_, ho, rfl, rfl⟩ T.tx.fit (by unfold scanBound; omega) T.ris T.led fun s1 vs k1 hz g1 o1 pm => ?_)
  have hvl : vs.length = ks.length := by rw [pm.length_eq, List.length_map, Array.length_toList, hsz]
  have hI := strsAre_txV vs fun v hv => by
    obtain ⟨e, he, q⟩ := List.mem_map.mp (pm.mem_iff.mp hv)
    rw [← q]
    exact sh e he
  have pv : (vs.map txV).Perm ks := (by simpa [List.map_map] using pm.map txV : (vs.map txV).Perm (D.1.toList.map (txV ∘ Prod.snd))).trans pk
  refine wpAny_bind (wpAny_newList ?_ (by rw [hvl, sizeLine_eq]; omega))
  have hoL : (s1.heap.push (seqObj "list" vs.toArray 0)).get? s1.heap.objs.size = some (seqObj "list" vs.toArray 0) := Heap.get?_push_size _ rfl
  refine wpAny_bind (wpAny_holding (wpAny_call_entry slot_list_sort ⟨_, hoL, rfl⟩ entry_list_sort (list_sort_treeK strKind_oneLt hoL hI.keysOf (fun x y r e => keyKind_strs (by rw [← e]; exact hI)) (by rw [hvl]; exact h64) fun st' a1 a2 => ?_) (args_list_sort _)))
  obtain ⟨ys, b1, b2, b3⟩ := sorted_out_str hI a1 a2
  obtain ⟨c, hc⟩ := sortedHeap_at (vs := vs) (out := (arrOf st').map (·.2)) hoL
  refine ⟨_, rfl, ?_⟩
  refine wpAny_pure ⟨_, rfl, hQ _ s1.heap.objs.size _ c ys (fun b o e => ?_) g1 o1 hz hc b1 (b2.trans pv) b3⟩
  have q := k1 b o e
  have hlt := Heap.lt_size q
  refine Eq.trans (sortedHeap_old (Nat.ne_of_lt hlt) ?_) (Heap.get?_push_of_some _ q)
  rw [size_push']
  exact Nat.lt_succ_of_lt hlt
end
/-! ### the comprehension of two clauses -/
section
variable {prog : Program} {w : World} {A : Around} {R : Result → Shared → Prop} {s : Shared} {elt t0 i0 t1 i1 : Expr} {c0 c1 : List Expr} {sc : Scope} {pos : Pos} {it acc : Value} {env : PySem.Env}
end
/-! ### over data -/
theorem _root_.L2.FpOk.more {X : Cx} {pins pins' : List (Addr × Obj)} {H : Hp} {b : Addr} (h : FpOk X pins H b) (n : ∀ p ∈ pins', p.1 ≠ b) : FpOk X pins' H b :=
  ⟨h.1, h.2.1, h.2.2.1, h.2.2.2.1, h.2.2.2.2.1, fun p hp => (List.mem_append.mp hp).elim (fun z => h.2.2.2.2.2 p (List.mem_append_left _ z)) (n p)⟩
theorem _root_.L2.FpOk.pins {X : Cx} {pins pins' : List (Addr × Obj)} {H : Hp} {b : Addr} (h : FpOk X pins H b) (n : ∀ p ∈ pins', p.1 ≠ b) : FpOk X pins' H b := h.more n
theorem _root_.L2.FpOk.at {X : Cx} {pins : List (Addr × Obj)} {H H' : Hp} {b : Addr} (h : FpOk X pins H b) (n : H' b = none) : FpOk X pins H' b := ⟨n, h.2⟩
theorem _root_.L2.Inv.only {X : Cx} {pins pins' : List (Addr × Obj)} {σ : L2.St} {H : Hp} {s : Shared} (I : Inv X pins σ H s) (h : ∀ p ∈ pins', p ∈ pins) : Inv X pins' σ H s := I.pins_of fun p hp => I.pin p (List.mem_append_right _ (h p hp))
theorem Reps.strs_eq {K : PySem.W.Frag} {w : Wd} : ∀ {zs : List Str} {us : List V}, Reps K w (zs.map D.str) us → us = zs.map V.str
  | [], _, h => h.inv0
  | z :: r, us, h => by
    obtain ⟨v, vr, e, g1, g2⟩ := h.inv
    simp only [Rep] at g1
    rw [e, g1, Reps.strs_eq g2]
    rfl
theorem Reps.of_strs {K : PySem.W.Frag} {w : Wd} : ∀ ys : List Str, Reps K w (ys.map D.str) (ys.map V.str)
  | [] => .nil
  | y :: r => .cons (by simp only [Rep]) (Reps.of_strs r)
section
variable {X : Cx} {elt tg iter tg1 iter1 : Expr} {ifs ifs1 : List Expr} {scope : Scope} {own : List (Str × Nat)} {di di1 : DI} {g g1 : DG} {tt tt1 : DT} {te : DE} {vs1 : List Nat} {pos p cpos : Pos}
end
/-! ### sorted(set(xs)) of a list of texts -/
def setS (xs : List Str) : List Str := xs.foldl (fun ks k => addS k ks) []
theorem mem_addS {j k : Str} {ks : List Str} : j ∈ addS k ks ↔ j = k ∨ j ∈ ks := by
  unfold addS
  split
  · exact ⟨.inr, fun h => h.elim (fun e => by rw [e]; assumption) id⟩
  · exact List.mem_cons
theorem addS_nd {k : Str} {ks : List Str} (h : ks.Nodup) : (addS k ks).Nodup := by
  unfold addS
  split
  · exact h
  · exact List.nodup_cons.mpr ⟨by assumption, h⟩
theorem addS_len {k : Str} {ks : List Str} : (addS k ks).length ≤ ks.length + 1 := by
  unfold addS
  split <;> simp
theorem adds_facts : ∀ (xs ks : List Str), ks.Nodup → (∀ j, j ∈ xs.foldl (fun ks k => addS k ks) ks ↔ j ∈ xs ∨ j ∈ ks) ∧ (xs.foldl (fun ks k => addS k ks) ks).Nodup ∧ (xs.foldl (fun ks k => addS k ks) ks).length ≤ xs.length + ks.length
  | [], ks, h => ⟨fun j => by simp, h, by simp⟩
  | x :: r, ks, h => by
    obtain ⟨a, b, c⟩ := adds_facts r (addS x ks) (addS_nd h)
    refine ⟨fun j => (a j).trans ?_, b, Nat.le_trans c ?_⟩
    · rw [mem_addS, List.mem_cons]
      exact ⟨fun z => z.elim (fun z => .inl (.inr z)) fun z => z.elim (fun z => .inl (.inl z)) .inr, fun z => z.elim (fun z => z.elim (fun z => .inr (.inl z)) .inl) fun z => .inr (.inr z)⟩
    · have := addS_len (k := x) (ks := ks)
      simp only [List.length_cons]
      omega
theorem mem_setS {j : Str} {xs : List Str} : j ∈ setS xs ↔ j ∈ xs := ((adds_facts xs [] List.nodup_nil).1 j).trans (by simp)
theorem setS_nd (xs : List Str) : (setS xs).Nodup := (adds_facts xs [] List.nodup_nil).2.1
theorem setS_len (xs : List Str) : (setS xs).length ≤ xs.length := (adds_facts xs [] List.nodup_nil).2.2
section
variable {P : Program} {w : World} {A : Around} {E : Value → Shared → Prop} {s : Shared} {a : Addr} {ks : List Str} {k : Str} {u : Tok}
theorem txset_put {Q : Bool → Shared → Prop} (R : TxSet P w s.heap a ks) (room : ks.length < 4000) (h : ∀ b h', Heap.SameBut a s.heap h' → TxSet P w h' a (addS k ks) → Q b { s with heap := h' }) : wpAny (model P w) A (setAddHashed a (.str k u) (hashStr w k)) Q E s := by
  obtain ⟨D, ho, T⟩ := R
  by_cases hk : k ∈ ks
  · refine old_hashed ho T.tx hk room (h _ s.heap (Heap.SameBut.refl a s.heap) ⟨D, ho, ?_⟩)
    unfold addS
    rw [if_pos hk]
    exact T
  · refine PySem.Froz.add_x ho T.tx hk (by unfold scanBound; omega) (h _ _ (Heap.SameBut.update s.heap a _) ⟨_, PySem.Froz.get_upd _ ho rfl, ?_⟩)
    unfold addS
    rw [if_neg hk]
    exact T.more u hk
theorem set_from_texts {I : Addr} {fp wr : List Addr} {G : Array GenState → Array GenState → Prop} {n : Nat} {Pv : Nat → Value → Prop} {St : Nat → Shared → Prop} {R : Result → Shared → Prop}
    (W : WalksS P w A.in1 I fp wr G n Pv St) (T : Addr) (out : T ∉ fp) (xs : List Str) (hn : n = xs.length) (hb : xs.length < 4000) (got : ∀ i v, Pv i v → ∃ k t, xs[i]? = some k ∧ v = .str k t) :
    ∀ (m i : Nat) (s : Shared), n - i = m → i ≤ n → St i s → TxSet P w s.heap T (setS (xs.take i)) → (∀ s', Moved (T :: wr) G s s' → TxSet P w s'.heap T (setS xs) → R (.ok (.ret .none)) s') →
      codeAny (model P w) A (.builtin "set.update.loop" ⟨[.ref T, .ref I], []⟩) R s := by
  have out' : T ∉ wr := fun z => out (W.sub _ z)
  have wide : ∀ b ∈ wr, b ∈ T :: wr := fun b z => List.mem_cons_of_mem _ z
  have same : ∀ {h h' : Heap} {l : List Str}, TxSet P w h T l → (∀ o, h.get? T = some o → h'.get? T = some o) → TxSet P w h' T l := fun ⟨D, e, q⟩ k => ⟨D, k _ e, q⟩
  intro m
  induction m with
  | zero =>
    intro i s hm hi st S0 fin
    have e : i = n := by omega
    subst e
    refine codeAny_builtin F.entry_set_update_loop ?_
    rw [Around.under_plainId F.plain_set_update_loop _]
    show wpAny _ A.in1 (pyNext (.ref I) >>= _) _ _ s
    refine wpAny_bind (W.done s _ _ st fun s' mv => ?_)
    rw [List.take_of_length_le (by omega)] at S0
    exact wpAny_pure (fin s' (mv.mono wide) (same S0 fun o q => mv.heap T o out' q))
  | succ m ih =>
    intro i s hm hi st S0 fin
    have lt : i < n := by omega
    refine codeAny_builtin F.entry_set_update_loop ?_
    rw [Around.under_plainId F.plain_set_update_loop _]
    show wpAny _ A.in1 (pyNext (.ref I) >>= _) _ _ s
    refine wpAny_bind (W.item i s _ _ lt st fun v s' pv st' mv => ?_)
    obtain ⟨z, t, hz, rfl⟩ := got i v pv
    have S1 : TxSet P w s'.heap T (setS (xs.take i)) := same S0 fun o q => mv.heap T o out' q
    have room : (setS (xs.take i)).length < 4000 := by
      have := setS_len (xs.take i)
      rw [List.length_take] at this
      omega
    show wpAny _ A.in1 (holding [Value.str z t] (setAdd T (.str z t)) >>= _) _ _ s'
    unfold setAdd
    refine wpAny_bind (wpAny_holding (wpAny_holding (wpAny_bind ((strKind P w).pyHash (k := z) (is_str z t) (txset_put (s := { s' with toks := s'.toks + 1 }) S1 room fun b h' sb S2 => ?_)))))
    have e2 : addS z (setS (xs.take i)) = setS (xs.take (i + 1)) := by
      unfold setS
      rw [List.take_add_one, hz, Option.toList_some, List.foldl_append]
      rfl
    rw [e2] at S2
    refine wpAny_pure ⟨plainId_quiet F.plain_set_update_loop _, ih (i + 1) _ (by omega) lt (W.frame _ s' _ _ st' (Nat.le_succ _) fun c hc o q => ?_) S2 fun s2 mv2 S3 => ?_⟩
    · exact (sb.2 c fun z : c = T => out (by rw [← z]; exact hc)).trans q
    · refine fin s2 (Moved.trans W.gtrans ((mv.mono wide).then_heap (Nat.le_succ _) fun c o hc q => ?_) mv2) S3
      exact (sb.2 c fun z : c = T => hc (by rw [z]; exact List.mem_cons_self)).trans q
theorem set_ofTexts {l : Addr} {its : Array Value} (xs : List Str) {Q : Value → Shared → Prop} (hh : A.handled = none) (hl : s.heap.IsList l its) (hi : StrsAre its.toList xs) (hb : xs.length < 4000)
    (h : ∀ (h' : Heap) (tk : Nat), TxSet P w h' s.heap.objs.size (setS xs) → (∀ b o, s.heap.get? b = some o → h'.get? b = some o) → Q (.ref s.heap.objs.size) { s with heap := h', toks := tk }) :
    wpAny (model P w) A (call (.type "set") [.ref l]) Q E s := by
  have hn : its.size = xs.length := by
    have q := hi.length
    rw [Array.length_toList] at q
    exact q
  refine DLA.type_called (R := fun ob s1 => ob = .ref s.heap.objs.size ∧ s1 = { s with heap := s.heap.push { cls := .type "set", dict := none, data := .set #[] 0 (.fresh 0 0 (!w.params.followText "set-order")) } })
    F.called_set (F.typeCall_set_1 _) F.entry_set_init (code_set_led1 _ ⟨rfl, rfl⟩) ?_
  rintro ob s1 ⟨rfl, rfl⟩
  obtain ⟨lo, hlo, hlc, ln, hld⟩ := hl
  obtain ⟨c0, d0, x0, sl0⟩ := lo
  simp only at hlc hld
  subst hlc hld
  generalize hob : ({ cls := .type "set", dict := none, data := .set #[] 0 (.fresh 0 0 (!w.params.followText "set-order")) } : Obj) = ob
  have hS : (s.heap.push ob).get? s.heap.objs.size = some ob := Heap.get?_push_size _ (by rw [← hob]; rfl)
  have hlt : l < s.heap.objs.size := Heap.lt_size hlo
  have hl1 : (s.heap.push ob).IsList l its := ⟨_, Heap.get?_push_of_some _ hlo, rfl, ln, rfl⟩
  have hT : Shared.TypeIs { s with heap := s.heap.push ob } (.ref s.heap.objs.size) "set" := ⟨_, hS, by rw [← hob]⟩
  refine ⟨hT, codeAny_call_builtin F.called_set.init.plain F.entry_set_init (check_set_init_1 hT ?_)⟩
  have no1 := F.sub_list_set
  have no2 := F.sub_list_frozenset
  have ne : (Value.type "list" == Value.type "dict") = false := by decide
  unfold Builtin.«set.__init__» noKeywords Builtin.Frozenset.updateFrom
  generalize hPI : pyIter = PI
  subst hob
  wp_walk
  subst hPI
  refine wpAny_pyIter_list hl1 ?_
  refine wpAny_bind (wpAny_runValue ?_)
  have fresh : ∀ (ob : Obj), s.heap.objs.size ∉ [(s.heap.push ob).objs.size, l] := fun ob => by
    rw [Heap.size_push]
    simp only [List.mem_cons, List.not_mem_nil, or_false, not_or]
    exact ⟨Nat.ne_of_lt (Nat.lt_succ_self _), Nat.ne_of_gt hlt⟩
  have neI : ∀ (ob : Obj), l ≠ (s.heap.push ob).objs.size := fun ob => by
    rw [Heap.size_push]
    exact Nat.ne_of_lt (Nat.lt_succ_of_lt hlt)
  have got : ∀ (i : Nat) (v : Value), its[i]? = some v → ∃ k t, xs[i]? = some k ∧ v = .str k t := fun i v hv => by
    have lt : i < xs.length := by rw [← hn]; exact (Array.getElem?_eq_some_iff.mp hv).1
    obtain ⟨t, e⟩ := SS.strs_at hi i v (by rw [Array.getElem?_toList]; exact hv)
    exact ⟨xs[i], t, List.getElem?_eq_getElem lt, by rw [e, List.getD_eq_getElem?_getD, List.getElem?_eq_getElem lt]; rfl⟩
  have calm3 : A.in1.in1.in1.handled = none := by simp [hh]
  have S0 : ∀ h' : Heap, h'.get? s.heap.objs.size = some { cls := .type "set", dict := none, data := .set #[] 0 (.fresh 0 0 (!w.params.followText "set-order")) } → TxSet P w h' s.heap.objs.size (setS (xs.take 0)) := fun h' e => by
    refine ⟨(#[], 0, .fresh 0 0 (!w.params.followText "set-order")), e, PySem.Froz.TxOk.nil rfl, List.Pairwise.nil, ?_, List.nodup_nil⟩
    show _ ∨ (!w.params.followText "set-order") = true
    cases w.params.followText "set-order"
    · exact .inr rfl
    · exact .inl rfl
  refine set_from_texts ((Walks.list calm3 _ l (neI _) its).toS) s.heap.objs.size (fresh _) xs hn hb got (its.size - 0) 0 _ (by omega) (Nat.zero_le _)
    ⟨⟨_, Heap.get?_push_size _ rfl, rfl, rfl⟩, (hl1.push _)⟩ (S0 _ (Heap.get?_push_of_some _ hS)) ?_
  intro s' hm hS'
  obtain ⟨h', g2, d', tk', os'⟩ := s'
  have eg : g2 = s.gens := hm.gens
  have ed : d' = s.drawn := hm.drawn
  have eo : os' = s.os := hm.os
  subst eg ed eo
  refine wpAny_pure (wpAny_pure ⟨rfl, h h' tk' hS' fun b o e => ?_⟩)
  have lt := Heap.lt_size e
  refine hm.heap b o ?_ (Heap.get?_push_of_some _ (Heap.get?_push_of_some _ e))
  rw [Heap.size_push]
  simp only [List.mem_cons, List.not_mem_nil, or_false, not_or]
  exact ⟨Nat.ne_of_lt lt, Nat.ne_of_lt (Nat.lt_succ_of_lt lt)⟩
end
def srtTxK (k : DK) : DK := fun d s1 => match deref s1 d with
  | .lst xs => match strsOf xs with
    | some zs => zs.length < 64 ∧ ∀ ys : List Str, ys.Perm (setS zs) → sortedS ys = true → k (.lst (ys.map D.str)) s1
    | none => False
  | _ => False
def dSrtTx (te : DE) : DE := fun env st k => te env st (srtTxK k)
section
variable {X : Cx} {e : Expr} {te : DE} {p p2 q pos : Pos} {env : DL.Env} {st : Sto} {k : DK} {zs : List Str}
theorem pd_srtTx (hc : X.calm = true) (hgl : Gl X "sorted") (hmg : X.mg "sorted" = none) (hg2 : Gl X "set") (hm2 : X.mg "set" = none) (he : PD X e te)
    (na : starEach [Expr.Call (.Name "set" p2) [e] [] q] X.env = (false, eval (Expr.Call (.Name "set" p2) [e] [] q) X.env) :: starEach [] X.env := by rfl)
    (nb : starEach [e] X.env = (false, eval e X.env) :: starEach [] X.env := by rfl) : PD X (.Call (.Name "sorted" p) [.Call (.Name "set" p2) [e] [] q] [] pos) (dSrtTx te) := by
  refine ⟨fun pins s σ H Q I ⟨w, env, st, kk, W, E, h, fo⟩ => ?_⟩
  refine Call_ (ld_blt I hgl hmg boot_sorted ?_)
  refine PyProof.Rows.callWith_builtin1 (PyProof.Rows.args_cons ?_ na) rfl rfl
  refine Call_ (ld_blt I hg2 hm2 boot_set ?_)
  refine PyProof.Rows.callWith_type1 (PyProof.Rows.args_cons (thn (he.run pins s σ H (fun v H1 => ∃ d st1 w1, srtTxK kk d st1 ∧ Le w w1 ∧ Wld X.K w1 st1 H1 ∧ Rep X.K w1 d v) I ⟨w, env, st, _, W, E, h, fun d st1 v w1 H1 a1 a2 a3 a4 => ⟨d, st1, w1, a1, a2, a3, a4⟩⟩)
    fun v s1 ⟨x, H1, I1, r1, d, st1, w1, q1, l1, W1, R1⟩ => PyProof.Rows.args_nil ?_) nb) nb rfl
  unfold srtTxK at q1
  split at q1
  · rename_i hd
    split at q1
    · rename_i zs hz
      obtain ⟨a, us, rfl, q2, r2, n2⟩ := rep_lst W1 R1 hd
      rw [strsOf_eq hz] at r2
      obtain ⟨its, rv, hl, _⟩ := I1.list q2
      cases r1
      have eu : us = zs.map V.str := Reps.strs_eq r2
      subst eu
      refine set_ofTexts (P := X.prog) zs (I1.ok.hd hc) hl.isList (by simpa using rv.strs) (by omega) fun h' tk S1 k1 => PyProof.Rows.args_nil ?_
      have I2 := I1.kept (t' := tk) k1
      have h64 : (setS zs).length < 64 := Nat.lt_of_le_of_lt (setS_len zs) q1.1
      refine txset_sorted (P := X.prog) (w := X.w) (s := { s1 with heap := h', toks := tk }) S1 (I2.ok.hd hc) h64 fun s' p out c ys k2 g1 o1 hp hob hS pm srt => ?_
      have hnp : H1 p = none := I2.hok.fresh hp
      have lz : (ys.map V.str).length ≤ sizeLine := by rw [List.length_map, pm.length_eq, sizeLine_eq]; omega
      have I3 : Inv X pins σ (upd H1 p (.lst (ys.map V.str))) s' := I2.call' (ch := []) o1 (Un.laid k2 hp hnp) (I2.hok.laid k2 hp ⟨lz, out.toList, c, vals_of_strs hS, hob⟩) (by rw [g1]; exact I2.bare) fun _ z => nomatch z
      exact ⟨.ref p, _, I3, rfl, fol_lst W1 (Reps.of_strs ys) lz (q1.2 ys pm srt) (fo.le l1) p hnp⟩
    · exact q1.elim
  · exact q1.elim
theorem strsOf_map : ∀ zs : List Str, strsOf (zs.map D.str) = some zs
  | [] => rfl
  | z :: r => by
    show (strsOf (r.map D.str)).map (z :: ·) = _
    rw [strsOf_map r]
    rfl
theorem e_srtTx : dSrtTx te env st k = te env st (srtTxK k) := rfl
theorem e_srtTxL : srtTxK k (.lst (zs.map D.str)) st = (zs.length < 64 ∧ ∀ ys : List Str, ys.Perm (setS zs) → sortedS ys = true → k (.lst (ys.map D.str)) st) := by
  unfold srtTxK
  simp only [deref, strsOf_map]
end
/-! ### a sorted list of different texts is one -/
theorem ltC_tri : ∀ a b : List Nat, ltCps a b = false → ltCps b a = false → a = b
  | [], [], _, _ => rfl
  | [], _ :: _, h, _ => by cases h
  | _ :: _, [], _, h => by cases h
  | a :: r, b :: t, h1, h2 => by
    simp only [ltCps, Bool.or_eq_false_iff, decide_eq_false_iff_not, Bool.and_eq_false_iff] at h1 h2
    have e : a = b := by omega
    subst e
    rcases h1.2 with z | z
    · simp at z
    · rcases h2.2 with z2 | z2
      · simp at z2
      · rw [ltC_tri r t z z2]
theorem ltC_trans : ∀ a b c : List Nat, ltCps b a = false → ltCps c b = false → ltCps c a = false
  | [], [], [], _, _ => rfl
  | [], [], _ :: _, _, _ => rfl
  | [], _ :: _, [], _, h => by cases h
  | [], _ :: _, _ :: _, _, _ => rfl
  | _ :: _, [], _, h, _ => by cases h
  | _ :: _, _ :: _, [], _, h => by cases h
  | a :: r, b :: t, c :: u, h1, h2 => by
    simp only [ltCps, Bool.or_eq_false_iff, decide_eq_false_iff_not, Bool.and_eq_false_iff, beq_eq_false_iff_ne] at h1 h2 ⊢
    refine ⟨by omega, ?_⟩
    by_cases e : c = a
    · subst e
      right
      have e2 : b = c := by omega
      subst e2
      exact ltC_trans r t u (h1.2.resolve_left fun z => z rfl) (h2.2.resolve_left fun z => z rfl)
    · exact .inl e
theorem rising_all : ∀ (r : List Str) (p : Str), risingS p r = true → ∀ y ∈ r, ltCps y.cps.toList p.cps.toList = false
  | [], _, _, _, h => by cases h
  | x :: r, p, h, y, hy => by
    simp only [risingS, Bool.and_eq_true, Bool.not_eq_true'] at h
    rcases List.mem_cons.mp hy with e | hy
    · rw [e]; exact h.1
    · exact ltC_trans _ _ _ h.1 (rising_all r x h.2 y hy)
theorem rising_tail {x : Str} : ∀ {r : List Str}, risingS x r = true → sortedS r = true
  | [], _ => rfl
  | y :: r, h => by
    simp only [risingS, Bool.and_eq_true] at h
    exact h.2
theorem str_ext {a b : Str} (h : a.cps.toList = b.cps.toList) : a = b := by
  cases a; cases b
  simp only [Str.mk.injEq]
  exact Array.toList_inj.mp h
/-- sorted lists with the same members, none twice, are one -/
theorem sortedS_one : ∀ {xs ys : List Str}, sortedS xs = true → sortedS ys = true → xs.Perm ys → xs = ys
  | [], ys, _, _, p => (p.nil_eq).symm ▸ rfl
  | x :: r, [], _, _, p => by
    have := p.length_eq
    simp at this
  | x :: r, y :: t, h1, h2, p => by
    have e : x = y := by
      have m1 := p.mem_iff.mp (List.mem_cons_self (a := x) (l := r))
      have m2 := p.mem_iff.mpr (List.mem_cons_self (a := y) (l := t))
      rcases List.mem_cons.mp m1 with e | m1
      · exact e
      · rcases List.mem_cons.mp m2 with e | m2
        · exact e.symm
        · exact str_ext (ltC_tri _ _ (rising_all t y h2 x m1) (rising_all r x h1 y m2))
    subst e
    rw [sortedS_one (rising_tail h1) (rising_tail h2) ((List.perm_cons x).mp p)]
end DL

/-! zip of a tuple and a list, not strict -/
namespace DL
open PySem PySem.Spec PyProof.Rows L2
section
variable {K : PySem.W.Frag} {w : Wd} {st : Sto}
end
section
variable {X : Cx} {e e2 : Expr} {ta tb : DE} {p pos : Pos}
variable {env : DL.Env} {st : Sto} {kk : DIk} {ds es : List D} {i : Nat}
end
end DL

/-! DLR: dicts walked (locked), displayed, copied, made by comprehension; their text keys sorted. -/
namespace DL
open PySem PySem.Spec PyProof.Rows L2
theorem okRows_tab {κ α : Type} {e : κ → D} {f : α → D} {ks : List (κ × α)} : okRows (tabR e f ks) = true := okRows_map (fun p : κ × α => e p.1) (fun p => f p.2) ks
/-! ### a dict is locked -/
def Wd.lock (w : Wd) (a : Addr) (L : Lk) : Wd := ⟨w.G, w.as, w.hid, w.dk, fun b => if b = a then L else w.lk b⟩
section
variable {K : PySem.W.Frag} {w w1 : Wd} {st : Sto} {H : Hp}
/-- a dict with keys of texts or ints is locked -/
def LkK (w : Wd) (a : Addr) (ob : Obj) (kvs : List (Key × V)) : Prop := w.lk a = some (ob, .dK kvs) ∧ w.dk a = some (.b false)
theorem lk_frz {j : Nat} {a : Addr} {ob : Obj} {kvs : List (Key × V)} (W : Wld K w st H) (ha : w.as[j]? = some a) (hL : LkK w a ob kvs) : H a = some (.frz ob (.dK kvs)) := by
  obtain ⟨g, xs, o, h1, h2, h3⟩ := W.at_ j a ha
  rw [hL.1, hL.2] at h3
  rcases h3 with ⟨z, _⟩ | ⟨_, rows, ob', kvs', e, _, e2, _⟩ | ⟨z, _⟩
  · cases z
  · cases e
    rw [e2] at h2
    exact h2
  · cases z
theorem Rep.lock {d : D} {v : V} (a : Addr) (L : Lk) (h : Rep K w d v) : Rep K (w.lock a L) d v := Rep.mono' (w := w) (w' := w.lock a L) (Same.refl w.G) (.eq rfl rfl) _ _ h
theorem RowsK.lock {ds : List D} {kvs : List (Key × V)} (a : Addr) (L : Lk) (h : RowsK K w ds kvs) : RowsK K (w.lock a L) ds kvs := RowsK.mono' (w := w) (w' := w.lock a L) (Same.refl w.G) (.eq rfl rfl) _ _ h
theorem EntR.lock {k : Option Kd} {M : Lk} {xs : List D} {o : HO} (a : Addr) (L : Lk) (h : EntR K w k M xs o) : EntR K (w.lock a L) k M xs o := EntR.mono' (w := w) (w' := w.lock a L) (Same.refl w.G) (.eq rfl rfl) h
theorem EnvR.lock {env : DL.Env} {σ : L2.St} (a : Addr) (L : Lk) (h : EnvR K w env σ) : EnvR K (w.lock a L) env σ := ⟨h.1, fun i d e => let ⟨v, e1, r⟩ := h.2 i d e; ⟨v, e1, r.lock a L⟩⟩
theorem Wld.wrL (W : Wld K w st H) {i : Nat} {a : Addr} {xs : List D} {o : HO} {L : Lk} (ha : w.as[i]? = some a) (r : EntR K w (w.dk a) L xs o) : Wld K (w.lock a L) (st.set i xs) (upd H a o) := by
  obtain ⟨g, ys, us, h1, h2, h3⟩ := W.at_ i a ha
  refine ⟨fun b u e => ?_, by rw [List.length_set]; exact W.len, W.nd, fun j b e => ?_, W.small, fun b vs e => ?_, W.hnd⟩
  · have e : w.G b = some u := e
    have ne : b ≠ a := fun z => by rw [z, g] at e; cases e
    rw [upd_ne ne]
    exact W.same b u e
  · have e : w.as[j]? = some b := e
    by_cases hj : j = i
    · subst hj
      rw [ha] at e
      cases e
      refine ⟨g, xs, o, List.getElem?_set_self (List.getElem?_eq_some_iff.mp h1).1, upd_same, ?_⟩
      have el : (w.lock a L).lk a = L := if_pos rfl
      rw [el]
      exact r.lock a L
    · obtain ⟨g', zs, ws, k1, k2, k3⟩ := W.at_ j b e
      have ne : b ≠ a := fun z => by
        subst z
        exact hj (nd_ix W.nd e ha)
      have el : (w.lock a L).lk b = w.lk b := if_neg ne
      refine ⟨g', zs, ws, by rw [List.getElem?_set_ne (Ne.symm hj)]; exact k1, by rw [upd_ne ne]; exact k2, ?_⟩
      rw [el]
      exact k3.lock a L
  · obtain ⟨g', n, h'⟩ := W.hidd b vs e
    have ne : b ≠ a := fun z => n (by rw [z]; exact List.mem_of_getElem? ha)
    exact ⟨g', n, by rw [upd_ne ne]; exact h'⟩
/-- behind the lock -/
theorem un_le {a : Addr} {L : Lk} (l : Le (w.lock a L) w1) (h0 : w.lk a = none) : Le w (w1.lock a none) := by
  refine ⟨⟨l.same, ⟨l.pre.as, l.pre.dk⟩, fun b hb => ?_⟩, l.hid⟩
  by_cases e : b = a
  · subst e
    rw [h0]
    exact if_pos rfl
  · have e1 : (w1.lock a none).lk b = w1.lk b := if_neg e
    rw [e1]
    have e2 : (w.lock a L).lk b = w.lk b := if_neg e
    rw [← e2]
    exact l.lk b hb
end
/-- what is asked of a dict that is walked: as it stands there, its rows behind -/
def lockAt (i : Nat) (env : DL.Env) (st : Sto) (p : Nat → List D → Prop) : Prop := match env[i]? with
  | some (some (.dic (.b false) j)) => match st[j]? with
    | some rows => okRows rows = true ∧ p j rows
    | none => False
  | _ => False
theorem lockAt_of {i j : Nat} {env : DL.Env} {st : Sto} {rows : List D} {p : Nat → List D → Prop} (h1 : env[i]? = some (some (.dic false j))) (h2 : st[j]? = some rows) (ok : okRows rows = true) (h : p j rows) : lockAt i env st p := by
  unfold lockAt
  rw [h1]
  simp only [h2]
  exact ⟨ok, h⟩
theorem lockAt_in {i : Nat} {env : DL.Env} {st : Sto} {p : Nat → List D → Prop} (h : lockAt i env st p) : ∃ j rows, env[i]? = some (some (.dic false j)) ∧ st[j]? = some rows ∧ okRows rows = true ∧ p j rows := by
  unfold lockAt at h
  split at h
  · rename_i j e
    split at h
    · rename_i rows e2
      exact ⟨j, rows, e, e2, h.1, h.2⟩
    · exact h.elim
  · exact h.elim
def dLockS (i : Nat) (t : DS) : DS := fun E env st => lockAt i env st fun j rows => t ⟨fun env' st' => E.nx env' (st'.set j rows), fun d st' => E.rt d (st'.set j rows)⟩ env (st.set j (rows ++ [lockD]))
def dLockE (i : Nat) (t : DE) : DE := fun env st k => lockAt i env st fun j rows => t env (st.set j (rows ++ [lockD])) fun d st' => k d (st'.set j rows)
section
variable {X : Cx}
theorem lock_open {K : PySem.W.Frag} {w : Wd} {env : DL.Env} {st : Sto} {σ : L2.St} {H : Hp} {i j : Nat} {rows : List D} (W : Wld K w st H) (E : EnvR K w env σ) (h1 : env[i]? = some (some (.dic false j))) (h2 : st[j]? = some rows) (ok : okRows rows = true) :
    ∃ a kvs, H a = some (.dK kvs) ∧ w.lk a = none ∧ w.as[j]? = some a ∧ ∀ od, Wld K (w.lock a (some (od, .dK kvs))) (st.set j (rows ++ [lockD])) (upd H a (.frz od (.dK kvs))) ∧
      ∀ (w1 : Wd) (st1 : Sto) (H1 : Hp), Le (w.lock a (some (od, .dK kvs))) w1 → Wld K w1 st1 H1 → H1 a = some (.frz od (.dK kvs)) ∧ Le w (w1.lock a none) ∧ Wld K (w1.lock a none) (st1.set j rows) (upd H1 a (.dK kvs)) := by
  obtain ⟨v, _, R⟩ := E.2 i _ h1
  simp only [Rep] at R
  obtain ⟨a, _, q, q2, _⟩ := R
  obtain ⟨g, ys, o, k1, k2, k3⟩ := W.at_ j a q
  rw [h2] at k1
  cases k1
  rw [q2] at k3
  have hl := k3.un (.inr ok)
  obtain ⟨kvs, rfl, n, r⟩ := k3.dK ok
  refine ⟨a, kvs, k2, hl, q, fun od => ⟨W.wrL q ?_, fun w1 st1 H1 l W1 => ?_⟩⟩
  · rw [q2]
    exact .inr (.inl ⟨rfl, rows, od, kvs, rfl, rfl, rfl, n, r⟩)
  · have q1 : w1.as[j]? = some a := as_get l.pre (w := w.lock a (some (od, .dK kvs))) q
    have ma : a ∈ (w.lock a (some (od, .dK kvs))).as := List.mem_of_getElem? q
    have e1 : w1.lk a = some (od, .dK kvs) := (l.lk a ma).trans (if_pos rfl)
    have e2 : w1.dk a = some (.b false) := (l.pre.dk a ma).trans q2
    refine ⟨lk_frz W1 q1 ⟨e1, e2⟩, un_le l hl, W1.wrL q1 ?_⟩
    rw [e2]
    exact .inl ⟨rfl, kvs, rfl, n, RowsK.mono' l.same l.pre _ _ (r.lock a _)⟩
theorem pds_lock {s : Stmt} {t : DS} (i : Nat) (h : PDS X s t) : PDS X s (dLockS i t) := by
  refine (ps_lock h).wk fun Ed σ H ⟨w, env, st, E0, W, E, h, fn, fr⟩ => ?_
  obtain ⟨j, rows, h1, h2, ok, h⟩ := lockAt_in h
  obtain ⟨a, kvs, hH, hl, q, op⟩ := lock_open W E h1 h2 ok
  refine ⟨a, .dK kvs, hH, trivial, fun od => ?_⟩
  obtain ⟨W', cl⟩ := op od
  refine ⟨w.lock a (some (od, .dK kvs)), env, _, _, W', E.lock a _, h, fun env' st' σ' w1 H1 k l W1 E1 => ?_, fun d st' v w1 H1 k l W1 R1 => ?_⟩
  · obtain ⟨c1, c2, c3⟩ := cl w1 st' H1 l W1
    exact ⟨c1, fn _ _ _ _ _ k c2 c3 (E1.lock a none)⟩
  · obtain ⟨c1, c2, c3⟩ := cl w1 st' H1 l W1
    exact ⟨c1, fr _ _ _ _ _ k c2 c3 (R1.lock a none)⟩
theorem pd_lock {e : Expr} {t : DE} (i : Nat) (h : PD X e t) : PD X e (dLockE i t) := by
  refine (pe_lock h).wk fun σ H Q ⟨w, env, st, kk, W, E, h, fo⟩ => ?_
  obtain ⟨j, rows, h1, h2, ok, h⟩ := lockAt_in h
  obtain ⟨a, kvs, hH, hl, q, op⟩ := lock_open W E h1 h2 ok
  refine ⟨a, .dK kvs, hH, trivial, fun od => ?_⟩
  obtain ⟨W', cl⟩ := op od
  refine ⟨w.lock a (some (od, .dK kvs)), env, _, _, W', E.lock a _, h, fun d st' v w1 H1 k l W1 R1 => ?_⟩
  obtain ⟨c1, c2, c3⟩ := cl w1 st' H1 l W1
  exact ⟨c1, fo _ _ _ _ _ k c2 c3 (R1.lock a none)⟩
/-! ### what is walked of a locked dict -/
def pairsR : List D → List D
  | .tup [k, v] :: r => .tup [k, v] :: pairsR r
  | _ => []
theorem rowsK_klen {K : PySem.W.Frag} {w : Wd} : ∀ {rows : List D} {kvs : List (Key × V)}, RowsK K w rows kvs → (keysR rows).length = kvs.length ∧ (pairsR rows).length = kvs.length
  | [], kvs, h => by
    simp only [RowsK] at h
    subst h
    exact ⟨rfl, rfl⟩
  | x :: r, kvs, h => by
    match x, h with
    | .tup [k', d'], h =>
      simp only [RowsK] at h
      obtain ⟨y, u, s, rfl, h1, h2, h3⟩ := h
      obtain ⟨i1, i2⟩ := rowsK_klen h3
      simp only [keysR, pairsR, List.length_cons, i1, i2, and_self]
theorem rep_key {K : PySem.W.Frag} {w : Wd} {d : D} {q : Key} (h : keyD d = some q) : Rep K w d (kV q) := by
  cases d with
  | int i => cases h; simp only [Rep]; rfl
  | str i => cases h; simp only [Rep]; rfl
  | _ => cases h
theorem rowsK_at {K : PySem.W.Frag} {w : Wd} : ∀ {rows : List D} {kvs : List (Key × V)} {i : Nat} {k : Key} {v : V}, RowsK K w rows kvs → kvs[i]? = some (k, v) → ∃ y d, (keysR rows)[i]? = some y ∧ (pairsR rows)[i]? = some (.tup [y, d]) ∧ Rep K w y (kV k) ∧ Rep K w d v
  | [], kvs, i, k, v, h, e => by
    simp only [RowsK] at h
    subst h
    simp at e
  | x :: r, kvs, i, k, v, h, e => by
    match x, h with
    | .tup [k', d'], h =>
      simp only [RowsK] at h
      obtain ⟨y, u, s, rfl, h1, h2, h3⟩ := h
      cases i with
      | zero =>
        simp at e
        obtain ⟨rfl, rfl⟩ := e
        exact ⟨k', d', rfl, rfl, rep_key h1, h2⟩
      | succ i =>
        obtain ⟨y', d, e1, e2, r1, r2⟩ := rowsK_at h3 (i := i) (by simpa using e)
        exact ⟨y', d, by simpa [keysR] using e1, by simpa [pairsR] using e2, r1, r2⟩
theorem lk_at {K : PySem.W.Frag} {w w1 : Wd} {st1 : Sto} {H1 : Hp} {j : Nat} {a : Addr} {ob : Obj} {kvs : List (Key × V)} (ha : w.as[j]? = some a) (hL : LkK w a ob kvs) (l : Le0 w w1) (W1 : Wld K w1 st1 H1) : H1 a = some (.frz ob (.dK kvs)) :=
  lk_frz W1 (as_get l.pre ha) ⟨(l.lk a (List.mem_of_getElem? ha)).trans hL.1, (l.pre.dk a (List.mem_of_getElem? ha)).trans hL.2⟩
theorem wk_keys {K : PySem.W.Frag} {w : Wd} {j : Nat} {a : Addr} {ob : Obj} {kvs : List (Key × V)} {rows : List D} (ha : w.as[j]? = some a) (hL : LkK w a ob kvs) (r : RowsK K w rows kvs) : DWk K (Itk a ob kvs) w (keysR rows) [] where
  goes := fun i w1 st1 H1 hi l W1 _ => ⟨lk_at ha hL l W1, by rw [← (rowsK_klen r).1]; exact hi⟩
  stops := fun w1 st1 H1 l W1 _ => ⟨lk_at ha hL l W1, by rw [(rowsK_klen r).1]; exact Nat.le_refl _⟩
  yields := fun i w1 st1 H1 v H2 hi l W1 _ y => by
    obtain ⟨rfl, k, u, h1, rfl⟩ := y
    obtain ⟨y, d, e1, _, r1, _⟩ := rowsK_at (RowsK.mono' l.same l.pre _ _ r) h1
    exact ⟨w1, y, .refl _, W1, e1, r1⟩
/-- the rows of a locked dict -/
def lockedR (xs : List D) (p : List D → Prop) : Prop := ∃ rows, xs = rows ++ [lockD] ∧ okRows rows = true ∧ p rows
def dWalkL (f : List D → List D) (i : Nat) : DI := fun env st kk => match env[i]? with
  | some (some (.dic (.b false) j)) => match st[j]? with
    | some xs => lockedR xs fun rows => kk (f rows) [] st
    | none => False
  | _ => False
theorem walk_in {K : PySem.W.Frag} {w : Wd} {env : DL.Env} {st : Sto} {σ : L2.St} {H : Hp} {kk : DIk} {f : List D → List D} {i : Nat} (W : Wld K w st H) (E : EnvR K w env σ) (h : dWalkL f i env st kk) :
    ∃ j a ob kvs rows, env[i]? = some (some (.dic false j)) ∧ σ[i]? = some (some (.ref a)) ∧ w.as[j]? = some a ∧ LkK w a ob kvs ∧ RowsK K w rows kvs ∧ H a = some (.frz ob (.dK kvs)) ∧ kk (f rows) [] st := by
  unfold dWalkL at h
  split at h
  · rename_i j e
    split at h
    · rename_i xs e2
      obtain ⟨rows, rfl, ok, h⟩ := h
      obtain ⟨v, hv, R⟩ := E.2 i _ e
      simp only [Rep] at R
      obtain ⟨a, rfl, q, q2, _⟩ := R
      obtain ⟨g, ys, o, k1, k2, k3⟩ := W.at_ j a q
      rw [e2] at k1
      cases k1
      rw [q2] at k3
      rcases k3 with ⟨_, kvs, rfl, n, r⟩ | ⟨_, rows', ob, kvs, e3, e4, rfl, n, r⟩ | ⟨z, _⟩
      · exfalso
        have : ∀ (rows : List D) (kvs : List (Key × V)), RowsK K w (rows ++ [lockD]) kvs → False := by
          intro rows
          induction rows with
          | nil => intro kvs z; simp only [List.nil_append, lockD, RowsK] at z
          | cons x r ih =>
            intro kvs z
            match x, z with
            | .tup [k', d'], z =>
              simp only [List.cons_append, RowsK] at z
              obtain ⟨_, _, s, _, _, _, z⟩ := z
              exact ih s z
        exact this _ _ r
      · have : rows = rows' := List.append_cancel_right e4
        subst this
        exact ⟨j, a, ob, kvs, rows, e, hv, q, ⟨e3, q2⟩, r, k2, h⟩
      · cases z
    · exact h.elim
  · exact h.elim
theorem pdi_keysL (i : Nat) {tg : Expr} {x : Str} {pos : Pos} (hN : X.N[i]? = some x := by rfl) (hv : Vis X.env.scope x := by first | exact Or.inl rfl | exact Or.inr (Or.inl rfl) | exact Or.inr (Or.inr rfl)) (hd : (x == ("__debug__" : Str)) = false := by decide)
    (hcd : (x == ("__classdict__" : Str)) = false := by decide) : PDI X tg (.Name x pos) (dWalkL keysR i) := by
  refine (pi_keys (pe_var hN hv hd hcd)).wk fun σ H R ⟨w, env, st, kk, W, E, h, fo⟩ => ?_
  obtain ⟨j, a, ob, kvs, rows, e, hs, q, hL, r, hH, h⟩ := walk_in W E h
  exact ⟨_, hs, a, ob, rfl, .inl ⟨kvs, hH, fo _ _ _ _ _ _ h (.refl _) W (wk_keys q hL r)⟩⟩
theorem dWalkL_of {f : List D → List D} {i j : Nat} {env : DL.Env} {st : Sto} {rows : List D} {kk : DIk} (h1 : env[i]? = some (some (.dic false j))) (h2 : st[j]? = some (rows ++ [lockD])) (ok : okRows rows = true) (h : kk (f rows) [] st) : dWalkL f i env st kk := by
  unfold dWalkL
  rw [h1]
  simp only [h2]
  exact ⟨rows, rfl, ok, h⟩
/-! ### sorted(d), keys texts -/
def bSortedDS : FB := fun ds st k => match ds with
  | [d] => match dicOf st d with
    | some (false, rows) => match strsOf (keysR rows) with
      | some zs => zs.length < 64 ∧ ∀ ys : List Str, ys.Perm zs → sortedS ys = true → k (.lst (ys.map D.str)) st
      | none => False
    | _ => False
  | _ => False
theorem rowsK_keysS {K : PySem.W.Frag} {w : Wd} : ∀ {rows : List D} {kvs : List (Key × V)} {zs : List Str}, RowsK K w rows kvs → strsOf (keysR rows) = some zs → kvs.map (·.1) = zs.map Sum.inr
  | [], kvs, zs, h, e => by
    simp only [RowsK] at h
    subst h
    cases e
    rfl
  | x :: r, kvs, zs, h, e => by
    match x, h, e with
    | .tup [k', d'], h, e =>
      simp only [RowsK] at h
      obtain ⟨y, u, s, rfl, h1, h2, h3⟩ := h
      match k', e, h1 with
      | .str z, e, h1 =>
        have e' : (strsOf (keysR r)).map (z :: ·) = some zs := e
        cases e2 : strsOf (keysR r) with
        | none => rw [e2] at e'; cases e'
        | some ms =>
          rw [e2] at e'
          cases e'
          cases h1
          rw [List.map_cons, List.map_cons, rowsK_keysS h3 e2]
theorem cb_sortedDS (hc : X.calm = true) : CallR X (.builtin "sorted") (rDB X.K bSortedDS) := by
  refine CallR.by_ fun vs H Q w st ds kk W R q fo => ?_
  unfold bSortedDS at q
  split at q
  · obtain ⟨v, rfl, R1⟩ := one_rep R
    split at q
    · rename_i rows hd
      split at q
      · rename_i zs hn
        obtain ⟨a, o, L, rfl, h, r⟩ := dic_obj W R1 hd
        obtain ⟨kvs, hr, r⟩ : ∃ kvs, Rd H a (.dK kvs) ∧ kvs.map (·.1) = zs.map Sum.inr := by
          rcases r with ⟨_, kvs, rfl, _, r⟩ | ⟨_, rows', ob, kvs, _, rfl, rfl, _, r⟩ | ⟨z, _⟩
          · exact ⟨kvs, .inl h, rowsK_keysS r hn⟩
          · rw [keysR_lock] at hn
            exact ⟨kvs, .inr ⟨ob, h⟩, rowsK_keysS r hn⟩
          · cases z
        refine ⟨_, call_sortedD hc, a, kvs, zs, rfl, hr, r, q.1, fun ys p h1 h2 hp => ?_⟩
        refine fol_lst W (Reps.of_strs _) ?_ (q.2 ys h1 h2) fo p hp
        rw [List.length_map, h1.length_eq, sizeLine_eq]
        have := q.1
        omega
      · exact q.elim
    · exact q.elim
  · exact q.elim
theorem e_sortedDS {st : Sto} {t : Bool} {j : Nat} {rows : List D} {zs : List Str} {k : DK} (ht : t = false) (h : st[j]? = some rows) (hz : strsOf (keysR rows) = some zs) : bSortedDS [.dic t j] st k = (zs.length < 64 ∧ ∀ ys : List Str, ys.Perm zs → sortedS ys = true → k (.lst (ys.map D.str)) st) := by
  subst ht
  simp [bSortedDS, dicOf, h, hz]
/-! ### dict(d) -/
/-! ### {k: v, ..} -/
def dPairs : List (DE × DE) → DL.Env → Sto → (List (D × D) → Sto → Prop) → Prop
  | [], _, st, k => k [] st
  | (tk, tv) :: r, env, st, k => tk env st fun x s1 => tv env s1 fun y s2 => dPairs r env s2 fun ps s3 => k ((x, y) :: ps) s3
structure PDPs (X : Cx) (pos : Pos) (keys : List (Option Expr)) (values : List Expr) (ts : List (DE × DE)) : Prop where
  run : PPs X pos keys values (ts.map fun p => (tD X.K p.1, tD X.K p.2))
theorem pdps_nil {pos : Pos} : PDPs X pos [] [] [] := ⟨pps_nil⟩
theorem pdps_cons {pos : Pos} {k v : Expr} {ks : List (Option Expr)} {vs : List Expr} {tk tv : DE} {ts : List (DE × DE)} (hk : PD X k tk) (hv : PD X v tv) (hr : PDPs X pos ks vs ts) : PDPs X pos (some k :: ks) (v :: vs) ((tk, tv) :: ts) := ⟨pps_cons hk hv hr.run⟩
inductive PRep (K : PySem.W.Frag) (w : Wd) : List (D × D) → List (V × V) → Prop
  | nil : PRep K w [] []
  | cons {x y : D} {u v : V} {ps : List (D × D)} {qs : List (V × V)} : Rep K w x u → Rep K w y v → PRep K w ps qs → PRep K w ((x, y) :: ps) ((u, v) :: qs)
theorem pairs_in {K : PySem.W.Frag} : ∀ (ts : List (DE × DE)) (w : Wd) (env : DL.Env) (st : Sto) (σ : L2.St) (H : Hp) (k : List (D × D) → Sto → Prop) (Q : List (V × V) → Hp → Prop), Wld K w st H → EnvR K w env σ → dPairs ts env st k →
    (∀ ps st1 qs w1 H1, k ps st1 → Le w w1 → Wld K w1 st1 H1 → PRep K w1 ps qs → Q qs H1) → tPairs (ts.map fun p => (tD K p.1, tD K p.2)) σ H Q
  | [], w, env, st, σ, H, k, Q, W, E, h, fo => fo _ _ _ _ _ h (.refl _) W .nil
  | (tk, tv) :: r, w, env, st, σ, H, k, Q, W, E, h, fo => by
    refine ⟨w, env, st, _, W, E, h, fun x st1 u w1 H1 h1 l1 W1 R1 => ⟨w1, env, st1, _, W1, E.mono l1, h1, fun y st2 v w2 H2 h2 l2 W2 R2 => ?_⟩⟩
    refine pairs_in r w2 env st2 σ H2 _ _ W2 ((E.mono l1).mono l2) h2 fun ps st3 qs w3 H3 h3 l3 W3 R3 => ?_
    exact fo _ _ _ _ _ h3 ((l1.trans l2).trans l3) W3 (.cons (Rep.mono (l2.trans l3) _ _ R1) (Rep.mono l3 _ _ R2) R3)
/-! ### {k: v for x in xs} -/
variable {tg iter kx vx : Expr} {ifs : List Expr} {scope : Scope} {own : List (Str × Nat)} {pos : Pos} {di : DI} {g : DG} {tt : DT} {tk tv : DE}
end
/-! ### equations -/
section
variable {env : DL.Env} {st : Sto} {k : DK}
theorem e_pairs0 {kk : List (D × D) → Sto → Prop} : dPairs [] env st kk = kk [] st := rfl
theorem e_pairs1 {tk tv : DE} {r : List (DE × DE)} {kk : List (D × D) → Sto → Prop} : dPairs ((tk, tv) :: r) env st kk = tk env st fun x s1 => tv env s1 fun y s2 => dPairs r env s2 fun ps s3 => kk ((x, y) :: ps) s3 := rfl
end
end DL

/-! DLS: set(xs) != set([c]) of ints. -/
namespace DL
open PySem PySem.Spec PyProof.Rows L2
section
variable {prog : Program} {w : World} {A : Around} {E : Value → Shared → Prop} {s : Shared}
end
end DL
namespace DLA
open PySem PySem.Spec PyProof.Rows L2
section
variable {prog : Program} {w : World} {A : Around} {E : Value → Shared → Prop} {s : Shared}
end
end DLA
namespace DL
open PySem PySem.Spec PyProof.Rows L2
section
variable {X : Cx} {e e2 : Expr} {ta : DE} {te : TE} {p p2 p3 pos2 pos3 pos4 pos : Pos} {c : Int}
/-! lists of lists of the store, shown -/
end
end DL

/-! DLU: instances of one's own classes: fields, methods, new ones. -/
namespace DL
open PySem PySem.Spec PyProof.Rows L2
section
variable {K : PySem.W.Frag} {w : Wd}
theorem rowsK_inv {y : D} {ds : List D} {kvs : List (Key × V)} (h : RowsK K w (y :: ds) kvs) : ∃ k d z v r, y = .tup [k, d] ∧ kvs = (z, v) :: r ∧ keyD k = some z ∧ Rep K w d v ∧ RowsK K w ds r := by
  match y, h with
  | .tup [k, d], h =>
    simp only [RowsK] at h
    obtain ⟨z, v, r, e, h1, h2, h3⟩ := h
    exact ⟨k, d, z, v, r, rfl, e, h1, h2, h3⟩
  | .tup [], h => simp only [RowsK] at h
  | .tup [_], h => simp only [RowsK] at h
  | .tup (_ :: _ :: _ :: _), h => simp only [RowsK] at h
  | .non, h => simp only [RowsK] at h
  | .bl _, h => simp only [RowsK] at h
  | .int _, h => simp only [RowsK] at h
  | .str _, h => simp only [RowsK] at h
  | .lst _, h => simp only [RowsK] at h
  | .klst _, h => simp only [RowsK] at h
  | .obj _, h => simp only [RowsK] at h
  | .dic _ _, h => simp only [RowsK] at h
  | .fdic _ _, h => simp only [RowsK] at h
  | .gtup _, h => simp only [RowsK] at h
end
section
variable {X : Cx} {e o value : Expr} {es : List Expr} {pos pos' apos p : Pos} {t to tv : DE} {ta tk : DA} {c f m x : Str} {k : Nat} {g : Addr} {fd : FuncData} {ps ks : List Str} {sp : SpD} {kws : List Keyword}
/-- the world with a new instance -/
theorem Wld.ins {K : PySem.W.Frag} {w : Wd} {st : Sto} {H : Hp} (W : Wld K w st H) {x dx : Addr} (hx : H x = none) (hd : H dx = none) (ne : dx ≠ x) (q : ClsT K c) :
    Wld K (w.addK x (some (.ins c))) (st ++ [[]]) (upd (upd H dx (.own x)) x (.ins (He.ga K c) dx [])) ∧ Le w (w.addK x (some (.ins c))) ∧ Rep K (w.addK x (some (.ins c))) (.dic (.ins c) st.length) (.ref x) := by
  have W1 := W.other (o := .own x) hd
  have hx1 : upd H dx (.own x) x = none := by rw [upd_ne (Ne.symm ne)]; exact hx
  refine ⟨W1.addK hx1 ⟨dx, [], rfl, by simp only [RowsK]⟩, Le.addK (W.nas hx), ?_⟩
  simp only [Rep]
  refine ⟨x, rfl, ?_, if_pos rfl, q⟩
  show (w.as ++ [x])[st.length]? = some x
  rw [← W.len, List.getElem?_concat_length]
end
/-! ### packages -/
section
variable {X : Cx} {e o : Expr} {es : List Expr} {pos apos p : Pos} {to : DE} {ta tk : DA} {c m : Str} {k j : Nat} {ps ks : List Str} {sp : SpD} {kws : List Keyword}
/-! ### equations -/
variable {env : Env} {st : Sto} {kk : DK} {f : Str} {i : Nat} {rows : List D} {t u : DE} {dd : DEnds} {dfl : List D}
end
end DL

/-! DLV: sorted(d.items()) of texts and numbers, shifts. -/
namespace DL
open PySem PySem.Spec PyProof.Rows L2
section
variable {X : Cx}
/-! ### shifts -/
def shrD : F2 := fun d e st k => match d, e with
  | .int a, .int b => 0 ≤ b ∧ k (.int (a / 2 ^ b.toNat)) st
  | _, _ => False
theorem dop_shr : OpR X (binaryOp .RShift) (rD X.K shrD) := by
  refine OpR.by_ fun x y H Q w st d e kk W R1 R2 q fo => ?_
  unfold shrD at q
  split at q
  · rename_i a b
    simp only [Rep] at R1 R2
    exact ⟨_, op_shr, a, b, R1, R2, q.1, fo.id q.2 W rep_int⟩
  · exact q.elim
theorem e_shrI {a b : Int} {st : Sto} {k : DK} : shrD (.int a) (.int b) st k = (0 ≤ b ∧ k (.int (a / 2 ^ b.toNat)) st) := rfl
end
/-! ### sorted(d.items()) -/
section
variable {X : Cx} {o : Expr} {p pos apos mpos : Pos} {td : TE}
end
/-! readings -/
section
variable {K : PySem.W.Frag} {w : Wd} {st : Sto} {H : Hp} {X : Cx} {o : Expr} {p pos apos mpos : Pos} {td : DE}
end
end DL

/-! DLW: a dict that lies in a list is walked. -/
namespace DL
open PySem PySem.Spec PyProof.Rows L2
section
variable {K : PySem.W.Frag} {w : Wd} {st : Sto} {H : Hp}
end
section
variable {X : Cx}
/-! ### the walk -/
end

/-! ### y = {k: v for x in xs}, y a local -/
section
variable {X : Cx}
variable {tg iter kx vx : Expr} {ifs : List Expr} {scope : Scope} {own : List (Str × Nat)} {pos : Pos} {di : DI} {g : DG} {tt : DT} {tk tv : DE}
end
end DL

/-! DLO: every so manieth of a list; a dict put into a dict. -/
namespace DLO
open PySem PySem.Spec PyProof.Rows L2
variable {X : Cx}
/-! ### d.update(e) -/
end DLO
namespace DL
open PySem PySem.Spec PyProof.Rows L2
section
variable {X : Cx} {e o : Expr} {ta td te : DE}
/-! d.update(e) -/
variable {env : DL.Env} {st : Sto} {k : DK}
end
end DL

/-! DMA: sorted([(text, number), ..]), sorted([(text, (number, number)), ..]). -/
namespace DL
open PySem PySem.Spec PyProof.Rows L2
section
variable {X : Cx}
/-! readings -/
end
end DL

/-! DMB: [e for x in xs if .. for y in ys if ..], list.count. -/
namespace DL
open PySem PySem.Spec PyProof.Rows L2
def goLc2 (src : List (Nat × List D)) (g : DG) (tt : DT) (di1 : DI) (g1 : DG) (tt1 : DT) (te : DE) (vs vs1 : List Nat) (env : Env) (k : List D → Sto → Prop) : List D → List D → Sto → Prop
  | [], acc, st => SrcOk src st ∧ k acc st
  | x :: r, acc, st => SrcOk src st ∧ g x (wipeE env vs) st fun env1 st1 => tt env1 st1 fun b st2 =>
      if b = true then di1 env1 st2 fun ys src1 st3 => acc.length + ys.length ≤ 16777216 ∧ goLc src1 g1 tt1 te vs1 env1 (fun acc2 st4 => goLc2 src g tt di1 g1 tt1 te vs vs1 env k r acc2 st4) ys acc st3
      else goLc2 src g tt di1 g1 tt1 te vs vs1 env k r acc st2
/-- .. a list of the store -/
def dLc2New (di : DI) (g : DG) (tt : DT) (di1 : DI) (g1 : DG) (tt1 : DT) (te : DE) (vs vs1 : List Nat) : DE := fun env st k => di env st fun xs src s1 => goLc2 src g tt di1 g1 tt1 te vs vs1 env (fun acc s2 => k (.obj s2.length) (s2 ++ [acc])) xs [] s1
theorem lc2_in {K : PySem.W.Frag} {di di1 : DI} {g g1 : DG} {tt tt1 : DT} {te : DE} {vs vs1 : List Nat} {σ : L2.St} {H : Hp} {Q : VK} {w : Wd} {env : Env} {st : Sto} {k : List D → Sto → Prop} (W : Wld K w st H) (E : EnvR K w env σ)
    (h : di env st fun xs src s1 => goLc2 src g tt di1 g1 tt1 te vs vs1 env k xs [] s1)
    (fin : ∀ (acc : List D) (st2 : Sto) (D : Addr) (us : List V) (w2 : Wd) (H2 : Hp), w2.hid = (D, us) :: w.hid → Le0 w w2 → Wld K w2 st2 H2 → Reps K w2 acc us → us.length ≤ sizeLine → k acc st2 → Q (.ref D) H2) :
    tLc2 (tDI K di) (tDGo K vs g) (tDT K tt) (tDI K di1) (tDGo K vs1 g1) (tDT K tt1) (tD K te) vs vs1 σ H Q := by
  refine ⟨w, env, st, _, W, E, h, fun xs src st1 w1 H1 J h1 l1 W1 wk D hD => ?_⟩
  refine ⟨fun i m H2 => m = xs.length - i ∧ i ≤ xs.length ∧ ∃ w2 st2 acc us, w2.hid = (D, us) :: w.hid ∧ Le0 w1 w2 ∧ Wld K w2 st2 H2 ∧ Reps K w2 acc us ∧ us.length ≤ 16777216 ∧ goLc2 src g tt di1 g1 tt1 te vs vs1 env k (xs.drop i) acc st2,
    ⟨xs.length, by simp, Nat.zero_le _, ⟨w1.G, w1.as, (D, []) :: w1.hid, w1.dk, w1.lk⟩, st1, [], [], by rw [← l1.hid], ⟨Same.refl w1.G, .eq rfl rfl, fun _ _ => rfl⟩, W1.hide (vs := []) hD, .nil, Nat.zero_le _, by simpa using h1⟩, ?_⟩
  rintro i m H2 ⟨rfl, hi, w2, st2, acc, us, hh, l2, W2, R2, hu, q⟩
  by_cases hlt : i < xs.length
  · rw [List.drop_eq_getElem_cons hlt] at q
    obtain ⟨so, q⟩ := q
    refine .inr ⟨wk.goes i w2 st2 H2 hlt l2 W2 so, fun H' => ∃ w3 st3 acc us, w3.hid = (D, us) :: w.hid ∧ Le0 w1 w3 ∧ Wld K w3 st3 H' ∧ Reps K w3 acc us ∧ us.length ≤ 16777216 ∧ goLc2 src g tt di1 g1 tt1 te vs vs1 env k (xs.drop (i + 1)) acc st3, fun H' pv => ⟨xs.length - (i + 1), by omega, rfl, hlt, pv⟩, fun v H3 y => ?_⟩
    obtain ⟨w3, d, l3, W3, e3, R3⟩ := wk.yields i w2 st2 H2 v H3 hlt l2 W2 so y
    have ed : d = xs[i] := by
      rw [List.getElem?_eq_getElem hlt] at e3
      exact (Option.some.inj e3).symm
    rw [← ed] at q
    have l03 : Le0 w w3 := (l1.toLe0.trans l2).trans l3.toLe0
    refine ⟨w3, wipeE env vs, st2, d, _, W3, (E.mono0 l03).wipe vs, R3, q, fun env4 st4 σ4 w4 H4 h4 l4 W4 E4 ew => ⟨ew.trans (wipe_wipe σ vs), ?_⟩⟩
    refine ⟨w4, env4, st4, _, W4, E4, h4, fun b st5 w5 H5 h5 l5 W5 => ?_⟩
    have l25 := (l3.trans l4).trans l5
    cases b with
    | true =>
      simp only [↓reduceIte] at h5 ⊢
      refine ⟨w5, env4, st5, _, W5, E4.mono l5, h5, fun ys src1 st6 w6 H6 J1 ⟨hly, h6⟩ l6 W6 wk1 => ?_⟩
      have l26 := l25.trans l6
      have hh6 : w6.hid = (D, us) :: w.hid := l26.hid.trans hh
      have la : us.length = acc.length := R2.length
      refine ⟨fun j n H7 => n = ys.length - j ∧ j ≤ ys.length ∧ ∃ w7 st7 acc7 us7, w7.hid = (D, us7) :: w.hid ∧ Le0 w6 w7 ∧ Wld K w7 st7 H7 ∧ Reps K w7 acc7 us7 ∧ us7.length ≤ us.length + j ∧
          goLc src1 g1 tt1 te vs1 env4 (fun acc2 st4 => goLc2 src g tt di1 g1 tt1 te vs vs1 env k (xs.drop (i + 1)) acc2 st4) (ys.drop j) acc7 st7,
        ⟨ys.length, by simp, Nat.zero_le _, w6, st6, acc, us, hh6, ⟨Same.refl w6.G, .eq rfl rfl, fun _ _ => rfl⟩, W6, Reps.mono l26 _ _ R2, Nat.le_refl _, by simpa using h6⟩, ?_⟩
      rintro j n H7 ⟨rfl, hj, w7, st7, acc7, us7, hh7, l7, W7, R7, hu7, q7⟩
      by_cases hltj : j < ys.length
      · rw [List.drop_eq_getElem_cons hltj] at q7
        obtain ⟨so7, q7⟩ := q7
        refine .inr ⟨wk1.goes j w7 st7 H7 hltj l7 W7 so7, fun H' => ∃ w8 st8 acc8 us8, w8.hid = (D, us8) :: w.hid ∧ Le0 w6 w8 ∧ Wld K w8 st8 H' ∧ Reps K w8 acc8 us8 ∧ us8.length ≤ us.length + (j + 1) ∧
            goLc src1 g1 tt1 te vs1 env4 (fun acc2 st4 => goLc2 src g tt di1 g1 tt1 te vs vs1 env k (xs.drop (i + 1)) acc2 st4) (ys.drop (j + 1)) acc8 st8, fun H' pv => ⟨ys.length - (j + 1), by omega, rfl, hltj, pv⟩, fun v8 H8 y8 => ?_⟩
        obtain ⟨w8, d8, l8, W8, e8, R8⟩ := wk1.yields j w7 st7 H7 v8 H8 hltj l7 W7 so7 y8
        have ed8 : d8 = ys[j] := by
          rw [List.getElem?_eq_getElem hltj] at e8
          exact (Option.some.inj e8).symm
        rw [← ed8] at q7
        have l58 : Le0 w5 w8 := (l6.toLe0.trans l7).trans l8.toLe0
        refine ⟨w8, wipeE env4 vs1, st7, d8, _, W8, ((E4.mono l5).mono0 l58).wipe vs1, R8, q7, fun env9 st9 σ9 w9 H9 h9 l9 W9 E9 ew9 => ⟨ew9.trans (wipe_wipe σ4 vs1), ?_⟩⟩
        refine ⟨w9, env9, st9, _, W9, E9, h9, fun b1 st10 w10 H10 h10 l10 W10 => ?_⟩
        have l710 := (l8.trans l9).trans l10
        cases b1 with
        | true =>
          simp only [↓reduceIte] at h10 ⊢
          refine ⟨w10, env9, st10, _, W10, E9.mono l10, h10, fun d11 st11 v11 w11 H11 h11 l11 W11 R11 => ?_⟩
          have l711 := l710.trans l11
          have hh11 : w11.hid = (D, us7) :: w.hid := l711.hid.trans hh7
          refine ⟨us7, (W11.hidd D us7 (by rw [hh11]; exact List.mem_cons_self)).2.2, by rw [sizeLine_eq]; omega, ⟨w11.G, w11.as, (D, us7 ++ [v11]) :: w.hid, w11.dk, w11.lk⟩, st11, acc7 ++ [d11], us7 ++ [v11], rfl, ?_, W11.regrow hh11, ?_, by simp; omega, h11⟩
          · exact ⟨(l7.trans l711.toLe0).same, ⟨(l7.trans l711.toLe0).pre.as, (l7.trans l711.toLe0).pre.dk⟩, (l7.trans l711.toLe0).lk⟩
          · exact ((Reps.mono l711 _ _ R7).rh _).append (.cons (R11.rh _) .nil)
        | false =>
          simp only [Bool.false_eq_true, ↓reduceIte] at h10 ⊢
          exact ⟨w10, st10, acc7, us7, l710.hid.trans hh7, l7.trans l710.toLe0, W10, Reps.mono l710 _ _ R7, by omega, h10⟩
      · have hje : j = ys.length := by omega
        subst hje
        rw [List.drop_length] at q7
        exact .inl ⟨wk1.stops w7 st7 H7 l7 W7 q7.1, w7, st7, acc7, us7, hh7, (l2.trans l26.toLe0).trans l7, W7, R7, by omega, q7.2⟩
    | false =>
      simp only [Bool.false_eq_true, ↓reduceIte] at h5 ⊢
      exact ⟨w5, st5, acc, us, l25.hid.trans hh, l2.trans l25.toLe0, W5, Reps.mono l25 _ _ R2, hu, h5⟩
  · have hie : i = xs.length := by omega
    subst hie
    rw [List.drop_length] at q
    exact .inl ⟨wk.stops w2 st2 H2 l2 W2 q.1, fin acc st2 D us w2 H2 hh (l1.toLe0.trans l2) W2 R2 (by rw [sizeLine_eq]; omega) q.2⟩
section
variable {X : Cx} {elt tg iter tg1 iter1 : Expr} {ifs ifs1 : List Expr} {scope : Scope} {own : List (Str × Nat)} {di di1 : DI} {g g1 : DG} {tt tt1 : DT} {te : DE} {vs1 : List Nat} {pos p cpos : Pos}
theorem pds_setLc2New (i : Nat) (own : List (Str × Nat)) (vs1 : List Nat) {y : Str} {py spos : Pos} (hc : X.calm = true) (hN : X.N.Nodup) (hi : PDI X tg iter di) (ok : BlkOk X.N X.env.scope scope own) (hv : ∀ i ∈ vs1, i ∈ own.map (·.2))
    (hg : ∀ (s : Shared) (H : Hp) (C : Addr) (cl : List (Str × Addr)) (fp : List Addr), PDGo (X.blk s H scope (compEnvC scope cl C X.env) fp) (own.map (·.2)) tg g)
    (ht : ∀ (s : Shared) (H : Hp) (C : Addr) (cl : List (Str × Addr)) (fp : List Addr), PDTs (X.blk s H scope (compEnvC scope cl C X.env) fp) ifs tt)
    (hi1 : ∀ (s : Shared) (H : Hp) (C : Addr) (cl : List (Str × Addr)) (fp : List Addr), PDI (X.blk s H scope (compEnvC scope cl C X.env) fp) tg1 iter1 di1)
    (hg1 : ∀ (s : Shared) (H : Hp) (C : Addr) (cl : List (Str × Addr)) (fp : List Addr), PDGo (X.blk s H scope (compEnvC scope cl C X.env) fp) vs1 tg1 g1)
    (ht1 : ∀ (s : Shared) (H : Hp) (C : Addr) (cl : List (Str × Addr)) (fp : List Addr), PDTs (X.blk s H scope (compEnvC scope cl C X.env) fp) ifs1 tt1)
    (he : ∀ (s : Shared) (H : Hp) (C : Addr) (cl : List (Str × Addr)) (fp : List Addr), PD (X.blk s H scope (compEnvC scope cl C X.env) fp) elt te)
    (hsw : swapsWith (.ListComp elt [⟨tg, iter, ifs, 0⟩, ⟨tg1, iter1, ifs1, 0⟩] scope pos) (some (.Name y py)) spos.line X.env = pure true) (hy : X.N[i]? = some y := by rfl) (hyl : X.env.scope.names.lookup y = some .local := by rfl)
    (hs : ∀ x, foldedSetIterable iter X.env x = pure x := by intro _; rfl) (hs1 : ∀ env x, foldedSetIterable iter1 env x = pure x := by intro _ _; rfl) :
    PDS X (.Assign [.Name y py] (.ListComp elt [⟨tg, iter, ifs, 0⟩, ⟨tg1, iter1, ifs1, 0⟩] scope pos) spos) (dAsg (dLc2New di g tt di1 g1 tt1 te (own.map (·.2)) vs1) (dgName i)) := by
  refine (L2.ps_setLc2 (wi1 := tDI X.K di1) (g := tDGo X.K (own.map (·.2)) g) (tt := tDT X.K tt) (te := tD X.K te) (g1 := tDGo X.K vs1 g1) (tt1 := tDT X.K tt1) hc hN hy hyl hsw hi ok hv hg ht hi1 hg1 ht1 he hs hs1).wk fun Ed σ H ⟨w, env, st, E0, W, E, h, fn, fr⟩ => ?_
  exact lc2_in W E h (lc_finNew (kk := fun d s1 => dgName i d env s1 E0.nx) fun d st1 v w1 H1 h1 l1 W1 R1 => fn _ _ _ _ _ h1 l1 W1 ((E.mono l1).set i R1))
end
end DL

/-! DMC: list.count, list.index of data. -/
namespace DL
open PySem PySem.Spec PyProof.Rows L2
section
variable {X : Cx}
/-! ### for v in d.values() -/
theorem rowsK_valsAt {K : PySem.W.Frag} {w : Wd} : ∀ {rows : List D} {kvs : List (Key × V)}, RowsK K w rows kvs → (valsR rows).length = kvs.length ∧ ∀ (i : Nat) (k : Key) (v : V), kvs[i]? = some (k, v) → ∃ d, (valsR rows)[i]? = some d ∧ Rep K w d v
  | [], kvs, h => by
    simp only [RowsK] at h
    subst h
    exact ⟨rfl, fun i k v e => by simp at e⟩
  | x :: r, kvs, h => by
    obtain ⟨k, d, z, v, s, rfl, rfl, hk, hr, h3⟩ := rowsK_inv h
    obtain ⟨h4, h5⟩ := rowsK_valsAt h3
    refine ⟨by simp only [valsR, List.length_cons, h4], fun i k2 v2 e => ?_⟩
    cases i with
    | zero =>
      cases e
      exact ⟨d, rfl, hr⟩
    | succ i => exact h5 i k2 v2 e
theorem wk_vals {K : PySem.W.Frag} {w : Wd} {j : Nat} {a : Addr} {ob : Obj} {kvs : List (Key × V)} {rows : List D} (ha : w.as[j]? = some a) (hL : LkK w a ob kvs) (r : RowsK K w rows kvs) : DWk K (Itd a ob kvs) w (valsR rows) [] where
  goes := fun i w1 st1 H1 hi l W1 _ => ⟨lk_at ha hL l W1, by rw [← (rowsK_valsAt r).1]; exact hi⟩
  stops := fun w1 st1 H1 l W1 _ => ⟨lk_at ha hL l W1, by rw [(rowsK_valsAt r).1]; exact Nat.le_refl _⟩
  yields := fun i w1 st1 H1 v H2 hi l W1 _ y => by
    obtain ⟨rfl, k, h1⟩ := y
    obtain ⟨d, e1, r1⟩ := (rowsK_valsAt (RowsK.mono' l.same l.pre _ _ r)).2 i k v h1
    exact ⟨w1, d, .refl _, W1, e1, r1⟩
theorem pdi_valuesL (i : Nat) {tg : Expr} {x : Str} {pos apos cpos : Pos} (hN : X.N[i]? = some x := by rfl) (hv : Vis X.env.scope x := by first | exact Or.inl rfl | exact Or.inr (Or.inl rfl) | exact Or.inr (Or.inr rfl)) (hd : (x == ("__debug__" : Str)) = false := by decide)
    (hcd : (x == ("__classdict__" : Str)) = false := by decide) (hbase : attributeBase (.Name x pos) "values" X.env (eval (.Name x pos) X.env) = eval (.Name x pos) X.env := by rfl) (hline : (apos.endLine == cpos.line) = true := by rfl) :
    PDI X tg (.Call (.Attribute (.Name x pos) "values" apos) [] [] cpos) (dWalkL valsR i) := by
  refine (pi_values (pe_var hN hv hd hcd) hbase hline).wk fun σ H R ⟨w, env, st, kk, W, E, h, fo⟩ => ?_
  obtain ⟨j, a, ob, kvs, rows, e, hs, q, hL, r, hH, h⟩ := walk_in W E h
  exact ⟨_, hs, a, ob, kvs, rfl, hH, fo _ _ _ _ _ _ h (.refl _) W (wk_vals q hL r)⟩
/-! ### a statement that is never reached -/
/-! ### xs.pop(k) -/
/-! ### max of three numbers -/
end
end DL

/-! DMD: a text in a text. -/
namespace DL
open PySem PySem.Spec PyProof.Rows L2
section
variable {X : Cx}
end
end DL

/-! DME: dicts whose keys are tuples of numbers, truths, tuples (kind n). -/
namespace DL
open PySem PySem.Spec PyProof.Rows L2
mutual
theorem hash_nk : ∀ (d : D) (y : NestedKey) (wo : World), nkD d = some y → y.hash wo = hN y
  | .non, y, _, h => by simp only [nkD] at h; cases h; simp only [NestedKey.hash, hN]
  | .bl b, y, _, h => by simp only [nkD] at h; cases h; simp only [NestedKey.hash, hN]
  | .int i, y, _, h => by simp only [nkD] at h; cases h; simp only [NestedKey.hash, hN]
  | .tup xs, y, wo, h => by
    simp only [nkD] at h
    cases e : nkDs xs with
    | none => rw [e] at h; cases h
    | some ks =>
      rw [e] at h
      cases h
      simp only [NestedKey.hash, hN]
      rw [hashes_nk xs ks wo e]
  | .str _, _, _, h => by simp only [nkD] at h; cases h
  | .lst _, _, _, h => by simp only [nkD] at h; cases h
  | .klst _, _, _, h => by simp only [nkD] at h; cases h
  | .obj _, _, _, h => by simp only [nkD] at h; cases h
  | .dic _ _, _, _, h => by simp only [nkD] at h; cases h
  | .fdic _ _, _, _, h => by simp only [nkD] at h; cases h
  | .gtup _, _, _, h => by simp only [nkD] at h; cases h
theorem hashes_nk : ∀ (ds : List D) (ys : List NestedKey) (wo : World), nkDs ds = some ys → NestedKey.hashes wo ys = hNs ys
  | [], ys, _, h => by simp only [nkDs] at h; cases h; simp only [NestedKey.hashes, hNs]
  | x :: r, ys, wo, h => by
    simp only [nkDs] at h
    cases e : nkD x with
    | none => rw [e] at h; cases h
    | some k =>
      cases e2 : nkDs r with
      | none => rw [e, e2] at h; cases h
      | some ks =>
        rw [e, e2] at h
        cases h
        simp only [NestedKey.hashes, hNs]
        rw [hash_nk x k wo e, hashes_nk r ks wo e2]
end
section
variable {P : Program} {wo : World} {K : PySem.W.Frag} {w : Wd} {st : Sto} {H : Hp} {h : Heap}
mutual
theorem nk_is (W : Same w.G H) (ok : HOk P wo H h) : ∀ (d : D) (y : NestedKey) (v : V) (u : Value), nkD d = some y → Rep K w d v → RelV v u → NestedIs h y u
  | .non, y, v, u, e, R, r => by
    simp only [nkD] at e
    simp only [Rep] at R
    cases e
    subst R
    cases (show u = Value.none from r)
    exact .none
  | .bl b, y, v, u, e, R, r => by
    simp only [nkD] at e
    simp only [Rep] at R
    cases e
    subst R
    cases (show u = Value.bool b from r)
    exact .bool rfl
  | .int i, y, v, u, e, R, r => by
    simp only [nkD] at e
    simp only [Rep] at R
    cases e
    subst R
    obtain ⟨t, rfl⟩ := (show ∃ t, u = Value.int i t from r)
    exact .int i t
  | .tup xs, y, v, u, e, R, r => by
    simp only [nkD] at e
    simp only [Rep] at R
    obtain ⟨a, vs, rfl, g, R⟩ := R
    cases (show u = Value.ref a from r)
    cases e2 : nkDs xs with
    | none => rw [e2] at e; cases e
    | some ks =>
      rw [e2] at e
      cases e
      obtain ⟨_, its, rv, ⟨c, dd, dat, sl⟩, h1, h2, n, h3⟩ := ok a _ (W _ _ g)
      exact .tup h1 h2 h3 (by simpa using nks_is W ok xs ks vs its e2 R rv)
  | .str _, _, _, _, h, _, _ => by simp only [nkD] at h; cases h
  | .lst _, _, _, _, h, _, _ => by simp only [nkD] at h; cases h
  | .klst _, _, _, _, h, _, _ => by simp only [nkD] at h; cases h
  | .obj _, _, _, _, h, _, _ => by simp only [nkD] at h; cases h
  | .dic _ _, _, _, _, h, _, _ => by simp only [nkD] at h; cases h
  | .fdic _ _, _, _, _, h, _, _ => by simp only [nkD] at h; cases h
  | .gtup _, _, _, _, h, _, _ => by simp only [nkD] at h; cases h
theorem nks_is (W : Same w.G H) (ok : HOk P wo H h) : ∀ (ds : List D) (ys : List NestedKey) (vs : List V) (us : List Value), nkDs ds = some ys → Reps K w ds vs → Vals vs us → NestedAll h ys us
  | [], ys, vs, us, e, R, r => by
    simp only [nkDs] at e
    cases e
    have := R.inv0
    subst this
    cases r
    exact .nil
  | x :: xs, ys, vs, us, e, R, r => by
    simp only [nkDs] at e
    obtain ⟨v, vr, rfl, R1, R2⟩ := R.inv
    cases r with
    | cons r1 r2 =>
      cases e1 : nkD x with
      | none => rw [e1] at e; cases e
      | some k =>
        cases e2 : nkDs xs with
        | none => rw [e1, e2] at e; cases e
        | some ks =>
          rw [e1, e2] at e
          cases e
          exact .cons (nk_is W ok x k v _ e1 R1 r1) (nks_is W ok xs ks vr _ e2 R2 r2)
end
/-- the entries of such a dict, with their keys' addresses -/
def ZR (K : PySem.W.Frag) (w : Wd) : List D → List (NestedKey × Addr × Value) → Prop
  | [], zs => zs = []
  | [_], _ => False
  | k :: d :: r, zs => ∃ y b v u zr, zs = (y, b, u) :: zr ∧ nkT k = some y ∧ Rep K w k (.ref b) ∧ Rep K w d v ∧ RelV v u ∧ ZR K w r zr
theorem tup_ref {d : D} {v : V} {y : NestedKey} (e : nkT d = some y) (R : Rep K w d v) : ∃ b, v = .ref b := by
  obtain ⟨_, _, xs, rfl⟩ := nkT_nkD e
  simp only [Rep] at R
  obtain ⟨a, _, rfl, _⟩ := R
  exact ⟨a, rfl⟩
theorem zr_of (wo : World) : ∀ {ds : List D} {vs : List V} {us : List Value} {ys : List NestedKey}, Reps K w ds vs → Vals vs us → nks ds = some ys → ∃ zs, ZR K w ds zs ∧ zs.map (·.1) = ys ∧ entN ys us = zs.map (entryOfKey (nestedKind P wo))
  | [], vs, us, ys, R, r, e => by
    simp only [nks] at e
    cases e
    exact ⟨[], rfl, rfl, by simp [entN]⟩
  | [_], _, _, _, _, _, e => by simp only [nks] at e; cases e
  | k :: d :: ds, vs, us, ys, R, r, e => by
    obtain ⟨y, yr, rfl, e1, e2⟩ := nks_cons e
    obtain ⟨v1, vr, rfl, R1, R2⟩ := R.inv
    obtain ⟨v2, vr, rfl, R2, R3⟩ := R2.inv
    cases r with
    | cons r1 r =>
      cases r with
      | cons r2 r =>
        obtain ⟨b, rfl⟩ := tup_ref e1 R1
        cases r1
        obtain ⟨zs, z1, z2, z3⟩ := zr_of wo R3 r e2
        refine ⟨(y, b, _) :: zs, ⟨y, b, v2, _, zs, rfl, e1, R1, R2, r2, z1⟩, by rw [List.map_cons, z2], ?_⟩
        simp only [entN, List.map_cons, entryOfKey, z3]
        congr 2
        exact (hash_nk k y wo (nkT_nkD e1).1).symm
theorem zr_back (wo : World) : ∀ {ds : List D} {zs : List (NestedKey × Addr × Value)}, ZR K w ds zs → ∃ vs us, Reps K w ds vs ∧ Vals vs us ∧ nks ds = some (zs.map (·.1)) ∧ entN (zs.map (·.1)) us = zs.map (entryOfKey (nestedKind P wo)) ∧ vs.length = 2 * zs.length
  | [], zs, h => by
    simp only [ZR] at h
    subst h
    exact ⟨[], [], .nil, .nil, rfl, rfl, rfl⟩
  | [_], _, h => by simp only [ZR] at h
  | k :: d :: ds, zs, h => by
    simp only [ZR] at h
    obtain ⟨y, b, v, u, zr, rfl, e1, R1, R2, r2, z⟩ := h
    obtain ⟨vs, us, R3, r3, e3, e4, l⟩ := zr_back wo z
    refine ⟨.ref b :: v :: vs, .ref b :: u :: us, .cons R1 (.cons R2 R3), .cons rfl (.cons r2 r3), by simp only [nks, e1, e3, List.map_cons], ?_, by simp only [List.length_cons, l]; omega⟩
    simp only [entN, List.map_cons, entryOfKey, e4]
    congr 2
    exact (hash_nk k y wo (nkT_nkD e1).1).symm
theorem zr_is (W : Same w.G H) (ok : HOk P wo H h) : ∀ {ds : List D} {zs : List (NestedKey × Addr × Value)}, ZR K w ds zs → ∀ z ∈ zs, (nestedKind P wo).is h z.1 z.2.1
  | [], zs, q, z, m => by
    simp only [ZR] at q
    subst q
    cases m
  | [_], _, q, _, _ => by simp only [ZR] at q
  | k :: d :: ds, zs, q, z, m => by
    simp only [ZR] at q
    obtain ⟨y, b, v, u, zr, rfl, e1, R1, R2, r2, q⟩ := q
    rcases List.mem_cons.mp m with e | m
    · subst e
      obtain ⟨n1, n2, _⟩ := nkT_nkD e1
      exact ⟨nk_is W ok k y (.ref b) (.ref b) n1 R1 rfl, n2⟩
    · exact zr_is W ok q z m
/-! what such a dict holds -/
def valN : List D → D → Option D
  | k' :: d :: r, k => if nkT k' = nkT k then some d else valN r k
  | _, _ => none
def putN : List D → D → D → List D
  | k' :: d' :: r, k, d => if nkT k' = nkT k then k' :: d :: r else k' :: d' :: putN r k d
  | _, k, d => [k, d]
def OptZ (K : PySem.W.Frag) (w : Wd) : Option D → Option (Addr × Value) → Prop
  | some d, some p => ∃ v, Rep K w d v ∧ RelV v p.2
  | none, none => True
  | _, _ => False
theorem atKey_cons {k : NestedKey} {z : NestedKey × Addr × Value} {zs : List (NestedKey × Addr × Value)} : atKey (z :: zs) k = if z.1 = k then some z.2 else atKey zs k := by
  by_cases h : z.1 = k <;> simp [atKey, h]
theorem zr_val {k : D} {y : NestedKey} (hk : nkT k = some y) : ∀ {ds : List D} {zs : List (NestedKey × Addr × Value)}, ZR K w ds zs → OptZ K w (valN ds k) (atKey zs y)
  | [], zs, q => by
    simp only [ZR] at q
    subst q
    trivial
  | [_], _, q => by simp only [ZR] at q
  | k' :: d :: ds, zs, q => by
    simp only [ZR] at q
    obtain ⟨y', b, v, u, zr, rfl, e1, R1, R2, r2, q⟩ := q
    unfold valN
    rw [atKey_cons, e1, hk]
    by_cases z : y' = y
    · rw [if_pos (by rw [z]), if_pos z]
      exact ⟨v, R2, r2⟩
    · rw [if_neg (fun h => z (Option.some.inj h)), if_neg z]
      exact zr_val hk q
theorem map_putAt {y : NestedKey} {u : Value} : ∀ {zs : List (NestedKey × Addr × Value)}, y ∉ zs.map (·.1) → zs.map (putAt y u) = zs
  | [], _ => rfl
  | z :: zs, h => by
    rw [List.map_cons, List.mem_cons, not_or] at h
    rw [List.map_cons, map_putAt h.2]
    unfold putAt
    rw [if_neg (fun e => h.1 e.symm)]
theorem storedH_cons_ne {y : NestedKey} {b : Addr} {u : Value} {z : NestedKey × Addr × Value} {zs : List (NestedKey × Addr × Value)} (ne : z.1 ≠ y) : storedH (z :: zs) y b u = z :: storedH zs y b u := by
  unfold storedH
  rw [atKey_cons, if_neg ne]
  split
  · rw [List.map_cons]
    unfold putAt
    rw [if_neg ne]
  · rfl
theorem zr_put {k d : D} {y : NestedKey} {b : Addr} {v : V} {u : Value} (hk : nkT k = some y) (R1 : Rep K w k (.ref b)) (R2 : Rep K w d v) (r2 : RelV v u) : ∀ {ds : List D} {zs : List (NestedKey × Addr × Value)}, ZR K w ds zs → (zs.map (·.1)).Nodup → ZR K w (putN ds k d) (storedH zs y b u)
  | [], zs, q, _ => by
    simp only [ZR] at q
    subst q
    show ZR K w [k, d] [(y, b, u)]
    exact ⟨y, b, v, u, [], rfl, hk, R1, R2, r2, rfl⟩
  | [_], _, q, _ => by simp only [ZR] at q
  | k' :: d' :: ds, zs, q, nd => by
    simp only [ZR] at q
    obtain ⟨y', b', v', u', zr, rfl, e1, R1', R2', r2', q⟩ := q
    rw [List.map_cons, List.nodup_cons] at nd
    unfold putN
    rw [e1, hk]
    by_cases z : y' = y
    · subst z
      rw [if_pos rfl, storedH_old (p := (b', u')) (by rw [atKey_cons, if_pos rfl]), List.map_cons, map_putAt nd.1]
      refine ⟨y', b', v, u, zr, ?_, e1, R1', R2, r2, q⟩
      unfold putAt
      rw [if_pos rfl]
    · rw [if_neg (fun h => z (Option.some.inj h)), storedH_cons_ne z]
      exact ⟨y', b', v', u', _, rfl, e1, R1', R2', r2', zr_put hk R1 R2 r2 q nd.2⟩
/-- such a dict's object -/
theorem nd_obj {d : D} {v : V} {i : Nat} {rows : List D} (W : Wld K w st H) (R : Rep K w (.dic .n i) v) (e : st[i]? = some rows) (ev : rows.length % 2 = 0) (ok : HOk P wo H h) : ∃ a zs, v = .ref a ∧ w.as[i]? = some a ∧ w.dk a = some .n ∧ w.lk a = none ∧ Mut (H a) ∧ (a == sysModules) = false ∧
    ZR K w rows zs ∧ h.DictOfH (nestedKind P wo) a zs ∧ zs.length ≤ sizeLine := by
  simp only [Rep] at R
  obtain ⟨a, rfl, q, q2, _⟩ := R
  obtain ⟨g, ys, o, h1, h2, h3⟩ := W.at_ i a q
  rw [e] at h1
  cases h1
  rw [q2] at h3
  obtain ⟨hl, b, ys, vs, rfl, n, r⟩ := h3.nd ev
  obtain ⟨us, rv, ⟨ob, es, ep, g1, g2, g3, g4⟩, hs, nd, ln⟩ := nd_at (ok a _ h2)
  obtain ⟨zs, z1, z2, z3⟩ := zr_of (P := P) wo r rv n
  have lz : 2 * zs.length = vs.length := by
    obtain ⟨vs2, _, R2, _, _, _, l2⟩ := zr_back (P := P) wo z1
    have := R2.length
    have := r.length
    omega
  refine ⟨a, zs, rfl, q, q2, hl, by rw [h2]; trivial, hs, z1, ⟨ob, es, ep, g1, g2, g3, by rw [g4, z3], zr_is W.same ok z1, by rw [z2]; exact nd⟩, by omega⟩
/-- .. laid anew -/
theorem nd_ok {a : Addr} {zs : List (NestedKey × Addr × Value)} {rows : List D} (z : ZR K w rows zs) (D : h.DictOfH (nestedKind P wo) a zs) (hs : (a == sysModules) = false) (ln : zs.length ≤ sizeLine) : ∃ vs, EntP K w (some .n) rows (ndO a (zs.map (·.1)) vs) ∧ ∀ H', ObjOk P wo H' h a (ndO a (zs.map (·.1)) vs) := by
  obtain ⟨ob, es, ep, g1, g2, g3, g4, g5, nd⟩ := D
  obtain ⟨vs, us, R, rv, n, e, l⟩ := zr_back (P := P) wo z
  refine ⟨vs, ⟨a, _, vs, rfl, n, R⟩, fun H' => ⟨⟨us, rv, ⟨ob, es, ep, g1, g2, g3, by rw [g4, e]⟩, hs, nd, by omega⟩, ⟨ob, g1⟩, ?_⟩⟩
  rintro h1 h2 ⟨us, rv, ⟨o, es, ep, e1, e2⟩, r⟩ k
  exact ⟨us, rv, ⟨o, es, ep, k o e1, e2⟩, r⟩
end
/-! ### readings -/
def getN (d y : D) (st : Sto) (k : DK) : Prop := match d with
  | .dic .n i => match st[i]? with
    | some rows => rows.length % 2 = 0 ∧ (nkT y).isSome = true ∧ ∃ x, valN rows y = some x ∧ k x st
    | none => False
  | _ => False
def putDN (o i v : D) (st : Sto) (k : Sto → Prop) : Prop := match o with
  | .dic .n j => match st[j]? with
    | some rows => rows.length % 2 = 0 ∧ (nkT i).isSome = true ∧ rows.length < 16777216 ∧ k (st.set j (putN rows i v))
    | none => False
  | _ => False
def dgPutN (to ti : DE) : DG := fun v env st k => to env st fun o s1 => ti env s1 fun i s2 => putDN o i v s2 fun s3 => k env s3
def keysN : List (D × D) → Prop
  | [] => True
  | p :: r => (nkT p.1).isSome = true ∧ keysN r
def mergeN (rows : List D) (ps : List (D × D)) : List D := ps.foldl (fun acc p => putN acc p.1 p.2) rows
def dDispN (ts : List (DE × DE)) : DE := fun env st k => dPairs ts env (st ++ [[]]) fun ps s1 => s1[st.length]? = some [] ∧ keysN ps ∧ ps.length ≤ 15 ∧ k (.dic .n st.length) (s1.set st.length (mergeN [] ps))
section
variable {X : Cx} {o i e f : Expr} {pos : Pos} {to ti : DE}
theorem roomN {A : Around} (hu : A.units + 64 < cLine) : (nestedKind P wo).room A.in1 := by
  show A.in1.units + 8 < cLine
  have : A.in1.units ≤ A.units + 1 := Nat.le_refl _
  omega
theorem keyN_is {pins : List (Addr × Obj)} {σ : L2.St} {H : Hp} {s : Shared} {w : Wd} {st : Sto} {d : D} {y : NestedKey} {v : V} {u : Value} (I : Inv X pins σ H s) (W : Wld X.K w st H) (e : nkT d = some y) (R : Rep X.K w d v) (r : RelV v u) : ∃ b, v = .ref b ∧ u = .ref b ∧ (nestedKind X.prog X.w).is s.heap y b := by
  obtain ⟨b, rfl⟩ := tup_ref e R
  cases (show u = Value.ref b from r)
  obtain ⟨n1, n2, _⟩ := nkT_nkD e
  exact ⟨b, rfl, rfl, nk_is W.same I.hok d y _ _ n1 R rfl, n2⟩
theorem some_nk {d : D} (h : (nkT d).isSome = true) : ∃ y, nkT d = some y := Option.isSome_iff_exists.mp h
theorem pd_dgetN (hu : X.A.units + 64 < cLine) (ho : PD X o to) (hi : PD X i ti) (hs : NoSl i := by exact fun _ _ => rfl) : PD X (.Subscript o i pos) (dOp getN to ti) := by
  refine ⟨fun pins s σ H Q I ⟨w, env, st, kk, W, E, h, fo⟩ => ?_⟩
  refine subD_of PySem.F.slot_dict_getitem.lookup hs (thn (ho.run pins s σ H (fun v H1 => ∃ w1 st1 d, Le w w1 ∧ Wld X.K w1 st1 H1 ∧ Rep X.K w1 d v ∧ EnvR X.K w1 env σ ∧ ti env st1 fun y s2 => getN d y s2 kk) I ⟨w, env, st, _, W, E, h, fun d st1 v w1 H1 h1 l1 W1 R1 => ⟨w1, st1, d, l1, W1, R1, E.mono l1, h1⟩⟩) fun u0 s1 ⟨v, H1, I1, rv, w1, st1, d, l1, W1, R1, E1, h1⟩ => ?_)
  refine thn (hi.run pins s1 σ H1 (fun u H2 => ∃ w2 st2 y, Le w1 w2 ∧ Wld X.K w2 st2 H2 ∧ Rep X.K w2 y u ∧ getN d y st2 kk) I1 ⟨w1, env, st1, _, W1, E1, h1, fun y st2 u w2 H2 h2 l2 W2 R2 => ⟨w2, st2, y, l2, W2, R2, h2⟩⟩) fun u1 s2 ⟨u, H2, I2, ru, w2, st2, y, l2, W2, R2, h2⟩ => ?_
  have R1 := Rep.mono l2 _ _ R1
  unfold getN at h2
  split at h2
  · split at h2
    · rename_i j rows hj
      obtain ⟨hev, hn, x, hx, h2⟩ := h2
      obtain ⟨y0, hy⟩ := some_nk hn
      obtain ⟨a, zs, rfl, _, _, _, _, hs', z, hD, _⟩ := nd_obj (d := .non) W2 R1 hj hev I2.hok
      cases (show u0 = Value.ref a from rv)
      obtain ⟨b, rfl, rfl, hk⟩ := keyN_is I2 W2 hy R2 ru
      have ov := zr_val hy z
      rw [hx] at ov
      cases ea : atKey zs y0 with
      | none => rw [ea] at ov; exact ov.elim
      | some p =>
        rw [ea] at ov
        obtain ⟨vx, Rx, rx⟩ := ov
        exact ⟨hD.typeIs, wpAny_getItem_heap (roomN hu) hk hD ea ⟨vx, H2, I2.tok _, rx, fo _ _ _ _ _ h2 (l1.trans l2) W2 Rx⟩⟩
    · exact h2.elim
  · exact h2.elim
theorem storedH_len (xs : List (NestedKey × Addr × Value)) (k : NestedKey) (a : Addr) (v : Value) : (storedH xs k a v).length ≤ xs.length + 1 := storedH_length xs k a v
theorem zr_len {K : PySem.W.Frag} {w : Wd} : ∀ {ds : List D} {zs : List (NestedKey × Addr × Value)}, ZR K w ds zs → ds.length = 2 * zs.length
  | [], zs, q => by
    simp only [ZR] at q
    subst q
    rfl
  | [_], _, q => by simp only [ZR] at q
  | k :: d :: ds, zs, q => by
    simp only [ZR] at q
    obtain ⟨y, b, v, u, zr, rfl, _, _, _, _, q⟩ := q
    have := zr_len q
    simp only [List.length_cons]
    omega
/-- d[y] = v -/
def rSetN (K : PySem.W.Frag) : TSet := fun x y v H Q => ∃ (w : Wd) (st : Sto) (j : Nat) (rows : List D) (i d : D) (nx : Sto → Prop), Wld K w st H ∧ Rep K w (.dic .n j) x ∧ Rep K w i y ∧ Rep K w d v ∧ st[j]? = some rows ∧ rows.length % 2 = 0 ∧ (nkT i).isSome = true ∧ rows.length < 16777216 ∧ ∀ H', Wld K w (st.set j (putN rows i d)) H' → Q H'
theorem set_dictN (hu : X.A.units + 64 < cLine) : PSet X (rSetN X.K) := by
  rintro pins s σ H x y v xv yv u Q I rx ry rv ⟨w, st, j, rows, i, d, nx, W, R1, R2, R3, hj, hev, hn, hl, q⟩
  obtain ⟨y0, hy⟩ := some_nk hn
  obtain ⟨a, zs, rfl, ha, hd, hlk, mu, hs, z, hD, ln⟩ := nd_obj (d := .non) W R1 hj hev I.hok
  cases (show xv = Value.ref a from rx)
  obtain ⟨b, rfl, rfl, hk⟩ := keyN_is I W hy R2 ry
  have lz := zr_len z
  refine wpAny_setItem_heap (hsz := ln) (roomN hu) hk hD fun h' hD' sb => ?_
  obtain ⟨_, _, _, _, _, _, _, _, nd⟩ := id hD
  have zz := zr_put hy R2 R3 rv z nd
  obtain ⟨vs, e1, e2⟩ := nd_ok zz hD' hs (by have := storedH_len zs y0 b u; rw [sizeLine_eq] at *; omega)
  have he : ∃ q, h'.get? a = some q := let ⟨q, _, _, hq, _⟩ := hD'; ⟨q, hq⟩
  refine ⟨_, d_write I mu sb he (e2 _), q _ (W.wrK ha ?_)⟩
  rw [hd, hlk]
  exact .inl ⟨rfl, e1⟩
theorem pdg_putN (hu : X.A.units + 64 < cLine) (ho : PD X o to) (hi : PD X i ti)
    (ha : ∀ v, assign (.Subscript o i pos) X.env v = (do
      let ov ← holding [v] (eval o X.env)
      let iv ← holding [v, ov] (eval i X.env)
      standAt pos
      holding [v, ov, iv] (setItem ov iv v)
      release [v, ov, iv] []) := by intro _; rfl) : PDG X (.Subscript o i pos) (dgPutN to ti) := by
  refine L2.PG.wk (pg_sub ho hi (set_dictN hu) ha) fun v σ H Q ⟨w, env, st, d, nx, W, E, R, h, fn⟩ => ?_
  refine ⟨w, env, st, _, W, E, h, fun d1 st1 v1 w1 H1 h1 l1 W1 R1 => ⟨w1, env, st1, _, W1, E.mono l1, h1, fun d2 st2 v2 w2 H2 h2 l2 W2 R2 => ?_⟩⟩
  unfold putDN at h2
  split at h2
  · split at h2
    · rename_i j rows hj
      obtain ⟨hev, hk, hn, h2⟩ := h2
      exact ⟨w2, st2, _, rows, d2, d, fun _ => True, W2, Rep.mono l2 _ _ R1, R2, Rep.mono (l1.trans l2) _ _ R, hj, hev, hk, hn, fun H' W3 => fn _ _ _ _ _ h2 (l1.trans l2) W3 (E.mono (l1.trans l2))⟩
    · exact h2.elim
  · exact h2.elim
theorem storedH_nd {zs : List (NestedKey × Addr × Value)} {y : NestedKey} {b : Addr} {u : Value} (nd : (zs.map (·.1)).Nodup) : ((storedH zs y b u).map (·.1)).Nodup := by
  unfold storedH
  split
  · have : (zs.map (putAt y u)).map (·.1) = zs.map (·.1) := by
      rw [List.map_map]
      refine List.map_congr_left fun x _ => ?_
      show (putAt y u x).1 = x.1
      unfold putAt
      split <;> rfl
    rw [this]
    exact nd
  · rename_i h
    rw [List.map_append, List.nodup_append]
    refine ⟨nd, by simp, fun a ha b hb e => ?_⟩
    rw [List.map_singleton, List.mem_singleton] at hb
    subst hb e
    refine h ?_
    obtain ⟨x, hx, rfl⟩ := List.mem_map.mp ha
    clear h nd ha
    induction zs with
    | nil => cases hx
    | cons z zs ih =>
      rw [atKey_cons]
      by_cases q : z.1 = x.1
      · rw [if_pos q]; rfl
      · rw [if_neg q]
        rcases List.mem_cons.mp hx with e | hx
        · exact absurd (by rw [e]) q
        · exact ih hx
theorem prepN {K : PySem.W.Frag} {w : Wd} {P : Program} {wo : World} {H : Hp} {h : Heap} (W : Same w.G H) (ok : HOk P wo H h) {ps : List (D × D)} {qs : List (V × V)} (r : PRep K w ps qs) : ∀ {ws : List (Value × Value)}, VV qs ws → keysN ps →
    ∃ ms, CarriesH (nestedKind P wo) h ws ms ∧ ms.length = ps.length ∧ ∀ (rows : List D) (zs : List (NestedKey × Addr × Value)), ZR K w rows zs → (zs.map (·.1)).Nodup → ZR K w (mergeN rows ps) (storedAllH zs ms) := by
  induction r with
  | nil =>
    intro ws rv _
    cases rv
    exact ⟨[], trivial, rfl, fun _ _ z _ => z⟩
  | @cons x y u v ps qs r1 r2 r ih =>
    intro ws rv hk
    obtain ⟨k1, k2⟩ := hk
    cases rv with
    | @cons _ wv _ ws' rr rv =>
      obtain ⟨rr1, rr2⟩ := rr
      obtain ⟨ms, c, l, m⟩ := ih rv k2
      obtain ⟨y0, hy⟩ := some_nk k1
      obtain ⟨b, rfl⟩ := tup_ref hy r1
      obtain ⟨w1, w2⟩ := wv
      have e1 : w1 = Value.ref b := rr1
      obtain ⟨n1, n2, _⟩ := nkT_nkD hy
      refine ⟨(y0, b, w2) :: ms, ⟨e1, rfl, ⟨nk_is W ok x y0 _ _ n1 r1 rfl, n2⟩, c⟩, by rw [List.length_cons, List.length_cons, l], fun rows zs z nd => ?_⟩
      exact m _ _ (zr_put hy r1 r2 rr2 z nd) (storedH_nd nd)
theorem nd_nil {P : Program} {wo : World} {H : Hp} (h : Heap) (hb : sysModules < h.objs.size) : ObjOk P wo H (h.push { cls := .type "dict", data := .dict #[] }) h.objs.size (ndO h.objs.size [] []) := by
  refine ⟨⟨[], .nil, ⟨_, #[], 0, Heap.get?_push_size _ rfl, ⟨rfl, rfl, rfl⟩, rfl, rfl⟩, beq_eq_false_iff_ne.mpr (Ne.symm (Nat.ne_of_lt hb)), List.nodup_nil, Nat.zero_le _⟩, ⟨_, Heap.get?_push_size _ rfl⟩, ?_⟩
  rintro h1 h2 ⟨us, rv, ⟨o, es, ep, e1, e2⟩, r⟩ k
  exact ⟨us, rv, ⟨o, es, ep, k o e1, e2⟩, r⟩
theorem storedAllH_len : ∀ (ms zs : List (NestedKey × Addr × Value)), (storedAllH zs ms).length ≤ zs.length + ms.length
  | [], zs => Nat.le_refl _
  | m :: ms, zs => by
    have h1 := storedAllH_len ms (storedH zs m.1 m.2.1 m.2.2)
    have h2 := storedH_len zs m.1 m.2.1 m.2.2
    show (storedAllH (storedH zs m.1 m.2.1 m.2.2) ms).length ≤ _
    rw [List.length_cons]
    omega
theorem pd_dispN {keys : List (Option Expr)} {values : List Expr} {ts : List (DE × DE)} (hu : X.A.units + 64 < cLine) (h : PDPs X pos keys values ts) (hall : keys.all (·.isSome) = true := by rfl) (hl : keys.length = values.length := by rfl) (h0 : keys ≠ [] := by intro z; cases z)
    (h15 : keys.length ≤ 15 := by decide) : PD X (.Dict keys values pos) (dDispN ts) := by
  refine ⟨fun pins s σ H Q I ⟨w, env, st, kk, W, E, q, fo⟩ => ?_⟩
  have hn := I.hok.fresh (Nat.le_refl s.heap.objs.size)
  have I1 := I.laid (a := s.heap.objs.size) (o := ndO s.heap.objs.size [] []) (h' := s.heap.push { cls := .type "dict", data := .dict #[] }) (t' := s.toks) (fun _ _ q => Heap.get?_push_of_some _ q) (Nat.le_refl _) (nd_nil s.heap I.big)
  have l0 : Le w (w.addK s.heap.objs.size (some .n)) := Le.addK (W.nas hn)
  have W0 := W.addK hn (k := some .n) (xs := []) (o := ndO s.heap.objs.size [] []) ⟨_, [], [], rfl, rfl, .nil⟩
  have q0 : (w.addK s.heap.objs.size (some .n)).as[st.length]? = some s.heap.objs.size := by
    show (w.as ++ [s.heap.objs.size])[st.length]? = some s.heap.objs.size
    rw [← W.len, List.getElem?_concat_length]
  have hln := pairTrees_length keys values X.env pos hall hl
  have hne : pairTrees keys values X.env pos ≠ [] := fun he => by
    rw [he] at hln
    exact h0 (List.length_eq_zero_iff.mp hln.symm)
  rw [arm_eval_Dict, zip_pairTrees keys values X.env pos hall hl, dictDisplay_pairs _ hne (by omega)]
  refine wpAny_bind (wpAny_standAt (wpAny_bind (wpAny_subDictH (knd := nestedKind X.prog X.w) (by show X.A.units + 8 < cLine; omega) (by omega) (thn (h.run.run pins _ σ _ (fun qs H2 => ∃ ps st1 w1, Le (w.addK s.heap.objs.size (some .n)) w1 ∧ Wld X.K w1 st1 H2 ∧ PRep X.K w1 ps qs ∧ st1[st.length]? = some [] ∧ keysN ps ∧ ps.length ≤ 15 ∧ kk (.dic .n st.length) (st1.set st.length (mergeN [] ps))) I1 ?_) fun ws s2 hq => ?_))))
  · exact pairs_in ts _ env _ σ _ _ _ W0 (E.mono l0) q fun ps st1 qs w1 H1 ⟨e0, kok, n15, h1⟩ l1 W1 R1 => ⟨ps, st1, w1, l1, W1, R1, e0, kok, n15, h1⟩
  · obtain ⟨qs, H2, I2, rv, ps, st1, w1, l1, W1, R1, e0, kok, n15, h1⟩ := hq
    have q1 : w1.as[st.length]? = some s.heap.objs.size := as_get l1.pre q0
    have k1 : w1.dk s.heap.objs.size = some .n := (l1.pre.dk _ (List.mem_of_getElem? q0)).trans (if_pos rfl)
    have Rd : Rep X.K w1 (.dic .n st.length) (.ref s.heap.objs.size) := by
      simp only [Rep]
      exact ⟨_, rfl, q1, k1, trivial⟩
    obtain ⟨a, zs, ea, ha, _, hlk, mu, hs, z, hD, _⟩ := nd_obj (d := .non) W1 Rd e0 rfl I2.hok
    cases ea
    simp only [ZR] at z
    subst z
    obtain ⟨ms, c, lm, m⟩ := prepN W1.same I2.hok R1 rv kok
    refine ⟨ms, c, hD, fun h' tk hD' sb => wpAny_pure ?_⟩
    have zz := m [] [] rfl List.nodup_nil
    have ln := storedAllH_len ms []
    obtain ⟨vs, e1, e2⟩ := nd_ok zz hD' hs (by rw [sizeLine_eq]; rw [List.length_nil] at ln; omega)
    have he : ∃ q, h'.get? s.heap.objs.size = some q := let ⟨q, _, _, hq, _⟩ := hD'; ⟨q, hq⟩
    refine ⟨.ref s.heap.objs.size, _, d_write I2 mu sb he (e2 _), rfl, fo _ _ _ w1 _ h1 (l0.trans l1) (W1.wrK q1 ?_) Rd⟩
    rw [k1, hlk]
    exact .inl ⟨rfl, e1⟩
variable {st : Sto} {rows : List D} {env : DL.Env} {k : DK}
theorem e_dispN {ts : List (DE × DE)} : dDispN ts env st k = dPairs ts env (st ++ [[]]) fun ps s1 => s1[st.length]? = some [] ∧ keysN ps ∧ ps.length ≤ 15 ∧ k (.dic .n st.length) (s1.set st.length (mergeN [] ps)) := rfl
theorem e_putN {to ti : DE} {d : D} {kg : DL.Env → Sto → Prop} : dgPutN to ti d env st kg = to env st fun o s1 => ti env s1 fun i s2 => putDN o i d s2 fun s3 => kg env s3 := rfl
theorem e_getN {j : Nat} {y : D} (h : st[j]? = some rows) : getN (.dic .n j) y st k = (rows.length % 2 = 0 ∧ (nkT y).isSome = true ∧ ∃ x, valN rows y = some x ∧ k x st) := by simp [getN, h]
theorem e_putNs {j : Nat} {i v : D} {ks : Sto → Prop} (h : st[j]? = some rows) : putDN (.dic .n j) i v st ks = (rows.length % 2 = 0 ∧ (nkT i).isSome = true ∧ rows.length < 16777216 ∧ ks (st.set j (putN rows i v))) := by simp [putDN, h]
/-! ### a tuple no or so many times -/
end
end DL

/-! DMF: the values of a dict whose keys are tuples are walked. -/
namespace DL
open PySem PySem.Spec PyProof.Rows L2
/-! ### the lock -/
section
variable {X : Cx}
/-! ### what is walked -/
/-! ### .. over data -/
end
end DL

/-! DMG: how many keys a dict has. -/
namespace DL
open PySem PySem.Spec PyProof.Rows L2
section
variable {X : Cx}
theorem call_lenDK : CallR X (.builtin "len") (fun xs H Q => ∃ a kvs, xs = [.ref a] ∧ Rd H a (.dK kvs) ∧ Q (.int kvs.length) H) := by
  intro pins s σ H xs us Q I r h
  obtain ⟨a, kvs, rfl, hr, q⟩ := h
  obtain ⟨u, rfl, rx⟩ := vals1 r
  cases rx
  obtain ⟨n, hs, vs, kv, hm⟩ := hr.ok I.hok
  have hl : kvs.length = vs.length := Paired.length kv
  rw [sizeLine_eq] at n
  exact call_len_dict hs hm (by omega) ⟨.int kvs.length, H, I.tok _, ⟨_, by rw [hl]⟩, q⟩
def bLenD : FB := fun ds st k => match ds with
  | [d] => match dicOf st d with
    | some (false, rows) => okRows rows = true ∧ k (.int (rows.length : Nat)) st
    | _ => False
  | _ => False
theorem cb_lenD : CallR X (.builtin "len") (rDB X.K bLenD) := by
  refine CallR.by_ fun vs H Q w st ds kk W R q fo => ?_
  unfold bLenD at q
  split at q
  · obtain ⟨v, rfl, R1⟩ := one_rep R
    split at q
    · rename_i rows hd
      obtain ⟨a, o, L, rfl, h, r⟩ := dic_obj W R1 hd
      obtain ⟨kvs, rfl, n, r⟩ := r.dK q.1
      refine ⟨_, call_lenDK, a, kvs, rfl, .inl h, ?_⟩
      rw [← rowsK_length r]
      exact fo _ _ _ _ _ q.2 (.refl _) W rep_int
    · exact q.elim
  · exact q.elim
theorem e_lenDO {st : Sto} {j : Nat} {rows : List D} {k : DK} (h : st[j]? = some rows) (ok : okRows rows = true) : bLenD [.dic false j] st k = k (.int (rows.length : Nat)) st := by simp [bLenD, dicOf, h, ok]
end
end DL

namespace LW
open PySem PySem.Spec PyProof.Rows L2 DL
local macro_rules | `(tactic| walk_at "lw_dd0") => `(tactic| try simp only [BEq.rfl, ↓e_v0, ↓e_vs, ↓e_c, ↓e_op, ↓e_test, ↓e_testK, ↓e_tru, ↓e_truL, ↓e_truT, ↓e_truB, ↓e_truI, ↓e_truN, ↓e_truS, ↓e_not, ↓e_or, ↓e_notK, ↓e_if, ↓e_nil, ↓e_cons, ↓e_tup, ↓e_lst, ↓e_new, ↓e_call, ↓e_drop, ↓e_ret, ↓e_pass, ↓e_ifS, ↓e_g0, ↓e_gs, ↓e_gnil, ↓e_gcons, ↓e_gtup, ↓e_asg, ↓e_par, ↓e_parK, ↓e_par3, ↓e_par3K, ↓e_chain, ↓e_chK, ↓e_no, ↓e_some, ↓e_someK, ↓e_cut, ↓e_b, ↓e_iter, ↓e_iterL, ↓e_iterT, ↓e_iterS, ↓e_rng1, ↓e_rng1K, ↓e_enum, ↓e_enumL, ↓e_enumT, ↓e_for, ↓e_lc, ↓e_lcNew, ↓e_meth, ↓e_isL, ↓e_sub, ↓e_isi, ↓e_yes, ↓e_bits, ↓e_bitsK, ↓e_addI, ↓e_addB, ↓e_addS, ↓e_addT, ↓e_addL, ↓e_subI, ↓e_mulI, ↓e_mulT, ↓e_mulL, ↓e_divI, ↓e_modI, ↓e_powI, ↓e_cmpI, ↓e_eq, ↓e_ne, ↓e_ixL, ↓e_ixKL, ↓e_ixT, ↓e_cutL, ↓e_cutKL, ↓e_cutT, ↓e_lenL, ↓e_lenKL, ↓e_lenT, ↓e_abs, ↓e_intI, ↓e_intB, ↓e_listNL, ↓e_listNT, ↓e_tupL, ↓e_tupT, ↓e_sum1T, ↓e_sum1L, ↓e_max1T, ↓e_max1L, ↓e_drI, ↓e_drB, ↓e_drS, ↓e_drN, ↓e_drL, ↓e_drT, ↓e_seq, ↓e_sortedL, ↓e_lr2, ↓e_lr2K, ↓e_unlL, ↓e_inL, ↓e_inKL, ↓e_inT, ↓e_inFlat, ↓e_drK, ↓e_addBI, ↓e_subBI, ↓e_subIB, ↓e_drG, ↓e_dnew, ↓e_dgetF, ↓e_dget2, ↓e_dsetdS, ↓e_dgPut, ↓e_lenSetZ, ↓e_lenSetZL, ↓e_join, ↓e_joinL, ↓e_cutS, ↓e_mulS, ↓e_andI, ↓e_srtTx, ↓e_srtTxL, ↓e_pairs0, ↓e_pairs1, ↓e_shrI, ↓e_dispN, ↓e_putN, e_kyI, e_kyS, Nat.reduceAdd, Nat.zero_add, List.length_cons, List.length_nil, List.length_map, Nat.reduceLeDiff, and_true, true_and, if_true, ite_true, decide_eq_true_eq, Bool.not_eq_true, Bool.false_eq_true, if_false, ite_false, ↓reduceIte, Int.reduceToNat, Int.reducePow, ne_eq, q_okI, q_okB, q_okN, q_okS, q_okL, q_okT, q_oks0, q_oks1, q_eqII, q_eqBB, q_eqSS, q_eqLL, q_eqTT, q_eqNN, q_eqNI, q_eqIN, q_eqs0, q_eqs1, Bool.true_and, Bool.and_true, beq_iff_eq, reduceCtorEq, wipeE, List.set_cons_zero, List.set_cons_succ, List.set_nil, Bool.not_true, Bool.not_false, List.getElem?_cons_zero, List.getElem?_cons_succ])
local macro_rules | `(tactic| walk_at "lw_dd") => `(tactic| try simp only [BEq.rfl, ↓e_v0, ↓e_vs, ↓e_c, ↓e_op, ↓e_test, ↓e_testK, ↓e_tru, ↓e_truL, ↓e_truT, ↓e_truB, ↓e_truI, ↓e_truN, ↓e_truS, ↓e_not, ↓e_or, ↓e_notK, ↓e_if, ↓e_nil, ↓e_cons, ↓e_tup, ↓e_lst, ↓e_new, ↓e_call, ↓e_drop, ↓e_ret, ↓e_pass, ↓e_ifS, ↓e_g0, ↓e_gs, ↓e_gnil, ↓e_gcons, ↓e_gtup, ↓e_asg, ↓e_par, ↓e_parK, ↓e_par3, ↓e_par3K, ↓e_chain, ↓e_chK, ↓e_no, ↓e_some, ↓e_someK, ↓e_cut, ↓e_b, ↓e_iter, ↓e_iterL, ↓e_iterT, ↓e_iterS, ↓e_rng1, ↓e_rng1K, ↓e_enum, ↓e_enumL, ↓e_enumT, ↓e_for, ↓e_lc, ↓e_lcNew, ↓e_forN, ↓e_forC, ↓e_lcN, ↓e_lcC, ↓e_srcN, ↓e_srcC, ↓e_meth, ↓e_isL, ↓e_sub, ↓e_isi, ↓e_yes, ↓e_bits, ↓e_bitsK, ↓e_addI, ↓e_addB, ↓e_addS, ↓e_addT, ↓e_addL, ↓e_subI, ↓e_mulI, ↓e_mulT, ↓e_mulL, ↓e_divI, ↓e_modI, ↓e_powI, ↓e_cmpI, ↓e_eq, ↓e_ne, ↓e_ixL, ↓e_ixKL, ↓e_ixT, ↓e_cutL, ↓e_cutKL, ↓e_cutT, ↓e_lenL, ↓e_lenKL, ↓e_lenT, ↓e_abs, ↓e_intI, ↓e_intB, ↓e_listNL, ↓e_listNT, ↓e_tupL, ↓e_tupT, ↓e_sum1T, ↓e_sum1L, ↓e_max1T, ↓e_max1L, ↓e_drI, ↓e_drB, ↓e_drS, ↓e_drN, ↓e_drL, ↓e_drT, ↓e_seq, ↓e_sortedL, ↓e_lr2, ↓e_lr2K, ↓e_unlL, ↓e_inL, ↓e_inKL, ↓e_inT, ↓e_inFlat, ↓e_drK, ↓e_addBI, ↓e_subBI, ↓e_subIB, ↓e_drG, ↓e_dnew, ↓e_dgetF, ↓e_dget2, ↓e_dsetdS, ↓e_dgPut, ↓e_lenSetZ, ↓e_lenSetZL, ↓e_join, ↓e_joinL, ↓e_cutS, ↓e_mulS, ↓e_andI, ↓e_srtTx, ↓e_srtTxL, ↓e_pairs0, ↓e_pairs1, ↓e_shrI, ↓e_dispN, ↓e_putN, e_kyI, e_kyS, Nat.reduceAdd, Nat.zero_add, List.length_cons, List.length_nil, List.length_map, Nat.reduceLeDiff, and_true, true_and, if_true, ite_true, decide_eq_true_eq, Bool.not_eq_true, Bool.false_eq_true, if_false, ite_false, ↓reduceIte, Int.reduceToNat, Int.reducePow, ne_eq, q_okI, q_okB, q_okN, q_okS, q_okL, q_okT, q_oks0, q_oks1, q_eqII, q_eqBB, q_eqSS, q_eqLL, q_eqTT, q_eqNN, q_eqNI, q_eqIN, q_eqs0, q_eqs1, Bool.true_and, Bool.and_true, beq_iff_eq, reduceCtorEq, wipeE, List.set_cons_zero, List.set_cons_succ, List.set_nil, Bool.not_true, Bool.not_false, List.getElem?_cons_zero, List.getElem?_cons_succ])
def top (i : Nat) : Stmt := PySem.Challenge.pw_panfalls_k69_whole_no_tree_has_fewer.main.body.getD i (.Pass ⟨0, 0, 0, 0⟩)
abbrev s_depths_of : Stmt := top 1
abbrev N_depths_of : List Str := ["share", "top", "bottom", "deep", "place"]
theorem sc_depths_of : FnScope N_depths_of ["share"] (defScope s_depths_of) := ⟨rfl, rfl, rfl, by decide +kernel, rfl, by decide +kernel, by decide +kernel⟩
abbrev s_fewest_balances : Stmt := top 2
abbrev N_fewest_balances : List Str := ["shares", "name", "share"]
theorem sc_fewest_balances : FnScope N_fewest_balances ["shares"] (defScope s_fewest_balances) := ⟨rfl, rfl, rfl, by decide +kernel, rfl, by decide +kernel, by decide +kernel⟩
abbrev s_joined : Stmt := top 3
abbrev N_joined : List Str := ["shares", "found", "name", "share", "depth", "deepest", "part", "one", "other", "place", "pair"]
theorem sc_joined : FnScope N_joined ["shares"] (defScope s_joined) := ⟨rfl, rfl, rfl, by decide +kernel, rfl, by decide +kernel, by decide +kernel⟩
abbrev s_tree_of : Stmt := top 4
abbrev N_tree_of : List Str := ["shares", "parts", "rows", "row", "part"]
theorem sc_tree_of : FnScope N_tree_of ["shares"] (defScope s_tree_of) := ⟨rfl, rfl, rfl, by decide +kernel, rfl, by decide +kernel, by decide +kernel⟩
abbrev s__law_twos : Stmt := top 6
abbrev N__law_twos : List Str := ["_law_count", "_law_found", "_law_turn"]
theorem sc__law_twos : FnScope N__law_twos ["_law_count"] (defScope s__law_twos) := ⟨rfl, rfl, rfl, by decide +kernel, rfl, by decide +kernel, by decide +kernel⟩
abbrev s__law_tape : Stmt := top 7
abbrev N__law_tape : List Str := ["_law_script", "_law_k", "_law_cell"]
theorem sc__law_tape : FnScope N__law_tape ["_law_script", "_law_k"] (defScope s__law_tape) := ⟨rfl, rfl, rfl, by decide +kernel, rfl, by decide +kernel, by decide +kernel⟩
abbrev s__law_draw : Stmt := top 8
abbrev N__law_draw : List Str := ["_law_tape_here", "_law_count", "_law_found", "_law_once", "_law_twice", "_law_wide"]
theorem sc__law_draw : FnScope N__law_draw ["_law_tape_here", "_law_count"] (defScope s__law_draw) := ⟨rfl, rfl, rfl, by decide +kernel, rfl, by decide +kernel, by decide +kernel⟩
abbrev s__law_folded : Stmt := top 9
abbrev N__law_folded : List Str := ["_law_script", "_law_count", "_law_cells", "_law_k", "_law_cell"]
theorem sc__law_folded : FnScope N__law_folded ["_law_script", "_law_count"] (defScope s__law_folded) := ⟨rfl, rfl, rfl, by decide +kernel, rfl, by decide +kernel, by decide +kernel⟩
abbrev s__law_names : Stmt := top 10
abbrev N__law_names : List Str := ["_law_tape_here", "_law_count", "_law_letters", "_law_shift", "_law_stem", "_law_k", "_law_at", "_law_step", "_law_found", "_law_head", "_law_tail", "_law_way", "_law_sign"]
theorem sc__law_names : FnScope N__law_names ["_law_tape_here", "_law_count"] (defScope s__law_names) := ⟨rfl, rfl, rfl, by decide +kernel, rfl, by decide +kernel, by decide +kernel⟩
abbrev s__law_fraction : Stmt := top 11
abbrev N__law_fraction : List Str := ["_law_top", "_law_bottom", "_law_one", "_law_other"]
theorem sc__law_fraction : FnScope N__law_fraction ["_law_top", "_law_bottom"] (defScope s__law_fraction) := ⟨rfl, rfl, rfl, by decide +kernel, rfl, by decide +kernel, by decide +kernel⟩
abbrev s__law_shares : Stmt := top 12
abbrev N__law_shares : List Str := ["_law_house", "_law_each", "_law_found", "_law_k", "_law_leads", "_law_lead"]
theorem sc__law_shares : FnScope N__law_shares ["_law_house"] (defScope s__law_shares) := ⟨rfl, rfl, rfl, by decide +kernel, rfl, by decide +kernel, by decide +kernel⟩
abbrev s__law_is_tree : Stmt := top 13
abbrev N__law_is_tree : List Str := ["_law_house", "_law_led", "_law_k", "_law_leads", "_law_lead"]
theorem sc__law_is_tree : FnScope N__law_is_tree ["_law_house"] (defScope s__law_is_tree) := ⟨rfl, rfl, rfl, by decide +kernel, rfl, by decide +kernel, by decide +kernel⟩
abbrev s__law_grown : Stmt := top 14
abbrev N__law_grown : List Str := ["_law_tape_here", "_law_names_here", "_law_house", "_law_ends", "_law_ends_of", "_law_turn", "_law_pan", "_law_side", "_law_found", "_law_name", "_law_leads"]
theorem sc__law_grown : FnScope N__law_grown ["_law_tape_here", "_law_names_here"] (defScope s__law_grown) := ⟨rfl, rfl, rfl, by decide +kernel, rfl, by decide +kernel, by decide +kernel⟩
abbrev s__law_right : Stmt := top 15
abbrev N__law_right : List Str := ["_law_tape_here", "_law_names_here", "_law_house", "_law_ends_of", "_law_made", "_law_name", "_law_deep", "_law_few", "_law_other", "_law_own", "_law_total", "_law_unlike", "_law_some"]
theorem sc__law_right : FnScope N__law_right ["_law_tape_here", "_law_names_here"] (defScope s__law_right) := ⟨rfl, rfl, rfl, by decide +kernel, rfl, by decide +kernel, by decide +kernel⟩
abbrev s_law : Stmt := top 16
abbrev N_law : List Str := ["_law_script", "_law_cells", "_law_k", "_law_tape_here", "_law_names_here", "_law_turn"]
theorem sc_law : FnScope N_law ["_law_script"] (defScope s_law) := ⟨rfl, rfl, rfl, by decide +kernel, rfl, by decide +kernel, by decide +kernel⟩
theorem ty_int {i : Int} : tyD (.int i) = "int" := rfl
theorem ty_str {z : Str} : tyD (.str z) = "str" := rfl
theorem eqDs_nil (ns : List Int) : eqDs (ns.map D.int) [] = decide (ns = []) := by
  cases ns <;> simp [eqDs]
/-! the steps of a reading -/
theorem mul2 (w : Int) : MulOk 2 w := .inl ⟨by decide, by decide⟩
theorem app_get {st : Sto} {xs : List D} : (st ++ [xs])[st.length]? = some xs := List.getElem?_concat_length ..
theorem app_set {st : Sto} {xs ys : List D} : (st ++ [xs]).set st.length ys = st ++ [ys] := by simp
theorem belows_int (n : Nat) : ∀ xs : List Int, belows n (xs.map D.int) = true
  | [] => rfl
  | x :: r => by simp only [List.map_cons, belows, below, Bool.true_and]; exact belows_int n r
theorem mulr (a b : Int) (h : -(2 ^ 64) < b) (h' : b < 2 ^ 64) : MulOk a b := .inr (.inl ⟨h, h'⟩)
theorem mulc (a b : Int) (h : -(2 ^ 64) < a) (h' : a < 2 ^ 64) : MulOk a b := .inl ⟨h, h'⟩
theorem mulb (a : Int) (b : Prop) [Decidable b] : MulOk a (if b then 1 else 0) := .inr (.inl (by split <;> exact ⟨by decide, by decide⟩))
theorem ixN_of {n : Nat} {i : Int} (h0 : 0 ≤ i) (h1 : i < n) : ixN n i = some i.toNat := by
  unfold ixN
  rw [if_pos h0, if_pos h1]
theorem atI_at {α : Type} {xs : List α} {i : Int} (h0 : 0 ≤ i) (h1 : i < xs.length) : atI xs i = some (xs[i.toNat]'(by omega)) := by
  unfold atI
  rw [ixN_of h0 h1]
  show xs[i.toNat]? = _
  rw [List.getElem?_eq_getElem]
theorem cutD_map {α β : Type} (f : α → β) (xs : List α) (lo hi : Option Int) : DL.cutD (xs.map f) lo hi = (DL.cutD xs lo hi).map f := by
  unfold DL.cutD
  rw [List.length_map, List.map_take, List.map_drop]
theorem cutD_to {α : Type} (xs : List α) (m : Nat) : DL.cutD xs none (some (m : Int)) = xs.take m := by
  unfold DL.cutD
  rw [HT.sIx_nat, HT.sIx_none, List.drop_zero, Nat.sub_zero]
  by_cases h : m ≤ xs.length
  · rw [Nat.min_eq_left h]
  · rw [Nat.min_eq_right (by omega), List.take_length, List.take_of_length_le (by omega)]
theorem cutD_from {α : Type} (xs : List α) (m k : Nat) : DL.cutD xs (some (m : Int)) (some (k : Int)) = (xs.drop m).take (k - m) := by
  unfold DL.cutD
  rw [HT.sIx_nat, HT.sIx_nat]
  by_cases h : m ≤ xs.length
  · rw [Nat.min_eq_left h]
    by_cases h2 : k ≤ xs.length
    · rw [Nat.min_eq_left h2]
    · rw [Nat.min_eq_right (by omega), List.take_of_length_le (by rw [List.length_drop]; omega), List.take_of_length_le (by rw [List.length_drop]; omega)]
  · rw [Nat.min_eq_right (show xs.length ≤ m by omega), List.drop_length, List.drop_eq_nil_of_le (show xs.length ≤ m by omega)]
    simp
theorem set_last (st : Sto) (a b : List D) : (st ++ [a]).set st.length b = st ++ [b] := by simp
theorem map_set_int (cs : List Int) (j : Nat) (v : Int) : (cs.map D.int).set j (.int v) = (cs.set j v).map D.int := by
  rw [List.map_set]
theorem at0 (a b c : D) : atI [a, b, c] 0 = some a := rfl
theorem at1 (a b c : D) : atI [a, b, c] 1 = some b := rfl
theorem at2 (a b c : D) : atI [a, b, c] 2 = some c := rfl
theorem pow5 {x : Int} (h0 : 0 ≤ x) (h1 : x < 18446744073709551616) : PowOk x 5 := ⟨by decide, by decide, by omega⟩
def Big (m : Int) : Prop := 1 ≤ m ∧ m < 1000000000000000000000000
theorem Big.div {m : Int} (h : Big m) : DivOk m := ⟨by have := h.1; omega, by
  have h2 : m.natAbs < 2 ^ 80 := by have := h.1; have := h.2; omega
  exact Nat.lt_of_lt_of_le (PySem.Flt.log2_lt_of (by decide) h2) (by decide)⟩
theorem div_small {m : Int} (h : 0 < m) (h' : m < 4611686018427387904) : DivOk m := ⟨h, by
  have h2 : m.natAbs < 2 ^ 62 := by omega
  exact Nat.lt_of_lt_of_le (PySem.Flt.log2_lt_of (by decide) h2) (by decide)⟩
theorem p0 (a b : D) : atI [a, b] 0 = some a := rfl
theorem p1 (a b : D) : atI [a, b] 1 = some b := rfl
theorem okDs_of {n : Nat} : ∀ {ds : List D}, (∀ d ∈ ds, okD n d = true) → okDs n ds = true
  | [], _ => by simp only [okDs]
  | x :: xs, h => by
    simp only [okDs, Bool.and_eq_true]
    exact ⟨h x List.mem_cons_self, okDs_of fun d hd => h d (List.mem_cons_of_mem _ hd)⟩
/-- a text by its codes -/
def S (cs : List Nat) : Str := ⟨cs.toArray⟩
theorem S_cps (cs : List Nat) : (S cs).cps.toList = cs := by unfold S; simp
theorem S_len (cs : List Nat) : (S cs).length = cs.length := by unfold S; show cs.toArray.size = _; simp
theorem S_app (a b : List Nat) : S a ++ S b = S (a ++ b) := by
  show Str.mk (a.toArray ++ b.toArray) = Str.mk (a ++ b).toArray
  rw [List.append_toArray]
theorem S_inj {a b : List Nat} (h : S a = S b) : a = b := by rw [← S_cps a, ← S_cps b, h]
theorem S_cut (cs : List Nat) (lo hi : Option Int) : L2.cutS (S cs) lo hi = S (DL.cutD cs lo hi) := by
  unfold L2.cutS DL.cutD
  rw [S_len, S_cps]
  rfl
theorem S_nil : Str.ofString "" = S [] := by decide +kernel
theorem S_join : ∀ cs : List Nat, PySem.Txt.join (Str.ofString "") (cs.map fun c => S [c]) = S cs := by
  intro cs
  show Builtin.Str.glued (Str.ofString "") (cs.map fun c => S [c]) = S cs
  rw [PySem.StrLaws.glued_eq_join, S_nil]
  induction cs with
  | nil => rfl
  | cons c r ih =>
    cases r with
    | nil => rfl
    | cons d r =>
      show S [c] ++ S [] ++ Str.join (S []) ((d :: r).map fun c => S [c]) = _
      rw [ih, S_app, S_app]
      rfl
theorem S_ok {cs : List Nat} (h : ∀ c ∈ cs, c < 1000) : PyData.strOk (S cs) = true := by
  unfold PyData.strOk S
  rw [← Array.all_toList]
  simp only [List.all_eq_true, decide_eq_true_eq]
  intro c hc
  have := h c (by simpa using hc)
  omega
theorem S_sum : ∀ cs : List Nat, ((cs.map fun c => S [c]).map (·.length)).sum = cs.length
  | [] => rfl
  | c :: r => by
    simp only [List.map_cons, List.sum_cons, S_sum r, S_len, List.length_cons, List.length_nil]
    omega
def abcL : List Nat := (List.range 26).map (97 + ·)
theorem abc_eq : Str.ofString "abcdefghijklmnopqrstuvwxyz" = S abcL := by decide +kernel
/-- a letter -/
def Lt (c : Nat) : Prop := 97 ≤ c ∧ c ≤ 122
theorem abc_at {i : Int} (h0 : 0 ≤ i) (h1 : i < 26) : atI abcL i = some (97 + i.toNat) := by
  obtain ⟨n, rfl⟩ := Int.eq_ofNat_of_zero_le h0
  have hn : n < 26 := by omega
  have : ∀ n : Fin 26, atI abcL (n.val : Int) = some (97 + n.val) := by decide
  exact this ⟨n, hn⟩
/-- a name: one to eight letters -/
structure NameL (cs : List Nat) : Prop where
  one : 1 ≤ cs.length
  eight : cs.length ≤ 8
  all : ∀ c ∈ cs, Lt c
/-! ### nets -/
inductive Ld where
  | bal (n : Nat) | out (cs : List Nat)
instance : DecidableEq Ld := fun a b => match a, b with
  | .bal n, .bal m => if h : n = m then isTrue (by rw [h]) else isFalse (fun e => h (by cases e; rfl))
  | .out n, .out m => if h : n = m then isTrue (by rw [h]) else isFalse (fun e => h (by cases e; rfl))
  | .bal _, .out _ => isFalse (fun e => by cases e)
  | .out _, .bal _ => isFalse (fun e => by cases e)
def Ld.d : Ld → D
  | .bal n => .int (n : Nat)
  | .out cs => .str (S cs)
abbrev Web := List (Ld × Ld)
def ldsD (p : Ld × Ld) : D := .tup [p.1.d, p.2.d]
def webD (w : Web) : D := .tup (w.map ldsD)
def Ld.of (p : Ld × Ld) (s : Bool) : Ld := if s = true then p.2 else p.1
/-- where the pan (k, s) leads -/
def leadW (w : Web) (k : Nat) (s : Bool) : Option Ld := (w[k]?).map fun p => Ld.of p s
structure WebOk (names : List (List Nat)) (most high : Nat) (tog : Bool) (w : Web) : Prop where
  one : 1 ≤ w.length
  len : w.length ≤ most
  nm : ∀ k s cs, leadW w k s = some (.out cs) → cs ∈ names
  bal : ∀ k s j, leadW w k s = some (.bal j) → k < j ∧ j < w.length
  led : ∀ j, 1 ≤ j → j < w.length → ∃ k s, leadW w k s = some (.bal j)
  hts : ∃ ht : Nat → Int, ht 0 = 0 ∧ (∀ k, k < w.length → 0 ≤ ht k ∧ ht k < high) ∧ ∀ k s j, leadW w k s = some (.bal j) → ht k < ht j
  tree : tog = false → ∀ k s k' s' j, leadW w k s = some (.bal j) → leadW w k' s' = some (.bal j) → k = k' ∧ s = s'
theorem keyL : KeyE false Ld.d := ⟨fun a => by cases a <;> rfl, fun a b h => by
  cases a <;> cases b
  · have h' : some [(Sum.inl ((_ : Nat) : Int) : Key)] = some [Sum.inl ((_ : Nat) : Int)] := h
    simp only [Option.some.injEq, List.cons.injEq, Sum.inl.injEq, and_true] at h'
    rw [Int.ofNat_inj.mp h']
  · have h' : some [(Sum.inl ((_ : Nat) : Int) : Key)] = some [Sum.inr (S _)] := h
    cases h'
  · have h' : some [(Sum.inr (S _) : Key)] = some [Sum.inl ((_ : Nat) : Int)] := h
    cases h'
  · have h' : some [(Sum.inr (S _) : Key)] = some [Sum.inr (S _)] := h
    simp only [Option.some.injEq, List.cons.injEq, Sum.inr.injEq, and_true] at h'
    rw [S_inj h']⟩
abbrev Pn := Nat × Bool
/-! a def's own lists behind the caller's -/
theorem sa_get {A L : Sto} {l a : Nat} (e : A.length = l) : (A ++ L)[l + a]? = L[a]? := by
  rw [List.getElem?_append_right (by omega)]
  congr 1
  omega
theorem sa_set {A L : Sto} {l a : Nat} {x : List D} (e : A.length = l) : (A ++ L).set (l + a) x = A ++ L.set a x := by
  rw [List.set_append_right _ _ (by omega)]
  congr 2
  omega
theorem Tp.left {i n : Nat} {A L : Sto} (h : Tp i n (A ++ L)) (l : i < A.length) : Tp i n A := by
  obtain ⟨xs, e, t⟩ := h
  rw [List.getElem?_append_left l] at e
  exact ⟨xs, e, t⟩
/-! how a net is made -/
structure G1 (high : Int) (size j : Nat) (ps : List Pn) (hs : List Int) (ls : List (Pn × Ld)) (ks : List Nat) : Prop where
  vals : ls.map (·.2) = ks.map Ld.bal
  inc : (0 :: ks).Pairwise (· < ·)
  lt : ∀ k ∈ 0 :: ks, k < j
  nd : ps.Nodup
  kd : (ls.map (·.1)).Nodup
  pan : ∀ p : Pn, p ∈ ps ↔ p.1 ∈ 0 :: ks ∧ p ∉ ls.map (·.1)
  ed : ∀ p k, (p, Ld.bal k) ∈ ls → p.1 ∈ 0 :: ks ∧ p.1 < k ∧ hs.getD k 0 = hs.getD p.1 0 + 1
  hl : hs.length = size
  hh : ∀ k ∈ 0 :: ks, 0 ≤ hs.getD k 0 ∧ hs.getD k 0 < high
  len : ks.length < j
  h0 : hs.getD 0 0 = 0
  js : j ≤ size
  pl : ps.length ≤ j + 1
theorem G1.start {high : Int} {size : Nat} (h1 : 1 ≤ high) (hs : 1 ≤ size) : G1 high size 1 [(0, false), (0, true)] (List.replicate size 0) [] [] where
  vals := rfl
  inc := by simp
  lt := by simp
  nd := by decide
  kd := by simp
  pan := fun p => by
    obtain ⟨k, b⟩ := p
    cases b <;> simp
  ed := fun p k h => by cases h
  hl := by simp
  hh := fun k hk => by
    have : k = 0 := by simpa using hk
    subst this
    rw [List.getD_eq_getElem?_getD, List.getElem?_replicate]
    split <;> exact ⟨Int.le_refl 0, by show (0 : Int) < high; omega⟩
  len := by simp
  h0 := by
    rw [List.getD_eq_getElem?_getD, List.getElem?_replicate]
    split <;> rfl
  js := hs
  pl := by decide
theorem getD_set_ne {hs : List Int} {j k : Nat} {x : Int} (h : j ≠ k) : (hs.set j x).getD k 0 = hs.getD k 0 := by
  rw [List.getD_eq_getElem?_getD, List.getD_eq_getElem?_getD, List.getElem?_set_ne h]
theorem getD_set_eq {hs : List Int} {j : Nat} {x : Int} (h : j < hs.length) : (hs.set j x).getD j 0 = x := by
  rw [List.getD_eq_getElem?_getD, List.getElem?_set_self h]
  rfl
theorem G1.put {high : Int} {size j : Nat} {ps : List Pn} {hs : List Int} {ls : List (Pn × Ld)} {ks : List Nat} (h : G1 high size j ps hs ls ks) (q : j < size) {p : Pn} (hp : p ∈ ps) (hf : hs.getD p.1 0 + 1 < high) :
    G1 high size (j + 1) (ps.erase p ++ [(j, false), (j, true)]) (hs.set j (hs.getD p.1 0 + 1)) (ls ++ [(p, .bal j)]) (ks ++ [j]) ∧ look ls p = none := by
  have p0 := (h.pan p).mp hp
  have hpj := h.lt p.1 p0.1
  have jn : j ∉ 0 :: ks := fun z => by have := h.lt j z; omega
  have mem : ∀ k, k ∈ 0 :: (ks ++ [j]) ↔ k ∈ 0 :: ks ∨ k = j := fun k => by
    rw [← List.cons_append, List.mem_append, List.mem_singleton]
  have j1 : 1 ≤ j := by have := h.lt 0 List.mem_cons_self; omega
  have pl : (ps.erase p ++ [(j, false), (j, true)]).length ≤ j + 1 + 1 := by
    rw [List.length_append, List.length_erase_of_mem hp]
    have := h.pl
    have := List.length_pos_of_mem hp
    simp only [List.length_cons, List.length_nil]
    omega
  refine ⟨⟨?_, ?_, ?_, ?_, ?_, ?_, ?_, ?_, ?_, ?_, ?_, q, pl⟩, look_none.mpr p0.2⟩
  · rw [List.map_append, List.map_append, h.vals]; rfl
  · rw [← List.cons_append, List.pairwise_append]
    exact ⟨h.inc, by simp, fun a ha b hb => by rw [List.mem_singleton.mp hb]; exact h.lt a ha⟩
  · intro k hk
    rcases (mem k).mp hk with z | z
    · have := h.lt k z; omega
    · omega
  · have h1 : (ps.erase p).Nodup := h.nd.erase p
    rw [List.nodup_append]
    refine ⟨h1, by simp, fun a ha b hb e => ?_⟩
    have h2 := (h.pan a).mp (List.mem_of_mem_erase ha)
    have h3 : b.1 = j := by
      rcases List.mem_cons.mp hb with z | z
      · rw [z]
      · rw [List.mem_singleton.mp z]
    rw [e, h3] at h2
    exact jn h2.1
  · rw [List.map_append, List.nodup_append]
    refine ⟨h.kd, by simp, fun a ha b hb e => ?_⟩
    have : b = p := by simpa using hb
    rw [e, this] at ha
    exact p0.2 ha
  · intro x
    rw [List.mem_append, h.nd.mem_erase_iff, h.pan x, mem, List.map_append, List.mem_append]
    obtain ⟨a, b⟩ := x
    have hj : (a, b) ∈ [(j, false), (j, true)] ↔ a = j := by
      cases b <;> simp
    rw [hj]
    have h4 : (a, b) ∈ [(p, Ld.bal j)].map (·.1) ↔ (a, b) = p := by simp
    rw [h4]
    constructor
    · rintro (⟨h1, h2, h3⟩ | h1)
      · exact ⟨.inl h2, fun z => z.elim h3 h1⟩
      · refine ⟨.inr h1, fun z => ?_⟩
        rcases z with z | z
        · obtain ⟨⟨p', v⟩, m, e⟩ := List.mem_map.mp z
          have hv : v ∈ ls.map (·.2) := List.mem_map.mpr ⟨_, m, rfl⟩
          rw [h.vals] at hv
          obtain ⟨k, hk, rfl⟩ := List.mem_map.mp hv
          have := (h.ed p' k m).1
          have e' : p' = (a, b) := e
          rw [e'] at this
          exact jn (h1 ▸ this)
        · rw [← z] at hpj
          exact absurd hpj (by rw [h1]; omega)
    · rintro ⟨h1 | h1, h2⟩
      · exact .inl ⟨fun z => h2 (.inr z), h1, fun z => h2 (.inl z)⟩
      · exact .inr h1
  · intro x k hm
    rcases List.mem_append.mp hm with z | z
    · obtain ⟨h1, h2, h3⟩ := h.ed x k z
      have hv : Ld.bal k ∈ ls.map (·.2) := List.mem_map.mpr ⟨_, z, rfl⟩
      rw [h.vals] at hv
      obtain ⟨k', hk, e⟩ := List.mem_map.mp hv
      cases e
      have hk' := h.lt k (List.mem_cons_of_mem _ hk)
      have hx' := h.lt x.1 h1
      refine ⟨(mem _).mpr (.inl h1), h2, ?_⟩
      rw [getD_set_ne (by omega), getD_set_ne (by omega)]
      exact h3
    · have e := List.mem_singleton.mp z
      cases e
      refine ⟨(mem _).mpr (.inl p0.1), hpj, ?_⟩
      rw [getD_set_eq (by rw [h.hl]; exact q), getD_set_ne (by omega)]
  · rw [List.length_set]; exact h.hl
  · intro k hk
    rcases (mem k).mp hk with z | z
    · have := h.lt k z
      rw [getD_set_ne (by omega)]
      exact h.hh k z
    · rw [z, getD_set_eq (by rw [h.hl]; exact q)]
      have := (h.hh p.1 p0.1).1
      omega
  · rw [List.length_append, List.length_singleton]
    have := h.len
    omega
  · rw [getD_set_ne (by omega)]
    exact h.h0
/-! ### grains through a net -/
/-- leads of a net: further on, or out -/
def Fwd (w : Web) : Prop := ∀ k s j, leadW w k s = some (.bal j) → k < j ∧ j < w.length
structure Nt (w : Web) : Prop where
  fwd : Fwd w
  one : 1 ≤ w.length
  few : w.length ≤ 1000
theorem WebOk.nt {names : List (List Nat)} {most high : Nat} {tog : Bool} {w : Web} (h : WebOk names most high tog w) (hm : most ≤ 1000) : Nt w := ⟨h.bal, h.one, Nat.le_trans h.len hm⟩
/-- a standing of a net -/
structure Lies (w : Web) (row : List Int) : Prop where
  len : row.length = w.length
  odd : ∀ x ∈ row, x % 2 = 1
theorem Lies.at {w : Web} {row : List Int} (h : Lies w row) {k : Nat} (hk : k < w.length) : row.getD k 0 % 2 = 1 := by
  have : k < row.length := by rw [h.len]; exact hk
  rw [List.getD_eq_getElem?_getD, List.getElem?_eq_getElem this]
  exact h.odd _ (List.getElem_mem this)
theorem Lies.set {w : Web} {row : List Int} (h : Lies w row) {k : Nat} {x : Int} (hx : x % 2 = 1) : Lies w (row.set k x) where
  len := by rw [List.length_set]; exact h.len
  odd := fun y hy => by
    rcases List.mem_or_eq_of_mem_set hy with z | z
    · exact h.odd y z
    · rw [z]; exact hx
theorem atI_some {α : Type} {f : α → D} {xs : List α} {k : Nat} {x : α} (h : xs[k]? = some x) : atI (xs.map f) (k : Int) = some (f x) := by
  unfold atI
  have hk := (List.getElem?_eq_some_iff.mp h).1
  rw [ixN_of (by omega) (by rw [List.length_map]; omega)]
  show (xs.map f)[(k : Int).toNat]? = _
  rw [Int.toNat_natCast, List.getElem?_map, h]
  rfl
theorem NameL.ok {cs : List Nat} (h : NameL cs) : PyData.strOk (S cs) = true := S_ok fun c hc => by have := h.all c hc; unfold Lt at this; omega
/-- a lead that repr may be asked of -/
def LdFine : Ld → Prop
  | .bal j => j < 1000
  | .out cs => NameL cs
def WebFine (w : Web) : Prop := ∀ p ∈ w, LdFine p.1 ∧ LdFine p.2
theorem WebOk.fine {names : List (List Nat)} {most high : Nat} {tog : Bool} {w : Web} (h : WebOk names most high tog w) (hn : ∀ z ∈ names, NameL z) (hm : most ≤ 1000) : WebFine w := by
  intro p hp
  obtain ⟨k, hk, e⟩ := List.mem_iff_getElem.mp hp
  have one : ∀ s, LdFine (Ld.of p s) := fun s => by
    have e2 : leadW w k s = some (Ld.of p s) := by
      unfold leadW
      rw [List.getElem?_eq_getElem hk, e]
      rfl
    cases hl : Ld.of p s with
    | out cs => rw [hl] at e2; exact hn cs (h.nm _ _ _ e2)
    | bal j =>
      rw [hl] at e2
      have := (h.bal _ _ _ e2).2
      have := h.len
      show j < 1000
      omega
  exact ⟨one false, one true⟩
/-! ### levels of nets -/
abbrev natsD (f : List Nat) : List D := f.map fun n => D.int (n : Nat)
def Ld.tx : Ld → Option Str
  | .bal _ => none
  | .out cs => some (S cs)
def outsS : Web → List Str
  | [] => []
  | p :: r => (p.1.tx.toList ++ p.2.tx.toList) ++ outsS r
/-! ### fractions in lowest terms -/
def frI (t b : Int) : D := .tup [.int (t / (Int.gcd t b : Nat)), .int (b / (Int.gcd t b : Nat))]
theorem gcd_low {t b : Int} (h : 0 < b) : ∃ p q : Int, t = (Int.gcd t b : Nat) * p ∧ b = (Int.gcd t b : Nat) * q ∧ 0 < q ∧ 0 < Int.gcd t b ∧ p = t / (Int.gcd t b : Nat) ∧ q = b / (Int.gcd t b : Nat) ∧ p.natAbs.Coprime q.natAbs := by
  have g0 : 0 < Int.gcd t b := Int.gcd_pos_of_ne_zero_right t (by omega)
  obtain ⟨p, hp⟩ := Int.gcd_dvd_left t b
  obtain ⟨q, hq⟩ := Int.gcd_dvd_right t b
  have gi : (0 : Int) < (Int.gcd t b : Nat) := by omega
  have ep : t / (Int.gcd t b : Nat) = p := Int.ediv_eq_of_eq_mul_right (by omega) hp
  have eq : b / (Int.gcd t b : Nat) = q := Int.ediv_eq_of_eq_mul_right (by omega) hq
  refine ⟨p, q, hp, hq, ?_, g0, ep.symm, eq.symm, ?_⟩
  · rcases Int.lt_or_le 0 q with z | z
    · exact z
    · exfalso
      have : ((Int.gcd t b : Nat) : Int) * q ≤ 0 := Int.mul_nonpos_of_nonneg_of_nonpos (by omega) z
      omega
  · have e1 : t.natAbs / Nat.gcd t.natAbs b.natAbs = p.natAbs := Nat.div_eq_of_eq_mul_right g0 (by have := congrArg Int.natAbs hp; rw [Int.natAbs_mul, Int.natAbs_natCast] at this; exact this)
    have e2 : b.natAbs / Nat.gcd t.natAbs b.natAbs = q.natAbs := Nat.div_eq_of_eq_mul_right g0 (by have := congrArg Int.natAbs hq; rw [Int.natAbs_mul, Int.natAbs_natCast] at this; exact this)
    rw [← e1, ← e2]
    exact Nat.coprime_div_gcd_div_gcd g0
theorem low_eq {p1 q1 p2 q2 : Int} (h1 : 0 < q1) (h2 : 0 < q2) (c1 : p1.natAbs.Coprime q1.natAbs) (c2 : p2.natAbs.Coprime q2.natAbs) (h : p1 * q2 = p2 * q1) : p1 = p2 ∧ q1 = q2 := by
  have hn : p1.natAbs * q2.natAbs = p2.natAbs * q1.natAbs := by rw [← Int.natAbs_mul, ← Int.natAbs_mul, h]
  have d1 : q1.natAbs ∣ q2.natAbs := c1.symm.dvd_of_dvd_mul_left ⟨p2.natAbs, by rw [hn, Nat.mul_comm]⟩
  have d2 : q2.natAbs ∣ q1.natAbs := c2.symm.dvd_of_dvd_mul_left ⟨p1.natAbs, by rw [← hn, Nat.mul_comm]⟩
  have e : q1.natAbs = q2.natAbs := Nat.dvd_antisymm d1 d2
  have e' : q1 = q2 := by omega
  refine ⟨?_, e'⟩
  rw [← e'] at h
  exact Int.eq_of_mul_eq_mul_right (by omega) h
theorem fr_eq {t1 b1 t2 b2 : Int} (h1 : 0 < b1) (h2 : 0 < b2) (h : t1 * b2 = t2 * b1) : frI t1 b1 = frI t2 b2 := by
  obtain ⟨p1, q1, a1, a2, a3, a4, a5, a6, a7⟩ := gcd_low (t := t1) h1
  obtain ⟨p2, q2, c1, c2, c3, c4, c5, c6, c7⟩ := gcd_low (t := t2) h2
  have e : p1 * q2 = p2 * q1 := by
    generalize (Int.gcd t1 b1) = g1 at *
    generalize (Int.gcd t2 b2) = g2 at *
    rw [a1, a2, c1, c2] at h
    have h' : ((g1 : Int) * g2) * (p1 * q2) = ((g1 : Int) * g2) * (p2 * q1) := by
      calc ((g1 : Int) * g2) * (p1 * q2) = (g1 * p1) * (g2 * q2) := by ac_rfl
        _ = (g2 * p2) * (g1 * q1) := h
        _ = ((g1 : Int) * g2) * (p2 * q1) := by ac_rfl
    exact Int.eq_of_mul_eq_mul_left (Int.mul_ne_zero (by omega) (by omega)) h'
  obtain ⟨e1, e2⟩ := low_eq a3 c3 a7 c7 e
  unfold frI
  rw [← a5, ← a6, ← c5, ← c6, e1, e2]
theorem log_small {b : Int} (h0 : 0 < b) (h : b.natAbs < 2 ^ 200) : DivOk b := by
  refine ⟨h0, ?_⟩
  have : b.natAbs.log2 < 200 := (Nat.log2_lt (by omega)).mpr h
  omega
theorem gcd_step (a b : Int) (h0 : 0 ≤ a) (h : 0 < b) : Int.gcd b (a % b) = Int.gcd a b := by
  obtain ⟨n, rfl⟩ := Int.eq_ofNat_of_zero_le h0
  obtain ⟨m, rfl⟩ := Int.eq_ofNat_of_zero_le (Int.le_of_lt h)
  show Nat.gcd m (n % m) = Nat.gcd n m
  rw [Nat.gcd_comm m, ← Nat.gcd_rec, Nat.gcd_comm]
theorem low_body (t : DS) (ht : t = (dSeq (dPar 2 3 (dCons (dB bAbs (dCons (dVar 0) dNil)) (dCons (dVar 1) dNil))) (dSeq (dWhile (dTest (dOp (cmpI fun i j => decide (j < i)) (dVar 3) (dC (.int 0)))) (dPar 2 3 (dCons (dVar 3) (dCons (dOp modD (dVar 2) (dVar 3)) dNil)))) (dRet (dTup (dCons (dOp divD (dVar 0) (dVar 2)) (dCons (dOp divD (dVar 1) (dVar 2)) dNil))))))) (E : DEnds) (st : Sto) (x y : Int) (h0 : 0 < y) (h1 : y < 2 ^ 200) (h : E.rt (frI x y) st) :
    t E [some (.int x), some (.int y), none, none] st := by
  subst ht
  (walk_at "lw_dd")
  have e0 : (if x < 0 then -x else x) = (x.natAbs : Nat) := by split <;> omega
  rw [e0]
  refine ⟨fun m env s => s = st ∧ ∃ a b : Int, env = [some (.int x), some (.int y), some (.int a), some (.int b)] ∧ 0 ≤ a ∧ 0 ≤ b ∧ m = b.toNat ∧ Int.gcd a b = Int.gcd x y, ⟨_, rfl, _, _, rfl, by omega, by omega, rfl, by simp [Int.gcd]⟩, ?_⟩
  rintro m env s ⟨es, a, b, rfl, a0, b0, rfl, hg⟩
  (walk_at "lw_dd")
  by_cases z : 0 < b
  · rw [if_pos z]
    refine ⟨z, ?_⟩
    have l1 := Int.emod_lt_of_pos a z
    have l0 := Int.emod_nonneg a (by omega : b ≠ 0)
    exact ⟨(a % b).toNat, by omega, es, b, a % b, rfl, b0, l0, rfl, (gcd_step a b a0 z).trans hg⟩
  · rw [if_neg z]
    have b00 : b = 0 := by omega
    subst b00
    have ea : a = (Int.gcd x y : Nat) := by rw [← hg, Int.gcd_zero_right]; omega
    have g0 : 0 < Int.gcd x y := Int.gcd_pos_of_ne_zero_right x (by omega)
    have gy : Int.gcd x y ≤ y.natAbs := Nat.le_of_dvd (by omega) (Nat.gcd_dvd_right _ _)
    have ok : DivOk a := log_small (by omega) (by omega)
    refine ⟨ok, ok, ?_⟩
    rw [ea, es]
    exact h
/-! ### what comes to balances and exits -/
abbrev Tab := List (Ld × Nat)
def ledA (v : Ld) (h : Nat) (T : Tab) : Tab := putL T v ((look T v).getD 0 + h)
def amt (a : Nat) (T : Tab) (k : Nat) : Nat := if k = 0 then a else (look T (.bal k)).getD 0
def ledR (a m : Nat) : Nat → Web → Tab → Tab
  | _, [], T => T
  | k, p :: r, T => ledR a m (k + 1) r (ledA p.2 ((amt a T k + m) / 2) (ledA p.1 ((amt a T k + m) / 2) T))
def ledT (w : Web) (a m : Nat) : Tab := ledR a m 0 w []
/-- balance 0 ahead -/
def hdT (f : D) (g : Nat → D) (T : Tab) : List (Ld × D) := (.bal 0, f) :: T.map fun p => (p.1, g p.2)
theorem look_map {κ α β : Type} [DecidableEq κ] (g : α → β) (v : κ) : ∀ T : List (κ × α), look (T.map fun p => (p.1, g p.2)) v = (look T v).map g
  | [] => rfl
  | p :: r => by
    show (if p.1 = v then some (g p.2) else look (r.map fun p => (p.1, g p.2)) v) = (if p.1 = v then some p.2 else look r v).map g
    split
    · rfl
    · exact look_map g v r
theorem look_hd {f : D} {g : Nat → D} {T : Tab} {v : Ld} : look (hdT f g T) v = if v = .bal 0 then some f else (look T v).map g := by
  show (if Ld.bal 0 = v then some f else look (T.map fun p => (p.1, g p.2)) v) = _
  by_cases z : v = .bal 0
  · rw [if_pos z, if_pos z.symm]
  · rw [if_neg z, if_neg (fun q => z q.symm), look_map]
theorem put_hd {f : D} {g : Nat → D} {T : Tab} {v : Ld} {x : Nat} (hv : v ≠ .bal 0) : putL (hdT f g T) v (g x) = hdT f g (putL T v x) := by
  have e : (look (hdT f g T) v).isSome = (look T v).isSome := by rw [look_hd, if_neg hv, Option.isSome_map]
  unfold putL
  rw [e]
  split
  · show (if Ld.bal 0 = v then (Ld.bal 0, g x) else (Ld.bal 0, f)) :: _ = hdT f g _
    rw [if_neg (fun q => hv q.symm)]
    unfold hdT
    rw [List.map_map, List.map_map]
    congr 1
    refine List.map_congr_left fun p _ => ?_
    simp only [Function.comp]
    split <;> rfl
  · unfold hdT
    rw [List.map_append]
    rfl
def rk (n : Nat) : Ld → Nat
  | .bal j => n - j
  | .out _ => 0
/-- each balance but the first is led to -/
def LedW (w : Web) : Prop := ∀ j, 1 ≤ j → j < w.length → ∃ k s, leadW w k s = some (.bal j)
structure LedI (w : Web) (N : Nat) (k : Nat) (T : Tab) : Prop where
  pos : ∀ j, (look T (.bal j)).isSome = true → 0 < j
  nd : (T.map (·.1)).Nodup
  led : ∀ k' s v, k' < k → leadW w k' s = some v → (look T v).isSome = true
  only : ∀ v, (look T v).isSome = true → ∃ k' s, k' < k ∧ leadW w k' s = some v
  dv : ∀ v x, look T v = some x → 2 ^ (rk w.length v) ∣ x
  bnd : ∀ v x, look T v = some x → x + N ≤ 2 ^ (k + 1) * N
theorem ledA_look {v u : Ld} {h : Nat} {T : Tab} : look (ledA v h T) u = if u = v then some ((look T v).getD 0 + h) else look T u := by
  unfold ledA
  rw [look_put]
theorem putL_nd {κ α : Type} [DecidableEq κ] {T : List (κ × α)} {v : κ} {x : α} (h : (T.map (·.1)).Nodup) : ((putL T v x).map (·.1)).Nodup := by
  unfold putL
  split
  · rw [List.map_map]
    have : T.map ((fun x => x.1) ∘ fun p => if p.1 = v then (p.1, x) else p) = T.map (·.1) := by
      refine List.map_congr_left fun p _ => ?_
      simp only [Function.comp]
      split <;> rfl
    rw [this]
    exact h
  · rename_i z
    rw [List.map_append]
    refine List.nodup_append.mpr ⟨h, by simp, fun a ha b hb e => ?_⟩
    have hb' : b = v := by simpa using hb
    rw [e, hb'] at ha
    have : look T v ≠ none := fun q => look_none.mp q ha
    cases hl : look T v with
    | none => exact this hl
    | some _ => rw [hl] at z; exact z rfl
theorem pow_dvd_half {n k x : Nat} (hk : k < n) (h : 2 ^ (n - k) ∣ x) : x = 2 * (x / 2) ∧ 2 ^ (n - k - 1) ∣ x / 2 := by
  obtain ⟨c, rfl⟩ := h
  have e : 2 ^ (n - k) = 2 * 2 ^ (n - k - 1) := by
    rw [← Nat.pow_succ']
    congr 1
    omega
  rw [e, Nat.mul_assoc, Nat.mul_div_cancel_left _ (by decide : 0 < 2)]
  exact ⟨rfl, ⟨c, rfl⟩⟩
theorem amt_dvd {w : Web} {N a k : Nat} {T : Tab} (I : LedI w N k T) (ha : 2 ^ w.length ∣ a) : 2 ^ (w.length - k) ∣ amt a T k := by
  unfold amt
  split
  · rename_i e
    rw [e]
    exact ha
  · cases h : look T (.bal k) with
    | none => exact Nat.dvd_zero _
    | some x => exact I.dv _ _ h
theorem amt_bnd {w : Web} {N a k : Nat} {T : Tab} (I : LedI w N k T) (ha : a ≤ N) : amt a T k + N ≤ 2 ^ (k + 1) * N := by
  have p : 2 ≤ 2 ^ (k + 1) := by rw [Nat.pow_succ]; have := Nat.two_pow_pos k; omega
  have q : 2 * N ≤ 2 ^ (k + 1) * N := Nat.mul_le_mul_right N p
  unfold amt
  split
  · omega
  · cases h : look T (.bal k) with
    | none => show 0 + N ≤ _; omega
    | some x => exact I.bnd _ _ h
theorem ledA_other {v : Ld} {h k a : Nat} {T : Tab} (hv : v ≠ .bal k) : amt a (ledA v h T) k = amt a T k := by
  unfold amt
  split
  · rfl
  · rw [ledA_look, if_neg (fun z => hv z.symm)]
/-- a turn keeps all that -/
theorem LedI.next {w : Web} {N a m k : Nat} {T : Tab} {p : Ld × Ld} (I : LedI w N k T) (fw : Fwd w) (hp : w[k]? = some p) (hk : k < w.length) (ha : a ≤ N) (hm : m ≤ N) (da : 2 ^ w.length ∣ a) (dm : 2 ^ w.length ∣ m) :
    LedI w N (k + 1) (ledA p.2 ((amt a T k + m) / 2) (ledA p.1 ((amt a T k + m) / 2) T)) ∧ amt a T k + m = 2 * ((amt a T k + m) / 2) ∧ 2 ^ (w.length - k - 1) ∣ (amt a T k + m) / 2 := by
  have l1 : leadW w k false = some p.1 := by unfold leadW; rw [hp]; rfl
  have l2 : leadW w k true = some p.2 := by unfold leadW; rw [hp]; rfl
  have d0 : 2 ^ (w.length - k) ∣ amt a T k + m := Nat.dvd_add (amt_dvd I da) (Nat.dvd_trans (Nat.pow_dvd_pow 2 (by omega)) dm)
  obtain ⟨e2, d1⟩ := pow_dvd_half hk d0
  have b0 := amt_bnd I ha
  generalize (amt a T k + m) / 2 = h at e2 d1 ⊢
  have hb : h + h + N ≤ 2 ^ (k + 1) * N + N := by omega
  have hpw : 2 ^ (k + 1 + 1) * N = 2 ^ (k + 1) * N + 2 ^ (k + 1) * N := by rw [Nat.pow_succ, Nat.mul_comm _ 2, Nat.mul_assoc, Nat.two_mul]
  have hN : N ≤ 2 ^ (k + 1) * N := Nat.le_mul_of_pos_left N (Nat.two_pow_pos _)
  -- one lead
  have one : ∀ (v : Ld) (s : Bool) (U : Tab) (c : Nat), leadW w k s = some v → (∀ j, (look U (.bal j)).isSome = true → 0 < j) → (U.map (·.1)).Nodup → (∀ v x, look U v = some x → 2 ^ (rk w.length v) ∣ x) → (∀ v x, look U v = some x → x + N ≤ 2 ^ (k + 1) * N + c) →
      (∀ j, (look (ledA v h U) (.bal j)).isSome = true → 0 < j) ∧ ((ledA v h U).map (·.1)).Nodup ∧ (∀ u x, look (ledA v h U) u = some x → 2 ^ (rk w.length u) ∣ x) ∧ (∀ u x, look (ledA v h U) u = some x → x + N ≤ 2 ^ (k + 1) * N + c + h) := by
    intro v s U c lv u1 u2 u3 u4
    refine ⟨fun j hj => ?_, putL_nd u2, fun u x hx => ?_, fun u x hx => ?_⟩
    · rw [ledA_look] at hj
      by_cases z : Ld.bal j = v
      · rw [← z] at lv
        have := (fw _ _ _ lv).1
        omega
      · rw [if_neg z] at hj
        exact u1 j hj
    · rw [ledA_look] at hx
      by_cases z : u = v
      · rw [if_pos z] at hx
        cases hx
        rw [z]
        have hd : 2 ^ (rk w.length v) ∣ h := by
          cases v with
          | bal j => exact Nat.dvd_trans (Nat.pow_dvd_pow 2 (by have := (fw _ _ _ lv).1; show w.length - j ≤ _; omega)) d1
          | out cs => exact Nat.one_dvd _
        refine Nat.dvd_add ?_ hd
        cases hl : look U v with
        | none => exact Nat.dvd_zero _
        | some y => exact u3 _ _ hl
      · rw [if_neg z] at hx
        exact u3 _ _ hx
    · rw [ledA_look] at hx
      by_cases z : u = v
      · rw [if_pos z] at hx
        cases hx
        cases hl : look U v with
        | none => show 0 + h + N ≤ _; omega
        | some y =>
          have := u4 _ _ hl
          show y + h + N ≤ _
          omega
      · rw [if_neg z] at hx
        have := u4 _ _ hx
        omega
  obtain ⟨a1, a2, a3, a4⟩ := one p.1 false T 0 l1 I.pos I.nd I.dv (fun v x hx => I.bnd v x hx)
  obtain ⟨b1, b2, b3, b4⟩ := one p.2 true (ledA p.1 h T) (0 + h) l2 a1 a2 a3 (fun v x hx => by have := a4 v x hx; omega)
  refine ⟨⟨b1, b2, fun k' s v hk' lv => ?_, fun v hv => ?_, b3, fun v x hx => ?_⟩, e2, d1⟩
  · rw [ledA_look, ledA_look (v := p.1) (u := v)]
    by_cases e : k' = k
    · subst e
      cases s with
      | false =>
        rw [l1] at lv
        cases lv
        split
        · rfl
        · rw [if_pos rfl]; rfl
      | true =>
        rw [l2] at lv
        cases lv
        rw [if_pos rfl]; rfl
    · split
      · rfl
      · split
        · rfl
        · exact I.led k' s v (by omega) lv
  · rw [ledA_look, ledA_look (v := p.1) (u := v)] at hv
    by_cases e : v = p.2
    · exact ⟨k, true, by omega, by rw [e]; exact l2⟩
    · rw [if_neg e] at hv
      by_cases e' : v = p.1
      · exact ⟨k, false, by omega, by rw [e']; exact l1⟩
      · rw [if_neg e'] at hv
        obtain ⟨k', s, q1, q2⟩ := I.only v hv
        exact ⟨k', s, by omega, q2⟩
  · have := b4 v x hx
    rw [hpw]
    omega
theorem LedI.start {w : Web} {N : Nat} (hN : 0 < N) : LedI w N 0 [] := ⟨fun j h => (by cases h), List.nodup_nil, fun _ _ _ h => (by omega), fun v h => (by cases h), fun v x h => (by cases h), fun v x h => (by cases h)⟩
theorem drop_cons {w r : Web} {k : Nat} {p : Ld × Ld} (e : w.drop k = p :: r) : k < w.length ∧ w[k]? = some p ∧ w.drop (k + 1) = r := by
  have hk : k < w.length := by
    have := congrArg List.length e
    rw [List.length_drop, List.length_cons] at this
    omega
  rw [List.drop_eq_getElem_cons hk] at e
  injection e with e1 e2
  exact ⟨hk, by rw [List.getElem?_eq_getElem hk, e1], e2⟩
theorem ledR_I {w : Web} {N a m : Nat} (fw : Fwd w) (ha : a ≤ N) (hm : m ≤ N) (da : 2 ^ w.length ∣ a) (dm : 2 ^ w.length ∣ m) : ∀ (r : Web) (k : Nat) (T : Tab), k ≤ w.length → w.drop k = r → LedI w N k T → LedI w N w.length (ledR a m k r T)
  | [], k, T, le, e, I => by
    have hl : k = w.length := by
      have := congrArg List.length e
      rw [List.length_drop, List.length_nil] at this
      omega
    subst hl
    exact I
  | p :: r, k, T, le, e, I => by
    obtain ⟨hk, hp, e2⟩ := drop_cons e
    exact ledR_I fw ha hm da dm r (k + 1) _ hk e2 (I.next fw hp hk ha hm da dm).1
/-- the exits' amounts -/
def outT (T : Tab) : List (Str × Nat) := T.filterMap fun p => p.1.tx.map fun z => (z, p.2)
theorem look_outT (cs : List Nat) : ∀ T : Tab, look (outT T) (S cs) = look T (.out cs)
  | [] => rfl
  | (v, x) :: r => by
    have ih := look_outT cs r
    cases v with
    | bal j =>
      show look (outT r) (S cs) = (if Ld.bal j = .out cs then some x else look r (.out cs))
      rw [if_neg (by intro z; cases z), ih]
    | out ds =>
      show (if S ds = S cs then some x else look (outT r) (S cs)) = (if Ld.out ds = .out cs then some x else look r (.out cs))
      by_cases z : ds = cs
      · rw [z, if_pos rfl, if_pos rfl]
      · rw [if_neg (fun q => z (S_inj q)), if_neg (fun q => z (by cases q; rfl)), ih]
theorem outT_mem {T : Tab} {z : Str} : z ∈ (outT T).map (·.1) ↔ ∃ cs, z = S cs ∧ (look T (.out cs)).isSome = true := by
  constructor
  · intro h
    obtain ⟨⟨y, x⟩, hm, e⟩ := List.mem_map.mp h
    obtain ⟨⟨v, x'⟩, hv, e2⟩ := List.mem_filterMap.mp hm
    cases v with
    | bal j => cases e2
    | out cs =>
      cases e2
      refine ⟨cs, e.symm, ?_⟩
      cases hl : look T (.out cs) with
      | some _ => rfl
      | none => exact absurd (List.mem_map.mpr ⟨_, hv, rfl⟩) (look_none.mp hl)
  · rintro ⟨cs, rfl, h⟩
    cases hl : look (outT T) (S cs) with
    | some x => exact List.mem_map.mpr ⟨_, look_mem hl, rfl⟩
    | none =>
      rw [look_outT] at hl
      rw [hl] at h
      cases h
theorem outT_nd : ∀ {T : Tab}, (T.map (·.1)).Nodup → ((outT T).map (·.1)).Nodup
  | [], _ => List.nodup_nil
  | (v, x) :: r, h => by
    obtain ⟨n1, n2⟩ := List.nodup_cons.mp h
    have ih := outT_nd n2
    cases v with
    | bal j => exact ih
    | out cs =>
      refine List.nodup_cons.mpr ⟨fun m => ?_, ih⟩
      obtain ⟨ds, e, hs⟩ := outT_mem.mp m
      have e' : cs = ds := S_inj e
      subst e'
      cases hl : look r (.out cs) with
      | none => rw [hl] at hs; cases hs
      | some y => exact n1 (List.mem_map.mpr ⟨_, look_mem hl, rfl⟩)
theorem web_outs {w : Web} : ∀ z : Str, z ∈ outsS w ↔ ∃ cs k s, z = S cs ∧ leadW w k s = some (.out cs) := by
  induction w with
  | nil => exact fun z => ⟨fun h => (by cases h), fun ⟨_, _, _, _, h⟩ => (by cases h)⟩
  | cons p r ih =>
    intro z
    have e : outsS (p :: r) = (p.1.tx.toList ++ p.2.tx.toList) ++ outsS r := by simp [outsS]
    rw [e, List.mem_append, List.mem_append, ih]
    have t : ∀ v : Ld, z ∈ v.tx.toList ↔ ∃ cs, z = S cs ∧ v = .out cs := fun v => by
      cases v with
      | bal j => exact ⟨fun h => (by cases h), fun ⟨_, _, h⟩ => (by cases h)⟩
      | out cs => exact ⟨fun h => ⟨cs, by simpa [Ld.tx] using h, rfl⟩, fun ⟨ds, e1, e2⟩ => by cases e2; simp [Ld.tx, e1]⟩
    rw [t, t]
    constructor
    · rintro ((⟨cs, e1, e2⟩ | ⟨cs, e1, e2⟩) | ⟨cs, k, s, e1, e2⟩)
      · exact ⟨cs, 0, false, e1, by rw [← e2]; rfl⟩
      · exact ⟨cs, 0, true, e1, by rw [← e2]; rfl⟩
      · exact ⟨cs, k + 1, s, e1, e2⟩
    · rintro ⟨cs, k, s, e1, e2⟩
      cases k with
      | zero =>
        have e3 : Ld.of p s = .out cs := Option.some.inj e2
        cases s with
        | false => exact .inl (.inl ⟨cs, e1, e3⟩)
        | true => exact .inl (.inr ⟨cs, e1, e3⟩)
      | succ k => exact .inr ⟨cs, k, s, e1, e2⟩
theorem led_keys {w : Web} {N : Nat} {T : Tab} (I : LedI w N w.length T) : ∀ z : Str, z ∈ (outT T).map (·.1) ↔ z ∈ outsS w := by
  intro z
  rw [outT_mem, web_outs]
  constructor
  · rintro ⟨cs, e, h⟩
    obtain ⟨k, s, _, q⟩ := I.only _ h
    exact ⟨cs, k, s, e, q⟩
  · rintro ⟨cs, k, s, e, q⟩
    refine ⟨cs, e, I.led k s _ ?_ q⟩
    unfold leadW at q
    cases h : w[k]? with
    | none => rw [h] at q; cases q
    | some _ => exact (List.getElem?_eq_some_iff.mp h).1
theorem nd_perm {xs ys : List Str} (h1 : xs.Nodup) (h2 : ys.Nodup) (h : ∀ z, z ∈ xs ↔ z ∈ ys) : xs.Perm ys := by
  rw [List.perm_ext_iff_of_nodup h1 h2]
  exact h
theorem ledA_len (v : Ld) (h : Nat) (T : Tab) : (ledA v h T).length ≤ T.length + 1 := by
  unfold ledA
  exact putL_length T v _
theorem bal0_not {w : Web} (fw : Fwd w) {k : Nat} {s : Bool} {v : Ld} (h : leadW w k s = some v) : v ≠ .bal 0 := by
  intro e
  rw [e] at h
  have := (fw _ _ _ h).1
  omega
/-! ### what goes through a net, by halves -/
/-- a worth of what lies at a place: halves together are the whole -/
structure Worth (w : Web) (φ : Ld → Nat → Nat) : Prop where
  add : ∀ v x y, (∀ j, v = .bal j → j < w.length) → 2 ^ rk w.length v ∣ x → 2 ^ rk w.length v ∣ y → φ v (x + y) = φ v x + φ v y
  half : ∀ k p x, w[k]? = some p → 2 ^ (w.length - k) ∣ x → φ (.bal k) x = φ p.1 (x / 2) + φ p.2 (x / 2)
/-- .. of the places from balance k on -/
def wrt (φ : Ld → Nat → Nat) (k : Nat) (p : Ld × Nat) : Nat := match p.1 with
  | .bal j => if j < k then 0 else φ (.bal j) p.2
  | .out cs => φ (.out cs) p.2
def tot (φ : Ld → Nat → Nat) (k : Nat) (T : Tab) : Nat := (T.map (wrt φ k)).sum
theorem sum_put {F : Ld × Nat → Nat} {v : Ld} {y : Nat} : ∀ {T : Tab}, (T.map (·.1)).Nodup → ((putL T v y).map F).sum + (match look T v with | some x => F (v, x) | none => 0) = (T.map F).sum + F (v, y) := by
  intro T nd
  cases hl : look T v with
  | none =>
    rw [putL_new hl, List.map_append, List.sum_append]
    simp
  | some x =>
    unfold putL
    rw [if_pos (by rw [hl]; rfl)]
    induction T with
    | nil => cases hl
    | cons p r ih =>
      obtain ⟨n1, n2⟩ := List.nodup_cons.mp nd
      rw [List.map_cons, List.map_cons, List.map_cons, List.sum_cons, List.sum_cons]
      by_cases e : p.1 = v
      · have hx : p.2 = x := by
          have : (if p.1 = v then some p.2 else look r v) = some x := hl
          rw [if_pos e] at this
          exact Option.some.inj this
        have hr : r.map (fun p => if p.1 = v then (p.1, y) else p) = r := by
          have : r.map (fun p => if p.1 = v then (p.1, y) else p) = r.map id := List.map_congr_left fun q hq => by
            rw [if_neg (fun z => n1 (by show p.1 ∈ _; rw [e, ← z]; exact List.mem_map.mpr ⟨q, hq, rfl⟩))]
            rfl
          rw [this, List.map_id]
        rw [hr, if_pos e, e]
        have : p = (v, x) := by rw [← e, ← hx]
        rw [this]
        simp only
        omega
      · have hl' : look r v = some x := by
          have : (if p.1 = v then some p.2 else look r v) = some x := hl
          rw [if_neg e] at this
          exact this
        have := ih n2 hl'
        simp only at this ⊢
        rw [if_neg e]
        omega
theorem tot_led {w : Web} {φ : Ld → Nat → Nat} (W : Worth w φ) {v : Ld} {h k : Nat} {T : Tab} (nd : (T.map (·.1)).Nodup) (hv : ∀ j, v = .bal j → k ≤ j ∧ j < w.length) (dh : 2 ^ rk w.length v ∣ h) (dT : ∀ x, look T v = some x → 2 ^ rk w.length v ∣ x) : tot φ k (ledA v h T) = tot φ k T + φ v h := by
  have e := sum_put (F := wrt φ k) (v := v) (y := (look T v).getD 0 + h) nd
  have hw : ∀ x, wrt φ k (v, x) = φ v x := fun x => by
    cases v with
    | bal j => show (if j < k then 0 else _) = _; rw [if_neg (by have := (hv j rfl).1; omega)]
    | out cs => rfl
  unfold tot ledA
  rw [hw] at e
  cases hl : look T v with
  | none =>
    rw [hl] at e
    have e' : ((putL T v (0 + h)).map (wrt φ k)).sum + 0 = (T.map (wrt φ k)).sum + φ v (0 + h) := e
    show ((putL T v (0 + h)).map (wrt φ k)).sum = _
    rw [Nat.zero_add] at e' ⊢
    omega
  | some x =>
    rw [hl] at e
    have e' : ((putL T v (x + h)).map (wrt φ k)).sum + wrt φ k (v, x) = (T.map (wrt φ k)).sum + φ v (x + h) := e
    rw [hw, W.add v x h (fun j e => (hv j e).2) (dT x hl) dh] at e'
    show ((putL T v (x + h)).map (wrt φ k)).sum = _
    omega
/-- balance k is gone through -/
theorem tot_drop {φ : Ld → Nat → Nat} {k x : Nat} : ∀ {T : Tab}, (T.map (·.1)).Nodup → look T (.bal k) = some x → tot φ k T = tot φ (k + 1) T + φ (.bal k) x
  | [], _, h => by cases h
  | p :: r, nd, h => by
    obtain ⟨n1, n2⟩ := List.nodup_cons.mp nd
    unfold tot at *
    rw [List.map_cons, List.map_cons, List.sum_cons, List.sum_cons]
    by_cases e : p.1 = .bal k
    · have hx : p.2 = x := by
        have : (if p.1 = .bal k then some p.2 else look r (.bal k)) = some x := h
        rw [if_pos e] at this
        exact Option.some.inj this
      have ep : p = (.bal k, x) := by rw [← e, ← hx]
      have hr : r.map (wrt φ k) = r.map (wrt φ (k + 1)) := List.map_congr_left fun q hq => by
        have : q.1 ≠ .bal k := fun z => n1 (by show p.1 ∈ _; rw [e, ← z]; exact List.mem_map.mpr ⟨q, hq, rfl⟩)
        obtain ⟨v, y⟩ := q
        cases v with
        | out cs => rfl
        | bal j =>
          have hj : j ≠ k := fun z => this (by rw [z])
          show (if j < k then 0 else _) = (if j < k + 1 then 0 else _)
          by_cases z : j < k
          · rw [if_pos z, if_pos (by omega)]
          · rw [if_neg z, if_neg (by omega)]
      rw [hr, ep]
      have e1 : wrt φ k (.bal k, x) = φ (.bal k) x := if_neg (Nat.lt_irrefl k)
      have e2 : wrt φ (k + 1) (.bal k, x) = 0 := if_pos (Nat.lt_succ_self k)
      rw [e1, e2]
      omega
    · have h' : look r (.bal k) = some x := by
        have : (if p.1 = .bal k then some p.2 else look r (.bal k)) = some x := h
        rw [if_neg e] at this
        exact this
      have ih := tot_drop (φ := φ) n2 h'
      unfold tot at ih
      have ep : wrt φ k p = wrt φ (k + 1) p := by
        obtain ⟨v, y⟩ := p
        cases v with
        | out cs => rfl
        | bal j =>
          have hj : j ≠ k := fun z => e (by rw [z])
          show (if j < k then 0 else _) = (if j < k + 1 then 0 else _)
          by_cases z : j < k
          · rw [if_pos z, if_pos (by omega)]
          · rw [if_neg z, if_neg (by omega)]
      rw [ep, ih]
      omega
def totA (φ : Ld → Nat → Nat) (a k : Nat) (T : Tab) : Nat := (if k = 0 then φ (.bal 0) a else 0) + tot φ k T
theorem totA_next {w : Web} {φ : Ld → Nat → Nat} (W : Worth w φ) {N a k : Nat} {T : Tab} {p : Ld × Ld} (nt : Nt w) (ld : LedW w) (I : LedI w N k T) (hp : w[k]? = some p) (hk : k < w.length) (ha : a ≤ N) (da : 2 ^ w.length ∣ a) :
    totA φ a (k + 1) (ledA p.2 ((amt a T k + 0) / 2) (ledA p.1 ((amt a T k + 0) / 2) T)) = totA φ a k T := by
  have l1 : leadW w k false = some p.1 := by unfold leadW; rw [hp]; rfl
  have l2 : leadW w k true = some p.2 := by unfold leadW; rw [hp]; rfl
  have d0 : 2 ^ (w.length - k) ∣ amt a T k := amt_dvd I da
  obtain ⟨e2, d1⟩ := pow_dvd_half hk d0
  have hf := W.half k p (amt a T k) hp d0
  simp only [Nat.add_zero]
  have rkd : ∀ v s, leadW w k s = some v → 2 ^ rk w.length v ∣ amt a T k / 2 := fun v s lv => by
    cases v with
    | bal j => exact Nat.dvd_trans (Nat.pow_dvd_pow 2 (by have := (nt.fwd _ _ _ lv).1; show w.length - j ≤ _; omega)) d1
    | out cs => exact Nat.one_dvd _
  have hv : ∀ v s, leadW w k s = some v → ∀ j, v = .bal j → k + 1 ≤ j ∧ j < w.length := fun v s lv j e => by
    rw [e] at lv
    have := nt.fwd _ _ _ lv
    omega
  have t1 := tot_led W (k := k + 1) I.nd (hv _ _ l1) (rkd _ _ l1) (fun x hx => I.dv _ _ hx)
  have t2 := tot_led W (k := k + 1) (T := ledA p.1 (amt a T k / 2) T) (by unfold ledA; exact putL_nd I.nd) (hv _ _ l2) (rkd _ _ l2) (fun x hx => by
    rw [ledA_look] at hx
    by_cases z : p.2 = p.1
    · rw [if_pos z] at hx
      cases hx
      refine Nat.dvd_add ?_ (rkd _ _ l2)
      cases hl : look T p.1 with
      | none => exact Nat.dvd_zero _
      | some y => rw [z]; exact I.dv _ _ hl
    · rw [if_neg z] at hx
      exact I.dv _ _ hx)
  unfold totA
  rw [if_neg (by omega), t2, t1, Nat.zero_add, Nat.add_assoc, ← hf]
  by_cases z : k = 0
  · subst z
    rw [if_pos rfl]
    have e0 : tot φ 0 T = tot φ 1 T := by
      unfold tot
      congr 1
      refine List.map_congr_left fun q hq => ?_
      obtain ⟨v, y⟩ := q
      cases v with
      | out cs => rfl
      | bal j =>
        have : 0 < j := I.pos j (by
          cases hl : look T (.bal j) with
          | some _ => rfl
          | none => exact absurd (List.mem_map.mpr ⟨_, hq, rfl⟩) (look_none.mp hl))
        show (if j < 0 then 0 else _) = (if j < 1 then 0 else _)
        have h0 : ¬ j < 0 := by omega
        have h1 : ¬ j < 1 := by omega
        rw [if_neg h0]
        exact (if_neg h1).symm
    rw [e0]
    have : amt a T 0 = a := if_pos rfl
    rw [this]
    exact Nat.add_comm _ _
  · rw [if_neg z, Nat.zero_add]
    obtain ⟨k', s, q⟩ := ld k (by omega) hk
    have is := I.led k' s _ (nt.fwd _ _ _ q).1 q
    cases hl : look T (.bal k) with
    | none => rw [hl] at is; cases is
    | some x =>
      rw [tot_drop I.nd hl]
      have : amt a T k = x := by unfold amt; rw [if_neg z, hl]; rfl
      rw [this]
theorem totA_all {w : Web} {φ : Ld → Nat → Nat} (W : Worth w φ) {N a : Nat} (nt : Nt w) (ld : LedW w) (ha : a ≤ N) (da : 2 ^ w.length ∣ a) : ∀ (r : Web) (k : Nat) (T : Tab), k ≤ w.length → w.drop k = r → LedI w N k T → totA φ a w.length (ledR a 0 k r T) = totA φ a k T
  | [], k, T, le, e, I => by
    have hl : k = w.length := by
      have := congrArg List.length e
      rw [List.length_drop, List.length_nil] at this
      omega
    subst hl
    rfl
  | p :: r, k, T, le, e, I => by
    obtain ⟨hk, hp, e2⟩ := drop_cons e
    have := totA_all W nt ld ha da r (k + 1) _ hk e2 (I.next nt.fwd hp hk ha (Nat.zero_le N) da (Nat.dvd_zero _)).1
    unfold ledR
    rw [this]
    exact totA_next W nt ld I hp hk ha da
/-- what is worth at the exits is what was worth at balance 0 -/
theorem tot_outs {w : Web} {φ : Ld → Nat → Nat} (W : Worth w φ) {a : Nat} (nt : Nt w) (ld : LedW w) (da : 2 ^ w.length ∣ a) : tot φ w.length (ledT w a 0) = φ (.bal 0) a := by
  have := totA_all W nt ld (Nat.le_refl a) da w 0 [] (Nat.zero_le _) rfl ⟨fun j h => (by cases h), List.nodup_nil, fun _ _ _ h => (by omega), fun v h => (by cases h), fun v x h => (by cases h), fun v x h => (by cases h)⟩
  unfold totA at this
  rw [if_pos rfl, if_neg (by have := nt.one; omega), Nat.zero_add] at this
  exact this
/-- what of x at balance k comes out at one exit -/
def flowF (w : Web) (cs : List Nat) : Nat → Nat → Nat → Nat
  | 0, _, _ => 0
  | f + 1, k, x => match w[k]? with
    | none => 0
    | some p => (match p.1 with | .out ds => if ds = cs then x / 2 else 0 | .bal j => flowF w cs f j (x / 2)) + (match p.2 with | .out ds => if ds = cs then x / 2 else 0 | .bal j => flowF w cs f j (x / 2))
def flow (w : Web) (cs : List Nat) (k x : Nat) : Nat := flowF w cs w.length k x
def flowL (w : Web) (cs : List Nat) : Ld → Nat → Nat
  | .out ds, x => if ds = cs then x else 0
  | .bal j, x => flow w cs j x
theorem flowF_more {w : Web} (fw : Fwd w) (cs : List Nat) : ∀ (f k x : Nat), w.length ≤ k + f → flowF w cs (f + 1) k x = flowF w cs f k x
  | 0, k, x, h => by
    unfold flowF
    rw [List.getElem?_eq_none (by omega)]
  | f + 1, k, x, h => by
    have ih := flowF_more fw cs f
    rw [flowF, flowF]
    cases hp : w[k]? with
    | none => rfl
    | some p =>
      have l1 : leadW w k false = some p.1 := by unfold leadW; rw [hp]; rfl
      have l2 : leadW w k true = some p.2 := by unfold leadW; rw [hp]; rfl
      simp only
      congr 1
      · cases e : p.1 with
        | out ds => rfl
        | bal j =>
          rw [e] at l1
          have := fw _ _ _ l1
          exact ih j _ (by omega)
      · cases e : p.2 with
        | out ds => rfl
        | bal j =>
          rw [e] at l2
          have := fw _ _ _ l2
          exact ih j _ (by omega)
theorem flow_half {w : Web} (fw : Fwd w) (cs : List Nat) {k x : Nat} {p : Ld × Ld} (hp : w[k]? = some p) : flow w cs k x = flowL w cs p.1 (x / 2) + flowL w cs p.2 (x / 2) := by
  unfold flow
  rw [← flowF_more fw cs w.length k x (by omega), flowF, hp]
  simp only
  congr 1
  · cases p.1 <;> rfl
  · cases p.2 <;> rfl
theorem flow_add {w : Web} (fw : Fwd w) (cs : List Nat) : ∀ (m k x y : Nat), w.length - k = m → 2 ^ (w.length - k) ∣ x → 2 ^ (w.length - k) ∣ y → k < w.length → flow w cs k (x + y) = flow w cs k x + flow w cs k y := by
  intro m
  induction m using Nat.strongRecOn with
  | _ m ih =>
    intro k x y hm dx dy hk
    have hp : w[k]? = some w[k] := List.getElem?_eq_getElem hk
    obtain ⟨ex, ax⟩ := pow_dvd_half hk dx
    obtain ⟨ey, ay⟩ := pow_dvd_half hk dy
    have e : (x + y) / 2 = x / 2 + y / 2 := by omega
    rw [flow_half fw cs hp, flow_half fw cs hp, flow_half fw cs hp, e]
    have one : ∀ v s, leadW w k s = some v → flowL w cs v (x / 2 + y / 2) = flowL w cs v (x / 2) + flowL w cs v (y / 2) := fun v s lv => by
      cases v with
      | out ds =>
        show (if ds = cs then _ else 0) = (if ds = cs then _ else 0) + (if ds = cs then _ else 0)
        split <;> rfl
      | bal j =>
        obtain ⟨h1, h2⟩ := fw _ _ _ lv
        exact ih (w.length - j) (by omega) j _ _ rfl (Nat.dvd_trans (Nat.pow_dvd_pow 2 (by omega)) ax) (Nat.dvd_trans (Nat.pow_dvd_pow 2 (by omega)) ay) h2
    rw [one _ false (by unfold leadW; rw [hp]; rfl), one _ true (by unfold leadW; rw [hp]; rfl)]
    omega
theorem worth_flow {w : Web} (fw : Fwd w) (cs : List Nat) : Worth w (flowL w cs) := ⟨fun v x y hv dx dy => by
  cases v with
  | out ds =>
    show (if ds = cs then _ else 0) = (if ds = cs then _ else 0) + (if ds = cs then _ else 0)
    split <;> rfl
  | bal j => exact flow_add fw cs _ j x y rfl dx dy (hv j rfl), fun k p x hp _ => flow_half fw cs hp⟩
theorem tot_flow {w : Web} {cs : List Nat} : ∀ {T : Tab}, (T.map (·.1)).Nodup → (∀ j x, look T (.bal j) = some x → j < w.length) → tot (flowL w cs) w.length T = (look T (.out cs)).getD 0
  | [], _, _ => rfl
  | p :: r, nd, hb => by
    obtain ⟨n1, n2⟩ := List.nodup_cons.mp nd
    have ih := tot_flow (w := w) (cs := cs) n2 (fun j x hx => hb j x (by
      show (if p.1 = .bal j then some p.2 else look r (.bal j)) = some x
      rw [if_neg (fun z => n1 (by show p.1 ∈ _; rw [z]; exact List.mem_map.mpr ⟨_, look_mem hx, rfl⟩))]
      exact hx))
    unfold tot at ih ⊢
    rw [List.map_cons, List.sum_cons, ih]
    show _ = (if p.1 = .out cs then some p.2 else look r (.out cs)).getD 0
    obtain ⟨v, x⟩ := p
    cases v with
    | bal j =>
      have : j < w.length := hb j x (by show (if Ld.bal j = .bal j then some x else _) = _; rw [if_pos rfl])
      show (if j < w.length then 0 else _) + _ = _
      rw [if_pos this, if_neg (by intro z; cases z), Nat.zero_add]
    | out ds =>
      show (if ds = cs then x else 0) + _ = _
      by_cases z : ds = cs
      · subst z
        rw [if_pos rfl, if_pos rfl]
        have : look r (.out ds) = none := look_none.mpr n1
        rw [this]
        rfl
      · rw [if_neg z, if_neg (fun q => z (by cases q; rfl)), Nat.zero_add]
theorem led_bals {w : Web} (nt : Nt w) {N k : Nat} {T : Tab} (I : LedI w N k T) : ∀ j x, look T (.bal j) = some x → j < w.length := fun j x hx => by
  obtain ⟨k', s, _, q⟩ := I.only (.bal j) (by rw [hx]; rfl)
  exact (nt.fwd _ _ _ q).2
theorem ledT_I {w : Web} (nt : Nt w) {a m : Nat} (ha : a ≤ 2 ^ w.length) (hm : m ≤ 2 ^ w.length) (da : 2 ^ w.length ∣ a) (dm : 2 ^ w.length ∣ m) : LedI w (2 ^ w.length) w.length (ledT w a m) := ledR_I nt.fwd ha hm da dm w 0 [] (Nat.zero_le _) rfl (.start (Nat.two_pow_pos _))
/-- an exit's share is what flows there -/
theorem share_flow {w : Web} (nt : Nt w) (ld : LedW w) (cs : List Nat) : (look (ledT w (2 ^ w.length) 0) (.out cs)).getD 0 = flow w cs 0 (2 ^ w.length) := by
  have I := ledT_I nt (Nat.le_refl (2 ^ w.length)) (Nat.zero_le _) (Nat.dvd_refl _) (Nat.dvd_zero _)
  rw [← tot_flow I.nd (led_bals nt I), tot_outs (worth_flow nt.fwd cs) nt ld (Nat.dvd_refl _)]
  rfl
def e1_depths_of : DE :=
    (dOp subD (dVar 3) (dVar 4))
def t_depths_of : DS :=
    (dSeq (dAsg (dVar 0) (dgTup 2 (dgCons (dgName 1) (dgCons (dgName 2) dgNil))))
    (dSeq (dAsg (dOp subD (dBits (dVar 2)) (dC (.int 1))) (dgName 3))
    (dRet (dLc (dRng1 (dVar 3)) (dgName 4) (dTest (dOp (eqOp false) (dOp andD (dOp shrD (dVar 1) (dVar 4)) (dC (.int 1))) (dC (.int 1)))) (e1_depths_of) [4]))))
theorem st_depths_of (a0 : D) : startD N_depths_of [a0] = [some a0, none, none, none, none] := rfl
/-! ### told shares; trees as pairs within pairs -/
/-- a told share: its name, its top, how deep its bottom -/
abbrev Sh := List Nat × Nat × Nat
def shD (z : Sh) : D := .tup [.str (S z.1), .tup [.int (z.2.1 : Nat), .int (2 ^ z.2.2 : Nat)]]
def bitB (t p : Nat) : Bool := decide (t / 2 ^ p % 2 = 1)
/-- how deep its ends lie -/
def dps (t d : Nat) : List Nat := ((List.range d).filter (bitB t)).map fun p => d - p
theorem bits_sum (t : Nat) : ∀ d, (((List.range d).filter (bitB t)).map fun p => 2 ^ p).sum = t % 2 ^ d
  | 0 => by simp [Nat.mod_one]
  | d + 1 => by
    rw [List.range_succ, List.filter_append, List.map_append, List.sum_append, bits_sum t d, Nat.mod_pow_succ]
    have h := Nat.mod_lt (t / 2 ^ d) (show 2 > 0 by decide)
    by_cases z : t / 2 ^ d % 2 = 1
    · simp [bitB, z]
    · have : t / 2 ^ d % 2 = 0 := by omega
      simp [bitB, this]
theorem pow_split {D d p : Nat} (h1 : p ≤ d) (h2 : d ≤ D) : 2 ^ (D - (d - p)) = 2 ^ p * 2 ^ (D - d) := by
  rw [← Nat.pow_add]
  congr 1
  omega
theorem dps_sum {D d : Nat} (t : Nat) (h : d ≤ D) : ((dps t d).map fun e => 2 ^ (D - e)).sum = t % 2 ^ d * 2 ^ (D - d) := by
  rw [← bits_sum t d]
  unfold dps
  rw [List.map_map]
  have hm : ∀ p ∈ (List.range d).filter (bitB t), p ≤ d := fun p hp => Nat.le_of_lt (List.mem_range.mp (List.mem_filter.mp hp).1)
  generalize (List.range d).filter (bitB t) = l at hm
  induction l with
  | nil => simp
  | cons p r ih =>
    rw [List.map_cons, List.map_cons, List.sum_cons, List.sum_cons, Nat.add_mul, ih fun q hq => hm q (List.mem_cons_of_mem _ hq)]
    simp only [Function.comp]
    rw [pow_split (hm p List.mem_cons_self) h]
theorem dps_mem {t d e : Nat} (h : e ∈ dps t d) : 1 ≤ e ∧ e ≤ d := by
  obtain ⟨p, hp, rfl⟩ := List.mem_map.mp h
  have := List.mem_range.mp (List.mem_filter.mp hp).1
  omega
theorem dps_len (t d : Nat) : (dps t d).length ≤ d := by
  unfold dps
  rw [List.length_map]
  exact Nat.le_trans (List.length_filter_le _ _) (by rw [List.length_range]; exact Nat.le_refl _)
theorem bits_pow (d : Nat) : Builtin.Int.intBits ((2 ^ d : Nat) : Int) = d + 1 := by
  unfold Builtin.Int.intBits
  have h := Nat.two_pow_pos d
  rw [if_neg (by simp only [beq_iff_eq]; omega), Int.natAbs_natCast, Nat.log2_two_pow]
theorem bit_eq (t p : Nat) : (Builtin.bitAnd ((t : Int) / 2 ^ p) 1 = 1) ↔ bitB t p = true := by
  rw [bitAnd_m1]
  unfold bitB
  rw [decide_eq_true_eq]
  have : ((t : Int) / 2 ^ p % 2) = ((t / 2 ^ p % 2 : Nat) : Int) := by simp
  rw [this]
  omega
def sp_depths_of : SpD := fun ds st kk => ∃ t d : Nat, ds = [.tup [.int (t : Nat), .int (2 ^ d : Nat)]] ∧ d ≤ 1000 ∧ kk (.lst ((dps t d).map fun e => .int (e : Nat))) st
theorem len_depths_of (ds : List D) (st : Sto) (kk : DK) (h : sp_depths_of ds st kk) : ds.length = 1 := by
  obtain ⟨_, _, rfl, _⟩ := h
  rfl
theorem p_depths_of : BodyD false N_depths_of sp_depths_of t_depths_of := by
  rintro ds st kk ⟨t, d, rfl, hd, h⟩
  rw [st_depths_of]
  simp only [t_depths_of]
  (try simp only [BEq.rfl, ↓e_v0, ↓e_vs, ↓e_c, ↓e_op, ↓e_test, ↓e_testK, ↓e_tru, ↓e_truL, ↓e_truT, ↓e_truB, ↓e_truI, ↓e_truN, ↓e_truS, ↓e_not, ↓e_or, ↓e_notK, ↓e_if, ↓e_nil, ↓e_cons, ↓e_tup, ↓e_lst, ↓e_new, ↓e_call, ↓e_drop, ↓e_ret, ↓e_pass, ↓e_ifS, ↓e_g0, ↓e_gs, ↓e_gnil, ↓e_gcons, ↓e_gtup, ↓e_asg, ↓e_par, ↓e_parK, ↓e_par3, ↓e_par3K, ↓e_chain, ↓e_chK, ↓e_no, ↓e_some, ↓e_someK, ↓e_cut, ↓e_b, ↓e_iter, ↓e_iterL, ↓e_iterT, ↓e_iterS, ↓e_rng1, ↓e_rng1K, ↓e_enum, ↓e_enumL, ↓e_enumT, ↓e_for, ↓e_lc, ↓e_lcNew, ↓e_meth, ↓e_isL, ↓e_sub, ↓e_isi, ↓e_yes, ↓e_bits, ↓e_bitsK, ↓e_addI, ↓e_addB, ↓e_addS, ↓e_addT, ↓e_addL, ↓e_subI, ↓e_mulI, ↓e_mulT, ↓e_mulL, ↓e_divI, ↓e_modI, ↓e_powI, ↓e_cmpI, ↓e_eq, ↓e_ne, ↓e_ixL, ↓e_ixKL, ↓e_ixT, ↓e_cutL, ↓e_cutKL, ↓e_cutT, ↓e_lenL, ↓e_lenKL, ↓e_lenT, ↓e_abs, ↓e_intI, ↓e_intB, ↓e_listNL, ↓e_listNT, ↓e_tupL, ↓e_tupT, ↓e_sum1T, ↓e_sum1L, ↓e_max1T, ↓e_max1L, ↓e_drI, ↓e_drB, ↓e_drS, ↓e_drN, ↓e_drL, ↓e_drT, ↓e_seq, ↓e_sortedL, ↓e_lr2, ↓e_lr2K, ↓e_unlL, ↓e_inL, ↓e_inKL, ↓e_inT, ↓e_inFlat, ↓e_drK, ↓e_addBI, ↓e_subBI, ↓e_subIB, ↓e_drG, ↓e_dnew, ↓e_dgetF, ↓e_dget2, ↓e_dsetdS, ↓e_dgPut, ↓e_lenSetZ, ↓e_lenSetZL, ↓e_join, ↓e_joinL, ↓e_cutS, ↓e_mulS, ↓e_andI, ↓e_srtTx, ↓e_srtTxL, ↓e_pairs0, ↓e_pairs1, ↓e_shrI, ↓e_dispN, ↓e_putN, e_kyI, e_kyS, Nat.reduceAdd, Nat.zero_add, List.length_cons, List.length_nil, List.length_map, Nat.reduceLeDiff, and_true, true_and, if_true, ite_true, decide_eq_true_eq, Bool.not_eq_true, Bool.false_eq_true, if_false, ite_false, ↓reduceIte, Int.reduceToNat, Int.reducePow, ne_eq, q_okI, q_okB, q_okN, q_okS, q_okL, q_okT, q_oks0, q_oks1, q_eqII, q_eqBB, q_eqSS, q_eqLL, q_eqTT, q_eqNN, q_eqNI, q_eqIN, q_eqs0, q_eqs1, Bool.true_and, Bool.and_true, beq_iff_eq, reduceCtorEq, wipeE, List.set_cons_zero, List.set_cons_succ, List.set_nil, Bool.not_true, Bool.not_false, List.getElem?_cons_zero, List.getElem?_cons_succ, bits_pow])
  refine ⟨by omega, ?_, ?_⟩
  · rw [rangeD_length]
    omega
  rw [show ((d + 1 : Nat) : Int) - 1 = (d : Nat) by omega, Int.toNat_natCast, show rangeD 0 d = (List.range d).map fun j : Nat => D.int (j : Nat) by
    unfold rangeD
    exact List.map_congr_left fun x _ => by rw [Int.zero_add]]
  refine lc_filter (src := []) (fun j : Nat => D.int (j : Nat)) (fun p : Nat => .int ((d - p : Nat) : Int)) (bitB t) st trivial (List.range d) [] (fun p hp k1 k2 g1 g2 => ?_) ?_
  · have hp := List.mem_range.mp hp
    (walk_at "lw_dd0")
    refine ⟨by omega, ?_⟩
    rw [Int.toNat_natCast]
    by_cases z : bitB t p = true
    · rw [if_pos ((bit_eq t p).mpr z)]
      simp only [e1_depths_of]
      (walk_at "lw_dd0")
      have := g1 z
      rw [show ((d - p : Nat) : Int) = (d : Int) - (p : Int) by omega] at this
      exact this
    · rw [if_neg fun e => z ((bit_eq t p).mp e)]
      exact g2 (by simpa using z)
  · rw [List.nil_append]
    unfold dps at h
    rw [List.map_map] at h
    exact h
def e1_fewest_balances : DE :=
    (dB bLen (dCons (dCall sp_depths_of (dCons (dVar 2) dNil)) dNil))
def t_fewest_balances : DS :=
    (dRet (dOp subD (dB bSum1 (dCons (dLc (dIter (dVar 0)) (dgTup 2 (dgCons (dgName 1) (dgCons (dgName 2) dgNil))) dYes (e1_fewest_balances) [1, 2]) dNil)) (dC (.int 1))))
theorem st_fewest_balances (a0 : D) : startD N_fewest_balances [a0] = [some a0, none, none] := rfl
def endsN (zs : List Sh) : Nat := (zs.map fun z => (dps z.2.1 z.2.2).length).sum
def sp_fewest_balances : SpD := fun ds st kk => ∃ zs : List Sh, ds = [.tup (zs.map shD)] ∧ zs.length ≤ 1000 ∧ (∀ z ∈ zs, z.2.2 ≤ 1000) ∧ kk (.int ((endsN zs : Int) - 1)) st
theorem len_fewest_balances (ds : List D) (st : Sto) (kk : DK) (h : sp_fewest_balances ds st kk) : ds.length = 1 := by
  obtain ⟨_, rfl, _⟩ := h
  rfl
theorem p_fewest_balances : BodyD false N_fewest_balances sp_fewest_balances t_fewest_balances := by
  rintro ds st kk ⟨zs, rfl, hl, hz, h⟩
  rw [st_fewest_balances]
  simp only [t_fewest_balances]
  (walk_at "lw_dd0")
  intro h9
  refine ⟨h9, ?_⟩
  refine lc_map (src := []) shD (fun z => D.int ((dps z.2.1 z.2.2).length : Nat)) zs st trivial [] (fun z hm kd hk => ?_) ?_
  · simp only [shD]
    (walk_at "lw_dd0")
    simp only [e1_fewest_balances]
    (walk_at "lw_dd0")
    refine ⟨z.2.1, z.2.2, rfl, hz z hm, ?_⟩
    dsimp only
    rw [e_lenL, List.length_map]
    exact hk
  · rw [List.nil_append, show (zs.map fun z => D.int ((dps z.2.1 z.2.2).length : Nat)) = (zs.map fun z => ((dps z.2.1 z.2.2).length : Int)).map D.int by rw [List.map_map]; rfl, e_sum1L]
    have e : (zs.map fun z => ((dps z.2.1 z.2.2).length : Int)).sum = (endsN zs : Int) := by
      clear h hl hz h9
      unfold endsN
      induction zs with
      | nil => rfl
      | cons z r ih => rw [List.map_cons, List.map_cons, List.sum_cons, List.sum_cons, ih, Int.natCast_add]
    rw [e]
    exact h
def e1_joined : DE :=
    (dTup (dCons (dVar 4) (dCons (dVar 2) dNil)))
def e2_joined : DE :=
    (dVar 4)
def e3_joined : DE :=
    (dVar 9)
def e4_joined : DE :=
    (dVar 6)
def b1_joined : DS :=
    (dSeq (dAsg (dB bMax1 (dCons (dLc (dIter (dVar 1)) (dgTup 2 (dgCons (dgName 4) (dgCons (dgName 6) dgNil))) dYes (e2_joined) [4, 6]) dNil)) (dgName 5))
    (dSeq (dAsg (dCut cutOp (dLc (dEnum (dVar 1)) (dgTup 2 (dgCons (dgName 9) (dgCons (dgTup 2 (dgCons (dgName 4) (dgCons (dgName 6) dgNil))) dgNil))) (dTest (dOp (eqOp false) (dVar 4) (dVar 5))) (e3_joined) [9, 4, 6]) dNo (dSome (dC (.int 2)))) (dgUnl 2 (dgCons (dgName 7) (dgCons (dgName 8) dgNil))))
    (dSeq (dAsg (dTup (dCons (dOp ixD (dOp ixD (dVar 1) (dVar 7)) (dC (.int 1))) (dCons (dOp ixD (dOp ixD (dVar 1) (dVar 8)) (dC (.int 1))) dNil))) (dgName 10))
    (dSeq (dAsg (dLcNew (dEnum (dVar 1)) (dgTup 2 (dgCons (dgName 9) (dgCons (dgName 6) dgNil))) (dTest (dOp (inOp true) (dVar 9) (dTup (dCons (dVar 7) (dCons (dVar 8) dNil))))) (e4_joined) [9, 6]) (dgName 1))
    (dDrop (dMeth mAppend (dVar 1) (dCons (dTup (dCons (dOp subD (dVar 5) (dC (.int 1))) (dCons (dVar 10) dNil))) dNil)))))))
def t_joined : DS :=
    (dSeq (dAsg (dLc2New (dIter (dVar 0)) (dgTup 2 (dgCons (dgName 2) (dgCons (dgName 3) dgNil))) dYes (dIter (dCall sp_depths_of (dCons (dVar 3) dNil))) (dgName 4) dYes (e1_joined) [2, 3, 4] [4]) (dgName 1))
    (dSeq (dWhile (dTest (dOp (cmpI fun i j => decide (j < i)) (dB bLen (dCons (dVar 1) dNil)) (dC (.int 1)))) (b1_joined))
    (dRet (dOp ixD (dOp ixD (dVar 1) (dC (.int 0))) (dC (.int 1))))))
theorem st_joined (a0 : D) : startD N_joined [a0] = [some a0, none, none, none, none, none, none, none, none, none, none] := rfl
inductive Pt where
  | leaf (c : List Nat) | pr (a b : Pt)
def ptD : Pt → D
  | .leaf c => .str (S c)
  | .pr a b => .tup [ptD a, ptD b]
def nodes : Pt → Nat
  | .leaf _ => 0
  | .pr a b => 1 + nodes a + nodes b
/-- what of x comes out at one exit -/
def mass (cs : List Nat) : Pt → Nat → Nat
  | .leaf c, x => if c = cs then x else 0
  | .pr a b, x => mass cs a (x / 2) + mass cs b (x / 2)
def lvs : Pt → List (List Nat)
  | .leaf c => [c]
  | .pr a b => lvs a ++ lvs b
/-- how high -/
def deepT : Pt → Nat
  | .leaf _ => 0
  | .pr a b => 1 + max (deepT a) (deepT b)
abbrev It := Nat × Pt
def itD (p : It) : D := .tup [.int (p.1 : Nat), ptD p.2]
def itemsOf (z : Sh) : List It := (dps z.2.1 z.2.2).map fun e => (e, .leaf z.1)
def items (zs : List Sh) : List It := zs.flatMap itemsOf
theorem items_len : ∀ zs : List Sh, (items zs).length = endsN zs
  | [] => rfl
  | z :: r => by
    have := items_len r
    unfold items endsN at *
    rw [List.flatMap_cons, List.length_append, List.map_cons, List.sum_cons, this]
    unfold itemsOf
    rw [List.length_map]
theorem items_sum (f : It → Nat) : ∀ zs : List Sh, ((items zs).map f).sum = (zs.map fun z => ((itemsOf z).map f).sum).sum
  | [] => rfl
  | z :: r => by
    have := items_sum f r
    unfold items at *
    rw [List.flatMap_cons, List.map_append, List.sum_append, List.map_cons, List.sum_cons, this]
/-- the places of the items that lie so deep -/
def plc (m : Nat) : Nat → List It → List Nat
  | _, [] => []
  | k, p :: r => if p.1 = m then k :: plc m (k + 1) r else plc m (k + 1) r
def cutT (i j : Nat) : Nat → List It → List It
  | _, [] => []
  | k, p :: r => if k = i ∨ k = j then cutT i j (k + 1) r else p :: cutT i j (k + 1) r
theorem plc_mem {m : Nat} : ∀ {l : List It} {k i : Nat}, i ∈ plc m k l → k ≤ i ∧ ∃ p, l[i - k]? = some p ∧ p.1 = m
  | [], _, _, h => by cases h
  | p :: r, k, i, h => by
    unfold plc at h
    have rest : i ∈ plc m (k + 1) r → k ≤ i ∧ ∃ q, (p :: r)[i - k]? = some q ∧ q.1 = m := fun h => by
      obtain ⟨h1, q, h2, h3⟩ := plc_mem h
      refine ⟨by omega, q, ?_, h3⟩
      rw [show i - k = (i - (k + 1)) + 1 by omega, List.getElem?_cons_succ]
      exact h2
    split at h
    · rename_i e
      rcases List.mem_cons.mp h with rfl | h
      · exact ⟨Nat.le_refl _, p, by rw [Nat.sub_self]; rfl, e⟩
      · exact rest h
    · exact rest h
theorem plc_sorted {m : Nat} : ∀ (l : List It) (k : Nat), (plc m k l).Pairwise (· < ·)
  | [], _ => .nil
  | p :: r, k => by
    unfold plc
    split
    · exact .cons (fun i hi => by have := (plc_mem hi).1; omega) (plc_sorted r (k + 1))
    · exact plc_sorted r (k + 1)
theorem plc_par {m : Nat} : ∀ (l : List It) (k : Nat), (∀ p ∈ l, p.1 ≤ m) → (l.map fun p => 2 ^ (m - p.1)).sum % 2 = (plc m k l).length % 2
  | [], _, _ => rfl
  | p :: r, k, h => by
    have ih := plc_par r (k + 1) fun q hq => h q (List.mem_cons_of_mem _ hq)
    have hp := h p List.mem_cons_self
    rw [List.map_cons, List.sum_cons]
    unfold plc
    by_cases z : p.1 = m
    · rw [if_pos z, List.length_cons, z, Nat.sub_self]
      omega
    · rw [if_neg z]
      have : 2 ^ (m - p.1) = 2 * 2 ^ (m - p.1 - 1) := by
        rw [Nat.mul_comm, ← Nat.pow_succ]
        congr 1
        omega
      omega
theorem cutT_mem {i j : Nat} {p : It} : ∀ {l : List It} {k : Nat}, p ∈ cutT i j k l → p ∈ l
  | [], _, h => by cases h
  | q :: r, k, h => by
    unfold cutT at h
    split at h
    · exact List.mem_cons_of_mem _ (cutT_mem h)
    · rcases List.mem_cons.mp h with rfl | h
      · exact List.mem_cons_self
      · exact List.mem_cons_of_mem _ (cutT_mem h)
theorem cut_none {i j : Nat} (f : It → Nat) : ∀ (l : List It) (k : Nat), i < k → j < k → ((cutT i j k l).map f).sum = (l.map f).sum
  | [], _, _, _ => rfl
  | p :: r, k, h1, h2 => by
    unfold cutT
    rw [if_neg (by omega), List.map_cons, List.map_cons, List.sum_cons, List.sum_cons, cut_none (i := i) (j := j) f r (k + 1) (by omega) (by omega)]
theorem cut_one {i j : Nat} (f : It → Nat) {q : It} : ∀ (l : List It) (k : Nat), i < k → k ≤ j → l[j - k]? = some q → (l.map f).sum = ((cutT i j k l).map f).sum + f q
  | [], _, _, _, h => by cases h
  | p :: r, k, h1, h2, h => by
    unfold cutT
    by_cases z : k = j
    · subst z
      rw [Nat.sub_self] at h
      cases h
      rw [if_pos (.inr rfl), List.map_cons, List.sum_cons, cut_none (i := i) (j := k) f r (k + 1) (by omega) (by omega)]
      omega
    · rw [show j - k = (j - (k + 1)) + 1 by omega, List.getElem?_cons_succ] at h
      rw [if_neg (by omega), List.map_cons, List.map_cons, List.sum_cons, List.sum_cons, cut_one (i := i) (j := j) f r (k + 1) (by omega) (by omega) h]
      omega
theorem cut_two {i j : Nat} (hij : i < j) (f : It → Nat) {p q : It} : ∀ (l : List It) (k : Nat), k ≤ i → l[i - k]? = some p → l[j - k]? = some q → (l.map f).sum = ((cutT i j k l).map f).sum + f p + f q
  | [], _, _, h, _ => by cases h
  | x :: r, k, h1, h, g => by
    unfold cutT
    rw [show j - k = (j - (k + 1)) + 1 by omega, List.getElem?_cons_succ] at g
    by_cases z : k = i
    · subst z
      rw [Nat.sub_self] at h
      cases h
      rw [if_pos (.inl rfl), List.map_cons, List.sum_cons, cut_one (i := k) (j := j) f r (k + 1) (by omega) (by omega) g]
      omega
    · rw [show i - k = (i - (k + 1)) + 1 by omega, List.getElem?_cons_succ] at h
      rw [if_neg (by omega), List.map_cons, List.map_cons, List.sum_cons, List.sum_cons, cut_two hij f r (k + 1) (by omega) h g]
      omega
theorem sum_one (l : List It) : (l.map fun _ => 1).sum = l.length := by
  induction l with
  | nil => rfl
  | cons x r ih => rw [List.map_cons, List.sum_cons, ih, List.length_cons]; omega
theorem cut_len {i j : Nat} (hij : i < j) {p q : It} {l : List It} (h : l[i]? = some p) (g : l[j]? = some q) : l.length = (cutT i j 0 l).length + 2 := by
  have := cut_two hij (fun _ => 1) l 0 (Nat.zero_le _) (by rw [Nat.sub_zero]; exact h) (by rw [Nat.sub_zero]; exact g)
  rw [sum_one, sum_one] at this
  omega
/-- ends that are a whole: halves of halves -/
structure Jn (D : Nat) (l : List It) : Prop where
  deep : ∀ p ∈ l, p.1 ≤ D
  kraft : (l.map fun p => 2 ^ (D - p.1)).sum = 2 ^ D
theorem Jn.low {D m : Nat} {l : List It} (J : Jn D l) (hm : m ≤ D) (mx : ∀ p ∈ l, p.1 ≤ m) : Jn m l := by
  refine ⟨mx, ?_⟩
  have e : ∀ l : List It, (∀ p ∈ l, p.1 ≤ m) → (l.map fun p => 2 ^ (D - p.1)).sum = (l.map fun p => 2 ^ (m - p.1)).sum * 2 ^ (D - m) := by
    intro l
    induction l with
    | nil => intro _; simp
    | cons p r ih =>
      intro h
      have hp := h p List.mem_cons_self
      rw [List.map_cons, List.map_cons, List.sum_cons, List.sum_cons, Nat.add_mul, ih fun q hq => h q (List.mem_cons_of_mem _ hq), ← Nat.pow_add]
      congr 3
      omega
  have k := J.kraft
  rw [e l mx, show (2 : Nat) ^ D = 2 ^ m * 2 ^ (D - m) by rw [← Nat.pow_add]; congr 1; omega] at k
  exact Nat.eq_of_mul_eq_mul_right (Nat.two_pow_pos _) k
theorem Jn.two {D m : Nat} {l : List It} (J : Jn D l) (hl : 1 < l.length) (hm : ∃ p ∈ l, p.1 = m) (mx : ∀ p ∈ l, p.1 ≤ m) : 1 ≤ m ∧ Jn m l ∧ ∃ i j r, plc m 0 l = i :: j :: r ∧ i < j := by
  obtain ⟨p, hp, e⟩ := hm
  have J2 := J.low (by have := J.deep p hp; omega) mx
  have m1 : 1 ≤ m := by
    rcases Nat.eq_zero_or_pos m with z | z
    · exfalso
      subst z
      have k := J2.kraft
      have e1 : (l.map fun p => 2 ^ (0 - p.1)) = l.map fun _ => 1 := List.map_congr_left fun q _ => by rw [Nat.zero_sub]
      rw [e1, sum_one] at k
      omega
    · exact z
  refine ⟨m1, J2, ?_⟩
  have par := plc_par l 0 mx
  rw [J2.kraft, show m = (m - 1) + 1 by omega, Nat.pow_succ] at par
  have mem : ∀ (l : List It) (k : Nat) (p : It), p ∈ l → p.1 = m → (plc m k l) ≠ [] := by
    intro l
    induction l with
    | nil => intro k p h; cases h
    | cons x r ih =>
      intro k p h e
      unfold plc
      split
      · simp
      · rename_i ne
        rcases List.mem_cons.mp h with rfl | h
        · exact absurd e ne
        · exact ih _ _ h e
  have ne := mem l 0 p hp e
  have so := plc_sorted (m := m) l 0
  rw [show m - 1 + 1 = m by omega] at par
  match hq : plc m 0 l, ne, par, so with
  | [i], _, par, _ => simp at par
  | i :: j :: r, _, _, so => exact ⟨i, j, r, rfl, (List.pairwise_cons.mp so).1 j List.mem_cons_self⟩
theorem cut_cases {i j : Nat} {p : It} : ∀ (l : List It) (k : Nat), p ∈ l → p ∈ cutT i j k l ∨ ∃ t, k ≤ t ∧ (t = i ∨ t = j) ∧ l[t - k]? = some p
  | [], _, h => by cases h
  | q :: r, k, h => by
    unfold cutT
    rcases List.mem_cons.mp h with rfl | h
    · by_cases z : k = i ∨ k = j
      · exact .inr ⟨k, Nat.le_refl _, z, by rw [Nat.sub_self]; rfl⟩
      · rw [if_neg z]
        exact .inl List.mem_cons_self
    · rcases cut_cases r (k + 1) h with g | ⟨t, h1, h2, h3⟩
      · left
        split
        · exact g
        · exact List.mem_cons_of_mem _ g
      · refine .inr ⟨t, by omega, h2, ?_⟩
        rw [show t - k = (t - (k + 1)) + 1 by omega, List.getElem?_cons_succ]
        exact h3
/-- one turn of joining -/
def topD (l : List It) : Nat := l.foldr (fun p m => max p.1 m) 0
def stepJ (l : List It) : List It := match plc (topD l) 0 l with
  | i :: j :: _ => match l[i]?, l[j]? with
    | some p, some q => cutT i j 0 l ++ [(topD l - 1, .pr p.2 q.2)]
    | _, _ => l
  | _ => l
def iterJ : Nat → List It → List It
  | 0, l => l
  | k + 1, l => stepJ (iterJ k l)
theorem topD_of {l : List It} {m : Nat} (h : ∃ p ∈ l, p.1 = m) (hm : ∀ p ∈ l, p.1 ≤ m) : topD l = m := by
  have ge : ∀ (l : List It), ∀ p ∈ l, p.1 ≤ topD l := by
    intro l
    induction l with
    | nil => intro p h; cases h
    | cons q r ih =>
      intro p h
      have e : topD (q :: r) = max q.1 (topD r) := rfl
      rcases List.mem_cons.mp h with w | w
      · rw [w]; omega
      · have := ih p w; omega
  have le : ∀ (l : List It), (∀ p ∈ l, p.1 ≤ m) → topD l ≤ m := by
    intro l
    induction l with
    | nil => intro _; exact Nat.zero_le _
    | cons q r ih =>
      intro h
      have e : topD (q :: r) = max q.1 (topD r) := rfl
      have := ih fun p hp => h p (List.mem_cons_of_mem _ hp)
      have := h q List.mem_cons_self
      omega
  obtain ⟨p, hp, e⟩ := h
  have := ge l p hp
  have := le l hm
  omega
theorem stepJ_of {l : List It} {m i j : Nat} {r : List Nat} {a b : Pt} (ht : topD l = m) (hp : plc m 0 l = i :: j :: r) (hi : l[i]? = some (m, a)) (hj : l[j]? = some (m, b)) : stepJ l = cutT i j 0 l ++ [(m - 1, .pr a b)] := by
  unfold stepJ
  rw [ht, hp]
  simp only [hi, hj]
structure JInv (l0 l : List It) : Prop where
  jn : ∃ D, Jn D l
  one : 1 ≤ l.length
  nd : (l.map fun p => nodes p.2).sum + l.length = l0.length
  ms : ∀ cs X, (l.map fun p => mass cs p.2 (X / 2 ^ p.1)).sum = (l0.map fun p => mass cs p.2 (X / 2 ^ p.1)).sum
  lv : ∀ p ∈ l, ∀ c ∈ lvs p.2, ∃ q ∈ l0, c ∈ lvs q.2
  dp : ∀ q ∈ l0, ∃ p ∈ l, q.1 + l.length ≤ p.1 + l0.length
  hi : ∀ D, (∀ p ∈ l0, p.1 + deepT p.2 ≤ D) → ∀ p ∈ l, p.1 + deepT p.2 ≤ D
  it : ∃ k, l = iterJ k l0 ∧ k + l.length = l0.length
theorem JInv.step {l0 l : List It} (J : JInv l0 l) {m i j : Nat} {a b : Pt} (st : stepJ l = cutT i j 0 l ++ [(m - 1, .pr a b)]) (m1 : 1 ≤ m) (J2 : Jn m l) (hij : i < j) (hi : l[i]? = some (m, a)) (hj : l[j]? = some (m, b)) : JInv l0 (cutT i j 0 l ++ [(m - 1, .pr a b)]) := by
  have hs : ∀ f : It → Nat, (l.map f).sum = ((cutT i j 0 l).map f).sum + f (m, a) + f (m, b) := fun f => cut_two hij f l 0 (Nat.zero_le _) (by rw [Nat.sub_zero]; exact hi) (by rw [Nat.sub_zero]; exact hj)
  have hs2 : ∀ f : It → Nat, ((cutT i j 0 l ++ [(m - 1, Pt.pr a b)]).map f).sum = ((cutT i j 0 l).map f).sum + f (m - 1, .pr a b) := fun f => by
    rw [List.map_append, List.sum_append]
    simp
  have hl := cut_len hij hi hj
  have hl2 : (cutT i j 0 l ++ [(m - 1, Pt.pr a b)]).length = (cutT i j 0 l).length + 1 := by rw [List.length_append]; rfl
  refine ⟨⟨m, ?_, ?_⟩, by omega, ?_, ?_, ?_, ?_, ?_, ?_⟩
  · intro p hp
    rcases List.mem_append.mp hp with hp | hp
    · exact J2.deep p (cutT_mem hp)
    · rw [List.mem_singleton.mp hp]
      exact Nat.sub_le _ _
  · have k := J2.kraft
    rw [hs] at k
    rw [hs2]
    simp only [Nat.sub_self, Nat.pow_zero] at k
    rw [show m - (m - 1) = 1 by omega]
    omega
  · have k := J.nd
    rw [hs] at k
    rw [hs2, hl2]
    simp only [nodes] at k ⊢
    omega
  · intro cs X
    rw [← J.ms cs X, hs, hs2]
    simp only [mass]
    have : X / 2 ^ (m - 1) / 2 = X / 2 ^ m := by
      rw [Nat.div_div_eq_div_mul, ← Nat.pow_succ, show (m - 1).succ = m by omega]
    rw [this]
    omega
  · intro p hp c hc
    rcases List.mem_append.mp hp with hp | hp
    · exact J.lv p (cutT_mem hp) c hc
    · rw [List.mem_singleton.mp hp] at hc
      rcases List.mem_append.mp (show c ∈ lvs a ++ lvs b from hc) with hc | hc
      · exact J.lv _ (List.mem_of_getElem? hi) c hc
      · exact J.lv _ (List.mem_of_getElem? hj) c hc
  · intro q hq
    obtain ⟨p, hp, e⟩ := J.dp q hq
    rw [hl2]
    rcases cut_cases (i := i) (j := j) l 0 hp with g | ⟨t, _, ht, g⟩
    · exact ⟨p, List.mem_append_left _ g, by omega⟩
    · have := J2.deep p hp
      exact ⟨(m - 1, .pr a b), List.mem_append_right _ List.mem_cons_self, by show q.1 + _ ≤ m - 1 + _; omega⟩
  · intro D h p hp
    rcases List.mem_append.mp hp with hp | hp
    · exact J.hi D h p (cutT_mem hp)
    · rw [List.mem_singleton.mp hp]
      have h1 := J.hi D h _ (List.mem_of_getElem? hi)
      have h2 := J.hi D h _ (List.mem_of_getElem? hj)
      simp only [deepT] at h1 h2 ⊢
      omega
  · obtain ⟨k, e, h⟩ := J.it
    refine ⟨k + 1, ?_, by omega⟩
    show _ = stepJ (iterJ k l0)
    rw [← e, st]
/-- what ends come to, joined -/
structure JFin (l0 : List It) (t : Pt) : Prop where
  nd : nodes t + 1 = l0.length
  ms : ∀ cs X, mass cs t X = (l0.map fun p => mass cs p.2 (X / 2 ^ p.1)).sum
  lv : ∀ c ∈ lvs t, ∃ q ∈ l0, c ∈ lvs q.2
  dp : ∀ q ∈ l0, q.1 + 1 ≤ l0.length
  hi : ∀ D, (∀ p ∈ l0, p.1 + deepT p.2 ≤ D) → deepT t ≤ D
  it : iterJ (l0.length - 1) l0 = [(0, t)]
theorem JInv.fin {l0 l : List It} (J : JInv l0 l) (h : l.length ≤ 1) : ∃ t, l = [(0, t)] ∧ JFin l0 t := by
  obtain ⟨⟨d, t⟩, rfl⟩ := List.length_eq_one_iff.mp (Nat.le_antisymm h J.one)
  obtain ⟨D, J1⟩ := J.jn
  have d0 : d = 0 := by
    have k := J1.kraft
    have hd := J1.deep _ List.mem_cons_self
    simp only [List.map_cons, List.map_nil, List.sum_cons, List.sum_nil, Nat.add_zero] at k hd
    have := (Nat.pow_right_inj (show 1 < 2 by decide)).mp k
    omega
  subst d0
  refine ⟨t, rfl, ?_, ?_, ?_, ?_, fun D h => by simpa using J.hi D h _ List.mem_cons_self, ?_⟩
  rotate_left 4
  · obtain ⟨k, e, h⟩ := J.it
    simp only [List.length_cons, List.length_nil] at h
    rw [show l0.length - 1 = k by omega, e]
  · have := J.nd
    simp only [List.map_cons, List.map_nil, List.sum_cons, List.sum_nil, List.length_cons, List.length_nil] at this
    omega
  · intro cs X
    rw [← J.ms cs X]
    simp
  · exact fun c hc => J.lv _ List.mem_cons_self c hc
  · intro q hq
    obtain ⟨p, hp, e⟩ := J.dp q hq
    rw [List.mem_singleton.mp hp] at e
    simp at e
    omega
theorem JInv.start {D : Nat} {zs : List Sh} (J : Jn D (items zs)) (h : 1 ≤ endsN zs) : JInv (items zs) (items zs) := by
  refine ⟨⟨D, J⟩, by rw [items_len]; exact h, ?_, fun _ _ => rfl, fun p hp c hc => ⟨p, hp, hc⟩, fun q hq => ⟨q, hq, Nat.le_refl _⟩, fun D h => h, 0, rfl, by omega⟩
  have z0 : ∀ l : List Nat, (∀ x ∈ l, x = 0) → l.sum = 0 := by
    intro l
    induction l with
    | nil => intro _; rfl
    | cons x r ih =>
      intro h
      rw [List.sum_cons, h x List.mem_cons_self, ih fun y hy => h y (List.mem_cons_of_mem _ hy)]
  have : ((items zs).map fun p => nodes p.2).sum = 0 := z0 _ fun x hx => by
    obtain ⟨p, hp, rfl⟩ := List.mem_map.mp hx
    unfold items at hp
    obtain ⟨z, _, hp⟩ := List.mem_flatMap.mp hp
    obtain ⟨e, _, rfl⟩ := List.mem_map.mp hp
    rfl
  omega
def sp_joined : SpD := fun ds st kk => ∃ (zs : List Sh) (D : Nat), ds = [.tup (zs.map shD)] ∧ zs.length ≤ 1000 ∧ (∀ z ∈ zs, z.2.2 ≤ 1000) ∧ 1 ≤ endsN zs ∧ endsN zs ≤ 10000 ∧ Jn D (items zs) ∧ ∀ t L, JFin (items zs) t → kk (ptD t) (st ++ L)
theorem len_joined (ds : List D) (st : Sto) (kk : DK) (h : sp_joined ds st kk) : ds.length = 1 := by
  obtain ⟨_, _, rfl, _⟩ := h
  rfl
theorem items_loop (a0 v1 v2 v3 v4 v5 v6 v7 v8 v9 v10 : Option D) (k : List D → Sto → Prop) (st : Sto) : ∀ (zs : List Sh) (acc : List It), (∀ z ∈ zs, z.2.2 ≤ 1000) → acc.length + zs.length * 1000 ≤ 16000000 → k ((acc ++ items zs).map itD) st →
    goLc2 [] (dgTup 2 (dgCons (dgName 2) (dgCons (dgName 3) dgNil))) dYes (dIter (dCall sp_depths_of (dCons (dVar 3) dNil))) (dgName 4) dYes e1_joined [2, 3, 4] [4] [a0, v1, v2, v3, v4, v5, v6, v7, v8, v9, v10] k (zs.map shD) (acc.map itD) st
  | [], acc, _, _, h => ⟨trivial, by simpa [items] using h⟩
  | z :: r, acc, hz, hn, h => by
    have hd := dps_len z.2.1 z.2.2
    have hz1 := hz z List.mem_cons_self
    refine ⟨trivial, ?_⟩
    simp only [shD]
    (walk_at "lw_dd0")
    refine ⟨z.2.1, z.2.2, rfl, hz1, ?_⟩
    rw [e_iterL]
    intro _
    simp only [List.length_cons] at hn
    refine ⟨by simp only [List.length_map]; omega, ?_⟩
    refine lc_map (src := []) (fun e : Nat => D.int (e : Nat)) (fun e => itD (e, .leaf z.1)) (dps z.2.1 z.2.2) st trivial _ (fun e he kd hk => ?_) ?_
    · (walk_at "lw_dd0")
      simp only [e1_joined]
      (walk_at "lw_dd0")
      exact hk
    · have e : acc.map itD ++ (dps z.2.1 z.2.2).map (fun e => itD (e, .leaf z.1)) = (acc ++ itemsOf z).map itD := by
        rw [List.map_append]
        unfold itemsOf
        rw [List.map_map]
        rfl
      rw [e]
      refine items_loop a0 v1 v2 v3 v4 v5 v6 v7 v8 v9 v10 k st r (acc ++ itemsOf z) (fun y hy => hz y (List.mem_cons_of_mem _ hy)) ?_ ?_
      · unfold itemsOf
        rw [List.length_append, List.length_map]
        omega
      · have e2 : acc ++ itemsOf z ++ items r = acc ++ items (z :: r) := by
          unfold items
          rw [List.flatMap_cons, List.append_assoc]
        rw [e2]
        exact h
theorem e_enumOb {st : Sto} {i : Nat} {xs : List D} {kk : DIk} (h : st[i]? = some xs) : enumK kk (.obj i) st = (xs.length ≤ 16777216 → kk (enumD 0 xs) [(i, xs)] st) := by simp [enumK, deref, srcOf, h]
theorem plc_loop (m : Nat) (src : List (Nat × List D)) (a0 a1 v2 v3 v4 v6 v7 v8 v9 v10 : Option D) (k : List D → Sto → Prop) (st : Sto) (hs : SrcOk src st) : ∀ (l : List It) (n : Nat) (acc : List D), k (acc ++ (plc m n l).map fun j : Nat => D.int (j : Nat)) st →
    goLc src (dgTup 2 (dgCons (dgName 9) (dgCons (dgTup 2 (dgCons (dgName 4) (dgCons (dgName 6) dgNil))) dgNil))) (dTest (dOp (eqOp false) (dVar 4) (dVar 5))) e3_joined [9, 4, 6] [a0, a1, v2, v3, v4, some (.int (m : Nat)), v6, v7, v8, v9, v10] k (enumD n (l.map itD)) acc st
  | [], n, acc, h => ⟨hs, by simpa [plc] using h⟩
  | p :: r, n, acc, h => by
    refine ⟨hs, ?_⟩
    simp only [itD]
    (walk_at "lw_dd0")
    unfold plc at h
    by_cases z : p.1 = m
    · rw [if_pos z] at h
      rw [if_pos (by omega)]
      simp only [e3_joined]
      (walk_at "lw_dd0")
      refine plc_loop m src a0 a1 v2 v3 v4 v6 v7 v8 v9 v10 k st hs r (n + 1) _ ?_
      rw [List.append_assoc]
      exact h
    · rw [if_neg z] at h
      rw [if_neg (by omega)]
      exact plc_loop m src a0 a1 v2 v3 v4 v6 v7 v8 v9 v10 k st hs r (n + 1) _ h
theorem cut_loop (x y : Nat) (src : List (Nat × List D)) (a0 a1 v2 v3 v4 v5 v6 v9 v10 : Option D) (k : List D → Sto → Prop) (st : Sto) (hs : SrcOk src st) : ∀ (l : List It) (n : Nat) (acc : List It), k ((acc ++ cutT x y n l).map itD) st →
    goLc src (dgTup 2 (dgCons (dgName 9) (dgCons (dgName 6) dgNil))) (dTest (dOp (inOp true) (dVar 9) (dTup (dCons (dVar 7) (dCons (dVar 8) dNil))))) e4_joined [9, 6] [a0, a1, v2, v3, v4, v5, v6, some (.int (x : Nat)), some (.int (y : Nat)), v9, v10] k (enumD n (l.map itD)) (acc.map itD) st
  | [], n, acc, h => ⟨hs, by simpa [cutT] using h⟩
  | p :: r, n, acc, h => by
    refine ⟨hs, ?_⟩
    (walk_at "lw_dd0")
    have e : inD (.int (n : Nat)) [.int (x : Nat), .int (y : Nat)] = decide (n = x ∨ n = y) := by
      simp only [inD, List.any_cons, List.any_nil, eqD, Bool.or_false]
      by_cases h1 : n = x <;> by_cases h2 : n = y <;> simp [h1, h2] <;> omega
    unfold cutT at h
    show (if (!inD (.int (n : Nat)) [.int (x : Nat), .int (y : Nat)]) = true then _ else _)
    by_cases z : n = x ∨ n = y
    · rw [if_pos z] at h
      rw [if_neg (by rw [e, decide_eq_true z]; decide)]
      exact cut_loop x y src a0 a1 v2 v3 v4 v5 v6 v9 v10 k st hs r (n + 1) acc h
    · rw [if_neg z] at h
      rw [if_pos (by rw [e, decide_eq_false z]; rfl)]
      simp only [e4_joined]
      (walk_at "lw_dd0")
      have e3 : acc.map itD ++ [itD p] = (acc ++ [p]).map itD := by rw [List.map_append]; rfl
      rw [e3]
      refine cut_loop x y src a0 a1 v2 v3 v4 v5 v6 v9 v10 k st hs r (n + 1) (acc ++ [p]) ?_
      rw [List.append_assoc]
      exact h
theorem p_joined : BodyD false N_joined sp_joined t_joined := by
  rintro ds st kk ⟨zs, D0, rfl, hl, hz, h1, h2, J, h⟩
  rw [st_joined]
  simp only [t_joined]
  (walk_at "lw_dd0")
  show dLc2New _ _ _ _ _ _ _ _ _ _ _ _
  unfold dLc2New
  (walk_at "lw_dd0")
  intro _
  refine items_loop _ _ _ _ _ _ _ _ _ _ _ _ st zs [] hz (by simp; omega) ?_
  rw [List.nil_append]
  refine ⟨fun m env s => ∃ (l : List It) (i : Nat) (L : Sto) (v2 v3 v4 v5 v6 v7 v8 v9 v10 : Option D), env = [some (.tup (zs.map shD)), some (.obj i), v2, v3, v4, v5, v6, v7, v8, v9, v10] ∧ s = st ++ L ∧ s[i]? = some (l.map itD) ∧ JInv (items zs) l ∧ m = l.length,
    ⟨_, items zs, st.length, _, _, _, _, _, _, _, _, _, _, rfl, rfl, app_get, .start J h1, rfl⟩, ?_⟩
  rintro m env s ⟨l, i, L, v2, v3, v4, v5, v6, v7, v8, v9, v10, rfl, rfl, hi, JI, rfl⟩
  have ll : l.length ≤ 10000 := by
    have := JI.nd
    rw [items_len] at this
    omega
  (try simp only [BEq.rfl, ↓e_v0, ↓e_vs, ↓e_c, ↓e_op, ↓e_test, ↓e_testK, ↓e_tru, ↓e_truL, ↓e_truT, ↓e_truB, ↓e_truI, ↓e_truN, ↓e_truS, ↓e_not, ↓e_or, ↓e_notK, ↓e_if, ↓e_nil, ↓e_cons, ↓e_tup, ↓e_lst, ↓e_new, ↓e_call, ↓e_drop, ↓e_ret, ↓e_pass, ↓e_ifS, ↓e_g0, ↓e_gs, ↓e_gnil, ↓e_gcons, ↓e_gtup, ↓e_asg, ↓e_par, ↓e_parK, ↓e_par3, ↓e_par3K, ↓e_chain, ↓e_chK, ↓e_no, ↓e_some, ↓e_someK, ↓e_cut, ↓e_b, ↓e_iter, ↓e_iterL, ↓e_iterT, ↓e_iterS, ↓e_rng1, ↓e_rng1K, ↓e_enum, ↓e_enumL, ↓e_enumT, ↓e_for, ↓e_lc, ↓e_lcNew, ↓e_meth, ↓e_isL, ↓e_sub, ↓e_isi, ↓e_yes, ↓e_bits, ↓e_bitsK, ↓e_addI, ↓e_addB, ↓e_addS, ↓e_addT, ↓e_addL, ↓e_subI, ↓e_mulI, ↓e_mulT, ↓e_mulL, ↓e_divI, ↓e_modI, ↓e_powI, ↓e_cmpI, ↓e_eq, ↓e_ne, ↓e_ixL, ↓e_ixKL, ↓e_ixT, ↓e_cutL, ↓e_cutKL, ↓e_cutT, ↓e_lenL, ↓e_lenKL, ↓e_lenT, ↓e_abs, ↓e_intI, ↓e_intB, ↓e_listNL, ↓e_listNT, ↓e_tupL, ↓e_tupT, ↓e_sum1T, ↓e_sum1L, ↓e_max1T, ↓e_max1L, ↓e_drI, ↓e_drB, ↓e_drS, ↓e_drN, ↓e_drL, ↓e_drT, ↓e_seq, ↓e_sortedL, ↓e_lr2, ↓e_lr2K, ↓e_unlL, ↓e_inL, ↓e_inKL, ↓e_inT, ↓e_inFlat, ↓e_drK, ↓e_addBI, ↓e_subBI, ↓e_subIB, ↓e_drG, ↓e_dnew, ↓e_dgetF, ↓e_dget2, ↓e_dsetdS, ↓e_dgPut, ↓e_lenSetZ, ↓e_lenSetZL, ↓e_join, ↓e_joinL, ↓e_cutS, ↓e_mulS, ↓e_andI, ↓e_srtTx, ↓e_srtTxL, ↓e_pairs0, ↓e_pairs1, ↓e_shrI, ↓e_dispN, ↓e_putN, e_kyI, e_kyS, Nat.reduceAdd, Nat.zero_add, List.length_cons, List.length_nil, List.length_map, Nat.reduceLeDiff, and_true, true_and, if_true, ite_true, decide_eq_true_eq, Bool.not_eq_true, Bool.false_eq_true, if_false, ite_false, ↓reduceIte, Int.reduceToNat, Int.reducePow, ne_eq, q_okI, q_okB, q_okN, q_okS, q_okL, q_okT, q_oks0, q_oks1, q_eqII, q_eqBB, q_eqSS, q_eqLL, q_eqTT, q_eqNN, q_eqNI, q_eqIN, q_eqs0, q_eqs1, Bool.true_and, Bool.and_true, beq_iff_eq, reduceCtorEq, wipeE, List.set_cons_zero, List.set_cons_succ, List.set_nil, Bool.not_true, Bool.not_false, List.getElem?_cons_zero, List.getElem?_cons_succ, e_lenO hi])
  by_cases hlt : 1 < l.length
  · rw [if_pos (by omega)]
    simp only [b1_joined]
    (try simp only [BEq.rfl, ↓e_v0, ↓e_vs, ↓e_c, ↓e_op, ↓e_test, ↓e_testK, ↓e_tru, ↓e_truL, ↓e_truT, ↓e_truB, ↓e_truI, ↓e_truN, ↓e_truS, ↓e_not, ↓e_or, ↓e_notK, ↓e_if, ↓e_nil, ↓e_cons, ↓e_tup, ↓e_lst, ↓e_new, ↓e_call, ↓e_drop, ↓e_ret, ↓e_pass, ↓e_ifS, ↓e_g0, ↓e_gs, ↓e_gnil, ↓e_gcons, ↓e_gtup, ↓e_asg, ↓e_par, ↓e_parK, ↓e_par3, ↓e_par3K, ↓e_chain, ↓e_chK, ↓e_no, ↓e_some, ↓e_someK, ↓e_cut, ↓e_b, ↓e_iter, ↓e_iterL, ↓e_iterT, ↓e_iterS, ↓e_rng1, ↓e_rng1K, ↓e_enum, ↓e_enumL, ↓e_enumT, ↓e_for, ↓e_lc, ↓e_lcNew, ↓e_meth, ↓e_isL, ↓e_sub, ↓e_isi, ↓e_yes, ↓e_bits, ↓e_bitsK, ↓e_addI, ↓e_addB, ↓e_addS, ↓e_addT, ↓e_addL, ↓e_subI, ↓e_mulI, ↓e_mulT, ↓e_mulL, ↓e_divI, ↓e_modI, ↓e_powI, ↓e_cmpI, ↓e_eq, ↓e_ne, ↓e_ixL, ↓e_ixKL, ↓e_ixT, ↓e_cutL, ↓e_cutKL, ↓e_cutT, ↓e_lenL, ↓e_lenKL, ↓e_lenT, ↓e_abs, ↓e_intI, ↓e_intB, ↓e_listNL, ↓e_listNT, ↓e_tupL, ↓e_tupT, ↓e_sum1T, ↓e_sum1L, ↓e_max1T, ↓e_max1L, ↓e_drI, ↓e_drB, ↓e_drS, ↓e_drN, ↓e_drL, ↓e_drT, ↓e_seq, ↓e_sortedL, ↓e_lr2, ↓e_lr2K, ↓e_unlL, ↓e_inL, ↓e_inKL, ↓e_inT, ↓e_inFlat, ↓e_drK, ↓e_addBI, ↓e_subBI, ↓e_subIB, ↓e_drG, ↓e_dnew, ↓e_dgetF, ↓e_dget2, ↓e_dsetdS, ↓e_dgPut, ↓e_lenSetZ, ↓e_lenSetZL, ↓e_join, ↓e_joinL, ↓e_cutS, ↓e_mulS, ↓e_andI, ↓e_srtTx, ↓e_srtTxL, ↓e_pairs0, ↓e_pairs1, ↓e_shrI, ↓e_dispN, ↓e_putN, e_kyI, e_kyS, Nat.reduceAdd, Nat.zero_add, List.length_cons, List.length_nil, List.length_map, Nat.reduceLeDiff, and_true, true_and, if_true, ite_true, decide_eq_true_eq, Bool.not_eq_true, Bool.false_eq_true, if_false, ite_false, ↓reduceIte, Int.reduceToNat, Int.reducePow, ne_eq, q_okI, q_okB, q_okN, q_okS, q_okL, q_okT, q_oks0, q_oks1, q_eqII, q_eqBB, q_eqSS, q_eqLL, q_eqTT, q_eqNN, q_eqNI, q_eqIN, q_eqs0, q_eqs1, Bool.true_and, Bool.and_true, beq_iff_eq, reduceCtorEq, wipeE, List.set_cons_zero, List.set_cons_succ, List.set_nil, Bool.not_true, Bool.not_false, List.getElem?_cons_zero, List.getElem?_cons_succ, e_iterO hi])
    intro _
    refine ⟨by omega, ?_⟩
    refine lc_map (src := [(i, l.map itD)]) itD (fun p : It => .int (p.1 : Nat)) l (st ++ L) ⟨hi, trivial⟩ [] (fun p hp kd hk => ?_) ?_
    · simp only [itD]
      (walk_at "lw_dd0")
      simp only [e2_joined]
      (walk_at "lw_dd0")
      exact hk
    rw [List.nil_append, show (l.map fun p : It => D.int (p.1 : Nat)) = (l.map fun p : It => (p.1 : Int)).map D.int by rw [List.map_map]; rfl, e_max1L]
    refine ⟨by rw [List.length_map]; omega, fun mx hm hmx => ?_⟩
    obtain ⟨p0, hp0, rfl⟩ := List.mem_map.mp hm
    have hmx : ∀ p ∈ l, p.1 ≤ p0.1 := fun p hp => by
      have := hmx _ (List.mem_map.mpr ⟨p, hp, rfl⟩)
      omega
    obtain ⟨D1, J1⟩ := JI.jn
    obtain ⟨m1, J2, x, y, r, hpl, hxy⟩ := J1.two hlt ⟨p0, hp0, rfl⟩ hmx
    (walk_at "lw_dd0")
    rw [e_enumOb hi]
    refine fun _ => ⟨by rw [enumD_length, List.length_map]; omega, ?_⟩
    refine plc_loop p0.1 [(i, l.map itD)] _ _ _ _ _ _ _ _ _ _ _ (st ++ L) ⟨hi, trivial⟩ l 0 [] ?_
    rw [List.nil_append, hpl, show (some 2 : Option Int) = some ((2 : Nat) : Int) from rfl, cutD_to]
    refine ⟨rfl, ?_⟩
    have gx := plc_mem (m := p0.1) (l := l) (k := 0) (i := x) (by rw [hpl]; exact List.mem_cons_self)
    have gy := plc_mem (m := p0.1) (l := l) (k := 0) (i := y) (by rw [hpl]; exact List.mem_cons_of_mem _ List.mem_cons_self)
    rw [Nat.sub_zero] at gx gy
    obtain ⟨_, ⟨d1, a⟩, gx, e1⟩ := gx
    obtain ⟨_, ⟨d2, b⟩, gy, e2⟩ := gy
    have e1 : d1 = p0.1 := e1
    have e2 : d2 = p0.1 := e2
    subst e1
    rw [e2] at gy
    show dgCons (dgName 7) (dgCons (dgName 8) dgNil) [.int (x : Nat), .int (y : Nat)] _ _ _
    have ax : atI (l.map itD) (x : Nat) = some (itD (p0.1, a)) := atI_nat (by rw [List.getElem?_map, gx]; rfl)
    have ay : atI (l.map itD) (y : Nat) = some (itD (p0.1, b)) := atI_nat (by rw [List.getElem?_map, gy]; rfl)
    (try simp only [BEq.rfl, ↓e_v0, ↓e_vs, ↓e_c, ↓e_op, ↓e_test, ↓e_testK, ↓e_tru, ↓e_truL, ↓e_truT, ↓e_truB, ↓e_truI, ↓e_truN, ↓e_truS, ↓e_not, ↓e_or, ↓e_notK, ↓e_if, ↓e_nil, ↓e_cons, ↓e_tup, ↓e_lst, ↓e_new, ↓e_call, ↓e_drop, ↓e_ret, ↓e_pass, ↓e_ifS, ↓e_g0, ↓e_gs, ↓e_gnil, ↓e_gcons, ↓e_gtup, ↓e_asg, ↓e_par, ↓e_parK, ↓e_par3, ↓e_par3K, ↓e_chain, ↓e_chK, ↓e_no, ↓e_some, ↓e_someK, ↓e_cut, ↓e_b, ↓e_iter, ↓e_iterL, ↓e_iterT, ↓e_iterS, ↓e_rng1, ↓e_rng1K, ↓e_enum, ↓e_enumL, ↓e_enumT, ↓e_for, ↓e_lc, ↓e_lcNew, ↓e_meth, ↓e_isL, ↓e_sub, ↓e_isi, ↓e_yes, ↓e_bits, ↓e_bitsK, ↓e_addI, ↓e_addB, ↓e_addS, ↓e_addT, ↓e_addL, ↓e_subI, ↓e_mulI, ↓e_mulT, ↓e_mulL, ↓e_divI, ↓e_modI, ↓e_powI, ↓e_cmpI, ↓e_eq, ↓e_ne, ↓e_ixL, ↓e_ixKL, ↓e_ixT, ↓e_cutL, ↓e_cutKL, ↓e_cutT, ↓e_lenL, ↓e_lenKL, ↓e_lenT, ↓e_abs, ↓e_intI, ↓e_intB, ↓e_listNL, ↓e_listNT, ↓e_tupL, ↓e_tupT, ↓e_sum1T, ↓e_sum1L, ↓e_max1T, ↓e_max1L, ↓e_drI, ↓e_drB, ↓e_drS, ↓e_drN, ↓e_drL, ↓e_drT, ↓e_seq, ↓e_sortedL, ↓e_lr2, ↓e_lr2K, ↓e_unlL, ↓e_inL, ↓e_inKL, ↓e_inT, ↓e_inFlat, ↓e_drK, ↓e_addBI, ↓e_subBI, ↓e_subIB, ↓e_drG, ↓e_dnew, ↓e_dgetF, ↓e_dget2, ↓e_dsetdS, ↓e_dgPut, ↓e_lenSetZ, ↓e_lenSetZL, ↓e_join, ↓e_joinL, ↓e_cutS, ↓e_mulS, ↓e_andI, ↓e_srtTx, ↓e_srtTxL, ↓e_pairs0, ↓e_pairs1, ↓e_shrI, ↓e_dispN, ↓e_putN, e_kyI, e_kyS, Nat.reduceAdd, Nat.zero_add, List.length_cons, List.length_nil, List.length_map, Nat.reduceLeDiff, and_true, true_and, if_true, ite_true, decide_eq_true_eq, Bool.not_eq_true, Bool.false_eq_true, if_false, ite_false, ↓reduceIte, Int.reduceToNat, Int.reducePow, ne_eq, q_okI, q_okB, q_okN, q_okS, q_okL, q_okT, q_oks0, q_oks1, q_eqII, q_eqBB, q_eqSS, q_eqLL, q_eqTT, q_eqNN, q_eqNI, q_eqIN, q_eqs0, q_eqs1, Bool.true_and, Bool.and_true, beq_iff_eq, reduceCtorEq, wipeE, List.set_cons_zero, List.set_cons_succ, List.set_nil, Bool.not_true, Bool.not_false, List.getElem?_cons_zero, List.getElem?_cons_succ, e_ixO hi])
    refine ⟨_, ax, ?_⟩
    simp only [itD]
    (try simp only [BEq.rfl, ↓e_v0, ↓e_vs, ↓e_c, ↓e_op, ↓e_test, ↓e_testK, ↓e_tru, ↓e_truL, ↓e_truT, ↓e_truB, ↓e_truI, ↓e_truN, ↓e_truS, ↓e_not, ↓e_or, ↓e_notK, ↓e_if, ↓e_nil, ↓e_cons, ↓e_tup, ↓e_lst, ↓e_new, ↓e_call, ↓e_drop, ↓e_ret, ↓e_pass, ↓e_ifS, ↓e_g0, ↓e_gs, ↓e_gnil, ↓e_gcons, ↓e_gtup, ↓e_asg, ↓e_par, ↓e_parK, ↓e_par3, ↓e_par3K, ↓e_chain, ↓e_chK, ↓e_no, ↓e_some, ↓e_someK, ↓e_cut, ↓e_b, ↓e_iter, ↓e_iterL, ↓e_iterT, ↓e_iterS, ↓e_rng1, ↓e_rng1K, ↓e_enum, ↓e_enumL, ↓e_enumT, ↓e_for, ↓e_lc, ↓e_lcNew, ↓e_meth, ↓e_isL, ↓e_sub, ↓e_isi, ↓e_yes, ↓e_bits, ↓e_bitsK, ↓e_addI, ↓e_addB, ↓e_addS, ↓e_addT, ↓e_addL, ↓e_subI, ↓e_mulI, ↓e_mulT, ↓e_mulL, ↓e_divI, ↓e_modI, ↓e_powI, ↓e_cmpI, ↓e_eq, ↓e_ne, ↓e_ixL, ↓e_ixKL, ↓e_ixT, ↓e_cutL, ↓e_cutKL, ↓e_cutT, ↓e_lenL, ↓e_lenKL, ↓e_lenT, ↓e_abs, ↓e_intI, ↓e_intB, ↓e_listNL, ↓e_listNT, ↓e_tupL, ↓e_tupT, ↓e_sum1T, ↓e_sum1L, ↓e_max1T, ↓e_max1L, ↓e_drI, ↓e_drB, ↓e_drS, ↓e_drN, ↓e_drL, ↓e_drT, ↓e_seq, ↓e_sortedL, ↓e_lr2, ↓e_lr2K, ↓e_unlL, ↓e_inL, ↓e_inKL, ↓e_inT, ↓e_inFlat, ↓e_drK, ↓e_addBI, ↓e_subBI, ↓e_subIB, ↓e_drG, ↓e_dnew, ↓e_dgetF, ↓e_dget2, ↓e_dsetdS, ↓e_dgPut, ↓e_lenSetZ, ↓e_lenSetZL, ↓e_join, ↓e_joinL, ↓e_cutS, ↓e_mulS, ↓e_andI, ↓e_srtTx, ↓e_srtTxL, ↓e_pairs0, ↓e_pairs1, ↓e_shrI, ↓e_dispN, ↓e_putN, e_kyI, e_kyS, Nat.reduceAdd, Nat.zero_add, List.length_cons, List.length_nil, List.length_map, Nat.reduceLeDiff, and_true, true_and, if_true, ite_true, decide_eq_true_eq, Bool.not_eq_true, Bool.false_eq_true, if_false, ite_false, ↓reduceIte, Int.reduceToNat, Int.reducePow, ne_eq, q_okI, q_okB, q_okN, q_okS, q_okL, q_okT, q_oks0, q_oks1, q_eqII, q_eqBB, q_eqSS, q_eqLL, q_eqTT, q_eqNN, q_eqNI, q_eqIN, q_eqs0, q_eqs1, Bool.true_and, Bool.and_true, beq_iff_eq, reduceCtorEq, wipeE, List.set_cons_zero, List.set_cons_succ, List.set_nil, Bool.not_true, Bool.not_false, List.getElem?_cons_zero, List.getElem?_cons_succ, e_ixO hi])
    refine ⟨_, rfl, _, ay, ?_⟩
    simp only [itD]
    (walk_at "lw_dd0")
    refine ⟨_, rfl, ?_⟩
    rw [e_enumOb hi]
    refine fun _ => ⟨by rw [enumD_length, List.length_map]; omega, ?_⟩
    refine cut_loop x y [(i, l.map itD)] _ _ _ _ _ _ _ _ _ _ (st ++ L) ⟨hi, trivial⟩ l 0 [] ?_
    rw [List.nil_append]
    (walk_at "lw_dd0")
    have cl := cut_len hxy gx gy
    have es : ∀ Y X : List D, (st ++ L ++ [X]).set (st ++ L).length Y = st ++ (L ++ [Y]) := fun Y X => by
      rw [List.set_append_right _ _ (Nat.le_refl _), Nat.sub_self, List.append_assoc]
      rfl
    refine ⟨by simp [isLst, deref], ?_⟩
    rw [e_app (xs := (cutT x y 0 l).map itD) app_get, es]
    have e5 : (cutT x y 0 l).map itD ++ [D.tup [.int ((p0.1 : Int) - 1), .tup [ptD a, ptD b]]] = (cutT x y 0 l ++ [(p0.1 - 1, Pt.pr a b)]).map itD := by
      rw [List.map_append, show (p0.1 : Int) - 1 = ((p0.1 - 1 : Nat) : Int) by omega]
      rfl
    rw [e5]
    refine ⟨by rw [List.length_map]; omega, (cutT x y 0 l ++ [(p0.1 - 1, Pt.pr a b)]).length, by rw [List.length_append, List.length_singleton]; omega, _, _, _, _, _, _, _, _, _, _, _, _, rfl, rfl, ?_, JI.step (stepJ_of (topD_of ⟨_, hp0, rfl⟩ hmx) hpl gx gy) m1 J2 hxy gx gy, rfl⟩
    rw [← List.append_assoc]
    exact app_get
  · rw [if_neg (by omega)]
    obtain ⟨t, rfl, jf⟩ := JI.fin (by omega)
    rw [e_ixO hi]
    refine ⟨itD (0, t), rfl, ?_⟩
    simp only [itD]
    (walk_at "lw_dd0")
    exact ⟨_, rfl, h t L jf⟩
def b1_tree_of : DS :=
    (dIfS (dTru (dIsi (dVar 4) ["str"])) (dDrop (dMeth mAppend (dVar 3) (dCons (dVar 4) dNil))) (dSeq (dDrop (dMeth mAppend (dVar 3) (dCons (dB bLen (dCons (dVar 1) dNil)) dNil)))
    (dDrop (dMeth mAppend (dVar 1) (dCons (dVar 4) dNil)))))
def b2_tree_of : DS :=
    (dSeq (dAsg (dNew dNil) (dgName 3))
    (dSeq (dFor (dIter (dOp ixD (dVar 1) (dB bLen (dCons (dVar 2) dNil)))) (dgName 4) (b1_tree_of))
    (dDrop (dMeth mAppend (dVar 2) (dCons (dB bTuple (dCons (dVar 3) dNil)) dNil)))))
def t_tree_of : DS :=
    (dSeq (dPar 1 2 (dCons (dNew (dCons (dCall sp_joined (dCons (dVar 0) dNil)) dNil)) (dCons (dNew dNil) dNil)))
    (dSeq (dWhile (dTest (dOp (cmpI fun i j => decide (i < j)) (dB bLen (dCons (dVar 2) dNil)) (dB bLen (dCons (dVar 1) dNil)))) (b2_tree_of))
    (dRet (dB bTuple (dCons (dVar 2) dNil)))))
theorem st_tree_of (a0 : D) : startD N_tree_of [a0] = [some a0, none, none, none, none] := rfl
def ldb : Ld → List Nat
  | .bal j => [j]
  | .out _ => []
/-- the balances that are led to, in order -/
def ledsW : Web → List Nat
  | [] => []
  | p :: r => ldb p.1 ++ ldb p.2 ++ ledsW r
theorem ledsW_app : ∀ (a b : Web), ledsW (a ++ b) = ledsW a ++ ledsW b
  | [], _ => rfl
  | p :: r, b => by
    show ldb p.1 ++ ldb p.2 ++ ledsW (r ++ b) = _
    rw [ledsW_app r b]
    simp only [ledsW, List.append_assoc]
theorem leds_lead : ∀ (w : Web) (j : Nat), j ∈ ledsW w → ∃ k s, leadW w k s = some (.bal j)
  | [], _, h => by cases h
  | p :: r, j, h => by
    rcases List.mem_append.mp h with h | h
    · rcases List.mem_append.mp h with h | h
      · refine ⟨0, false, ?_⟩
        have : p.1 = .bal j := by
          cases e : p.1 with
          | bal i => rw [e] at h; rw [List.mem_singleton.mp h]
          | out c => rw [e] at h; cases h
        show some (Ld.of p false) = _
        simp [Ld.of, this]
      · refine ⟨0, true, ?_⟩
        have : p.2 = .bal j := by
          cases e : p.2 with
          | bal i => rw [e] at h; rw [List.mem_singleton.mp h]
          | out c => rw [e] at h; cases h
        show some (Ld.of p true) = _
        simp [Ld.of, this]
    · obtain ⟨k, s, e⟩ := leds_lead r j h
      exact ⟨k + 1, s, e⟩
def Lk (parts : List Pt) (k : Nat) : Pt → Ld → Prop
  | .leaf c, v => v = .out c
  | .pr a b, v => ∃ j, v = .bal j ∧ parts[j]? = some (.pr a b) ∧ k < j
def exT : Pt → List Pt
  | .leaf _ => []
  | .pr a b => [.pr a b]
def ldT (n : Nat) : Pt → Ld
  | .leaf c => .out c
  | .pr _ _ => .bal n
theorem ex_nodes (t : Pt) : ((exT t).map nodes).sum = nodes t := by cases t <;> simp [exT, nodes]
theorem ex_leds (n : Nat) (t : Pt) : ldb (ldT n t) = List.range' n (exT t).length := by cases t <;> rfl
theorem Lk.app {parts : List Pt} {k : Nat} {t : Pt} {v : Ld} (h : Lk parts k t v) (s : List Pt) : Lk (parts ++ s) k t v := by
  cases t with
  | leaf c => exact h
  | pr a b =>
    obtain ⟨j, e, g, hk⟩ := h
    exact ⟨j, e, by rw [List.getElem?_append_left (List.getElem?_eq_some_iff.mp g).1]; exact g, hk⟩
theorem Lk.new {parts : List Pt} {k : Nat} (t : Pt) (hk : k < parts.length) : Lk (parts ++ exT t) k t (ldT parts.length t) := by
  cases t with
  | leaf c => rfl
  | pr a b => exact ⟨_, rfl, by simp [exT], hk⟩
def stepT (s : List Pt × Web) : List Pt × Web := match s.1[s.2.length]? with
  | some (.pr a b) => (s.1 ++ exT a ++ exT b, s.2 ++ [(ldT s.1.length a, ldT (s.1 ++ exT a).length b)])
  | _ => s
def iterT : Nat → List Pt × Web → List Pt × Web
  | 0, s => s
  | k + 1, s => stepT (iterT k s)
structure TInv (rt : Pt) (parts : List Pt) (rows : Web) : Prop where
  prs : ∀ t ∈ parts, ∃ a b, t = .pr a b
  root : parts[0]? = some rt
  ok : ∀ k p, rows[k]? = some p → ∃ a b, parts[k]? = some (.pr a b) ∧ Lk parts k a p.1 ∧ Lk parts k b p.2
  cnt : ((parts.drop rows.length).map nodes).sum + rows.length = nodes rt
  led : ledsW rows = List.range' 1 (parts.length - 1)
  lv : ∀ t ∈ parts, ∀ c ∈ lvs t, c ∈ lvs rt
  le : rows.length ≤ parts.length
  dp : ∀ t ∈ parts, deepT t ≤ deepT rt
  it : (parts, rows) = iterT rows.length ([rt], [])
theorem TInv.step {root : Pt} {parts : List Pt} {rows : Web} (I : TInv root parts rows) {a b : Pt} (h : parts[rows.length]? = some (.pr a b)) :
    TInv root (parts ++ exT a ++ exT b) (rows ++ [(ldT parts.length a, ldT (parts ++ exT a).length b)]) := by
  have hr : rows.length < parts.length := (List.getElem?_eq_some_iff.mp h).1
  have hm := List.mem_of_getElem? h
  have pe : ∀ t s, t ∈ exT s → t = s ∧ ∃ x y, s = .pr x y := fun t s ht => by
    cases s with
    | leaf c => cases ht
    | pr x y => exact ⟨List.mem_singleton.mp ht, x, y, rfl⟩
  have la : ∀ c ∈ lvs a, c ∈ lvs root := fun c hc => I.lv _ hm c (List.mem_append_left _ hc)
  have lb : ∀ c ∈ lvs b, c ∈ lvs root := fun c hc => I.lv _ hm c (List.mem_append_right _ hc)
  refine ⟨?_, ?_, ?_, ?_, ?_, ?_, ?_, ?_, ?_⟩
  · intro t ht
    rcases List.mem_append.mp ht with ht | ht
    · rcases List.mem_append.mp ht with ht | ht
      · exact I.prs t ht
      · obtain ⟨rfl, z⟩ := pe t a ht
        exact z
    · obtain ⟨rfl, z⟩ := pe t b ht
      exact z
  · rw [List.append_assoc, List.getElem?_append_left (by omega)]
    exact I.root
  · intro k p hp
    by_cases hk : k < rows.length
    · rw [List.getElem?_append_left hk] at hp
      obtain ⟨x, y, g, l1, l2⟩ := I.ok k p hp
      refine ⟨x, y, ?_, (l1.app _).app _, (l2.app _).app _⟩
      rw [List.append_assoc, List.getElem?_append_left (by omega)]
      exact g
    · have hk2 : k = rows.length := by
        have := (List.getElem?_eq_some_iff.mp hp).1
        rw [List.length_append, List.length_singleton] at this
        omega
      subst hk2
      rw [List.getElem?_concat_length] at hp
      cases hp
      refine ⟨a, b, ?_, (Lk.new a hr).app _, Lk.new b (by rw [List.length_append]; omega)⟩
      rw [List.append_assoc, List.getElem?_append_left hr]
      exact h
  · have c := I.cnt
    have e : parts.drop rows.length = .pr a b :: parts.drop (rows.length + 1) := by
      rw [List.drop_eq_getElem_cons hr]
      congr 1
      have := (List.getElem?_eq_some_iff.mp h).2
      exact this
    rw [e, List.map_cons, List.sum_cons, nodes] at c
    rw [List.length_append, List.length_singleton, List.append_assoc, List.drop_append_of_le_length (by omega), List.map_append, List.sum_append, List.map_append, List.sum_append, ex_nodes, ex_nodes]
    omega
  · have n1 : 1 ≤ parts.length := by omega
    rw [ledsW_app, I.led]
    show _ ++ (ldb _ ++ ldb _ ++ []) = _
    rw [List.append_nil, ex_leds, ex_leds, List.length_append, List.length_append, List.length_append]
    have g1 := List.range'_append (s := 1) (m := parts.length - 1) (n := (exT a).length) (step := 1)
    have g2 := List.range'_append (s := 1) (m := parts.length - 1 + (exT a).length) (n := (exT b).length) (step := 1)
    rw [show 1 + 1 * (parts.length - 1) = parts.length by omega] at g1
    rw [show 1 + 1 * (parts.length - 1 + (exT a).length) = parts.length + (exT a).length by omega] at g2
    rw [← List.append_assoc, g1, g2]
    congr 1
    omega
  · intro t ht c hc
    rcases List.mem_append.mp ht with ht | ht
    · rcases List.mem_append.mp ht with ht | ht
      · exact I.lv t ht c hc
      · obtain ⟨rfl, _⟩ := pe t a ht
        exact la c hc
    · obtain ⟨rfl, _⟩ := pe t b ht
      exact lb c hc
  · simp only [List.length_append, List.length_singleton]
    omega
  · intro t ht
    have hd := I.dp _ hm
    simp only [deepT] at hd
    rcases List.mem_append.mp ht with ht | ht
    · rcases List.mem_append.mp ht with ht | ht
      · exact I.dp t ht
      · obtain ⟨rfl, _⟩ := pe t a ht
        omega
    · obtain ⟨rfl, _⟩ := pe t b ht
      omega
  · have hq : (rows ++ [(ldT parts.length a, ldT (parts ++ exT a).length b)]).length = rows.length + 1 := by rw [List.length_append]; rfl
    rw [hq]
    show _ = stepT (iterT rows.length ([root], []))
    rw [← I.it]
    unfold stepT
    simp only [h]
/-- a net that is a tree of pairs -/
structure TreeOf (w : Web) (t : Pt) : Prop where
  len : w.length = nodes t
  nt : Nt w
  ledw : LedW w
  led : ledsW w = List.range' 1 (w.length - 1)
  flow : ∀ cs x, flow w cs 0 x = mass cs t x
  out : ∀ k s cs, leadW w k s = some (.out cs) → cs ∈ lvs t
  it : w = (iterT (nodes t) ([t], [])).2
  up : ∃ ht : Nat → Int, (∀ k s j, leadW w k s = some (.bal j) → ht k < ht j) ∧ ∀ k, k < w.length → 0 ≤ ht k ∧ ht k < (deepT t : Nat)
theorem TInv.fin {root : Pt} {parts : List Pt} {rows : Web} (I : TInv root parts rows) (h : rows.length = parts.length) (n1 : 1 ≤ nodes root) (n2 : nodes root ≤ 1000) : TreeOf rows root := by
  have len : rows.length = nodes root := by
    have c := I.cnt
    rw [h, List.drop_length] at c
    simp at c
    omega
  have lead : ∀ k s v, leadW rows k s = some v → ∃ t, Lk parts k t v ∧ (∀ c ∈ lvs t, c ∈ lvs root) := by
    intro k s v e
    unfold leadW at e
    obtain ⟨p, hp, e⟩ := Option.map_eq_some_iff.mp e
    obtain ⟨a, b, g, l1, l2⟩ := I.ok k p hp
    have hm := I.lv _ (List.mem_of_getElem? g)
    cases s with
    | false =>
      have : v = p.1 := by rw [← e]; rfl
      rw [this]
      exact ⟨a, l1, fun c hc => hm c (List.mem_append_left _ hc)⟩
    | true =>
      have : v = p.2 := by rw [← e]; rfl
      rw [this]
      exact ⟨b, l2, fun c hc => hm c (List.mem_append_right _ hc)⟩
  have fwd : Fwd rows := fun k s j e => by
    obtain ⟨t, l, _⟩ := lead k s _ e
    cases t with
    | leaf c => cases l
    | pr a b =>
      obtain ⟨i, e2, g, hk⟩ := l
      cases e2
      exact ⟨hk, by rw [h]; exact (List.getElem?_eq_some_iff.mp g).1⟩
  have led : ledsW rows = List.range' 1 (rows.length - 1) := by rw [I.led, h]
  refine ⟨len, ⟨fwd, by omega, by omega⟩, fun j h1 h2 => ?_, led, ?_, ?_, by rw [← len, ← I.it], ?_⟩
  · refine leds_lead rows j ?_
    rw [led]
    exact List.mem_range'_1.mpr (by omega)
  · intro cs x
    have key : ∀ (m k : Nat), rows.length - k = m → ∀ t x, parts[k]? = some t → LW.flow rows cs k x = mass cs t x := by
      intro m
      induction m using Nat.strongRecOn with
      | _ m ih =>
        intro k hk t x g
        obtain ⟨a, b, rfl⟩ := I.prs t (List.mem_of_getElem? g)
        have hlt := (List.getElem?_eq_some_iff.mp g).1
        have hp : rows[k]? = some (rows[k]'(by omega)) := List.getElem?_eq_getElem (by omega)
        generalize rows[k]'(by omega) = p at hp
        obtain ⟨a2, b2, g2, l1, l2⟩ := I.ok k p hp
        rw [g] at g2
        cases g2
        have one : ∀ (s : Pt) (v : Ld) (y : Nat), Lk parts k s v → flowL rows cs v y = mass cs s y := by
          intro s v y l
          cases s with
          | leaf c =>
            have l : v = .out c := l
            rw [l]
            rfl
          | pr u z =>
            obtain ⟨j, rfl, gj, hkj⟩ := l
            have := (List.getElem?_eq_some_iff.mp gj).1
            exact ih (rows.length - j) (by omega) j rfl _ y gj
        rw [flow_half fwd cs hp, one a p.1 _ l1, one b p.2 _ l2]
        rfl
    exact key _ 0 rfl root x I.root
  · intro k s cs e
    obtain ⟨t, l, hc⟩ := lead k s _ e
    cases t with
    | leaf c =>
      have l : Ld.out cs = .out c := l
      cases l
      exact hc cs List.mem_cons_self
    | pr a b =>
      obtain ⟨i, e2, _⟩ := l
      cases e2
  · refine ⟨fun k => (deepT root : Nat) - (((parts[k]?).map deepT).getD 0 : Nat), fun k s j e => ?_, fun k hk => ?_⟩
    · unfold leadW at e
      obtain ⟨p, hp, e⟩ := Option.map_eq_some_iff.mp e
      obtain ⟨a, b, g, l1, l2⟩ := I.ok k p hp
      have one : ∀ (t : Pt), Lk parts k t (.bal j) → deepT t < deepT (.pr a b) → (deepT root : Int) - (((parts[k]?).map deepT).getD 0 : Nat) < (deepT root : Int) - (((parts[j]?).map deepT).getD 0 : Nat) := fun t l h => by
        cases t with
        | leaf c => cases l
        | pr x y =>
          obtain ⟨i, e2, g2, _⟩ := l
          cases e2
          rw [g, g2]
          simp only [Option.map_some, Option.getD_some]
          omega
      cases s with
      | false =>
        have e2 : p.1 = .bal j := e
        rw [e2] at l1
        exact one a l1 (by simp only [deepT]; omega)
      | true =>
        have e2 : p.2 = .bal j := e
        rw [e2] at l2
        exact one b l2 (by simp only [deepT]; omega)
    · have hk2 : k < parts.length := by omega
      dsimp only
      rw [List.getElem?_eq_getElem hk2]
      have hm := List.getElem_mem hk2
      have h1 := I.dp _ hm
      obtain ⟨a, b, e⟩ := I.prs _ hm
      rw [e] at h1 ⊢
      simp only [Option.map_some, Option.getD_some, deepT] at h1 ⊢
      omega
theorem TInv.start {a b : Pt} : TInv (.pr a b) [.pr a b] [] := by
  refine ⟨fun t ht => ⟨a, b, List.mem_singleton.mp ht⟩, rfl, fun k p h => by simp at h, ?_, rfl, fun t ht c hc => ?_, by simp, fun t ht => by rw [List.mem_singleton.mp ht]; exact Nat.le_refl _, rfl⟩
  · simp
  · rw [List.mem_singleton.mp ht] at hc
    exact hc
def sp_tree_of : SpD := fun ds st kk => ∃ (zs : List Sh) (D : Nat), ds = [.tup (zs.map shD)] ∧ zs.length ≤ 1000 ∧ (∀ z ∈ zs, z.2.2 ≤ 1000) ∧ 2 ≤ endsN zs ∧ endsN zs ≤ 1000 ∧ Jn D (items zs) ∧ ∀ t w L, JFin (items zs) t → TreeOf w t → kk (webD w) (st ++ L)
theorem len_tree_of (ds : List D) (st : Sto) (kk : DK) (h : sp_tree_of ds st kk) : ds.length = 1 := by
  obtain ⟨_, _, rfl, _⟩ := h
  rfl
theorem sto_of {st s : Sto} (h1 : st.length ≤ s.length) (h2 : ∀ j, j < st.length → s[j]? = st[j]?) : ∃ L, s = st ++ L := by
  refine ⟨s.drop st.length, ?_⟩
  have : s.take st.length = st := by
    apply List.ext_getElem?
    intro j
    rw [List.getElem?_take]
    split
    · exact h2 j (by assumption)
    · rw [List.getElem?_eq_none (by omega)]
  conv => lhs; rw [← List.take_append_drop st.length s, this]
theorem part_turn (t : Pt) (r : List D) (parts : List Pt) (row : List Ld) (ip iw : Nat) (ne : ip ≠ iw) (a0 a2 v4 : Option D) (s : Sto) (rt : DK) (nx : DL.Env → Sto → Prop) (hp : s[ip]? = some (parts.map ptD)) (hw : s[iw]? = some (row.map Ld.d)) (l1 : parts.length ≤ 10000) (l2 : row.length ≤ 10000)
    (h : ∀ u4 s', s'.length = s.length → s'[ip]? = some ((parts ++ exT t).map ptD) → s'[iw]? = some ((row ++ [ldT parts.length t]).map Ld.d) → (∀ j, j ≠ ip → j ≠ iw → s'[j]? = s[j]?) → goFor [] (dgName 4) b1_tree_of ⟨nx, rt⟩ r [a0, some (.obj ip), a2, some (.obj iw), u4] s') :
    goFor [] (dgName 4) b1_tree_of ⟨nx, rt⟩ (ptD t :: r) [a0, some (.obj ip), a2, some (.obj iw), v4] s := by
  have hil : iw < s.length := (List.getElem?_eq_some_iff.mp hw).1
  have hpl : ip < s.length := (List.getElem?_eq_some_iff.mp hp).1
  refine ⟨trivial, ?_⟩
  (walk_at "lw_dd0")
  simp only [b1_tree_of]
  cases t with
  | leaf c =>
    simp only [ptD]
    (try simp only [BEq.rfl, ↓e_v0, ↓e_vs, ↓e_c, ↓e_op, ↓e_test, ↓e_testK, ↓e_tru, ↓e_truL, ↓e_truT, ↓e_truB, ↓e_truI, ↓e_truN, ↓e_truS, ↓e_not, ↓e_or, ↓e_notK, ↓e_if, ↓e_nil, ↓e_cons, ↓e_tup, ↓e_lst, ↓e_new, ↓e_call, ↓e_drop, ↓e_ret, ↓e_pass, ↓e_ifS, ↓e_g0, ↓e_gs, ↓e_gnil, ↓e_gcons, ↓e_gtup, ↓e_asg, ↓e_par, ↓e_parK, ↓e_par3, ↓e_par3K, ↓e_chain, ↓e_chK, ↓e_no, ↓e_some, ↓e_someK, ↓e_cut, ↓e_b, ↓e_iter, ↓e_iterL, ↓e_iterT, ↓e_iterS, ↓e_rng1, ↓e_rng1K, ↓e_enum, ↓e_enumL, ↓e_enumT, ↓e_for, ↓e_lc, ↓e_lcNew, ↓e_meth, ↓e_isL, ↓e_sub, ↓e_isi, ↓e_yes, ↓e_bits, ↓e_bitsK, ↓e_addI, ↓e_addB, ↓e_addS, ↓e_addT, ↓e_addL, ↓e_subI, ↓e_mulI, ↓e_mulT, ↓e_mulL, ↓e_divI, ↓e_modI, ↓e_powI, ↓e_cmpI, ↓e_eq, ↓e_ne, ↓e_ixL, ↓e_ixKL, ↓e_ixT, ↓e_cutL, ↓e_cutKL, ↓e_cutT, ↓e_lenL, ↓e_lenKL, ↓e_lenT, ↓e_abs, ↓e_intI, ↓e_intB, ↓e_listNL, ↓e_listNT, ↓e_tupL, ↓e_tupT, ↓e_sum1T, ↓e_sum1L, ↓e_max1T, ↓e_max1L, ↓e_drI, ↓e_drB, ↓e_drS, ↓e_drN, ↓e_drL, ↓e_drT, ↓e_seq, ↓e_sortedL, ↓e_lr2, ↓e_lr2K, ↓e_unlL, ↓e_inL, ↓e_inKL, ↓e_inT, ↓e_inFlat, ↓e_drK, ↓e_addBI, ↓e_subBI, ↓e_subIB, ↓e_drG, ↓e_dnew, ↓e_dgetF, ↓e_dget2, ↓e_dsetdS, ↓e_dgPut, ↓e_lenSetZ, ↓e_lenSetZL, ↓e_join, ↓e_joinL, ↓e_cutS, ↓e_mulS, ↓e_andI, ↓e_srtTx, ↓e_srtTxL, ↓e_pairs0, ↓e_pairs1, ↓e_shrI, ↓e_dispN, ↓e_putN, e_kyI, e_kyS, Nat.reduceAdd, Nat.zero_add, List.length_cons, List.length_nil, List.length_map, Nat.reduceLeDiff, and_true, true_and, if_true, ite_true, decide_eq_true_eq, Bool.not_eq_true, Bool.false_eq_true, if_false, ite_false, ↓reduceIte, Int.reduceToNat, Int.reducePow, ne_eq, q_okI, q_okB, q_okN, q_okS, q_okL, q_okT, q_oks0, q_oks1, q_eqII, q_eqBB, q_eqSS, q_eqLL, q_eqTT, q_eqNN, q_eqNI, q_eqIN, q_eqs0, q_eqs1, Bool.true_and, Bool.and_true, beq_iff_eq, reduceCtorEq, wipeE, List.set_cons_zero, List.set_cons_succ, List.set_nil, Bool.not_true, Bool.not_false, List.getElem?_cons_zero, List.getElem?_cons_succ, tyD, subTy, e_app hw])
    rw [if_pos (by decide)]
    refine ⟨by simp [isLst, deref, hw], by omega, ?_⟩
    refine h _ _ List.length_set ?_ ?_ fun j j1 j2 => ?_
    · rw [List.getElem?_set_ne (Ne.symm ne), hp]
      simp [exT]
    · rw [List.getElem?_set_self hil, List.map_append]
      rfl
    · rw [List.getElem?_set_ne (Ne.symm j2)]
  | pr a b =>
    simp only [ptD]
    (try simp only [BEq.rfl, ↓e_v0, ↓e_vs, ↓e_c, ↓e_op, ↓e_test, ↓e_testK, ↓e_tru, ↓e_truL, ↓e_truT, ↓e_truB, ↓e_truI, ↓e_truN, ↓e_truS, ↓e_not, ↓e_or, ↓e_notK, ↓e_if, ↓e_nil, ↓e_cons, ↓e_tup, ↓e_lst, ↓e_new, ↓e_call, ↓e_drop, ↓e_ret, ↓e_pass, ↓e_ifS, ↓e_g0, ↓e_gs, ↓e_gnil, ↓e_gcons, ↓e_gtup, ↓e_asg, ↓e_par, ↓e_parK, ↓e_par3, ↓e_par3K, ↓e_chain, ↓e_chK, ↓e_no, ↓e_some, ↓e_someK, ↓e_cut, ↓e_b, ↓e_iter, ↓e_iterL, ↓e_iterT, ↓e_iterS, ↓e_rng1, ↓e_rng1K, ↓e_enum, ↓e_enumL, ↓e_enumT, ↓e_for, ↓e_lc, ↓e_lcNew, ↓e_meth, ↓e_isL, ↓e_sub, ↓e_isi, ↓e_yes, ↓e_bits, ↓e_bitsK, ↓e_addI, ↓e_addB, ↓e_addS, ↓e_addT, ↓e_addL, ↓e_subI, ↓e_mulI, ↓e_mulT, ↓e_mulL, ↓e_divI, ↓e_modI, ↓e_powI, ↓e_cmpI, ↓e_eq, ↓e_ne, ↓e_ixL, ↓e_ixKL, ↓e_ixT, ↓e_cutL, ↓e_cutKL, ↓e_cutT, ↓e_lenL, ↓e_lenKL, ↓e_lenT, ↓e_abs, ↓e_intI, ↓e_intB, ↓e_listNL, ↓e_listNT, ↓e_tupL, ↓e_tupT, ↓e_sum1T, ↓e_sum1L, ↓e_max1T, ↓e_max1L, ↓e_drI, ↓e_drB, ↓e_drS, ↓e_drN, ↓e_drL, ↓e_drT, ↓e_seq, ↓e_sortedL, ↓e_lr2, ↓e_lr2K, ↓e_unlL, ↓e_inL, ↓e_inKL, ↓e_inT, ↓e_inFlat, ↓e_drK, ↓e_addBI, ↓e_subBI, ↓e_subIB, ↓e_drG, ↓e_dnew, ↓e_dgetF, ↓e_dget2, ↓e_dsetdS, ↓e_dgPut, ↓e_lenSetZ, ↓e_lenSetZL, ↓e_join, ↓e_joinL, ↓e_cutS, ↓e_mulS, ↓e_andI, ↓e_srtTx, ↓e_srtTxL, ↓e_pairs0, ↓e_pairs1, ↓e_shrI, ↓e_dispN, ↓e_putN, e_kyI, e_kyS, Nat.reduceAdd, Nat.zero_add, List.length_cons, List.length_nil, List.length_map, Nat.reduceLeDiff, and_true, true_and, if_true, ite_true, decide_eq_true_eq, Bool.not_eq_true, Bool.false_eq_true, if_false, ite_false, ↓reduceIte, Int.reduceToNat, Int.reducePow, ne_eq, q_okI, q_okB, q_okN, q_okS, q_okL, q_okT, q_oks0, q_oks1, q_eqII, q_eqBB, q_eqSS, q_eqLL, q_eqTT, q_eqNN, q_eqNI, q_eqIN, q_eqs0, q_eqs1, Bool.true_and, Bool.and_true, beq_iff_eq, reduceCtorEq, wipeE, List.set_cons_zero, List.set_cons_succ, List.set_nil, Bool.not_true, Bool.not_false, List.getElem?_cons_zero, List.getElem?_cons_succ, tyD, subTy, e_app hw, e_lenO hp])
    rw [if_neg (by decide)]
    have hp2 : (s.set iw (row.map Ld.d ++ [.int (parts.length : Nat)]))[ip]? = some (parts.map ptD) := by rw [List.getElem?_set_ne (Ne.symm ne)]; exact hp
    refine ⟨by simp [isLst, deref, hw], by omega, by simp [isLst, deref, hp2], ?_⟩
    rw [e_app hp2]
    refine ⟨by rw [List.length_map]; omega, ?_⟩
    refine h _ _ (by rw [List.length_set, List.length_set]) ?_ ?_ fun j j1 j2 => ?_
    · rw [List.getElem?_set_self (by rw [List.length_set]; exact hpl), List.map_append]
      rfl
    · rw [List.getElem?_set_ne ne, List.getElem?_set_self hil, List.map_append]
      rfl
    · rw [List.getElem?_set_ne (Ne.symm j1), List.getElem?_set_ne (Ne.symm j2)]
theorem p_tree_of : BodyD false N_tree_of sp_tree_of t_tree_of := by
  rintro ds st kk ⟨zs, D0, rfl, hl, hz, h1, h2, J, h⟩
  rw [st_tree_of]
  simp only [t_tree_of]
  (walk_at "lw_dd0")
  refine ⟨zs, D0, rfl, hl, hz, by omega, by omega, J, fun t L jf => ?_⟩
  (walk_at "lw_dd0")
  have n1 : nodes t + 1 = endsN zs := by rw [jf.nd, items_len]
  obtain ⟨a, b, rfl⟩ : ∃ a b, t = .pr a b := by
    cases t with
    | leaf c => simp [nodes] at n1; omega
    | pr a b => exact ⟨a, b, rfl⟩
  refine ⟨fun m env s => ∃ (parts : List Pt) (rows : Web) (ip ir : Nat) (v3 v4 : Option D), env = [some (.tup (zs.map shD)), some (.obj ip), some (.obj ir), v3, v4] ∧ st.length ≤ ip ∧ st.length ≤ ir ∧ ip ≠ ir ∧ st.length ≤ s.length ∧ (∀ j, j < st.length → s[j]? = st[j]?) ∧ s[ip]? = some (parts.map ptD) ∧ s[ir]? = some (rows.map ldsD) ∧ TInv (.pr a b) parts rows ∧ m = nodes (.pr a b) - rows.length,
    ⟨_, [.pr a b], [], _, _, _, _, rfl, ?_, ?_, ?_, ?_, ?_, ?_, ?_, .start, rfl⟩, ?_⟩
  · simp
  · simp
  · simp
  · simp
  · intro j hj
    rw [List.append_assoc, List.append_assoc, List.getElem?_append_left hj]
  · rw [List.append_assoc, List.getElem?_append_right (Nat.le_refl _), Nat.sub_self]
    rfl
  · rw [List.getElem?_append_right (Nat.le_refl _), Nat.sub_self]
    rfl
  rintro m env s ⟨parts, rows, ip, ir, v3, v4, rfl, b1, b2, ne, b3, b4, hp, hr, I, rfl⟩
  have cn : rows.length ≤ nodes (.pr a b) := by have := I.cnt; omega
  have ln : parts.length ≤ nodes (.pr a b) := by
    have c := I.cnt
    have key : ∀ l : List Pt, (∀ t ∈ l, ∃ a b, t = .pr a b) → l.length ≤ (l.map nodes).sum := by
      intro l
      induction l with
      | nil => intro _; exact Nat.le_refl _
      | cons x r ih =>
        intro g
        have := ih fun y hy => g y (List.mem_cons_of_mem _ hy)
        obtain ⟨u, v, rfl⟩ := g x List.mem_cons_self
        rw [List.map_cons, List.sum_cons, List.length_cons, nodes]
        omega
    have := key (parts.drop rows.length) fun y hy => I.prs y (List.mem_of_mem_drop hy)
    rw [List.length_drop] at this
    have := I.le
    omega
  (try simp only [BEq.rfl, ↓e_v0, ↓e_vs, ↓e_c, ↓e_op, ↓e_test, ↓e_testK, ↓e_tru, ↓e_truL, ↓e_truT, ↓e_truB, ↓e_truI, ↓e_truN, ↓e_truS, ↓e_not, ↓e_or, ↓e_notK, ↓e_if, ↓e_nil, ↓e_cons, ↓e_tup, ↓e_lst, ↓e_new, ↓e_call, ↓e_drop, ↓e_ret, ↓e_pass, ↓e_ifS, ↓e_g0, ↓e_gs, ↓e_gnil, ↓e_gcons, ↓e_gtup, ↓e_asg, ↓e_par, ↓e_parK, ↓e_par3, ↓e_par3K, ↓e_chain, ↓e_chK, ↓e_no, ↓e_some, ↓e_someK, ↓e_cut, ↓e_b, ↓e_iter, ↓e_iterL, ↓e_iterT, ↓e_iterS, ↓e_rng1, ↓e_rng1K, ↓e_enum, ↓e_enumL, ↓e_enumT, ↓e_for, ↓e_lc, ↓e_lcNew, ↓e_meth, ↓e_isL, ↓e_sub, ↓e_isi, ↓e_yes, ↓e_bits, ↓e_bitsK, ↓e_addI, ↓e_addB, ↓e_addS, ↓e_addT, ↓e_addL, ↓e_subI, ↓e_mulI, ↓e_mulT, ↓e_mulL, ↓e_divI, ↓e_modI, ↓e_powI, ↓e_cmpI, ↓e_eq, ↓e_ne, ↓e_ixL, ↓e_ixKL, ↓e_ixT, ↓e_cutL, ↓e_cutKL, ↓e_cutT, ↓e_lenL, ↓e_lenKL, ↓e_lenT, ↓e_abs, ↓e_intI, ↓e_intB, ↓e_listNL, ↓e_listNT, ↓e_tupL, ↓e_tupT, ↓e_sum1T, ↓e_sum1L, ↓e_max1T, ↓e_max1L, ↓e_drI, ↓e_drB, ↓e_drS, ↓e_drN, ↓e_drL, ↓e_drT, ↓e_seq, ↓e_sortedL, ↓e_lr2, ↓e_lr2K, ↓e_unlL, ↓e_inL, ↓e_inKL, ↓e_inT, ↓e_inFlat, ↓e_drK, ↓e_addBI, ↓e_subBI, ↓e_subIB, ↓e_drG, ↓e_dnew, ↓e_dgetF, ↓e_dget2, ↓e_dsetdS, ↓e_dgPut, ↓e_lenSetZ, ↓e_lenSetZL, ↓e_join, ↓e_joinL, ↓e_cutS, ↓e_mulS, ↓e_andI, ↓e_srtTx, ↓e_srtTxL, ↓e_pairs0, ↓e_pairs1, ↓e_shrI, ↓e_dispN, ↓e_putN, e_kyI, e_kyS, Nat.reduceAdd, Nat.zero_add, List.length_cons, List.length_nil, List.length_map, Nat.reduceLeDiff, and_true, true_and, if_true, ite_true, decide_eq_true_eq, Bool.not_eq_true, Bool.false_eq_true, if_false, ite_false, ↓reduceIte, Int.reduceToNat, Int.reducePow, ne_eq, q_okI, q_okB, q_okN, q_okS, q_okL, q_okT, q_oks0, q_oks1, q_eqII, q_eqBB, q_eqSS, q_eqLL, q_eqTT, q_eqNN, q_eqNI, q_eqIN, q_eqs0, q_eqs1, Bool.true_and, Bool.and_true, beq_iff_eq, reduceCtorEq, wipeE, List.set_cons_zero, List.set_cons_succ, List.set_nil, Bool.not_true, Bool.not_false, List.getElem?_cons_zero, List.getElem?_cons_succ, e_lenO hp, e_lenO hr])
  by_cases hlt : rows.length < parts.length
  · rw [if_pos (by omega)]
    simp only [b2_tree_of]
    (walk_at "lw_dd0")
    have hp1 : (s ++ [[]])[ip]? = some (parts.map ptD) := by
      rw [List.getElem?_append_left (List.getElem?_eq_some_iff.mp hp).1]
      exact hp
    have hr1 : (s ++ [[]])[ir]? = some (rows.map ldsD) := by
      rw [List.getElem?_append_left (List.getElem?_eq_some_iff.mp hr).1]
      exact hr
    have nw : ip ≠ s.length := fun e => by
      have := (List.getElem?_eq_some_iff.mp hp).1
      omega
    have nr : ir ≠ s.length := fun e => by
      have := (List.getElem?_eq_some_iff.mp hr).1
      omega
    have hg : ∃ x y, parts[rows.length]? = some (.pr x y) := by
      obtain ⟨x, y, e⟩ := I.prs _ (List.getElem_mem hlt)
      exact ⟨x, y, by rw [List.getElem?_eq_getElem hlt, e]⟩
    obtain ⟨x, y, hg⟩ := hg
    rw [e_lenO hr1, List.length_map, e_ixO hp1]
    refine ⟨ptD (.pr x y), atI_nat (by rw [List.getElem?_map, hg]; rfl), ?_⟩
    show iterK _ (.tup [ptD x, ptD y]) _
    rw [e_iterT]
    intro _
    refine part_turn x _ parts [] ip s.length nw _ _ _ _ _ _ hp1 app_get (by omega) (by simp) fun u4 s1 q1 q2 q3 q4 => ?_
    refine part_turn y _ (parts ++ exT x) _ ip s.length nw _ _ _ _ _ _ q2 q3 (by
      have : (exT x).length ≤ 1 := by cases x <;> simp [exT]
      rw [List.length_append]
      omega) (by simp) fun u5 s2 r1 r2 r3 r4 => ?_
    have r5 : s2[ir]? = some (rows.map ldsD) := by rw [r4 ir (Ne.symm ne) nr, q4 ir (Ne.symm ne) nr]; exact hr1
    refine ⟨trivial, ?_⟩
    (try simp only [BEq.rfl, ↓e_v0, ↓e_vs, ↓e_c, ↓e_op, ↓e_test, ↓e_testK, ↓e_tru, ↓e_truL, ↓e_truT, ↓e_truB, ↓e_truI, ↓e_truN, ↓e_truS, ↓e_not, ↓e_or, ↓e_notK, ↓e_if, ↓e_nil, ↓e_cons, ↓e_tup, ↓e_lst, ↓e_new, ↓e_call, ↓e_drop, ↓e_ret, ↓e_pass, ↓e_ifS, ↓e_g0, ↓e_gs, ↓e_gnil, ↓e_gcons, ↓e_gtup, ↓e_asg, ↓e_par, ↓e_parK, ↓e_par3, ↓e_par3K, ↓e_chain, ↓e_chK, ↓e_no, ↓e_some, ↓e_someK, ↓e_cut, ↓e_b, ↓e_iter, ↓e_iterL, ↓e_iterT, ↓e_iterS, ↓e_rng1, ↓e_rng1K, ↓e_enum, ↓e_enumL, ↓e_enumT, ↓e_for, ↓e_lc, ↓e_lcNew, ↓e_meth, ↓e_isL, ↓e_sub, ↓e_isi, ↓e_yes, ↓e_bits, ↓e_bitsK, ↓e_addI, ↓e_addB, ↓e_addS, ↓e_addT, ↓e_addL, ↓e_subI, ↓e_mulI, ↓e_mulT, ↓e_mulL, ↓e_divI, ↓e_modI, ↓e_powI, ↓e_cmpI, ↓e_eq, ↓e_ne, ↓e_ixL, ↓e_ixKL, ↓e_ixT, ↓e_cutL, ↓e_cutKL, ↓e_cutT, ↓e_lenL, ↓e_lenKL, ↓e_lenT, ↓e_abs, ↓e_intI, ↓e_intB, ↓e_listNL, ↓e_listNT, ↓e_tupL, ↓e_tupT, ↓e_sum1T, ↓e_sum1L, ↓e_max1T, ↓e_max1L, ↓e_drI, ↓e_drB, ↓e_drS, ↓e_drN, ↓e_drL, ↓e_drT, ↓e_seq, ↓e_sortedL, ↓e_lr2, ↓e_lr2K, ↓e_unlL, ↓e_inL, ↓e_inKL, ↓e_inT, ↓e_inFlat, ↓e_drK, ↓e_addBI, ↓e_subBI, ↓e_subIB, ↓e_drG, ↓e_dnew, ↓e_dgetF, ↓e_dget2, ↓e_dsetdS, ↓e_dgPut, ↓e_lenSetZ, ↓e_lenSetZL, ↓e_join, ↓e_joinL, ↓e_cutS, ↓e_mulS, ↓e_andI, ↓e_srtTx, ↓e_srtTxL, ↓e_pairs0, ↓e_pairs1, ↓e_shrI, ↓e_dispN, ↓e_putN, e_kyI, e_kyS, Nat.reduceAdd, Nat.zero_add, List.length_cons, List.length_nil, List.length_map, Nat.reduceLeDiff, and_true, true_and, if_true, ite_true, decide_eq_true_eq, Bool.not_eq_true, Bool.false_eq_true, if_false, ite_false, ↓reduceIte, Int.reduceToNat, Int.reducePow, ne_eq, q_okI, q_okB, q_okN, q_okS, q_okL, q_okT, q_oks0, q_oks1, q_eqII, q_eqBB, q_eqSS, q_eqLL, q_eqTT, q_eqNN, q_eqNI, q_eqIN, q_eqs0, q_eqs1, Bool.true_and, Bool.and_true, beq_iff_eq, reduceCtorEq, wipeE, List.set_cons_zero, List.set_cons_succ, List.set_nil, Bool.not_true, Bool.not_false, List.getElem?_cons_zero, List.getElem?_cons_succ, e_tupO r3, e_app r5])
    have ls : s2.length = s.length + 1 := by rw [r1, q1, List.length_append]; rfl
    have old : ∀ j, j < st.length → s2[j]? = st[j]? := fun j hj => by
      rw [r4 j (by omega) (by omega), q4 j (by omega) (by omega), List.getElem?_append_left (by omega)]
      exact b4 j hj
    have lir : ir < s2.length := (List.getElem?_eq_some_iff.mp r5).1
    refine ⟨by simp [isLst, deref, r5], by omega, nodes (.pr a b) - (rows.length + 1), by omega, _, rows ++ [(ldT parts.length x, ldT (parts ++ exT x).length y)], _, _, _, _, rfl, b1, b2, ne, by rw [List.length_set]; omega, fun j hj => ?_, ?_, ?_, I.step hg, by rw [List.length_append]; rfl⟩
    · rw [List.getElem?_set_ne (by omega)]
      exact old j hj
    · rw [List.getElem?_set_ne (Ne.symm ne)]
      exact r2
    · rw [List.getElem?_set_self lir]
      simp [ldsD]
  · rw [if_neg (by omega)]
    have tr := I.fin (Nat.le_antisymm I.le (by omega)) (by simp [nodes]; omega) (by omega)
    obtain ⟨L2, rfl⟩ := sto_of b3 b4
    rw [e_tupO hr]
    exact h _ _ _ jf tr
/-! shares that are told: their tree gives them back -/
structure Told (D : Nat) (zs : List Sh) : Prop where
  nd : (zs.map (·.1)).Nodup
  odd : ∀ z ∈ zs, z.2.1 % 2 = 1
  lt : ∀ z ∈ zs, z.2.1 < 2 ^ z.2.2
  le : ∀ z ∈ zs, z.2.2 ≤ D
  sum : (zs.map fun z => z.2.1 * 2 ^ (D - z.2.2)).sum = 2 ^ D
  two : 2 ≤ zs.length
  deep : D ≤ 5
  nm : ∀ z ∈ zs, NameL z.1
theorem Told.perm {D : Nat} {zs ys : List Sh} (T : Told D zs) (p : ys.Perm zs) : Told D ys :=
  ⟨(p.map (·.1)).nodup_iff.mpr T.nd, fun z h => T.odd z (p.mem_iff.mp h), fun z h => T.lt z (p.mem_iff.mp h), fun z h => T.le z (p.mem_iff.mp h), by rw [(p.map _).sum_nat]; exact T.sum, by rw [p.length_eq]; exact T.two, T.deep, fun z h => T.nm z (p.mem_iff.mp h)⟩
theorem odd_first {t d : Nat} (h : t % 2 = 1) (h2 : t < 2 ^ d) : d ∈ dps t d := by
  have d0 : 0 < d := by
    rcases Nat.eq_zero_or_pos d with z | z
    · rw [z] at h2
      omega
    · exact z
  exact List.mem_map.mpr ⟨0, List.mem_filter.mpr ⟨List.mem_range.mpr d0, by simp [bitB, h]⟩, rfl⟩
theorem Told.jn {D : Nat} {zs : List Sh} (T : Told D zs) : Jn D (items zs) := by
  refine ⟨fun p hp => ?_, ?_⟩
  · obtain ⟨z, hz, hp⟩ := List.mem_flatMap.mp hp
    obtain ⟨e, he, rfl⟩ := List.mem_map.mp hp
    exact Nat.le_trans (dps_mem he).2 (T.le z hz)
  · rw [items_sum (fun p => 2 ^ (D - p.1)), ← T.sum]
    congr 1
    refine List.map_congr_left fun z hz => ?_
    unfold itemsOf
    rw [List.map_map]
    have := dps_sum (D := D) z.2.1 (T.le z hz)
    rw [Nat.mod_eq_of_lt (T.lt z hz)] at this
    exact this
theorem sum_ge {α : Type} (f : α → Nat) : ∀ (l : List α), (∀ z ∈ l, 1 ≤ f z) → l.length ≤ (l.map f).sum
  | [], _ => Nat.le_refl _
  | z :: r, h => by
    have := sum_ge f r fun y hy => h y (List.mem_cons_of_mem _ hy)
    have := h z List.mem_cons_self
    rw [List.length_cons, List.map_cons, List.sum_cons]
    omega
theorem Told.ends {D : Nat} {zs : List Sh} (T : Told D zs) : 2 ≤ endsN zs ∧ endsN zs ≤ 32 ∧ zs.length ≤ 32 := by
  have h1 := sum_ge (fun z : Sh => (dps z.2.1 z.2.2).length) zs fun z hz => List.length_pos_of_mem (odd_first (T.odd z hz) (T.lt z hz))
  have h2 := sum_ge (fun p : It => 2 ^ (D - p.1)) (items zs) fun p _ => Nat.two_pow_pos _
  rw [T.jn.kraft, items_len] at h2
  have := T.two
  have : 2 ^ D ≤ 2 ^ 5 := Nat.pow_le_pow_right (by decide) T.deep
  unfold endsN at h2 ⊢
  omega
theorem sum_pick (F : Sh → Nat) : ∀ {zs : List Sh} {z : Sh}, (zs.map (·.1)).Nodup → z ∈ zs → (∀ y, y.1 ≠ z.1 → F y = 0) → (zs.map F).sum = F z
  | [], _, _, h, _ => by cases h
  | y :: r, z, nd, h, h0 => by
    obtain ⟨n1, n2⟩ := List.nodup_cons.mp nd
    have zero : ∀ l : List Sh, (∀ x ∈ l, F x = 0) → (l.map F).sum = 0 := by
      intro l
      induction l with
      | nil => intro _; rfl
      | cons x l ih =>
        intro h
        rw [List.map_cons, List.sum_cons, h x List.mem_cons_self, ih fun x hx => h x (List.mem_cons_of_mem _ hx)]
    rw [List.map_cons, List.sum_cons]
    rcases List.mem_cons.mp h with e | h
    · subst e
      rw [zero r fun x hx => h0 x fun q => n1 (List.mem_map.mpr ⟨x, hx, q⟩), Nat.add_zero]
    · rw [sum_pick F n2 h h0, h0 y fun q => n1 (List.mem_map.mpr ⟨z, h, q.symm⟩), Nat.zero_add]
theorem Told.mass {D : Nat} {zs : List Sh} (T : Told D zs) {t : Pt} (J : JFin (items zs) t) {z : Sh} (hz : z ∈ zs) : z.2.2 ≤ nodes t ∧ LW.mass z.1 t (2 ^ nodes t) = z.2.1 * 2 ^ (nodes t - z.2.2) := by
  have hn := J.nd
  have dn : ∀ y ∈ zs, ∀ e ∈ dps y.2.1 y.2.2, e ≤ nodes t := fun y hy e he => by
    have := J.dp (e, .leaf y.1) (List.mem_flatMap.mpr ⟨y, hy, List.mem_map.mpr ⟨e, he, rfl⟩⟩)
    simp only at this
    omega
  have d1 := dn z hz _ (odd_first (T.odd z hz) (T.lt z hz))
  refine ⟨d1, ?_⟩
  rw [J.ms, items_sum (fun p => LW.mass z.1 p.2 (2 ^ nodes t / 2 ^ p.1)), sum_pick _ T.nd hz fun y hy => ?_]
  · have := dps_sum (D := nodes t) z.2.1 d1
    rw [Nat.mod_eq_of_lt (T.lt z hz)] at this
    rw [← this]
    unfold itemsOf
    rw [List.map_map]
    congr 1
    refine List.map_congr_left fun e he => ?_
    simp only [Function.comp, LW.mass, if_true]
    exact Nat.pow_div (dn z hz e he) (by decide)
  · unfold itemsOf
    rw [List.map_map]
    have : ((dps y.2.1 y.2.2).map ((fun p : It => LW.mass z.1 p.2 (2 ^ nodes t / 2 ^ p.1)) ∘ fun e => (e, Pt.leaf y.1))) = (dps y.2.1 y.2.2).map fun _ => 0 := List.map_congr_left fun e _ => by
      simp only [Function.comp, LW.mass]
      rw [if_neg hy]
    rw [this]
    generalize dps y.2.1 y.2.2 = l
    induction l with
    | nil => rfl
    | cons _ l ih => rw [List.map_cons, List.sum_cons, ih]
theorem odd_gcd2 {t k : Nat} (h : t % 2 = 1) : Int.gcd (t : Nat) ((2 ^ k : Nat) : Int) = 1 := by
  show Nat.gcd t (2 ^ k) = 1
  have c2 : Nat.Coprime t 2 := by
    have d := Nat.gcd_dvd_right t 2
    have l := Nat.le_of_dvd (by decide) d
    have p : 0 < Nat.gcd t 2 := Nat.gcd_pos_of_pos_right _ (by decide)
    rcases Nat.lt_or_ge (Nat.gcd t 2) 2 with z | z
    · show Nat.gcd t 2 = 1
      omega
    · exfalso
      have e : Nat.gcd t 2 = 2 := by omega
      have := Nat.gcd_dvd_left t 2
      rw [e] at this
      omega
  exact Nat.Coprime.pow_right k c2
theorem fr_odd {t d n : Nat} (h : t % 2 = 1) (hd : d ≤ n) : frI ((t * 2 ^ (n - d) : Nat) : Int) ((2 ^ n : Nat) : Int) = .tup [.int (t : Nat), .int ((2 ^ d : Nat) : Int)] := by
  rw [fr_eq (t2 := (t : Nat)) (b2 := ((2 ^ d : Nat) : Int)) (by have := Nat.two_pow_pos n; omega) (by have := Nat.two_pow_pos d; omega) (by
    rw [← Int.natCast_mul, ← Int.natCast_mul, Nat.mul_assoc, ← Nat.pow_add, show n - d + d = n by omega])]
  unfold frI
  rw [odd_gcd2 h]
  simp
/-- what the tree of told shares has at its exits -/
structure Gives (w : Web) (zs : List Sh) : Prop where
  perm : ((outT (ledT w (2 ^ w.length) 0)).map (·.1)).Perm (zs.map fun z => S z.1)
  val : ∀ z ∈ zs, z.2.2 ≤ w.length ∧ look (outT (ledT w (2 ^ w.length) 0)) (S z.1) = some (z.2.1 * 2 ^ (w.length - z.2.2))
theorem Told.gives {D : Nat} {zs : List Sh} (T : Told D zs) {t : Pt} {w : Web} (J : JFin (items zs) t) (W : TreeOf w t) : Gives w zs := by
  have I : LedI w (2 ^ w.length) w.length (ledT w (2 ^ w.length) 0) := ledT_I W.nt (Nat.le_refl _) (Nat.zero_le _) (Nat.dvd_refl _) (Nat.dvd_zero _)
  have val : ∀ z ∈ zs, z.2.2 ≤ w.length ∧ look (outT (ledT w (2 ^ w.length) 0)) (S z.1) = some (z.2.1 * 2 ^ (w.length - z.2.2)) := fun z hz => by
    obtain ⟨d1, m⟩ := T.mass J hz
    have f := share_flow W.nt W.ledw z.1
    rw [W.flow, W.len, m] at f
    rw [look_outT, W.len]
    refine ⟨d1, ?_⟩
    have pos : 0 < z.2.1 * 2 ^ (nodes t - z.2.2) := Nat.mul_pos (by have := T.odd z hz; omega) (Nat.two_pow_pos _)
    cases e : look (ledT w (2 ^ nodes t) 0) (.out z.1) with
    | none => rw [e] at f; simp at f; omega
    | some x => rw [e] at f; simp at f; rw [f]
  refine ⟨nd_perm (outT_nd I.nd) ?_ fun y => ⟨fun h => ?_, fun h => ?_⟩, val⟩
  · have := T.nd
    rw [show (zs.map fun z => S z.1) = (zs.map (·.1)).map S by rw [List.map_map]; rfl]
    exact List.Pairwise.map S (fun a b h e => h (S_inj e)) this
  · rw [led_keys I, web_outs] at h
    obtain ⟨cs, k, s, rfl, h⟩ := h
    obtain ⟨q, hq, hc⟩ := J.lv cs (W.out k s cs h)
    obtain ⟨z, hz, hq⟩ := List.mem_flatMap.mp hq
    obtain ⟨e, _, rfl⟩ := List.mem_map.mp hq
    rw [List.mem_singleton.mp hc]
    exact List.mem_map.mpr ⟨z, hz, rfl⟩
  · obtain ⟨z, hz, rfl⟩ := List.mem_map.mp h
    rw [outT_mem]
    refine ⟨z.1, rfl, ?_⟩
    rw [← look_outT, (val z hz).2]
    rfl
theorem Told.okd {D : Nat} {zs : List Sh} (T : Told D zs) : okDs 59 (zs.map shD) = true := okDs_of fun d hd => by
  obtain ⟨z, hz, rfl⟩ := List.mem_map.mp hd
  have := S_ok (cs := z.1) fun c hc => by have := (T.nm z hz).all c hc; unfold Lt at this; omega
  simp [shD, okD, okDs, this]
theorem mem_sorted_names {zs : List Sh} (h : sortedS (zs.map fun z => S z.1) = true) {ys : List Str} (p : ys.Perm (zs.map fun z => S z.1)) (s : sortedS ys = true) : ys = zs.map fun z => S z.1 := sortedS_one s h p
def b1__law_twos : DS :=
    (dAsg (dOp mulD (dC (.int 2)) (dVar 1)) (dgName 1))
def t__law_twos : DS :=
    (dSeq (dAsg (dC (.int 1)) (dgName 1))
    (dSeq (dFor (dRng1 (dVar 0)) (dgName 2) (b1__law_twos))
    (dRet (dVar 1))))
theorem st__law_twos (a0 : D) : startD N__law_twos [a0] = [some a0, none, none] := rfl
def sp__law_twos : SpD := fun ds st kk => ∃ n : Nat, ds = [.int (n : Nat)] ∧ n ≤ 1000 ∧ kk (.int (2 ^ n : Nat)) st
theorem len__law_twos (ds : List D) (st : Sto) (kk : DK) (h : sp__law_twos ds st kk) : ds.length = 1 := by
  obtain ⟨_, rfl, _⟩ := h
  rfl
theorem p__law_twos : BodyD false N__law_twos sp__law_twos t__law_twos := by
  rintro ds st kk ⟨n, rfl, hn, h⟩
  rw [st__law_twos]
  simp only [t__law_twos]
  (walk_at "lw_dd0")
  refine ⟨by omega, ?_⟩
  rw [Int.toNat_natCast]
  refine go_range n (fun j env s => s = st ∧ ∃ v2 : Option D, env = [some (.int (n : Nat)), some (.int (2 ^ j : Nat)), v2]) ?_ ?_ _ _ ⟨rfl, none, rfl⟩
  · rintro j _ _ nx hj ⟨rfl, v2, rfl⟩ q
    refine ⟨trivial, ?_⟩
    (walk_at "lw_dd")
    simp only [b1__law_twos]
    (walk_at "lw_dd")
    exact ⟨mul2 _, q _ _ ⟨rfl, _, by rw [Nat.pow_succ, Nat.mul_comm, Int.natCast_mul]; rfl⟩⟩
  · rintro _ _ ⟨rfl, v2, rfl⟩
    refine ⟨trivial, ?_⟩
    (walk_at "lw_dd")
    exact h
def t__law_tape : DS :=
    (dSeq (dAsg (dIf (dTest (dOp (cmpI fun i j => decide (i < j)) (dVar 1) (dB bLen (dCons (dVar 0) dNil)))) (dOp ixD (dVar 0) (dVar 1)) (dC (.int 0))) (dgName 2))
    (dRet (dNew (dCons (dOp mulD (dB bAbs (dCons (dVar 2) dNil)) (dB bInt (dCons (dOp (cmpI fun i j => decide (j ≤ i)) (dB bAbs (dCons (dVar 2) dNil)) (dOp powD (dC (.int 10)) (dC (.int 18)))) dNil))) (dCons (dOp addD (dOp addD (dOp modD (dVar 2) (dC (.int 2305843009213693951))) (dOp mulD (dC (.int 39373)) (dVar 1))) (dC (.int 17))) (dCons (dC (.int 0)) dNil))))))
theorem st__law_tape (a0 a1 : D) : startD N__law_tape [a0, a1] = [some a0, some a1, none] := rfl
/-- a tape: n draws at most so far -/
def sp__law_tape : SpD := fun ds st kk => ∃ (cs : List Int) (k : Nat), ds = [.lst (cs.map D.int), .int k] ∧ k ≤ 1000 ∧ ∀ xs, Tape 0 xs → kk (.obj st.length) (st ++ [xs])
theorem len__law_tape (ds : List D) (st : Sto) (kk : DK) (h : sp__law_tape ds st kk) : ds.length = 2 := by
  obtain ⟨cs, k, rfl, _⟩ := h
  rfl
theorem atI_ints {cs : List Int} {k : Nat} (h : k < cs.length) : atI (cs.map D.int) (k : Int) = some (.int cs[k]) := by
  refine atI_nat ?_
  rw [List.getElem?_map, List.getElem?_eq_getElem h]
  rfl
theorem p__law_tape : BodyD false N__law_tape sp__law_tape t__law_tape := by
  rintro ds st kk ⟨cs, k, rfl, hk, h⟩
  rw [st__law_tape]
  simp only [t__law_tape]
  (walk_at "lw_dd")
  have fin : ∀ c : Int, PowOk 10 18 → kk (.obj st.length) (st ++ [[.int ((if c < 0 then -c else c) * (if (10 : Int) ^ 18 ≤ (if c < 0 then -c else c) then 1 else 0)), .int (c % 2305843009213693951 + 39373 * (k : Int) + 17), .int 0]]) := fun c _ => by
    refine h _ ⟨_, _, _, rfl, ?_, ?_, Int.le_refl _, by omega⟩
    · have := Int.emod_nonneg c (b := 2305843009213693951) (by decide)
      omega
    · have := Int.emod_lt_of_pos c (b := 2305843009213693951) (by decide)
      omega
  have pw : PowOk 10 18 := ⟨by decide, by decide, by decide⟩
  have m1 : MulOk 39373 (k : Int) := mulc _ _ (by decide) (by decide)
  split
  · rename_i hlt
    have hlt' : k < cs.length := by omega
    refine ⟨_, atI_ints hlt', ?_⟩
    (walk_at "lw_dd")
    exact ⟨pw, mulb _ _, by decide, m1, fin _ pw⟩
  · exact ⟨pw, mulb _ _, by decide, m1, fin 0 pw⟩
def t__law_draw : DS :=
    (dSeq (dIfS (dTest (dOp (cmpI fun i j => decide (j < i)) (dOp ixD (dVar 0) (dC (.int 0))) (dC (.int 0)))) (dSeq (dAsg (dOp modD (dOp ixD (dVar 0) (dC (.int 0))) (dVar 1)) (dgName 2))
    (dSeq (dAsg (dOp divD (dOp ixD (dVar 0) (dC (.int 0))) (dVar 1)) (dgSub (dVar 0) (dC (.int 0))))
    (dRet (dVar 2)))) dPass)
    (dSeq (dAsg (dOp addD (dOp ixD (dVar 0) (dC (.int 2))) (dC (.int 1))) (dgSub (dVar 0) (dC (.int 2))))
    (dSeq (dAsg (dOp modD (dOp powD (dOp addD (dOp ixD (dVar 0) (dC (.int 1))) (dOp mulD (dC (.int 39373)) (dOp ixD (dVar 0) (dC (.int 2))))) (dC (.int 5))) (dC (.int 2147483647))) (dgName 3))
    (dSeq (dAsg (dOp modD (dOp mulD (dOp addD (dVar 3) (dOp ixD (dVar 0) (dC (.int 2)))) (dOp addD (dOp addD (dOp modD (dVar 3) (dC (.int 40009))) (dC (.int 7))) (dOp ixD (dVar 0) (dC (.int 2))))) (dC (.int 2147483629))) (dgName 4))
    (dSeq (dAsg (dOp modD (dOp addD (dOp addD (dOp divD (dOp ixD (dVar 0) (dC (.int 1))) (dC (.int 2147483647))) (dOp mulD (dVar 4) (dC (.int 40009)))) (dOp ixD (dVar 0) (dC (.int 2)))) (dC (.int 2305843009213693951))) (dgName 5))
    (dRet (dOp modD (dOp divD (dOp modD (dOp addD (dOp addD (dOp mulD (dVar 4) (dC (.int 48271))) (dOp mulD (dVar 5) (dC (.int 39373)))) (dVar 3)) (dC (.int 2305843009213693921))) (dC (.int 64))) (dVar 1))))))))
theorem st__law_draw (a0 a1 : D) : startD N__law_draw [a0, a1] = [some a0, some a1, none, none, none, none] := rfl
def sp__law_draw : SpD := fun ds st kk => ∃ (i n : Nat) (m : Int), ds = [.obj i, .int m] ∧ Tp i n st ∧ n < 1000000000000 ∧ Big m ∧ ∀ (r : Int) xs, 0 ≤ r → r < m → Tp i (n + 1) (st.set i xs) → kk (.int r) (st.set i xs)
theorem len__law_draw (ds : List D) (st : Sto) (kk : DK) (h : sp__law_draw ds st kk) : ds.length = 2 := by
  obtain ⟨i, n, m, rfl, _⟩ := h
  rfl
theorem p__law_draw : BodyD false N__law_draw sp__law_draw t__law_draw := by
  rintro ds st kk ⟨i, n, m, rfl, ⟨xs, hx, a, b, c, rfl, h1, h2, h3, h4⟩, hn, hm, h⟩
  have hi : i < st.length := (List.getElem?_eq_some_iff.mp hx).1
  have hs : ∀ ys : List D, (st.set i ys)[i]? = some ys := fun ys => List.getElem?_set_self hi
  have p5 : PowOk (b + 39373 * (c + 1)) 5 := pow5 (by omega) (by omega)
  rw [st__law_draw]
  simp only [t__law_draw]
  (try simp only [BEq.rfl, ↓e_v0, ↓e_vs, ↓e_c, ↓e_op, ↓e_test, ↓e_testK, ↓e_tru, ↓e_truL, ↓e_truT, ↓e_truB, ↓e_truI, ↓e_truN, ↓e_truS, ↓e_not, ↓e_or, ↓e_notK, ↓e_if, ↓e_nil, ↓e_cons, ↓e_tup, ↓e_lst, ↓e_new, ↓e_call, ↓e_drop, ↓e_ret, ↓e_pass, ↓e_ifS, ↓e_g0, ↓e_gs, ↓e_gnil, ↓e_gcons, ↓e_gtup, ↓e_asg, ↓e_par, ↓e_parK, ↓e_par3, ↓e_par3K, ↓e_chain, ↓e_chK, ↓e_no, ↓e_some, ↓e_someK, ↓e_cut, ↓e_b, ↓e_iter, ↓e_iterL, ↓e_iterT, ↓e_iterS, ↓e_rng1, ↓e_rng1K, ↓e_enum, ↓e_enumL, ↓e_enumT, ↓e_for, ↓e_lc, ↓e_lcNew, ↓e_forN, ↓e_forC, ↓e_lcN, ↓e_lcC, ↓e_srcN, ↓e_srcC, ↓e_meth, ↓e_isL, ↓e_sub, ↓e_isi, ↓e_yes, ↓e_bits, ↓e_bitsK, ↓e_addI, ↓e_addB, ↓e_addS, ↓e_addT, ↓e_addL, ↓e_subI, ↓e_mulI, ↓e_mulT, ↓e_mulL, ↓e_divI, ↓e_modI, ↓e_powI, ↓e_cmpI, ↓e_eq, ↓e_ne, ↓e_ixL, ↓e_ixKL, ↓e_ixT, ↓e_cutL, ↓e_cutKL, ↓e_cutT, ↓e_lenL, ↓e_lenKL, ↓e_lenT, ↓e_abs, ↓e_intI, ↓e_intB, ↓e_listNL, ↓e_listNT, ↓e_tupL, ↓e_tupT, ↓e_sum1T, ↓e_sum1L, ↓e_max1T, ↓e_max1L, ↓e_drI, ↓e_drB, ↓e_drS, ↓e_drN, ↓e_drL, ↓e_drT, ↓e_seq, ↓e_sortedL, ↓e_lr2, ↓e_lr2K, ↓e_unlL, ↓e_inL, ↓e_inKL, ↓e_inT, ↓e_inFlat, ↓e_drK, ↓e_addBI, ↓e_subBI, ↓e_subIB, ↓e_drG, ↓e_dnew, ↓e_dgetF, ↓e_dget2, ↓e_dsetdS, ↓e_dgPut, ↓e_lenSetZ, ↓e_lenSetZL, ↓e_join, ↓e_joinL, ↓e_cutS, ↓e_mulS, ↓e_andI, ↓e_srtTx, ↓e_srtTxL, ↓e_pairs0, ↓e_pairs1, ↓e_shrI, ↓e_dispN, ↓e_putN, e_kyI, e_kyS, Nat.reduceAdd, Nat.zero_add, List.length_cons, List.length_nil, List.length_map, Nat.reduceLeDiff, and_true, true_and, if_true, ite_true, decide_eq_true_eq, Bool.not_eq_true, Bool.false_eq_true, if_false, ite_false, ↓reduceIte, Int.reduceToNat, Int.reducePow, ne_eq, q_okI, q_okB, q_okN, q_okS, q_okL, q_okT, q_oks0, q_oks1, q_eqII, q_eqBB, q_eqSS, q_eqLL, q_eqTT, q_eqNN, q_eqNI, q_eqIN, q_eqs0, q_eqs1, Bool.true_and, Bool.and_true, beq_iff_eq, reduceCtorEq, wipeE, List.set_cons_zero, List.set_cons_succ, List.set_nil, Bool.not_true, Bool.not_false, List.getElem?_cons_zero, List.getElem?_cons_succ, e_ixO hx, at0, at1, at2, Option.some.injEq, exists_eq_left', e_setO hx])
  have tp : ∀ a' : Int, Tp i (n + 1) (st.set i [.int a', .int b, .int c]) := fun a' => ⟨_, hs _, _, _, _, rfl, h1, h2, h3, by omega⟩
  have tp2 : Tp i (n + 1) (st.set i [.int a, .int b, .int (c + 1)]) := ⟨_, hs _, _, _, _, rfl, h1, h2, by omega, by omega⟩
  split
  · exact ⟨by have := hm.1; omega, hm.div, 0, rfl, h _ _ (Int.emod_nonneg _ (by have := hm.1; omega)) (Int.emod_lt_of_pos _ (by have := hm.1; omega)) (tp _)⟩
  · refine ⟨2, rfl, ?_⟩
    (try simp only [BEq.rfl, ↓e_v0, ↓e_vs, ↓e_c, ↓e_op, ↓e_test, ↓e_testK, ↓e_tru, ↓e_truL, ↓e_truT, ↓e_truB, ↓e_truI, ↓e_truN, ↓e_truS, ↓e_not, ↓e_or, ↓e_notK, ↓e_if, ↓e_nil, ↓e_cons, ↓e_tup, ↓e_lst, ↓e_new, ↓e_call, ↓e_drop, ↓e_ret, ↓e_pass, ↓e_ifS, ↓e_g0, ↓e_gs, ↓e_gnil, ↓e_gcons, ↓e_gtup, ↓e_asg, ↓e_par, ↓e_parK, ↓e_par3, ↓e_par3K, ↓e_chain, ↓e_chK, ↓e_no, ↓e_some, ↓e_someK, ↓e_cut, ↓e_b, ↓e_iter, ↓e_iterL, ↓e_iterT, ↓e_iterS, ↓e_rng1, ↓e_rng1K, ↓e_enum, ↓e_enumL, ↓e_enumT, ↓e_for, ↓e_lc, ↓e_lcNew, ↓e_forN, ↓e_forC, ↓e_lcN, ↓e_lcC, ↓e_srcN, ↓e_srcC, ↓e_meth, ↓e_isL, ↓e_sub, ↓e_isi, ↓e_yes, ↓e_bits, ↓e_bitsK, ↓e_addI, ↓e_addB, ↓e_addS, ↓e_addT, ↓e_addL, ↓e_subI, ↓e_mulI, ↓e_mulT, ↓e_mulL, ↓e_divI, ↓e_modI, ↓e_powI, ↓e_cmpI, ↓e_eq, ↓e_ne, ↓e_ixL, ↓e_ixKL, ↓e_ixT, ↓e_cutL, ↓e_cutKL, ↓e_cutT, ↓e_lenL, ↓e_lenKL, ↓e_lenT, ↓e_abs, ↓e_intI, ↓e_intB, ↓e_listNL, ↓e_listNT, ↓e_tupL, ↓e_tupT, ↓e_sum1T, ↓e_sum1L, ↓e_max1T, ↓e_max1L, ↓e_drI, ↓e_drB, ↓e_drS, ↓e_drN, ↓e_drL, ↓e_drT, ↓e_seq, ↓e_sortedL, ↓e_lr2, ↓e_lr2K, ↓e_unlL, ↓e_inL, ↓e_inKL, ↓e_inT, ↓e_inFlat, ↓e_drK, ↓e_addBI, ↓e_subBI, ↓e_subIB, ↓e_drG, ↓e_dnew, ↓e_dgetF, ↓e_dget2, ↓e_dsetdS, ↓e_dgPut, ↓e_lenSetZ, ↓e_lenSetZL, ↓e_join, ↓e_joinL, ↓e_cutS, ↓e_mulS, ↓e_andI, ↓e_srtTx, ↓e_srtTxL, ↓e_pairs0, ↓e_pairs1, ↓e_shrI, ↓e_dispN, ↓e_putN, e_kyI, e_kyS, Nat.reduceAdd, Nat.zero_add, List.length_cons, List.length_nil, List.length_map, Nat.reduceLeDiff, and_true, true_and, if_true, ite_true, decide_eq_true_eq, Bool.not_eq_true, Bool.false_eq_true, if_false, ite_false, ↓reduceIte, Int.reduceToNat, Int.reducePow, ne_eq, q_okI, q_okB, q_okN, q_okS, q_okL, q_okT, q_oks0, q_oks1, q_eqII, q_eqBB, q_eqSS, q_eqLL, q_eqTT, q_eqNN, q_eqNI, q_eqIN, q_eqs0, q_eqs1, Bool.true_and, Bool.and_true, beq_iff_eq, reduceCtorEq, wipeE, List.set_cons_zero, List.set_cons_succ, List.set_nil, Bool.not_true, Bool.not_false, List.getElem?_cons_zero, List.getElem?_cons_succ, List.set_cons_succ, List.set_cons_zero, e_ixO (hs _), at0, at1, at2, Option.some.injEq, exists_eq_left'])
    refine ⟨mulc _ _ (by decide) (by decide), p5, by decide, ?_⟩
    generalize hA : (b + 39373 * (c + 1)) ^ 5 % 2147483647 = A
    have hA0 : 0 ≤ A := by rw [← hA]; exact Int.emod_nonneg _ (by decide)
    have hA1 : A < 2147483647 := by rw [← hA]; exact Int.emod_lt_of_pos _ (by decide)
    (try simp only [BEq.rfl, ↓e_v0, ↓e_vs, ↓e_c, ↓e_op, ↓e_test, ↓e_testK, ↓e_tru, ↓e_truL, ↓e_truT, ↓e_truB, ↓e_truI, ↓e_truN, ↓e_truS, ↓e_not, ↓e_or, ↓e_notK, ↓e_if, ↓e_nil, ↓e_cons, ↓e_tup, ↓e_lst, ↓e_new, ↓e_call, ↓e_drop, ↓e_ret, ↓e_pass, ↓e_ifS, ↓e_g0, ↓e_gs, ↓e_gnil, ↓e_gcons, ↓e_gtup, ↓e_asg, ↓e_par, ↓e_parK, ↓e_par3, ↓e_par3K, ↓e_chain, ↓e_chK, ↓e_no, ↓e_some, ↓e_someK, ↓e_cut, ↓e_b, ↓e_iter, ↓e_iterL, ↓e_iterT, ↓e_iterS, ↓e_rng1, ↓e_rng1K, ↓e_enum, ↓e_enumL, ↓e_enumT, ↓e_for, ↓e_lc, ↓e_lcNew, ↓e_forN, ↓e_forC, ↓e_lcN, ↓e_lcC, ↓e_srcN, ↓e_srcC, ↓e_meth, ↓e_isL, ↓e_sub, ↓e_isi, ↓e_yes, ↓e_bits, ↓e_bitsK, ↓e_addI, ↓e_addB, ↓e_addS, ↓e_addT, ↓e_addL, ↓e_subI, ↓e_mulI, ↓e_mulT, ↓e_mulL, ↓e_divI, ↓e_modI, ↓e_powI, ↓e_cmpI, ↓e_eq, ↓e_ne, ↓e_ixL, ↓e_ixKL, ↓e_ixT, ↓e_cutL, ↓e_cutKL, ↓e_cutT, ↓e_lenL, ↓e_lenKL, ↓e_lenT, ↓e_abs, ↓e_intI, ↓e_intB, ↓e_listNL, ↓e_listNT, ↓e_tupL, ↓e_tupT, ↓e_sum1T, ↓e_sum1L, ↓e_max1T, ↓e_max1L, ↓e_drI, ↓e_drB, ↓e_drS, ↓e_drN, ↓e_drL, ↓e_drT, ↓e_seq, ↓e_sortedL, ↓e_lr2, ↓e_lr2K, ↓e_unlL, ↓e_inL, ↓e_inKL, ↓e_inT, ↓e_inFlat, ↓e_drK, ↓e_addBI, ↓e_subBI, ↓e_subIB, ↓e_drG, ↓e_dnew, ↓e_dgetF, ↓e_dget2, ↓e_dsetdS, ↓e_dgPut, ↓e_lenSetZ, ↓e_lenSetZL, ↓e_join, ↓e_joinL, ↓e_cutS, ↓e_mulS, ↓e_andI, ↓e_srtTx, ↓e_srtTxL, ↓e_pairs0, ↓e_pairs1, ↓e_shrI, ↓e_dispN, ↓e_putN, e_kyI, e_kyS, Nat.reduceAdd, Nat.zero_add, List.length_cons, List.length_nil, List.length_map, Nat.reduceLeDiff, and_true, true_and, if_true, ite_true, decide_eq_true_eq, Bool.not_eq_true, Bool.false_eq_true, if_false, ite_false, ↓reduceIte, Int.reduceToNat, Int.reducePow, ne_eq, q_okI, q_okB, q_okN, q_okS, q_okL, q_okT, q_oks0, q_oks1, q_eqII, q_eqBB, q_eqSS, q_eqLL, q_eqTT, q_eqNN, q_eqNI, q_eqIN, q_eqs0, q_eqs1, Bool.true_and, Bool.and_true, beq_iff_eq, reduceCtorEq, wipeE, List.set_cons_zero, List.set_cons_succ, List.set_nil, Bool.not_true, Bool.not_false, List.getElem?_cons_zero, List.getElem?_cons_succ, e_ixO (hs _), at0, at1, at2, Option.some.injEq, exists_eq_left'])
    refine ⟨by decide, mulc _ _ (by omega) (by omega), by decide, ?_⟩
    generalize hB : (A + (c + 1)) * (A % 40009 + 7 + (c + 1)) % 2147483629 = B
    have hB0 : 0 ≤ B := by rw [← hB]; exact Int.emod_nonneg _ (by decide)
    have hB1 : B < 2147483629 := by rw [← hB]; exact Int.emod_lt_of_pos _ (by decide)
    (try simp only [BEq.rfl, ↓e_v0, ↓e_vs, ↓e_c, ↓e_op, ↓e_test, ↓e_testK, ↓e_tru, ↓e_truL, ↓e_truT, ↓e_truB, ↓e_truI, ↓e_truN, ↓e_truS, ↓e_not, ↓e_or, ↓e_notK, ↓e_if, ↓e_nil, ↓e_cons, ↓e_tup, ↓e_lst, ↓e_new, ↓e_call, ↓e_drop, ↓e_ret, ↓e_pass, ↓e_ifS, ↓e_g0, ↓e_gs, ↓e_gnil, ↓e_gcons, ↓e_gtup, ↓e_asg, ↓e_par, ↓e_parK, ↓e_par3, ↓e_par3K, ↓e_chain, ↓e_chK, ↓e_no, ↓e_some, ↓e_someK, ↓e_cut, ↓e_b, ↓e_iter, ↓e_iterL, ↓e_iterT, ↓e_iterS, ↓e_rng1, ↓e_rng1K, ↓e_enum, ↓e_enumL, ↓e_enumT, ↓e_for, ↓e_lc, ↓e_lcNew, ↓e_forN, ↓e_forC, ↓e_lcN, ↓e_lcC, ↓e_srcN, ↓e_srcC, ↓e_meth, ↓e_isL, ↓e_sub, ↓e_isi, ↓e_yes, ↓e_bits, ↓e_bitsK, ↓e_addI, ↓e_addB, ↓e_addS, ↓e_addT, ↓e_addL, ↓e_subI, ↓e_mulI, ↓e_mulT, ↓e_mulL, ↓e_divI, ↓e_modI, ↓e_powI, ↓e_cmpI, ↓e_eq, ↓e_ne, ↓e_ixL, ↓e_ixKL, ↓e_ixT, ↓e_cutL, ↓e_cutKL, ↓e_cutT, ↓e_lenL, ↓e_lenKL, ↓e_lenT, ↓e_abs, ↓e_intI, ↓e_intB, ↓e_listNL, ↓e_listNT, ↓e_tupL, ↓e_tupT, ↓e_sum1T, ↓e_sum1L, ↓e_max1T, ↓e_max1L, ↓e_drI, ↓e_drB, ↓e_drS, ↓e_drN, ↓e_drL, ↓e_drT, ↓e_seq, ↓e_sortedL, ↓e_lr2, ↓e_lr2K, ↓e_unlL, ↓e_inL, ↓e_inKL, ↓e_inT, ↓e_inFlat, ↓e_drK, ↓e_addBI, ↓e_subBI, ↓e_subIB, ↓e_drG, ↓e_dnew, ↓e_dgetF, ↓e_dget2, ↓e_dsetdS, ↓e_dgPut, ↓e_lenSetZ, ↓e_lenSetZL, ↓e_join, ↓e_joinL, ↓e_cutS, ↓e_mulS, ↓e_andI, ↓e_srtTx, ↓e_srtTxL, ↓e_pairs0, ↓e_pairs1, ↓e_shrI, ↓e_dispN, ↓e_putN, e_kyI, e_kyS, Nat.reduceAdd, Nat.zero_add, List.length_cons, List.length_nil, List.length_map, Nat.reduceLeDiff, and_true, true_and, if_true, ite_true, decide_eq_true_eq, Bool.not_eq_true, Bool.false_eq_true, if_false, ite_false, ↓reduceIte, Int.reduceToNat, Int.reducePow, ne_eq, q_okI, q_okB, q_okN, q_okS, q_okL, q_okT, q_oks0, q_oks1, q_eqII, q_eqBB, q_eqSS, q_eqLL, q_eqTT, q_eqNN, q_eqNI, q_eqIN, q_eqs0, q_eqs1, Bool.true_and, Bool.and_true, beq_iff_eq, reduceCtorEq, wipeE, List.set_cons_zero, List.set_cons_succ, List.set_nil, Bool.not_true, Bool.not_false, List.getElem?_cons_zero, List.getElem?_cons_succ, e_ixO (hs _), at0, at1, at2, Option.some.injEq, exists_eq_left'])
    refine ⟨div_small (by decide) (by decide), mulc _ _ (by omega) (by omega), by decide, ?_⟩
    generalize hC : (b / 2147483647 + B * 40009 + (c + 1)) % 2305843009213693951 = C
    have hC0 : 0 ≤ C := by rw [← hC]; exact Int.emod_nonneg _ (by decide)
    have hC1 : C < 2305843009213693951 := by rw [← hC]; exact Int.emod_lt_of_pos _ (by decide)
    (try simp only [BEq.rfl, ↓e_v0, ↓e_vs, ↓e_c, ↓e_op, ↓e_test, ↓e_testK, ↓e_tru, ↓e_truL, ↓e_truT, ↓e_truB, ↓e_truI, ↓e_truN, ↓e_truS, ↓e_not, ↓e_or, ↓e_notK, ↓e_if, ↓e_nil, ↓e_cons, ↓e_tup, ↓e_lst, ↓e_new, ↓e_call, ↓e_drop, ↓e_ret, ↓e_pass, ↓e_ifS, ↓e_g0, ↓e_gs, ↓e_gnil, ↓e_gcons, ↓e_gtup, ↓e_asg, ↓e_par, ↓e_parK, ↓e_par3, ↓e_par3K, ↓e_chain, ↓e_chK, ↓e_no, ↓e_some, ↓e_someK, ↓e_cut, ↓e_b, ↓e_iter, ↓e_iterL, ↓e_iterT, ↓e_iterS, ↓e_rng1, ↓e_rng1K, ↓e_enum, ↓e_enumL, ↓e_enumT, ↓e_for, ↓e_lc, ↓e_lcNew, ↓e_forN, ↓e_forC, ↓e_lcN, ↓e_lcC, ↓e_srcN, ↓e_srcC, ↓e_meth, ↓e_isL, ↓e_sub, ↓e_isi, ↓e_yes, ↓e_bits, ↓e_bitsK, ↓e_addI, ↓e_addB, ↓e_addS, ↓e_addT, ↓e_addL, ↓e_subI, ↓e_mulI, ↓e_mulT, ↓e_mulL, ↓e_divI, ↓e_modI, ↓e_powI, ↓e_cmpI, ↓e_eq, ↓e_ne, ↓e_ixL, ↓e_ixKL, ↓e_ixT, ↓e_cutL, ↓e_cutKL, ↓e_cutT, ↓e_lenL, ↓e_lenKL, ↓e_lenT, ↓e_abs, ↓e_intI, ↓e_intB, ↓e_listNL, ↓e_listNT, ↓e_tupL, ↓e_tupT, ↓e_sum1T, ↓e_sum1L, ↓e_max1T, ↓e_max1L, ↓e_drI, ↓e_drB, ↓e_drS, ↓e_drN, ↓e_drL, ↓e_drT, ↓e_seq, ↓e_sortedL, ↓e_lr2, ↓e_lr2K, ↓e_unlL, ↓e_inL, ↓e_inKL, ↓e_inT, ↓e_inFlat, ↓e_drK, ↓e_addBI, ↓e_subBI, ↓e_subIB, ↓e_drG, ↓e_dnew, ↓e_dgetF, ↓e_dget2, ↓e_dsetdS, ↓e_dgPut, ↓e_lenSetZ, ↓e_lenSetZL, ↓e_join, ↓e_joinL, ↓e_cutS, ↓e_mulS, ↓e_andI, ↓e_srtTx, ↓e_srtTxL, ↓e_pairs0, ↓e_pairs1, ↓e_shrI, ↓e_dispN, ↓e_putN, e_kyI, e_kyS, Nat.reduceAdd, Nat.zero_add, List.length_cons, List.length_nil, List.length_map, Nat.reduceLeDiff, and_true, true_and, if_true, ite_true, decide_eq_true_eq, Bool.not_eq_true, Bool.false_eq_true, if_false, ite_false, ↓reduceIte, Int.reduceToNat, Int.reducePow, ne_eq, q_okI, q_okB, q_okN, q_okS, q_okL, q_okT, q_oks0, q_oks1, q_eqII, q_eqBB, q_eqSS, q_eqLL, q_eqTT, q_eqNN, q_eqNI, q_eqIN, q_eqs0, q_eqs1, Bool.true_and, Bool.and_true, beq_iff_eq, reduceCtorEq, wipeE, List.set_cons_zero, List.set_cons_succ, List.set_nil, Bool.not_true, Bool.not_false, List.getElem?_cons_zero, List.getElem?_cons_succ, e_ixO (hs _), at0, at1, at2, Option.some.injEq, exists_eq_left'])
    refine ⟨mulc _ _ (by omega) (by omega), mulc _ _ (by omega) (by omega), by decide, div_small (by decide) (by decide), by have := hm.1; omega, ?_⟩
    exact h _ _ (Int.emod_nonneg _ (by have := hm.1; omega)) (Int.emod_lt_of_pos _ (by have := hm.1; omega)) tp2
def b1__law_folded : DS :=
    (dAsg (dOp addD (dOp ixD (dVar 2) (dOp modD (dVar 3) (dVar 1))) (dOp mulD (dVar 4) (dOp addD (dVar 3) (dC (.int 2))))) (dgSub (dVar 2) (dOp modD (dVar 3) (dVar 1))))
def t__law_folded : DS :=
    (dSeq (dAsg (dB bListNew (dCons (dCut cutOp (dVar 0) dNo (dSome (dVar 1))) dNil)) (dgName 2))
    (dSeq (dFor (dEnum (dCut cutOp (dVar 0) (dSome (dVar 1)) (dSome (dC (.int 63))))) (dgTup 2 (dgCons (dgName 3) (dgCons (dgName 4) dgNil))) (b1__law_folded))
    (dRet (dVar 2))))
theorem st__law_folded (a0 a1 : D) : startD N__law_folded [a0, a1] = [some a0, some a1, none, none, none] := rfl
theorem folded_loop (rt : DK) (a0 : D) (m : Nat) (hm : 1 ≤ m) (st : Sto) (kk : DL.Env → Sto → Prop) : ∀ (rs : List Int) (k : Nat) (cs : List Int) (v3 v4 : Option D), (rs ≠ [] → cs.length = m) → k + rs.length ≤ 1000 →
    (∀ (cs' : List Int) u3 u4, cs'.length = cs.length → kk [some a0, some (.int m), some (.obj st.length), u3, u4] (st ++ [cs'.map D.int])) →
    goFor [] (dgTup 2 (dgCons (dgName 3) (dgCons (dgName 4) dgNil))) b1__law_folded ⟨kk, rt⟩ (enumD k (rs.map D.int)) [some a0, some (.int m), some (.obj st.length), v3, v4] (st ++ [cs.map D.int])
  | [], k, cs, v3, v4, _, _, h => ⟨trivial, h cs v3 v4 rfl⟩
  | r :: rs, k, cs, v3, v4, hl, hk, h => by
    simp only [List.map_cons, enumD]
    rw [e_forC]
    refine ⟨trivial, ?_⟩
    have hc : cs.length = m := hl (by simp)
    have i0 : 0 ≤ (k : Int) % (m : Int) := Int.emod_nonneg _ (by omega)
    have i1 : (k : Int) % (m : Int) < (m : Int) := Int.emod_lt_of_pos _ (by omega)
    have ea : atI (cs.map D.int) ((k : Int) % (m : Int)) = some (.int (cs[((k : Int) % (m : Int)).toNat]'(by omega))) := by
      rw [atI_at i0 (by rw [List.length_map]; omega), List.getElem_map]
    have ei : ixN (cs.map D.int).length ((k : Int) % (m : Int)) = some ((k : Int) % (m : Int)).toNat := ixN_of i0 (by rw [List.length_map]; omega)
    simp only [b1__law_folded]
    (try simp only [BEq.rfl, ↓e_v0, ↓e_vs, ↓e_c, ↓e_op, ↓e_test, ↓e_testK, ↓e_tru, ↓e_truL, ↓e_truT, ↓e_truB, ↓e_truI, ↓e_truN, ↓e_truS, ↓e_not, ↓e_or, ↓e_notK, ↓e_if, ↓e_nil, ↓e_cons, ↓e_tup, ↓e_lst, ↓e_new, ↓e_call, ↓e_drop, ↓e_ret, ↓e_pass, ↓e_ifS, ↓e_g0, ↓e_gs, ↓e_gnil, ↓e_gcons, ↓e_gtup, ↓e_asg, ↓e_par, ↓e_parK, ↓e_par3, ↓e_par3K, ↓e_chain, ↓e_chK, ↓e_no, ↓e_some, ↓e_someK, ↓e_cut, ↓e_b, ↓e_iter, ↓e_iterL, ↓e_iterT, ↓e_iterS, ↓e_rng1, ↓e_rng1K, ↓e_enum, ↓e_enumL, ↓e_enumT, ↓e_for, ↓e_lc, ↓e_lcNew, ↓e_forN, ↓e_forC, ↓e_lcN, ↓e_lcC, ↓e_srcN, ↓e_srcC, ↓e_meth, ↓e_isL, ↓e_sub, ↓e_isi, ↓e_yes, ↓e_bits, ↓e_bitsK, ↓e_addI, ↓e_addB, ↓e_addS, ↓e_addT, ↓e_addL, ↓e_subI, ↓e_mulI, ↓e_mulT, ↓e_mulL, ↓e_divI, ↓e_modI, ↓e_powI, ↓e_cmpI, ↓e_eq, ↓e_ne, ↓e_ixL, ↓e_ixKL, ↓e_ixT, ↓e_cutL, ↓e_cutKL, ↓e_cutT, ↓e_lenL, ↓e_lenKL, ↓e_lenT, ↓e_abs, ↓e_intI, ↓e_intB, ↓e_listNL, ↓e_listNT, ↓e_tupL, ↓e_tupT, ↓e_sum1T, ↓e_sum1L, ↓e_max1T, ↓e_max1L, ↓e_drI, ↓e_drB, ↓e_drS, ↓e_drN, ↓e_drL, ↓e_drT, ↓e_seq, ↓e_sortedL, ↓e_lr2, ↓e_lr2K, ↓e_unlL, ↓e_inL, ↓e_inKL, ↓e_inT, ↓e_inFlat, ↓e_drK, ↓e_addBI, ↓e_subBI, ↓e_subIB, ↓e_drG, ↓e_dnew, ↓e_dgetF, ↓e_dget2, ↓e_dsetdS, ↓e_dgPut, ↓e_lenSetZ, ↓e_lenSetZL, ↓e_join, ↓e_joinL, ↓e_cutS, ↓e_mulS, ↓e_andI, ↓e_srtTx, ↓e_srtTxL, ↓e_pairs0, ↓e_pairs1, ↓e_shrI, ↓e_dispN, ↓e_putN, e_kyI, e_kyS, Nat.reduceAdd, Nat.zero_add, List.length_cons, List.length_nil, List.length_map, Nat.reduceLeDiff, and_true, true_and, if_true, ite_true, decide_eq_true_eq, Bool.not_eq_true, Bool.false_eq_true, if_false, ite_false, ↓reduceIte, Int.reduceToNat, Int.reducePow, ne_eq, q_okI, q_okB, q_okN, q_okS, q_okL, q_okT, q_oks0, q_oks1, q_eqII, q_eqBB, q_eqSS, q_eqLL, q_eqTT, q_eqNN, q_eqNI, q_eqIN, q_eqs0, q_eqs1, Bool.true_and, Bool.and_true, beq_iff_eq, reduceCtorEq, wipeE, List.set_cons_zero, List.set_cons_succ, List.set_nil, Bool.not_true, Bool.not_false, List.getElem?_cons_zero, List.getElem?_cons_succ, e_ixO (List.getElem?_concat_length ..), e_setO (List.getElem?_concat_length ..)])
    refine ⟨by omega, _, ea, ?_⟩
    (try simp only [BEq.rfl, ↓e_v0, ↓e_vs, ↓e_c, ↓e_op, ↓e_test, ↓e_testK, ↓e_tru, ↓e_truL, ↓e_truT, ↓e_truB, ↓e_truI, ↓e_truN, ↓e_truS, ↓e_not, ↓e_or, ↓e_notK, ↓e_if, ↓e_nil, ↓e_cons, ↓e_tup, ↓e_lst, ↓e_new, ↓e_call, ↓e_drop, ↓e_ret, ↓e_pass, ↓e_ifS, ↓e_g0, ↓e_gs, ↓e_gnil, ↓e_gcons, ↓e_gtup, ↓e_asg, ↓e_par, ↓e_parK, ↓e_par3, ↓e_par3K, ↓e_chain, ↓e_chK, ↓e_no, ↓e_some, ↓e_someK, ↓e_cut, ↓e_b, ↓e_iter, ↓e_iterL, ↓e_iterT, ↓e_iterS, ↓e_rng1, ↓e_rng1K, ↓e_enum, ↓e_enumL, ↓e_enumT, ↓e_for, ↓e_lc, ↓e_lcNew, ↓e_forN, ↓e_forC, ↓e_lcN, ↓e_lcC, ↓e_srcN, ↓e_srcC, ↓e_meth, ↓e_isL, ↓e_sub, ↓e_isi, ↓e_yes, ↓e_bits, ↓e_bitsK, ↓e_addI, ↓e_addB, ↓e_addS, ↓e_addT, ↓e_addL, ↓e_subI, ↓e_mulI, ↓e_mulT, ↓e_mulL, ↓e_divI, ↓e_modI, ↓e_powI, ↓e_cmpI, ↓e_eq, ↓e_ne, ↓e_ixL, ↓e_ixKL, ↓e_ixT, ↓e_cutL, ↓e_cutKL, ↓e_cutT, ↓e_lenL, ↓e_lenKL, ↓e_lenT, ↓e_abs, ↓e_intI, ↓e_intB, ↓e_listNL, ↓e_listNT, ↓e_tupL, ↓e_tupT, ↓e_sum1T, ↓e_sum1L, ↓e_max1T, ↓e_max1L, ↓e_drI, ↓e_drB, ↓e_drS, ↓e_drN, ↓e_drL, ↓e_drT, ↓e_seq, ↓e_sortedL, ↓e_lr2, ↓e_lr2K, ↓e_unlL, ↓e_inL, ↓e_inKL, ↓e_inT, ↓e_inFlat, ↓e_drK, ↓e_addBI, ↓e_subBI, ↓e_subIB, ↓e_drG, ↓e_dnew, ↓e_dgetF, ↓e_dget2, ↓e_dsetdS, ↓e_dgPut, ↓e_lenSetZ, ↓e_lenSetZL, ↓e_join, ↓e_joinL, ↓e_cutS, ↓e_mulS, ↓e_andI, ↓e_srtTx, ↓e_srtTxL, ↓e_pairs0, ↓e_pairs1, ↓e_shrI, ↓e_dispN, ↓e_putN, e_kyI, e_kyS, Nat.reduceAdd, Nat.zero_add, List.length_cons, List.length_nil, List.length_map, Nat.reduceLeDiff, and_true, true_and, if_true, ite_true, decide_eq_true_eq, Bool.not_eq_true, Bool.false_eq_true, if_false, ite_false, ↓reduceIte, Int.reduceToNat, Int.reducePow, ne_eq, q_okI, q_okB, q_okN, q_okS, q_okL, q_okT, q_oks0, q_oks1, q_eqII, q_eqBB, q_eqSS, q_eqLL, q_eqTT, q_eqNN, q_eqNI, q_eqIN, q_eqs0, q_eqs1, Bool.true_and, Bool.and_true, beq_iff_eq, reduceCtorEq, wipeE, List.set_cons_zero, List.set_cons_succ, List.set_nil, Bool.not_true, Bool.not_false, List.getElem?_cons_zero, List.getElem?_cons_succ, e_ixO (List.getElem?_concat_length ..), e_setO (List.getElem?_concat_length ..)])
    refine ⟨mulr _ _ (by omega) (by simp only [List.length_cons] at hk; omega), by omega, _, by rw [List.length_map] at ei; exact ei, ?_⟩
    rw [set_last, map_set_int]
    refine folded_loop rt a0 m hm st kk rs (k + 1) _ _ _ (fun _ => by rw [List.length_set]; exact hc) (by simp only [List.length_cons] at hk; omega) fun cs' u3 u4 e => h cs' u3 u4 (by rw [e, List.length_set])
def sp__law_folded : SpD := fun ds st kk => ∃ (ns : List Int) (m : Nat), ds = [.klst (ns.map D.int), .int m] ∧ 1 ≤ m ∧ m ≤ 60 ∧ ns.length ≤ 63 ∧ ∀ cs : List Int, cs.length = min m ns.length → kk (.lst (cs.map D.int)) st
theorem len__law_folded (ds : List D) (st : Sto) (kk : DK) (h : sp__law_folded ds st kk) : ds.length = 2 := by
  obtain ⟨ns, m, rfl, _⟩ := h
  rfl
theorem p__law_folded : BodyD true N__law_folded sp__law_folded t__law_folded := by
  rintro ds st kk ⟨ns, m, rfl, h1, h2, h3, h⟩
  rw [st__law_folded]
  simp only [t__law_folded]
  (try simp only [BEq.rfl, ↓e_v0, ↓e_vs, ↓e_c, ↓e_op, ↓e_test, ↓e_testK, ↓e_tru, ↓e_truL, ↓e_truT, ↓e_truB, ↓e_truI, ↓e_truN, ↓e_truS, ↓e_not, ↓e_or, ↓e_notK, ↓e_if, ↓e_nil, ↓e_cons, ↓e_tup, ↓e_lst, ↓e_new, ↓e_call, ↓e_drop, ↓e_ret, ↓e_pass, ↓e_ifS, ↓e_g0, ↓e_gs, ↓e_gnil, ↓e_gcons, ↓e_gtup, ↓e_asg, ↓e_par, ↓e_parK, ↓e_par3, ↓e_par3K, ↓e_chain, ↓e_chK, ↓e_no, ↓e_some, ↓e_someK, ↓e_cut, ↓e_b, ↓e_iter, ↓e_iterL, ↓e_iterT, ↓e_iterS, ↓e_rng1, ↓e_rng1K, ↓e_enum, ↓e_enumL, ↓e_enumT, ↓e_for, ↓e_lc, ↓e_lcNew, ↓e_forN, ↓e_forC, ↓e_lcN, ↓e_lcC, ↓e_srcN, ↓e_srcC, ↓e_meth, ↓e_isL, ↓e_sub, ↓e_isi, ↓e_yes, ↓e_bits, ↓e_bitsK, ↓e_addI, ↓e_addB, ↓e_addS, ↓e_addT, ↓e_addL, ↓e_subI, ↓e_mulI, ↓e_mulT, ↓e_mulL, ↓e_divI, ↓e_modI, ↓e_powI, ↓e_cmpI, ↓e_eq, ↓e_ne, ↓e_ixL, ↓e_ixKL, ↓e_ixT, ↓e_cutL, ↓e_cutKL, ↓e_cutT, ↓e_lenL, ↓e_lenKL, ↓e_lenT, ↓e_abs, ↓e_intI, ↓e_intB, ↓e_listNL, ↓e_listNT, ↓e_tupL, ↓e_tupT, ↓e_sum1T, ↓e_sum1L, ↓e_max1T, ↓e_max1L, ↓e_drI, ↓e_drB, ↓e_drS, ↓e_drN, ↓e_drL, ↓e_drT, ↓e_seq, ↓e_sortedL, ↓e_lr2, ↓e_lr2K, ↓e_unlL, ↓e_inL, ↓e_inKL, ↓e_inT, ↓e_inFlat, ↓e_drK, ↓e_addBI, ↓e_subBI, ↓e_subIB, ↓e_drG, ↓e_dnew, ↓e_dgetF, ↓e_dget2, ↓e_dsetdS, ↓e_dgPut, ↓e_lenSetZ, ↓e_lenSetZL, ↓e_join, ↓e_joinL, ↓e_cutS, ↓e_mulS, ↓e_andI, ↓e_srtTx, ↓e_srtTxL, ↓e_pairs0, ↓e_pairs1, ↓e_shrI, ↓e_dispN, ↓e_putN, e_kyI, e_kyS, Nat.reduceAdd, Nat.zero_add, List.length_cons, List.length_nil, List.length_map, Nat.reduceLeDiff, and_true, true_and, if_true, ite_true, decide_eq_true_eq, Bool.not_eq_true, Bool.false_eq_true, if_false, ite_false, ↓reduceIte, Int.reduceToNat, Int.reducePow, ne_eq, q_okI, q_okB, q_okN, q_okS, q_okL, q_okT, q_oks0, q_oks1, q_eqII, q_eqBB, q_eqSS, q_eqLL, q_eqTT, q_eqNN, q_eqNI, q_eqIN, q_eqs0, q_eqs1, Bool.true_and, Bool.and_true, beq_iff_eq, reduceCtorEq, wipeE, List.set_cons_zero, List.set_cons_succ, List.set_nil, Bool.not_true, Bool.not_false, List.getElem?_cons_zero, List.getElem?_cons_succ, cutD_map])
  rw [cutD_to, show (63 : Int) = ((63 : Nat) : Int) from rfl, cutD_from]
  intro _
  refine folded_loop _ _ m h1 st _ _ 0 _ _ _ (fun ne => ?_) (by simp; omega) fun cs' u3 u4 e => ?_
  · rw [List.length_take]
    have : m < ns.length := by
      apply Nat.lt_of_not_le
      intro z
      exact ne (by rw [List.drop_eq_nil_of_le z]; simp)
    omega
  · (walk_at "lw_dd")
    refine .one (belows_int _ _) ?_
    simp only [sub, if_true]
    exact h cs' (by rw [e, List.length_take])
def e1__law_names : DE :=
    (dOp ixD (dVar 2) (dCall sp__law_draw (dCons (dVar 0) (dCons (dC (.int 26)) dNil))))
def z8__law_names : DS :=
    (dDrop (dMeth mAppend (dVar 8) (dCons (dOp addD (dOp addD (dVar 9) (dVar 12)) (dOp ixD (dLst (dCons (dVar 10) (dCons (dOp mulD (dVar 10) (dOp modD (dVar 5) (dC (.int 2)))) (dCons (dCut cutOp (dVar 10) dNo (dSome (dOp modD (dVar 5) (dOp addD (dB bLen (dCons (dVar 10) dNil)) (dC (.int 1)))))) dNil)))) (dVar 11))) dNil)))
def z7__law_names : DS :=
    (dSeq (dAsg (dOp ixD (dVar 2) (dOp modD (dOp addD (dVar 3) (dOp mulD (dVar 7) (dOp ixD (dLst (dCons (dVar 5) (dCons (dOp divD (dVar 5) (dC (.int 2))) (dCons (dVar 5) dNil)))) (dVar 11)))) (dC (.int 26)))) (dgName 12))
    (z8__law_names))
def b1__law_names : DS :=
    (dSeq (dAsg (dOp mulD (dOp modD (dOp addD (dOp addD (dVar 3) (dVar 6)) (dB bLen (dCons (dVar 4) dNil))) (dC (.int 3))) (dB bInt (dCons (dOp (eqOp true) (dVar 10) (dC (.str ""))) dNil))) (dgName 11))
    (z7__law_names))
def z9__law_names : DS :=
    (dRet (dVar 8))
def z5__law_names : DS :=
    (dSeq (dFor (dRng1 (dVar 1)) (dgName 5) (b1__law_names))
    (z9__law_names))
def z4__law_names : DS :=
    (dSeq (dPar 9 10 (dCons (dCut cutOp (dVar 4) dNo (dSome (dVar 6))) (dCons (dCut cutOp (dVar 4) (dSome (dVar 6)) dNo) dNil)))
    (z5__law_names))
def z3__law_names : DS :=
    (dSeq (dPar3 6 7 8 (dCons (dCall sp__law_draw (dCons (dVar 0) (dCons (dOp addD (dB bLen (dCons (dVar 4) dNil)) (dC (.int 1))) dNil))) (dCons (dOp ixD (dLst (dCons (dC (.int 1)) (dCons (dC (.int 7)) (dCons (dC (.int 25)) dNil)))) (dCall sp__law_draw (dCons (dVar 0) (dCons (dC (.int 3)) dNil)))) (dCons (dNew dNil) dNil))))
    (z4__law_names))
def z2__law_names : DS :=
    (dSeq (dAsg (dJoin (dC (.str "")) (dLc (dRng1 (dCall sp__law_draw (dCons (dVar 0) (dCons (dC (.int 8)) dNil)))) (dgName 5) dYes (e1__law_names) [5])) (dgName 4))
    (z3__law_names))
def t__law_names : DS :=
    (dSeq (dAsg (dTup (dCons (dC (.str "abcdefghijklmnopqrstuvwxyz")) (dCons (dCall sp__law_draw (dCons (dVar 0) (dCons (dC (.int 26)) dNil))) dNil))) (dgTup 2 (dgCons (dgName 2) (dgCons (dgName 3) dgNil))))
    (z2__law_names))
theorem st__law_names (a0 a1 : D) : startD N__law_names [a0, a1] = [some a0, some a1, none, none, none, none, none, none, none, none, none, none, none] := rfl
theorem cutN_drop {α : Type} (xs : List α) (m : Nat) : DL.cutD xs (some (m : Int)) none = xs.drop m := by
  unfold DL.cutD
  rw [HT.sIx_nat, HT.sIx_none]
  by_cases h : m ≤ xs.length
  · rw [Nat.min_eq_left h, List.take_of_length_le (by rw [List.length_drop]; omega)]
  · rw [Nat.min_eq_right (show xs.length ≤ m by omega), List.drop_length, List.drop_eq_nil_of_le (show xs.length ≤ m by omega)]
    simp
/-- the name of number k -/
def nameK (sh st : Int) (hd tl : List Nat) (W k : Nat) : List Nat := hd ++ (97 + ((sh + st * (if W = 1 then (k / 2 : Nat) else (k : Nat) : Nat)) % 26).toNat) :: (if W = 0 then tl else if W = 1 then (if k % 2 = 0 then [] else tl) else tl.take (k % (tl.length + 1)))
theorem nameK_inj {sh st : Int} {hd tl : List Nat} {W : Nat} (hst : st = 1 ∨ st = 7 ∨ st = 25) (hW : W = 1 → tl ≠ []) {j k : Nat} (hj : j < 26) (hk : k < 26) (h : nameK sh st hd tl W j = nameK sh st hd tl W k) : j = k := by
  unfold nameK at h
  have h2 := List.append_cancel_left h
  injection h2 with h3 h4
  have key : ∀ x y : Nat, x < 26 → y < 26 → 97 + ((sh + st * (x : Int)) % 26).toNat = 97 + ((sh + st * (y : Int)) % 26).toNat → x = y := by
    intro x y hx hy e
    rcases hst with rfl | rfl | rfl <;> omega
  by_cases z : W = 1
  · have ne := hW z
    subst z
    simp only [if_true, Nat.one_ne_zero, if_false] at h3 h4
    have e := key (j / 2) (k / 2) (by omega) (by omega) h3
    have p : j % 2 = k % 2 := by
      by_cases a : j % 2 = 0
      · rw [if_pos a] at h4
        by_cases b : k % 2 = 0
        · omega
        · rw [if_neg b] at h4
          exact absurd h4.symm ne
      · rw [if_neg a] at h4
        by_cases b : k % 2 = 0
        · rw [if_pos b] at h4
          exact absurd h4 ne
        · omega
    omega
  · simp only [z, if_false] at h3
    exact key j k hj hk h3
theorem nameK_ok {sh st : Int} {hd tl : List Nat} {W k : Nat} (hl : hd.length + tl.length ≤ 7) (h1 : ∀ c ∈ hd, Lt c) (h2 : ∀ c ∈ tl, Lt c) : NameL (nameK sh st hd tl W k) := by
  have rest : ∀ r : List Nat, r.length ≤ tl.length → (∀ c ∈ r, c ∈ tl) → ∀ x : Nat, x < 26 → NameL (hd ++ (97 + x) :: r) := by
    intro r hr hm x hx
    refine ⟨by rw [List.length_append, List.length_cons]; omega, by rw [List.length_append, List.length_cons]; omega, fun c hc => ?_⟩
    rcases List.mem_append.mp hc with q | q
    · exact h1 c q
    · rcases List.mem_cons.mp q with q | q
      · rw [q]
        unfold Lt
        omega
      · exact h2 c (hm c q)
  unfold nameK
  refine rest _ ?_ ?_ _ (by omega)
  · split
    · exact Nat.le_refl _
    · split
      · split
        · exact Nat.zero_le _
        · exact Nat.le_refl _
      · rw [List.length_take]; omega
  · intro c hc
    split at hc
    · exact hc
    · split at hc
      · split at hc
        · cases hc
        · exact hc
      · exact List.mem_of_mem_take hc
theorem frz_tape1 {st st2 : Sto} {i n : Nat} {d : D} {a ys : List D} {kk : DK} (e : st2 = st.set i ys) (ht : Tp i n st2) (hb : belows st.length a = true) (h : kk (sub st.length a d) st2) : Frz st d (st2 ++ [a]) kk := by
  have ea : a.map (frzs (st.length + 1) []) = a := by
    show a.map (fun d => d) = a
    simp
  refine ⟨st2, [a], rfl, by rw [e, List.length_set], fun j xs hj => ?_, ⟨by rw [ea]; exact hb, trivial⟩, ?_⟩
  · by_cases z : j = i
    · subst z
      obtain ⟨zs, e1, x, y, w, rfl, _⟩ := ht
      rw [e1] at hj
      cases hj
      exact .inr rfl
    · rw [e, List.getElem?_set_ne (fun y => z y.symm)] at hj
      exact .inl hj
  · show kk (sub st.length (a.map (frzs (st.length + 1) [])) d) st2
    rw [ea]
    exact h
theorem belows_txt (n : Nat) : ∀ zs : List (List Nat), belows n (zs.map fun z => D.str (S z)) = true
  | [] => rfl
  | z :: r => by
    show (below n (.str (S z)) && belows n (r.map fun z => D.str (S z))) = true
    rw [belows_txt n r]
    rfl
theorem e_lenTx {cs : List Nat} {st : Sto} {k : DK} : bLen [.str (S cs)] st k = (cs.length ≤ 16777216 ∧ k (.int (cs.length : Nat)) st) := by
  show ((S cs).length ≤ 16777216 ∧ k (.int ((S cs).length : Nat)) st) = _
  rw [S_len]
def sp__law_names : SpD := fun ds st kk => ∃ (i n m : Nat), ds = [.obj i, .int (m : Nat)] ∧ Tp i n st ∧ n < 100000000 ∧ 1 ≤ m ∧ m ≤ 26 ∧ ∀ (ns : List (List Nat)) xs, ns.length = m → (∀ z ∈ ns, NameL z) → ns.Nodup → Tp i (n + 40) (st.set i xs) → kk (.lst (ns.map fun z => D.str (S z))) (st.set i xs)
theorem len__law_names (ds : List D) (st : Sto) (kk : DK) (h : sp__law_names ds st kk) : ds.length = 2 := by
  obtain ⟨_, _, _, rfl, _⟩ := h
  rfl
theorem p__law_names : BodyD true N__law_names sp__law_names t__law_names := by
  rintro ds st kk ⟨i, n, m, rfl, ht, hn, m0, m1, h⟩
  rw [st__law_names]
  simp only [t__law_names]
  (walk_at "lw_dd0")
  refine ⟨i, n, 26, rfl, ht, by omega, by (first | exact mulc _ _ (by decide) (by decide) | exact mulr _ _ (by decide) (by decide) | exact ⟨by decide, by decide, by decide⟩ | exact ⟨by decide, by decide⟩ | exact mulb _ _ | exact ⟨by omega, by omega⟩ | exact mulc _ _ (by omega) (by omega) | exact mulr _ _ (by omega) (by omega) | exact div_small (by omega) (by omega) | exact ⟨by omega, by omega, by omega⟩ | omega | decide), fun sh x1 s0 s1 t1 => ?_⟩
  (walk_at "lw_dd0")
  have hltr : ∀ r : Int, 0 ≤ r → r < 26 → ∀ (st : Sto) (kd : DK), kd (.str (S [97 + r.toNat])) st → ixD (.str (Str.ofString "abcdefghijklmnopqrstuvwxyz")) (.int r) st kd := by
    intro r r0 r1 st kd hk
    rw [abc_eq, e_ixS, S_len, S_cps]
    exact ⟨by decide, _, abc_at r0 r1, hk⟩
  simp only [z2__law_names]
  (walk_at "lw_dd0")
  refine ⟨⟨_, rfl⟩, i, _, 8, rfl, t1, by omega, by (first | exact mulc _ _ (by decide) (by decide) | exact mulr _ _ (by decide) (by decide) | exact ⟨by decide, by decide, by decide⟩ | exact ⟨by decide, by decide⟩ | exact mulb _ _ | exact ⟨by omega, by omega⟩ | exact mulc _ _ (by omega) (by omega) | exact mulr _ _ (by omega) (by omega) | exact div_small (by omega) (by omega) | exact ⟨by omega, by omega, by omega⟩ | omega | decide), fun q x2 q0 q1 t2 => ?_⟩
  rw [List.set_set] at t2 ⊢
  (walk_at "lw_dd0")
  refine ⟨by omega, by rw [rangeD_length]; omega, ?_⟩
  refine lc_draws (fun c : Nat => D.str (S [c])) Lt i 1 900000000 (fun x n2 s2 kd2 t2 hn2 hk2 => ?_) _ _ _ [] t2 (by rw [rangeD_length]; omega) fun cs ys hcl hcs t3 => ?_
  · simp only [e1__law_names]
    (walk_at "lw_dd0")
    refine ⟨i, _, 26, rfl, t2, by omega, by (first | exact mulc _ _ (by decide) (by decide) | exact mulr _ _ (by decide) (by decide) | exact ⟨by decide, by decide, by decide⟩ | exact ⟨by decide, by decide⟩ | exact mulb _ _ | exact ⟨by omega, by omega⟩ | exact mulc _ _ (by omega) (by omega) | exact mulr _ _ (by omega) (by omega) | exact div_small (by omega) (by omega) | exact ⟨by omega, by omega, by omega⟩ | omega | decide), fun r x5 r0 r1 t5 => ?_⟩
    refine hltr r r0 r1 _ _ (hk2 (97 + r.toNat) x5 ?_ t5)
    unfold Lt
    omega
  rw [rangeD_length] at hcl t3
  rw [List.nil_append, List.set_set]
  rw [List.set_set] at t3
  have hq : cs.length ≤ 7 := by omega
  rw [show (cs.map fun c => D.str (S [c])) = (cs.map fun c => S [c]).map D.str by rw [List.map_map]; rfl, e_joinL, S_join, S_sum, List.length_map, show (Str.ofString "").length = 0 from rfl]
  refine ⟨by omega, ?_⟩
  simp only [z3__law_names]
  (walk_at "lw_dd0")
  rw [show ∀ (st : Sto) (k : DK), bLen [.str (S cs)] st k = ((S cs).length ≤ 16777216 ∧ k (.int ((S cs).length : Nat)) st) from fun _ _ => rfl, S_len]
  refine ⟨by omega, ?_⟩
  (walk_at "lw_dd0")
  refine ⟨i, _, _, rfl, t3, by omega, ⟨by omega, by omega⟩, fun at_ x4 a0 a1 t4 => ?_⟩
  rw [List.set_set] at t4 ⊢
  refine ⟨i, _, 3, rfl, t4, by omega, by (first | exact mulc _ _ (by decide) (by decide) | exact mulr _ _ (by decide) (by decide) | exact ⟨by decide, by decide, by decide⟩ | exact ⟨by decide, by decide⟩ | exact mulb _ _ | exact ⟨by omega, by omega⟩ | exact mulc _ _ (by omega) (by omega) | exact mulr _ _ (by omega) (by omega) | exact div_small (by omega) (by omega) | exact ⟨by omega, by omega, by omega⟩ | omega | decide), fun w x5 w0 w1 t5 => ?_⟩
  rw [List.set_set] at t5 ⊢
  obtain ⟨a, rfl⟩ := Int.eq_ofNat_of_zero_le a0
  obtain ⟨stp, hstp, hix⟩ : ∃ stp : Int, (stp = 1 ∨ stp = 7 ∨ stp = 25) ∧ atI [D.int 1, D.int 7, D.int 25] w = some (.int stp) := by
    rcases (show w = 0 ∨ w = 1 ∨ w = 2 by omega) with rfl | rfl | rfl
    · exact ⟨1, .inl rfl, rfl⟩
    · exact ⟨7, .inr (.inl rfl), rfl⟩
    · exact ⟨25, .inr (.inr rfl), rfl⟩
  refine ⟨_, hix, ?_⟩
  have ln : (st.set i x5).length = st.length := List.length_set
  simp only [z4__law_names]
  (walk_at "lw_dd0")
  rw [S_len, S_cut, S_cut, cutD_to, cutN_drop]
  refine ⟨by omega, by omega, ?_⟩
  have hall : ∀ c ∈ cs.take a, Lt c := fun c hc => hcs c (List.mem_of_mem_take hc)
  have tall : ∀ c ∈ cs.drop a, Lt c := fun c hc => hcs c (List.mem_of_mem_drop hc)
  have hlen : (cs.take a).length + (cs.drop a).length ≤ 7 := by rw [List.length_take, List.length_drop]; omega
  generalize cs.take a = hd at hall hlen ⊢
  generalize cs.drop a = tl at tall hlen ⊢
  have ln' : (st.set i x5).length = st.length := ln
  generalize hs4 : st.set i x5 = s4 at t5 ln ⊢
  obtain ⟨W, hW, hW1, hW3⟩ : ∃ W : Nat, ((sh + a + cs.length) % 3 * (if tl = [] then 0 else 1) = (W : Int)) ∧ (1 ≤ W → tl ≠ []) ∧ W < 3 := by
    by_cases z : tl = []
    · exact ⟨0, by rw [if_pos z]; simp, fun h => by omega, by omega⟩
    · refine ⟨((sh + a + cs.length) % 3).toNat, by rw [if_neg z]; omega, fun _ => z, by omega⟩
  simp only [z5__law_names]
  (walk_at "lw_dd0")
  refine ⟨by omega, ?_⟩
  rw [Int.toNat_natCast]
  refine go_range m (fun j env s => s = s4 ++ [(List.range j).map fun k => D.str (S (nameK sh stp hd tl W k))] ∧ ∃ v5 v11 v12 : Option D, env = [some (.obj i), some (.int (m : Nat)), some (.str (Str.ofString "abcdefghijklmnopqrstuvwxyz")), some (.int sh), some (.str (S cs)), v5, some (.int (a : Nat)), some (.int stp), some (.obj s4.length), some (.str (S hd)), some (.str (S tl)), v11, v12]) ?_ ?_ _ _ ⟨rfl, none, none, none, rfl⟩
  · rintro j _ _ nx hj ⟨rfl, v5, v11, v12, rfl⟩ q2
    refine ⟨trivial, ?_⟩
    (walk_at "lw_dd0")
    simp only [b1__law_names]
    rw [S_nil]
    (try simp only [BEq.rfl, ↓e_v0, ↓e_vs, ↓e_c, ↓e_op, ↓e_test, ↓e_testK, ↓e_tru, ↓e_truL, ↓e_truT, ↓e_truB, ↓e_truI, ↓e_truN, ↓e_truS, ↓e_not, ↓e_or, ↓e_notK, ↓e_if, ↓e_nil, ↓e_cons, ↓e_tup, ↓e_lst, ↓e_new, ↓e_call, ↓e_drop, ↓e_ret, ↓e_pass, ↓e_ifS, ↓e_g0, ↓e_gs, ↓e_gnil, ↓e_gcons, ↓e_gtup, ↓e_asg, ↓e_par, ↓e_parK, ↓e_par3, ↓e_par3K, ↓e_chain, ↓e_chK, ↓e_no, ↓e_some, ↓e_someK, ↓e_cut, ↓e_b, ↓e_iter, ↓e_iterL, ↓e_iterT, ↓e_iterS, ↓e_rng1, ↓e_rng1K, ↓e_enum, ↓e_enumL, ↓e_enumT, ↓e_for, ↓e_lc, ↓e_lcNew, ↓e_meth, ↓e_isL, ↓e_sub, ↓e_isi, ↓e_yes, ↓e_bits, ↓e_bitsK, ↓e_addI, ↓e_addB, ↓e_addS, ↓e_addT, ↓e_addL, ↓e_subI, ↓e_mulI, ↓e_mulT, ↓e_mulL, ↓e_divI, ↓e_modI, ↓e_powI, ↓e_cmpI, ↓e_eq, ↓e_ne, ↓e_ixL, ↓e_ixKL, ↓e_ixT, ↓e_cutL, ↓e_cutKL, ↓e_cutT, ↓e_lenL, ↓e_lenKL, ↓e_lenT, ↓e_abs, ↓e_intI, ↓e_intB, ↓e_listNL, ↓e_listNT, ↓e_tupL, ↓e_tupT, ↓e_sum1T, ↓e_sum1L, ↓e_max1T, ↓e_max1L, ↓e_drI, ↓e_drB, ↓e_drS, ↓e_drN, ↓e_drL, ↓e_drT, ↓e_seq, ↓e_sortedL, ↓e_lr2, ↓e_lr2K, ↓e_unlL, ↓e_inL, ↓e_inKL, ↓e_inT, ↓e_inFlat, ↓e_drK, ↓e_addBI, ↓e_subBI, ↓e_subIB, ↓e_drG, ↓e_dnew, ↓e_dgetF, ↓e_dget2, ↓e_dsetdS, ↓e_dgPut, ↓e_lenSetZ, ↓e_lenSetZL, ↓e_join, ↓e_joinL, ↓e_cutS, ↓e_mulS, ↓e_andI, ↓e_srtTx, ↓e_srtTxL, ↓e_pairs0, ↓e_pairs1, ↓e_shrI, ↓e_dispN, ↓e_putN, e_kyI, e_kyS, Nat.reduceAdd, Nat.zero_add, List.length_cons, List.length_nil, List.length_map, Nat.reduceLeDiff, and_true, true_and, if_true, ite_true, decide_eq_true_eq, Bool.not_eq_true, Bool.false_eq_true, if_false, ite_false, ↓reduceIte, Int.reduceToNat, Int.reducePow, ne_eq, q_okI, q_okB, q_okN, q_okS, q_okL, q_okT, q_oks0, q_oks1, q_eqII, q_eqBB, q_eqSS, q_eqLL, q_eqTT, q_eqNN, q_eqNI, q_eqIN, q_eqs0, q_eqs1, Bool.true_and, Bool.and_true, beq_iff_eq, reduceCtorEq, wipeE, List.set_cons_zero, List.set_cons_succ, List.set_nil, Bool.not_true, Bool.not_false, List.getElem?_cons_zero, List.getElem?_cons_succ, e_lenTx])
    have hb : (if (!S tl == S []) = true then (1 : Int) else 0) = if tl = [] then 0 else 1 := by
      by_cases z : tl = []
      · rw [if_pos z, z]
        rfl
      · rw [if_neg z, if_pos]
        rw [Bool.not_eq_true', beq_eq_false_iff_ne]
        exact fun e => z (S_inj e)
    rw [hb, hW]
    refine ⟨by omega, by omega, S_ok fun c hc => by (have := tall c hc; unfold Lt at this; omega), S_ok (cs := []) (fun c hc => absurd hc List.not_mem_nil), mulr _ _ (by split <;> omega) (by split <;> omega), ?_⟩
    simp only [z7__law_names]
    (walk_at "lw_dd0")
    have hx : atI [D.int (j : Nat), D.int ((j : Int) / 2), D.int (j : Nat)] (W : Int) = some (.int ((if W = 1 then (j / 2 : Nat) else (j : Nat) : Nat) : Int)) := by
      rcases (show W = 0 ∨ W = 1 ∨ W = 2 by omega) with rfl | rfl | rfl <;> rfl
    refine ⟨by (first | exact mulc _ _ (by decide) (by decide) | exact mulr _ _ (by decide) (by decide) | exact ⟨by decide, by decide, by decide⟩ | exact ⟨by decide, by decide⟩ | exact mulb _ _ | exact ⟨by omega, by omega⟩ | exact mulc _ _ (by omega) (by omega) | exact mulr _ _ (by omega) (by omega) | exact div_small (by omega) (by omega) | exact ⟨by omega, by omega, by omega⟩ | omega | decide), _, hx, ?_⟩
    have hidx : (if W = 1 then (j / 2 : Nat) else (j : Nat) : Nat) ≤ 26 := by split <;> omega
    have hname : nameK sh stp hd tl W j = hd ++ (97 + ((sh + stp * (((if W = 1 then (j / 2 : Nat) else (j : Nat) : Nat)) : Int)) % 26).toNat) :: (if W = 0 then tl else if W = 1 then (if j % 2 = 0 then [] else tl) else tl.take (j % (tl.length + 1))) := rfl
    generalize (if W = 1 then (j / 2 : Nat) else (j : Nat) : Nat) = idx at hidx hname ⊢
    (walk_at "lw_dd0")
    refine ⟨mulr _ _ (by rcases hstp with rfl | rfl | rfl <;> omega) (by omega), by decide, ?_⟩
    refine hltr _ (Int.emod_nonneg _ (by omega)) (Int.emod_lt_of_pos _ (by omega)) _ _ ?_
    generalize 97 + ((sh + stp * (idx : Int)) % 26).toNat = lt at hname ⊢
    simp only [z8__law_names]
    (walk_at "lw_dd0")
    refine ⟨by simp [isLst, deref], by rw [S_len, S_len, List.length_cons, List.length_nil]; omega, by decide, by omega, by omega, ?_⟩
    rw [e_lenTx]
    refine ⟨by omega, ?_⟩
    (walk_at "lw_dd0")
    refine ⟨by omega, ?_⟩
    rw [show ((j : Int) % ((tl.length : Int) + 1)) = ((j % (tl.length + 1) : Nat) : Int) from rfl]
    (walk_at "lw_dd0")
    rw [S_len, S_cut, cutD_to]
    refine ⟨by omega, ?_⟩
    obtain ⟨rest, hrest, hr2, hx2⟩ : ∃ rest : List Nat, rest = (if W = 0 then tl else if W = 1 then (if j % 2 = 0 then [] else tl) else tl.take (j % (tl.length + 1))) ∧ rest.length ≤ 7 ∧ atI [D.str (S tl), D.str (if (j : Int) % 2 < 1 then Str.empty else S tl), D.str (S (tl.take (j % (tl.length + 1))))] (W : Int) = some (.str (S rest)) := by
      rcases (show W = 0 ∨ W = 1 ∨ W = 2 by omega) with rfl | rfl | rfl
      · exact ⟨tl, rfl, by omega, rfl⟩
      · by_cases z : j % 2 = 0
        · exact ⟨[], by rw [if_neg (by decide), if_pos rfl, if_pos z], by simp, by rw [if_pos (by omega)]; rfl⟩
        · exact ⟨tl, by rw [if_neg (by decide), if_pos rfl, if_neg z], by omega, by rw [if_neg (by omega)]; rfl⟩
      · exact ⟨tl.take (j % (tl.length + 1)), rfl, by rw [List.length_take]; omega, rfl⟩
    refine ⟨_, hx2, ?_⟩
    rw [← hrest] at hname
    (walk_at "lw_dd0")
    rw [S_app, S_app, S_len, S_len, e_app (List.getElem?_concat_length ..), set_last]
    refine ⟨by rw [List.length_append, List.length_cons, List.length_nil]; omega, by rw [List.length_map, List.length_range]; omega, ?_⟩
    refine q2 _ _ ⟨?_, _, _, _, rfl⟩
    rw [List.range_succ, List.map_append, List.map_cons, List.map_nil, hname, List.append_assoc]
    rfl
  · rintro _ _ ⟨rfl, v5, v11, v12, rfl⟩
    refine ⟨trivial, ?_⟩
    simp only [z9__law_names]
    (walk_at "lw_dd0")
    rw [← hs4] at t5 ⊢
    refine frz_tape1 rfl t5 ?_ ?_
    · have := belows_txt st.length ((List.range m).map fun k => nameK sh stp hd tl W k)
      rw [List.map_map] at this
      exact this
    · rw [ln', show sub st.length ((List.range m).map fun k => D.str (S (nameK sh stp hd tl W k))) (.obj st.length) = .lst ((List.range m).map fun k => D.str (S (nameK sh stp hd tl W k))) by simp only [sub, if_true]]
      have := h ((List.range m).map fun k => nameK sh stp hd tl W k) x5 (by rw [List.length_map, List.length_range]) (fun z hz => by
        obtain ⟨k, _, rfl⟩ := List.mem_map.mp hz
        exact nameK_ok hlen hall tall) (by
        unfold List.Nodup
        rw [List.pairwise_map]
        refine List.Pairwise.imp_of_mem (fun {x y} hx hy ne e => ?_) (List.nodup_range (n := m))
        have h1 := List.mem_range.mp hx
        have h2 := List.mem_range.mp hy
        exact ne (nameK_inj hstp (fun w => hW1 (by omega)) (by omega) (by omega) e)) (t5.mono (by omega))
      rw [List.map_map] at this
      exact this
def b1__law_fraction : DS :=
    (dPar 2 3 (dCons (dVar 3) (dCons (dOp modD (dVar 2) (dVar 3)) dNil)))
def t__law_fraction : DS :=
    (dSeq (dPar 2 3 (dCons (dB bAbs (dCons (dVar 0) dNil)) (dCons (dVar 1) dNil)))
    (dSeq (dWhile (dTest (dOp (cmpI fun i j => decide (j < i)) (dVar 3) (dC (.int 0)))) (b1__law_fraction))
    (dRet (dTup (dCons (dOp divD (dVar 0) (dVar 2)) (dCons (dOp divD (dVar 1) (dVar 2)) dNil))))))
theorem st__law_fraction (a0 a1 : D) : startD N__law_fraction [a0, a1] = [some a0, some a1, none, none] := rfl
def sp__law_fraction : SpD := fun ds st kk => ∃ t b : Int, ds = [.int t, .int b] ∧ 0 < b ∧ b < 2 ^ 200 ∧ kk (frI t b) st
theorem len__law_fraction (ds : List D) (st : Sto) (kk : DK) (h : sp__law_fraction ds st kk) : ds.length = 2 := by
  obtain ⟨_, _, rfl, _⟩ := h
  rfl
theorem p__law_fraction : BodyD false N__law_fraction sp__law_fraction t__law_fraction := by
  rintro ds st kk ⟨t, b, rfl, h0, h1, h⟩
  rw [st__law_fraction]
  exact low_body t__law_fraction rfl _ st t b h0 h1 h
def b1__law_shares : DS :=
    (dAsg (dOp addD (dGet2 (dVar 1) (dVar 5) (dC (.int 0))) (dOp divD (dOp getD (dVar 1) (dVar 3)) (dC (.int 2)))) (dgPut (dVar 1) (dVar 5)))
def b2__law_shares : DS :=
    (dFor (dIter (dVar 4)) (dgName 5) (b1__law_shares))
def b3__law_shares : DS :=
    (dIfS (dTru (dIsi (dVar 5) ["str"])) (dAsg (dOp getD (dVar 1) (dVar 5)) (dgPut (dVar 2) (dVar 5))) dPass)
def t__law_shares : DS :=
    (dSeq (dPar 1 2 (dCons (dB bDictNew (dCons (dLst (dCons (dTup (dCons (dC (.int 0)) (dCons (dCall sp__law_twos (dCons (dB bLen (dCons (dVar 0) dNil)) dNil)) dNil))) dNil)) dNil)) (dCons (dNewD false) dNil)))
    (dSeq (dFor (dEnum (dVar 0)) (dgTup 2 (dgCons (dgName 3) (dgCons (dgName 4) dgNil))) (b2__law_shares))
    (dSeq (dLockS 1 (dFor (dWalkL keysR 1) (dgName 5) (b3__law_shares)))
    (dRet (dVar 2)))))
theorem st__law_shares (a0 : D) : startD N__law_shares [a0] = [some a0, none, none, none, none, none] := rfl
def ownRows (N : Nat) (T : Tab) : List D := tabR Ld.d (fun d : D => d) (hdT (.int (N : Nat)) (fun x => .int (x : Nat)) T)
def outRows (F : List (Str × Nat)) : List D := tabR D.str (fun x : Nat => D.int (x : Nat)) F
theorem own_val (N : Nat) (T : Tab) (v : Ld) : valR false (ownRows N T) v.d = if v = .bal 0 then some (.int (N : Nat)) else (look T v).map fun x => .int (x : Nat) := by
  unfold ownRows
  rw [valR_tab keyL, look_hd]
  simp
theorem own_put (N x : Nat) (T : Tab) (v : Ld) (hv : v ≠ .bal 0) : putR false (ownRows N T) v.d (.int (x : Nat)) = ownRows N (putL T v x) := by
  unfold ownRows
  rw [putR_tab (f := fun d : D => d) keyL v, put_hd (g := fun x => .int (x : Nat)) hv]
theorem own_len (N : Nat) (T : Tab) : (ownRows N T).length = T.length + 1 := by
  unfold ownRows
  rw [tabR_length]
  simp [hdT]
theorem own_amt (N : Nat) (T : Tab) (k : Nat) (h : k ≠ 0 → (look T (.bal k)).isSome = true) : valR false (ownRows N T) (.int (k : Nat)) = some (.int (amt N T k : Nat)) := by
  rw [show D.int (k : Nat) = (Ld.bal k).d from rfl, own_val]
  unfold amt
  by_cases z : k = 0
  · rw [z, if_pos rfl, if_pos rfl]
  · rw [if_neg (by intro q; cases q; exact z rfl), if_neg z]
    have := h z
    cases hl : look T (.bal k) with
    | none => rw [hl] at this; cases this
    | some x => rfl
theorem own_lead (v : Ld) (r : List D) (N k : Nat) (T : Tab) (F : List D) (a0 a4 v5 : Option D) (A : Sto) (rt : DK) (nx : DL.Env → Sto → Prop) (hv : v ≠ .bal 0) (hl : T.length < 100000) (hk : k ≠ 0 → (look T (.bal k)).isSome = true)
    (h : ∀ u5, goFor [] (dgName 5) b1__law_shares ⟨nx, rt⟩ r [a0, some (.dic false A.length), some (.dic false (A.length + 1)), some (.int (k : Nat)), a4, u5] (A ++ [ownRows N (ledA v (amt N T k / 2) T), F])) :
    goFor [] (dgName 5) b1__law_shares ⟨nx, rt⟩ (v.d :: r) [a0, some (.dic false A.length), some (.dic false (A.length + 1)), some (.int (k : Nat)), a4, v5] (A ++ [ownRows N T, F]) := by
  refine ⟨trivial, ?_⟩
  have g0 : (A ++ [ownRows N T, F])[A.length]? = some (ownRows N T) := sa_get (a := 0) rfl
  (walk_at "lw_dd")
  simp only [b1__law_shares]
  (walk_at "lw_dd")
  refine ⟨e_dsome g0, ?_⟩
  rw [e_dgetOr g0, own_val, if_neg hv]
  refine ⟨by cases v <;> rfl, ?_⟩
  rw [e_dget g0, own_amt N T k hk]
  refine ⟨rfl, _, rfl, ?_⟩
  have e1 : ((look T v).map fun x => D.int (x : Nat)).getD (.int 0) = .int (((look T v).getD 0 : Nat) : Int) := by cases look T v <;> rfl
  rw [e1]
  (walk_at "lw_dd")
  refine ⟨div_small (by decide) (by decide), ?_⟩
  rw [e_dput g0]
  refine ⟨by cases v <;> rfl, by rw [own_len]; omega, okRows_tab, ?_⟩
  rw [show (((look T v).getD 0 : Nat) : Int) + ((amt N T k : Nat) : Int) / 2 = (((look T v).getD 0 + amt N T k / 2 : Nat) : Int) by omega, own_put N _ T v hv]
  have s1 : (A ++ [ownRows N T, F]).set A.length (ownRows N (putL T v ((look T v).getD 0 + amt N T k / 2))) = A ++ [ownRows N (ledA v (amt N T k / 2) T), F] := sa_set (a := 0) rfl
  rw [s1]
  exact h _
theorem own_loop (w : Web) (nt : Nt w) (ld : LedW w) (N : Nat) (hN : N = 2 ^ w.length) (F : List D) (A : Sto) (rt : DK) (kk : DL.Env → Sto → Prop) : ∀ (r : Web) (k : Nat) (T : Tab) (v3 v4 v5 : Option D), w.drop k = r → LedI w N k T → T.length ≤ 2 * k → w.length ≤ 1000 →
    (∀ u3 u4 u5, kk [some (webD w), some (.dic false A.length), some (.dic false (A.length + 1)), u3, u4, u5] (A ++ [ownRows N (ledR N 0 k r T), F])) →
    goFor [] (dgTup 2 (dgCons (dgName 3) (dgCons (dgName 4) dgNil))) b2__law_shares ⟨kk, rt⟩ (enumD k (r.map ldsD)) [some (webD w), some (.dic false A.length), some (.dic false (A.length + 1)), v3, v4, v5] (A ++ [ownRows N T, F])
  | [], k, T, v3, v4, v5, _, _, _, _, h => ⟨trivial, h _ _ _⟩
  | p :: r, k, T, v3, v4, v5, e, I, lT, hn, h => by
    obtain ⟨hk, hp, e2⟩ := drop_cons e
    obtain ⟨I2, ev, dv⟩ := I.next nt.fwd hp hk (Nat.le_refl N) (Nat.zero_le N) (by rw [hN]; exact Nat.dvd_refl _) (Nat.dvd_zero _)
    have l1 : leadW w k false = some p.1 := by unfold leadW; rw [hp]; rfl
    have l2 : leadW w k true = some p.2 := by unfold leadW; rw [hp]; rfl
    have n1 : p.1 ≠ .bal k := fun z => by rw [z] at l1; have := nt.fwd _ _ _ l1; omega
    have ik : k ≠ 0 → (look T (.bal k)).isSome = true := fun z => by
      obtain ⟨k', s, q⟩ := ld k (by omega) hk
      exact I.led k' s _ (nt.fwd _ _ _ q).1 q
    simp only [List.map_cons, enumD]
    refine ⟨trivial, ?_⟩
    (walk_at "lw_dd")
    simp only [b2__law_shares, ldsD]
    (walk_at "lw_dd0")
    intro _
    have tl := ledA_len p.1 (amt N T k / 2) T
    refine own_lead p.1 _ N k T F _ _ _ A rt _ (bal0_not nt.fwd l1) (by omega) ik fun u5 => ?_
    have e3 : amt N (ledA p.1 (amt N T k / 2) T) k = amt N T k := ledA_other n1
    refine own_lead p.2 _ N k _ F _ _ _ A rt _ (bal0_not nt.fwd l2) (by omega) (fun z => ?_) fun u5 => ?_
    · rw [ledA_look]
      split
      · rfl
      · exact ik z
    rw [e3]
    refine ⟨trivial, ?_⟩
    have tl2 := ledA_len p.2 (amt N T k / 2) (ledA p.1 (amt N T k / 2) T)
    exact own_loop w nt ld N hN F A rt kk r (k + 1) _ _ _ _ e2 I2 (by omega) hn h
theorem outT_app (a b : Tab) : outT (a ++ b) = outT a ++ outT b := List.filterMap_append ..
theorem ySSo : (["str"].any (subTy "str")) = true := by decide +kernel
theorem ySIo : (["str"].any (subTy "int")) = false := by decide +kernel
theorem own_outs (N : Nat) (T : Tab) (nd : (T.map (·.1)).Nodup) (hl : T.length < 100000) (a0 a3 a4 : Option D) (A : Sto) (rt : DK) (kk : DL.Env → Sto → Prop) : ∀ (r done : Tab) (v5 : Option D), done ++ r = T →
    (∀ u5, kk [a0, some (.dic false A.length), some (.dic false (A.length + 1)), a3, a4, u5] (A ++ [ownRows N T ++ [lockD], outRows (outT T)])) →
    goFor [] (dgName 5) b3__law_shares ⟨kk, rt⟩ (r.map fun p => p.1.d) [a0, some (.dic false A.length), some (.dic false (A.length + 1)), a3, a4, v5] (A ++ [ownRows N T ++ [lockD], outRows (outT done)])
  | [], done, v5, e, h => by
    rw [List.append_nil] at e
    rw [e]
    exact ⟨trivial, h _⟩
  | (v, x) :: r, done, v5, e, h => by
    have g0 : (A ++ [ownRows N T ++ [lockD], outRows (outT done)])[A.length]? = some (ownRows N T ++ [lockD]) := sa_get (a := 0) rfl
    have g1 : (A ++ [ownRows N T ++ [lockD], outRows (outT done)])[A.length + 1]? = some (outRows (outT done)) := sa_get rfl
    have e' : (done ++ [(v, x)]) ++ r = T := by rw [List.append_assoc]; exact e
    refine ⟨trivial, ?_⟩
    (walk_at "lw_dd")
    simp only [b3__law_shares]
    have ys := ySSo
    have yi := ySIo
    cases v with
    | bal j =>
      simp only [Ld.d]
      (try simp only [BEq.rfl, ↓e_v0, ↓e_vs, ↓e_c, ↓e_op, ↓e_test, ↓e_testK, ↓e_tru, ↓e_truL, ↓e_truT, ↓e_truB, ↓e_truI, ↓e_truN, ↓e_truS, ↓e_not, ↓e_or, ↓e_notK, ↓e_if, ↓e_nil, ↓e_cons, ↓e_tup, ↓e_lst, ↓e_new, ↓e_call, ↓e_drop, ↓e_ret, ↓e_pass, ↓e_ifS, ↓e_g0, ↓e_gs, ↓e_gnil, ↓e_gcons, ↓e_gtup, ↓e_asg, ↓e_par, ↓e_parK, ↓e_par3, ↓e_par3K, ↓e_chain, ↓e_chK, ↓e_no, ↓e_some, ↓e_someK, ↓e_cut, ↓e_b, ↓e_iter, ↓e_iterL, ↓e_iterT, ↓e_iterS, ↓e_rng1, ↓e_rng1K, ↓e_enum, ↓e_enumL, ↓e_enumT, ↓e_for, ↓e_lc, ↓e_lcNew, ↓e_forN, ↓e_forC, ↓e_lcN, ↓e_lcC, ↓e_srcN, ↓e_srcC, ↓e_meth, ↓e_isL, ↓e_sub, ↓e_isi, ↓e_yes, ↓e_bits, ↓e_bitsK, ↓e_addI, ↓e_addB, ↓e_addS, ↓e_addT, ↓e_addL, ↓e_subI, ↓e_mulI, ↓e_mulT, ↓e_mulL, ↓e_divI, ↓e_modI, ↓e_powI, ↓e_cmpI, ↓e_eq, ↓e_ne, ↓e_ixL, ↓e_ixKL, ↓e_ixT, ↓e_cutL, ↓e_cutKL, ↓e_cutT, ↓e_lenL, ↓e_lenKL, ↓e_lenT, ↓e_abs, ↓e_intI, ↓e_intB, ↓e_listNL, ↓e_listNT, ↓e_tupL, ↓e_tupT, ↓e_sum1T, ↓e_sum1L, ↓e_max1T, ↓e_max1L, ↓e_drI, ↓e_drB, ↓e_drS, ↓e_drN, ↓e_drL, ↓e_drT, ↓e_seq, ↓e_sortedL, ↓e_lr2, ↓e_lr2K, ↓e_unlL, ↓e_inL, ↓e_inKL, ↓e_inT, ↓e_inFlat, ↓e_drK, ↓e_addBI, ↓e_subBI, ↓e_subIB, ↓e_drG, ↓e_dnew, ↓e_dgetF, ↓e_dget2, ↓e_dsetdS, ↓e_dgPut, ↓e_lenSetZ, ↓e_lenSetZL, ↓e_join, ↓e_joinL, ↓e_cutS, ↓e_mulS, ↓e_andI, ↓e_srtTx, ↓e_srtTxL, ↓e_pairs0, ↓e_pairs1, ↓e_shrI, ↓e_dispN, ↓e_putN, e_kyI, e_kyS, Nat.reduceAdd, Nat.zero_add, List.length_cons, List.length_nil, List.length_map, Nat.reduceLeDiff, and_true, true_and, if_true, ite_true, decide_eq_true_eq, Bool.not_eq_true, Bool.false_eq_true, if_false, ite_false, ↓reduceIte, Int.reduceToNat, Int.reducePow, ne_eq, q_okI, q_okB, q_okN, q_okS, q_okL, q_okT, q_oks0, q_oks1, q_eqII, q_eqBB, q_eqSS, q_eqLL, q_eqTT, q_eqNN, q_eqNI, q_eqIN, q_eqs0, q_eqs1, Bool.true_and, Bool.and_true, beq_iff_eq, reduceCtorEq, wipeE, List.set_cons_zero, List.set_cons_succ, List.set_nil, Bool.not_true, Bool.not_false, List.getElem?_cons_zero, List.getElem?_cons_succ, ty_int, yi])
      have := own_outs N T nd hl a0 a3 a4 A rt kk r (done ++ [(.bal j, x)]) (some (.int (j : Nat))) e' h
      have e0 : outT [(Ld.bal j, x)] = [] := rfl
      rw [outT_app, e0, List.append_nil] at this
      exact this
    | out cs =>
      simp only [Ld.d]
      (try simp only [BEq.rfl, ↓e_v0, ↓e_vs, ↓e_c, ↓e_op, ↓e_test, ↓e_testK, ↓e_tru, ↓e_truL, ↓e_truT, ↓e_truB, ↓e_truI, ↓e_truN, ↓e_truS, ↓e_not, ↓e_or, ↓e_notK, ↓e_if, ↓e_nil, ↓e_cons, ↓e_tup, ↓e_lst, ↓e_new, ↓e_call, ↓e_drop, ↓e_ret, ↓e_pass, ↓e_ifS, ↓e_g0, ↓e_gs, ↓e_gnil, ↓e_gcons, ↓e_gtup, ↓e_asg, ↓e_par, ↓e_parK, ↓e_par3, ↓e_par3K, ↓e_chain, ↓e_chK, ↓e_no, ↓e_some, ↓e_someK, ↓e_cut, ↓e_b, ↓e_iter, ↓e_iterL, ↓e_iterT, ↓e_iterS, ↓e_rng1, ↓e_rng1K, ↓e_enum, ↓e_enumL, ↓e_enumT, ↓e_for, ↓e_lc, ↓e_lcNew, ↓e_forN, ↓e_forC, ↓e_lcN, ↓e_lcC, ↓e_srcN, ↓e_srcC, ↓e_meth, ↓e_isL, ↓e_sub, ↓e_isi, ↓e_yes, ↓e_bits, ↓e_bitsK, ↓e_addI, ↓e_addB, ↓e_addS, ↓e_addT, ↓e_addL, ↓e_subI, ↓e_mulI, ↓e_mulT, ↓e_mulL, ↓e_divI, ↓e_modI, ↓e_powI, ↓e_cmpI, ↓e_eq, ↓e_ne, ↓e_ixL, ↓e_ixKL, ↓e_ixT, ↓e_cutL, ↓e_cutKL, ↓e_cutT, ↓e_lenL, ↓e_lenKL, ↓e_lenT, ↓e_abs, ↓e_intI, ↓e_intB, ↓e_listNL, ↓e_listNT, ↓e_tupL, ↓e_tupT, ↓e_sum1T, ↓e_sum1L, ↓e_max1T, ↓e_max1L, ↓e_drI, ↓e_drB, ↓e_drS, ↓e_drN, ↓e_drL, ↓e_drT, ↓e_seq, ↓e_sortedL, ↓e_lr2, ↓e_lr2K, ↓e_unlL, ↓e_inL, ↓e_inKL, ↓e_inT, ↓e_inFlat, ↓e_drK, ↓e_addBI, ↓e_subBI, ↓e_subIB, ↓e_drG, ↓e_dnew, ↓e_dgetF, ↓e_dget2, ↓e_dsetdS, ↓e_dgPut, ↓e_lenSetZ, ↓e_lenSetZL, ↓e_join, ↓e_joinL, ↓e_cutS, ↓e_mulS, ↓e_andI, ↓e_srtTx, ↓e_srtTxL, ↓e_pairs0, ↓e_pairs1, ↓e_shrI, ↓e_dispN, ↓e_putN, e_kyI, e_kyS, Nat.reduceAdd, Nat.zero_add, List.length_cons, List.length_nil, List.length_map, Nat.reduceLeDiff, and_true, true_and, if_true, ite_true, decide_eq_true_eq, Bool.not_eq_true, Bool.false_eq_true, if_false, ite_false, ↓reduceIte, Int.reduceToNat, Int.reducePow, ne_eq, q_okI, q_okB, q_okN, q_okS, q_okL, q_okT, q_oks0, q_oks1, q_eqII, q_eqBB, q_eqSS, q_eqLL, q_eqTT, q_eqNN, q_eqNI, q_eqIN, q_eqs0, q_eqs1, Bool.true_and, Bool.and_true, beq_iff_eq, reduceCtorEq, wipeE, List.set_cons_zero, List.set_cons_succ, List.set_nil, Bool.not_true, Bool.not_false, List.getElem?_cons_zero, List.getElem?_cons_succ, ty_str, ys])
      rw [e_dget g0, valR_lock, show D.str (S cs) = (Ld.out cs).d from rfl, own_val, if_neg (by intro z; cases z)]
      have lx : look T (.out cs) = some x := look_of_mem nd (p := (.out cs, x)) (by rw [← e]; simp)
      rw [lx]
      refine ⟨rfl, _, rfl, ?_⟩
      rw [e_dput g1]
      have ln : (outT done).length ≤ done.length := List.length_filterMap_le ..
      have ld : done.length ≤ T.length := by rw [← e, List.length_append]; omega
      refine ⟨rfl, by unfold outRows; rw [tabR_length]; omega, okRows_tab, ?_⟩
      have nw : look (outT done) (S cs) = none := by
        rw [look_outT, look_none]
        intro z
        rw [← e, List.map_append] at nd
        exact (List.nodup_append.mp nd).2.2 _ z _ (by simp) rfl
      have e3 : putR false (outRows (outT done)) (.str (S cs)) (.int (x : Nat)) = outRows (outT (done ++ [(.out cs, x)])) := by
        unfold outRows
        rw [putR_tab (f := fun x : Nat => D.int (x : Nat)) keyS, putL_new nw, outT_app]
        rfl
      rw [show (Ld.out cs).d = D.str (S cs) from rfl, e3]
      have s1 : (A ++ [ownRows N T ++ [lockD], outRows (outT done)]).set (A.length + 1) (outRows (outT (done ++ [(.out cs, x)]))) = A ++ [ownRows N T ++ [lockD], outRows (outT (done ++ [(.out cs, x)]))] := sa_set rfl
      rw [s1]
      exact own_outs N T nd hl a0 a3 a4 A rt kk r (done ++ [(.out cs, x)]) _ e' h
def sp__law_shares : SpD := fun ds st kk => ∃ w : Web, ds = [webD w] ∧ Nt w ∧ LedW w ∧ w.length ≤ 1000 ∧ ∀ b : List D, kk (.dic false (st.length + 1)) (st ++ [b, outRows (outT (ledT w (2 ^ w.length) 0))])
theorem len__law_shares (ds : List D) (st : Sto) (kk : DK) (h : sp__law_shares ds st kk) : ds.length = 1 := by
  obtain ⟨_, rfl, _⟩ := h
  rfl
theorem ledR_len (a m : Nat) : ∀ (r : Web) (k : Nat) (T : Tab), (ledR a m k r T).length ≤ T.length + 2 * r.length
  | [], k, T => by simp [ledR]
  | p :: r, k, T => by
    have ih := ledR_len a m r (k + 1) (ledA p.2 ((amt a T k + m) / 2) (ledA p.1 ((amt a T k + m) / 2) T))
    have l1 := ledA_len p.1 ((amt a T k + m) / 2) T
    have l2 := ledA_len p.2 ((amt a T k + m) / 2) (ledA p.1 ((amt a T k + m) / 2) T)
    unfold ledR
    rw [List.length_cons]
    omega
theorem p__law_shares : BodyD false N__law_shares sp__law_shares t__law_shares := by
  rintro ds st kk ⟨w, rfl, nt, ld, hn, h⟩
  rw [st__law_shares]
  simp only [t__law_shares]
  (walk_at "lw_dd0")
  show bLen [.tup (w.map ldsD)] _ _
  rw [e_lenT, List.length_map]
  refine ⟨w.length, rfl, by omega, ?_⟩
  dsimp only
  rw [e_dictL (ps := [(.int 0, .int (2 ^ w.length : Nat))]) rfl]
  have e0 : mergeR false [] [(D.int 0, D.int (2 ^ w.length : Nat))] = ownRows (2 ^ w.length) [] := rfl
  rw [e0]
  show enumK _ (.tup (w.map ldsD)) _
  rw [e_enumT]
  intro _
  rw [List.append_assoc, show ([ownRows (2 ^ w.length) []] ++ [[]] : Sto) = [ownRows (2 ^ w.length) [], []] from rfl, show (st ++ [ownRows (2 ^ w.length) []]).length = st.length + 1 by simp]
  refine own_loop w nt ld _ rfl [] st _ _ w 0 [] _ _ _ rfl (.start (Nat.two_pow_pos _)) (Nat.le_refl _) (by omega) fun u3 u4 u5 => ?_
  have I : LedI w (2 ^ w.length) w.length (ledT w (2 ^ w.length) 0) := ledT_I nt (Nat.le_refl _) (Nat.zero_le _) (Nat.dvd_refl _) (Nat.dvd_zero _)
  have hl : (ledT w (2 ^ w.length) 0).length ≤ 2 * w.length := by
    have := ledR_len (2 ^ w.length) 0 w 0 []
    simpa [ledT] using this
  rw [show ledR (2 ^ w.length) 0 0 w [] = ledT w (2 ^ w.length) 0 from rfl]
  generalize ledT w (2 ^ w.length) 0 = T at I hl h ⊢
  have g0 : (st ++ [ownRows (2 ^ w.length) T, []])[st.length]? = some (ownRows (2 ^ w.length) T) := sa_get (a := 0) rfl
  (walk_at "lw_dd0")
  refine lockAt_of rfl g0 okRows_tab ?_
  rw [show (st ++ [ownRows (2 ^ w.length) T, []]).set st.length (ownRows (2 ^ w.length) T ++ [lockD]) = st ++ [ownRows (2 ^ w.length) T ++ [lockD], []] from sa_set (a := 0) rfl]
  refine dWalkL_of (rows := ownRows (2 ^ w.length) T) rfl (sa_get (a := 0) rfl) okRows_tab ?_
  have ek : keysR (ownRows (2 ^ w.length) T) = ((Ld.bal 0, 0) :: T).map fun p => p.1.d := by
    unfold ownRows
    rw [keysR_tab]
    unfold hdT
    rw [List.map_cons, List.map_cons, List.map_map]
    rfl
  rw [ek]
  -- the first key is balance 0
  refine ⟨trivial, ?_⟩
  (walk_at "lw_dd")
  simp only [b3__law_shares]
  have yi := ySIo
  simp only [Ld.d]
  (try simp only [BEq.rfl, ↓e_v0, ↓e_vs, ↓e_c, ↓e_op, ↓e_test, ↓e_testK, ↓e_tru, ↓e_truL, ↓e_truT, ↓e_truB, ↓e_truI, ↓e_truN, ↓e_truS, ↓e_not, ↓e_or, ↓e_notK, ↓e_if, ↓e_nil, ↓e_cons, ↓e_tup, ↓e_lst, ↓e_new, ↓e_call, ↓e_drop, ↓e_ret, ↓e_pass, ↓e_ifS, ↓e_g0, ↓e_gs, ↓e_gnil, ↓e_gcons, ↓e_gtup, ↓e_asg, ↓e_par, ↓e_parK, ↓e_par3, ↓e_par3K, ↓e_chain, ↓e_chK, ↓e_no, ↓e_some, ↓e_someK, ↓e_cut, ↓e_b, ↓e_iter, ↓e_iterL, ↓e_iterT, ↓e_iterS, ↓e_rng1, ↓e_rng1K, ↓e_enum, ↓e_enumL, ↓e_enumT, ↓e_for, ↓e_lc, ↓e_lcNew, ↓e_forN, ↓e_forC, ↓e_lcN, ↓e_lcC, ↓e_srcN, ↓e_srcC, ↓e_meth, ↓e_isL, ↓e_sub, ↓e_isi, ↓e_yes, ↓e_bits, ↓e_bitsK, ↓e_addI, ↓e_addB, ↓e_addS, ↓e_addT, ↓e_addL, ↓e_subI, ↓e_mulI, ↓e_mulT, ↓e_mulL, ↓e_divI, ↓e_modI, ↓e_powI, ↓e_cmpI, ↓e_eq, ↓e_ne, ↓e_ixL, ↓e_ixKL, ↓e_ixT, ↓e_cutL, ↓e_cutKL, ↓e_cutT, ↓e_lenL, ↓e_lenKL, ↓e_lenT, ↓e_abs, ↓e_intI, ↓e_intB, ↓e_listNL, ↓e_listNT, ↓e_tupL, ↓e_tupT, ↓e_sum1T, ↓e_sum1L, ↓e_max1T, ↓e_max1L, ↓e_drI, ↓e_drB, ↓e_drS, ↓e_drN, ↓e_drL, ↓e_drT, ↓e_seq, ↓e_sortedL, ↓e_lr2, ↓e_lr2K, ↓e_unlL, ↓e_inL, ↓e_inKL, ↓e_inT, ↓e_inFlat, ↓e_drK, ↓e_addBI, ↓e_subBI, ↓e_subIB, ↓e_drG, ↓e_dnew, ↓e_dgetF, ↓e_dget2, ↓e_dsetdS, ↓e_dgPut, ↓e_lenSetZ, ↓e_lenSetZL, ↓e_join, ↓e_joinL, ↓e_cutS, ↓e_mulS, ↓e_andI, ↓e_srtTx, ↓e_srtTxL, ↓e_pairs0, ↓e_pairs1, ↓e_shrI, ↓e_dispN, ↓e_putN, e_kyI, e_kyS, Nat.reduceAdd, Nat.zero_add, List.length_cons, List.length_nil, List.length_map, Nat.reduceLeDiff, and_true, true_and, if_true, ite_true, decide_eq_true_eq, Bool.not_eq_true, Bool.false_eq_true, if_false, ite_false, ↓reduceIte, Int.reduceToNat, Int.reducePow, ne_eq, q_okI, q_okB, q_okN, q_okS, q_okL, q_okT, q_oks0, q_oks1, q_eqII, q_eqBB, q_eqSS, q_eqLL, q_eqTT, q_eqNN, q_eqNI, q_eqIN, q_eqs0, q_eqs1, Bool.true_and, Bool.and_true, beq_iff_eq, reduceCtorEq, wipeE, List.set_cons_zero, List.set_cons_succ, List.set_nil, Bool.not_true, Bool.not_false, List.getElem?_cons_zero, List.getElem?_cons_succ, ty_int, yi])
  refine own_outs (2 ^ w.length) T I.nd (by omega) _ _ _ st _ _ T [] _ rfl fun u5 => ?_
  (walk_at "lw_dd0")
  rw [show (st ++ [ownRows (2 ^ w.length) T ++ [lockD], outRows (outT T)]).set st.length (ownRows (2 ^ w.length) T) = st ++ [ownRows (2 ^ w.length) T, outRows (outT T)] from sa_set (a := 0) rfl]
  exact h _
def b1__law_is_tree : DS :=
    (dIfS (dNot (dTru (dIsi (dVar 4) ["str"]))) (dSeq (dIfS (dOr (dTru (dIsi (dVar 4) ["bool"])) (dOr (dNot (dTru (dIsi (dVar 4) ["int"]))) (dNot (dTest (dChain (cmpI fun i j => decide (i < j)) (cmpI fun i j => decide (i < j)) (dVar 2) (dVar 4) (dB bLen (dCons (dVar 0) dNil))))))) (dRet (dC (.bl false))) dPass)
    (dDrop (dMeth mAppend (dVar 1) (dCons (dVar 4) dNil)))) dPass)
def b2__law_is_tree : DS :=
    (dSeq (dIfS (dOr (dNot (dTru (dIsi (dVar 3) ["tuple"]))) (dTest (dOp (eqOp true) (dB bLen (dCons (dVar 3) dNil)) (dC (.int 2))))) (dRet (dC (.bl false))) dPass)
    (dFor (dIter (dVar 3)) (dgName 4) (b1__law_is_tree)))
def t__law_is_tree : DS :=
    (dSeq (dIfS (dOr (dNot (dTru (dIsi (dVar 0) ["tuple"]))) (dTest (dOp (eqOp false) (dB bLen (dCons (dVar 0) dNil)) (dC (.int 0))))) (dRet (dC (.bl false))) dPass)
    (dSeq (dAsg (dNew dNil) (dgName 1))
    (dSeq (dFor (dEnum (dVar 0)) (dgTup 2 (dgCons (dgName 2) (dgCons (dgName 3) dgNil))) (b2__law_is_tree))
    (dRet (dOp (eqOp false) (dB bSorted (dCons (dVar 1) dNil)) (dLR2 (dC (.int 1)) (dB bLen (dCons (dVar 0) dNil))))))))
theorem st__law_is_tree (a0 : D) : startD N__law_is_tree [a0] = [some a0, none, none, none, none] := rfl
def sp__law_is_tree : SpD := fun ds st kk => ∃ w : Web, ds = [webD w] ∧ Nt w ∧ ledsW w = List.range' 1 (w.length - 1) ∧ ∀ L : Sto, kk (.bl true) (st ++ L)
theorem len__law_is_tree (ds : List D) (st : Sto) (kk : DK) (h : sp__law_is_tree ds st kk) : ds.length = 1 := by
  obtain ⟨_, rfl, _⟩ := h
  rfl
theorem tree_lead (W : D) (v : Ld) (n : Nat) (r : List D) (k : Nat) (led : List Nat) (a3 v4 : Option D) (A : Sto) (rt : DK) (nx : DL.Env → Sto → Prop) (w : Web) (hn : w.length = n) (hW : W = webD w) (hv : ∀ j, v = .bal j → k < j ∧ j < n) (hn1 : n ≤ 1000) (hl : led.length ≤ 10000)
    (h : ∀ u4, goFor [] (dgName 4) b1__law_is_tree ⟨nx, rt⟩ r [some W, some (.obj A.length), some (.int (k : Nat)), a3, u4] (A ++ [natsD (led ++ ldb v)])) :
    goFor [] (dgName 4) b1__law_is_tree ⟨nx, rt⟩ (v.d :: r) [some W, some (.obj A.length), some (.int (k : Nat)), a3, v4] (A ++ [natsD led]) := by
  refine ⟨trivial, ?_⟩
  (walk_at "lw_dd0")
  simp only [b1__law_is_tree]
  cases v with
  | out c =>
    simp only [Ld.d]
    (try simp only [BEq.rfl, ↓e_v0, ↓e_vs, ↓e_c, ↓e_op, ↓e_test, ↓e_testK, ↓e_tru, ↓e_truL, ↓e_truT, ↓e_truB, ↓e_truI, ↓e_truN, ↓e_truS, ↓e_not, ↓e_or, ↓e_notK, ↓e_if, ↓e_nil, ↓e_cons, ↓e_tup, ↓e_lst, ↓e_new, ↓e_call, ↓e_drop, ↓e_ret, ↓e_pass, ↓e_ifS, ↓e_g0, ↓e_gs, ↓e_gnil, ↓e_gcons, ↓e_gtup, ↓e_asg, ↓e_par, ↓e_parK, ↓e_par3, ↓e_par3K, ↓e_chain, ↓e_chK, ↓e_no, ↓e_some, ↓e_someK, ↓e_cut, ↓e_b, ↓e_iter, ↓e_iterL, ↓e_iterT, ↓e_iterS, ↓e_rng1, ↓e_rng1K, ↓e_enum, ↓e_enumL, ↓e_enumT, ↓e_for, ↓e_lc, ↓e_lcNew, ↓e_meth, ↓e_isL, ↓e_sub, ↓e_isi, ↓e_yes, ↓e_bits, ↓e_bitsK, ↓e_addI, ↓e_addB, ↓e_addS, ↓e_addT, ↓e_addL, ↓e_subI, ↓e_mulI, ↓e_mulT, ↓e_mulL, ↓e_divI, ↓e_modI, ↓e_powI, ↓e_cmpI, ↓e_eq, ↓e_ne, ↓e_ixL, ↓e_ixKL, ↓e_ixT, ↓e_cutL, ↓e_cutKL, ↓e_cutT, ↓e_lenL, ↓e_lenKL, ↓e_lenT, ↓e_abs, ↓e_intI, ↓e_intB, ↓e_listNL, ↓e_listNT, ↓e_tupL, ↓e_tupT, ↓e_sum1T, ↓e_sum1L, ↓e_max1T, ↓e_max1L, ↓e_drI, ↓e_drB, ↓e_drS, ↓e_drN, ↓e_drL, ↓e_drT, ↓e_seq, ↓e_sortedL, ↓e_lr2, ↓e_lr2K, ↓e_unlL, ↓e_inL, ↓e_inKL, ↓e_inT, ↓e_inFlat, ↓e_drK, ↓e_addBI, ↓e_subBI, ↓e_subIB, ↓e_drG, ↓e_dnew, ↓e_dgetF, ↓e_dget2, ↓e_dsetdS, ↓e_dgPut, ↓e_lenSetZ, ↓e_lenSetZL, ↓e_join, ↓e_joinL, ↓e_cutS, ↓e_mulS, ↓e_andI, ↓e_srtTx, ↓e_srtTxL, ↓e_pairs0, ↓e_pairs1, ↓e_shrI, ↓e_dispN, ↓e_putN, e_kyI, e_kyS, Nat.reduceAdd, Nat.zero_add, List.length_cons, List.length_nil, List.length_map, Nat.reduceLeDiff, and_true, true_and, if_true, ite_true, decide_eq_true_eq, Bool.not_eq_true, Bool.false_eq_true, if_false, ite_false, ↓reduceIte, Int.reduceToNat, Int.reducePow, ne_eq, q_okI, q_okB, q_okN, q_okS, q_okL, q_okT, q_oks0, q_oks1, q_eqII, q_eqBB, q_eqSS, q_eqLL, q_eqTT, q_eqNN, q_eqNI, q_eqIN, q_eqs0, q_eqs1, Bool.true_and, Bool.and_true, beq_iff_eq, reduceCtorEq, wipeE, List.set_cons_zero, List.set_cons_succ, List.set_nil, Bool.not_true, Bool.not_false, List.getElem?_cons_zero, List.getElem?_cons_succ, tyD, subTy])
    rw [if_neg (by decide)]
    have := h (some (.str (S c)))
    rw [show led ++ ldb (.out c) = led from List.append_nil _] at this
    exact this
  | bal j =>
    obtain ⟨j1, j2⟩ := hv j rfl
    simp only [Ld.d]
    (try simp only [BEq.rfl, ↓e_v0, ↓e_vs, ↓e_c, ↓e_op, ↓e_test, ↓e_testK, ↓e_tru, ↓e_truL, ↓e_truT, ↓e_truB, ↓e_truI, ↓e_truN, ↓e_truS, ↓e_not, ↓e_or, ↓e_notK, ↓e_if, ↓e_nil, ↓e_cons, ↓e_tup, ↓e_lst, ↓e_new, ↓e_call, ↓e_drop, ↓e_ret, ↓e_pass, ↓e_ifS, ↓e_g0, ↓e_gs, ↓e_gnil, ↓e_gcons, ↓e_gtup, ↓e_asg, ↓e_par, ↓e_parK, ↓e_par3, ↓e_par3K, ↓e_chain, ↓e_chK, ↓e_no, ↓e_some, ↓e_someK, ↓e_cut, ↓e_b, ↓e_iter, ↓e_iterL, ↓e_iterT, ↓e_iterS, ↓e_rng1, ↓e_rng1K, ↓e_enum, ↓e_enumL, ↓e_enumT, ↓e_for, ↓e_lc, ↓e_lcNew, ↓e_meth, ↓e_isL, ↓e_sub, ↓e_isi, ↓e_yes, ↓e_bits, ↓e_bitsK, ↓e_addI, ↓e_addB, ↓e_addS, ↓e_addT, ↓e_addL, ↓e_subI, ↓e_mulI, ↓e_mulT, ↓e_mulL, ↓e_divI, ↓e_modI, ↓e_powI, ↓e_cmpI, ↓e_eq, ↓e_ne, ↓e_ixL, ↓e_ixKL, ↓e_ixT, ↓e_cutL, ↓e_cutKL, ↓e_cutT, ↓e_lenL, ↓e_lenKL, ↓e_lenT, ↓e_abs, ↓e_intI, ↓e_intB, ↓e_listNL, ↓e_listNT, ↓e_tupL, ↓e_tupT, ↓e_sum1T, ↓e_sum1L, ↓e_max1T, ↓e_max1L, ↓e_drI, ↓e_drB, ↓e_drS, ↓e_drN, ↓e_drL, ↓e_drT, ↓e_seq, ↓e_sortedL, ↓e_lr2, ↓e_lr2K, ↓e_unlL, ↓e_inL, ↓e_inKL, ↓e_inT, ↓e_inFlat, ↓e_drK, ↓e_addBI, ↓e_subBI, ↓e_subIB, ↓e_drG, ↓e_dnew, ↓e_dgetF, ↓e_dget2, ↓e_dsetdS, ↓e_dgPut, ↓e_lenSetZ, ↓e_lenSetZL, ↓e_join, ↓e_joinL, ↓e_cutS, ↓e_mulS, ↓e_andI, ↓e_srtTx, ↓e_srtTxL, ↓e_pairs0, ↓e_pairs1, ↓e_shrI, ↓e_dispN, ↓e_putN, e_kyI, e_kyS, Nat.reduceAdd, Nat.zero_add, List.length_cons, List.length_nil, List.length_map, Nat.reduceLeDiff, and_true, true_and, if_true, ite_true, decide_eq_true_eq, Bool.not_eq_true, Bool.false_eq_true, if_false, ite_false, ↓reduceIte, Int.reduceToNat, Int.reducePow, ne_eq, q_okI, q_okB, q_okN, q_okS, q_okL, q_okT, q_oks0, q_oks1, q_eqII, q_eqBB, q_eqSS, q_eqLL, q_eqTT, q_eqNN, q_eqNI, q_eqIN, q_eqs0, q_eqs1, Bool.true_and, Bool.and_true, beq_iff_eq, reduceCtorEq, wipeE, List.set_cons_zero, List.set_cons_succ, List.set_nil, Bool.not_true, Bool.not_false, List.getElem?_cons_zero, List.getElem?_cons_succ, tyD, subTy])
    rw [if_pos (by decide), if_neg (by decide), if_neg (by decide), if_pos (by omega)]
    subst hW
    show bLen [.tup (w.map ldsD)] _ _
    rw [e_lenT, List.length_map, hn]
    (walk_at "lw_dd0")
    rw [if_neg (by rw [decide_eq_true (show ((j : Nat) : Int) < (n : Nat) by omega)]; decide)]
    refine ⟨by simp [isLst, deref], ?_⟩
    rw [e_app (xs := natsD led) app_get]
    refine ⟨by unfold natsD; rw [List.length_map]; omega, ?_⟩
    have e : (A ++ [natsD led]).set A.length (natsD led ++ [.int (j : Nat)]) = A ++ [natsD (led ++ ldb (.bal j))] := by
      rw [List.set_append_right _ _ (Nat.le_refl _), Nat.sub_self]
      unfold natsD
      rw [List.map_append]
      rfl
    rw [e]
    exact h _
theorem tree_loop (w : Web) (nt : Nt w) (A : Sto) (rt : DK) (nx : DL.Env → Sto → Prop) : ∀ (r : Web) (k : Nat) (led : List Nat) (v2 v3 v4 : Option D), w.drop k = r → led.length + 2 * r.length ≤ 10000 →
    (∀ u2 u3 u4, nx [some (webD w), some (.obj A.length), u2, u3, u4] (A ++ [natsD (led ++ ledsW r)])) →
    goFor [] (dgTup 2 (dgCons (dgName 2) (dgCons (dgName 3) dgNil))) b2__law_is_tree ⟨nx, rt⟩ (enumD k (r.map ldsD)) [some (webD w), some (.obj A.length), v2, v3, v4] (A ++ [natsD led])
  | [], k, led, v2, v3, v4, _, _, h => ⟨trivial, by simpa [ledsW] using h v2 v3 v4⟩
  | p :: r, k, led, v2, v3, v4, hd, hl, h => by
    have hk : k < w.length := by
      rcases Nat.lt_or_ge k w.length with z | z
      · exact z
      · rw [List.drop_eq_nil_of_le z] at hd
        cases hd
    have hp : w[k]? = some p := by
      rw [← List.head?_drop, hd]
      rfl
    have hd2 : w.drop (k + 1) = r := by
      rw [← List.tail_drop, hd]
      rfl
    have fw := nt.fwd
    have hb : ∀ s j, Ld.of p s = .bal j → k < j ∧ j < w.length := fun s j e => fw k s j (by unfold leadW; rw [hp]; show some (Ld.of p s) = _; rw [e])
    simp only [List.length_cons] at hl
    refine ⟨trivial, ?_⟩
    simp only [ldsD]
    (walk_at "lw_dd0")
    simp only [b2__law_is_tree]
    (try simp only [BEq.rfl, ↓e_v0, ↓e_vs, ↓e_c, ↓e_op, ↓e_test, ↓e_testK, ↓e_tru, ↓e_truL, ↓e_truT, ↓e_truB, ↓e_truI, ↓e_truN, ↓e_truS, ↓e_not, ↓e_or, ↓e_notK, ↓e_if, ↓e_nil, ↓e_cons, ↓e_tup, ↓e_lst, ↓e_new, ↓e_call, ↓e_drop, ↓e_ret, ↓e_pass, ↓e_ifS, ↓e_g0, ↓e_gs, ↓e_gnil, ↓e_gcons, ↓e_gtup, ↓e_asg, ↓e_par, ↓e_parK, ↓e_par3, ↓e_par3K, ↓e_chain, ↓e_chK, ↓e_no, ↓e_some, ↓e_someK, ↓e_cut, ↓e_b, ↓e_iter, ↓e_iterL, ↓e_iterT, ↓e_iterS, ↓e_rng1, ↓e_rng1K, ↓e_enum, ↓e_enumL, ↓e_enumT, ↓e_for, ↓e_lc, ↓e_lcNew, ↓e_meth, ↓e_isL, ↓e_sub, ↓e_isi, ↓e_yes, ↓e_bits, ↓e_bitsK, ↓e_addI, ↓e_addB, ↓e_addS, ↓e_addT, ↓e_addL, ↓e_subI, ↓e_mulI, ↓e_mulT, ↓e_mulL, ↓e_divI, ↓e_modI, ↓e_powI, ↓e_cmpI, ↓e_eq, ↓e_ne, ↓e_ixL, ↓e_ixKL, ↓e_ixT, ↓e_cutL, ↓e_cutKL, ↓e_cutT, ↓e_lenL, ↓e_lenKL, ↓e_lenT, ↓e_abs, ↓e_intI, ↓e_intB, ↓e_listNL, ↓e_listNT, ↓e_tupL, ↓e_tupT, ↓e_sum1T, ↓e_sum1L, ↓e_max1T, ↓e_max1L, ↓e_drI, ↓e_drB, ↓e_drS, ↓e_drN, ↓e_drL, ↓e_drT, ↓e_seq, ↓e_sortedL, ↓e_lr2, ↓e_lr2K, ↓e_unlL, ↓e_inL, ↓e_inKL, ↓e_inT, ↓e_inFlat, ↓e_drK, ↓e_addBI, ↓e_subBI, ↓e_subIB, ↓e_drG, ↓e_dnew, ↓e_dgetF, ↓e_dget2, ↓e_dsetdS, ↓e_dgPut, ↓e_lenSetZ, ↓e_lenSetZL, ↓e_join, ↓e_joinL, ↓e_cutS, ↓e_mulS, ↓e_andI, ↓e_srtTx, ↓e_srtTxL, ↓e_pairs0, ↓e_pairs1, ↓e_shrI, ↓e_dispN, ↓e_putN, e_kyI, e_kyS, Nat.reduceAdd, Nat.zero_add, List.length_cons, List.length_nil, List.length_map, Nat.reduceLeDiff, and_true, true_and, if_true, ite_true, decide_eq_true_eq, Bool.not_eq_true, Bool.false_eq_true, if_false, ite_false, ↓reduceIte, Int.reduceToNat, Int.reducePow, ne_eq, q_okI, q_okB, q_okN, q_okS, q_okL, q_okT, q_oks0, q_oks1, q_eqII, q_eqBB, q_eqSS, q_eqLL, q_eqTT, q_eqNN, q_eqNI, q_eqIN, q_eqs0, q_eqs1, Bool.true_and, Bool.and_true, beq_iff_eq, reduceCtorEq, wipeE, List.set_cons_zero, List.set_cons_succ, List.set_nil, Bool.not_true, Bool.not_false, List.getElem?_cons_zero, List.getElem?_cons_succ, tyD, subTy])
    rw [if_neg (by decide), if_neg (by decide)]
    intro _
    have ll : ∀ v : Ld, (ldb v).length ≤ 1 := fun v => by cases v <;> simp [ldb]
    have l1 := ll p.1
    have l2 := ll p.2
    refine tree_lead _ p.1 w.length _ k led _ _ A _ _ w rfl rfl (fun j e => hb false j e) nt.few (by omega) fun u4 => ?_
    refine tree_lead _ p.2 w.length _ k (led ++ ldb p.1) _ _ A _ _ w rfl rfl (fun j e => hb true j e) nt.few (by rw [List.length_append]; omega) fun u4 => ?_
    refine ⟨trivial, ?_⟩
    refine tree_loop w nt A rt nx r (k + 1) (led ++ ldb p.1 ++ ldb p.2) _ _ _ hd2 (by rw [List.length_append, List.length_append]; omega) fun u2 u3 u4 => ?_
    have := h u2 u3 u4
    simp only [ledsW, List.append_assoc] at this ⊢
    exact this
theorem p__law_is_tree : BodyD false N__law_is_tree sp__law_is_tree t__law_is_tree := by
  rintro ds st kk ⟨w, rfl, nt, led, h⟩
  rw [st__law_is_tree]
  simp only [t__law_is_tree]
  (walk_at "lw_dd0")
  rw [if_neg (by show ¬ (!["tuple"].any (subTy "tuple")) = true; decide)]
  show bLen [.tup (w.map ldsD)] _ _
  rw [e_lenT, List.length_map]
  have h1 := nt.one
  have h2 := nt.few
  (walk_at "lw_dd0")
  rw [if_neg (by omega)]
  show enumK _ (.tup (w.map ldsD)) _
  rw [e_enumT]
  intro _
  refine tree_loop w nt st _ _ w 0 [] _ _ _ rfl (by simp; omega) fun u2 u3 u4 => ?_
  rw [List.nil_append, led]
  (walk_at "lw_dd0")
  have eN : natsD (List.range' 1 (w.length - 1)) = ((List.range' 1 (w.length - 1)).map fun n : Nat => (n : Int)).map D.int := by
    unfold natsD
    rw [List.map_map]
    rfl
  have so : sortZ ((List.range' 1 (w.length - 1)).map fun n : Nat => (n : Int)) = (List.range' 1 (w.length - 1)).map fun n : Nat => (n : Int) := by
    refine (sortZ_of (.refl _) ?_).symm
    rw [List.pairwise_map]
    exact (List.pairwise_lt_range' (s := 1) (n := w.length - 1)).imp fun h => by omega
  have e1 : ∀ k : DK, bSorted [.obj st.length] (st ++ [natsD (List.range' 1 (w.length - 1))]) k = k (.lst (natsD (List.range' 1 (w.length - 1)))) (st ++ [natsD (List.range' 1 (w.length - 1))]) := fun k => by
    rw [eN]
    simp only [bSorted, deref, List.getElem?_concat_length, intsD_map, so]
  rw [e1]
  show bLen [.tup (w.map ldsD)] _ _
  rw [e_lenT, List.length_map, e_lr2K]
  have e2 : rangeD 1 ((w.length : Int) - 1).toNat = natsD (List.range' 1 (w.length - 1)) := by
    unfold rangeD natsD
    rw [show ((w.length : Int) - 1).toNat = w.length - 1 by omega, List.range'_eq_map_range, List.map_map]
    refine List.map_congr_left fun x _ => ?_
    simp only [Function.comp]
    rw [Int.natCast_add]
    rfl
  rw [e2]
  have ok : okD 60 (.lst (natsD (List.range' 1 (w.length - 1)))) = true := by
    rw [eN]
    show okDs 59 _ = true
    exact okDs_int _ _
  refine ⟨⟨by decide, by omega⟩, ok, ok, ?_⟩
  simp only [deref]
  rw [eqD_refl _ _ ok]
  exact h _
theorem Told.rows {D : Nat} {zs : List Sh} (T : Told D zs) {w : Web} (G : Gives w zs) : ∀ z ∈ zs, valR false (outRows (outT (ledT w (2 ^ w.length) 0))) (.str (S z.1)) = some (.int ((z.2.1 * 2 ^ (w.length - z.2.2) : Nat) : Int)) ∧ frI ((z.2.1 * 2 ^ (w.length - z.2.2) : Nat) : Int) ((2 ^ w.length : Nat) : Int) = .tup [.int (z.2.1 : Nat), .int ((2 ^ z.2.2 : Nat) : Int)] := fun z hz => by
  obtain ⟨h1, h2⟩ := G.val z hz
  refine ⟨?_, fr_odd (T.odd z hz) h1⟩
  unfold outRows
  rw [valR_tab keyS, h2]
  rfl
def z10__law_grown : DS :=
    (dDrop (dMeth mAppend (dVar 3) (dCons (dTup (dCons (dB bLen (dCons (dVar 2) dNil)) (dCons (dVar 7) dNil))) dNil)))
def b1__law_grown : DS :=
    (dSeq (dAsg (dOp addD (dOp getN (dVar 4) (dVar 6)) (dC (.int 1))) (dgPutN (dVar 4) (dTup (dCons (dB bLen (dCons (dVar 2) dNil)) (dCons (dVar 7) dNil)))))
    (z10__law_grown))
def z11__law_grown : DS :=
    (dDrop (dMeth mAppend (dVar 2) (dCons (dNew (dCons (dC (.str "")) (dCons (dC (.str "")) dNil))) dNil)))
def z8__law_grown : DS :=
    (dSeq (dFor (dIter (dTup (dCons (dC (.int 0)) (dCons (dC (.int 1)) dNil)))) (dgName 7) (b1__law_grown))
    (z11__law_grown))
def z7__law_grown : DS :=
    (dSeq (dAsg (dB bLen (dCons (dVar 2) dNil)) (dgSub (dOp ixD (dVar 2) (dOp ixD (dVar 6) (dC (.int 0)))) (dOp ixD (dVar 6) (dC (.int 1)))))
    (z8__law_grown))
def z5__law_grown : DS :=
    (dIfS (dTest (dOp (cmpI fun i j => decide (i < j)) (dOp getN (dVar 4) (dVar 6)) (dC (.int 5)))) (dSeq (dDrop (dMeth mRemove (dVar 3) (dCons (dVar 6) dNil)))
    (z7__law_grown)) dPass)
def b2__law_grown : DS :=
    (dSeq (dAsg (dOp ixD (dVar 3) (dCall sp__law_draw (dCons (dVar 0) (dCons (dB bLen (dCons (dVar 3) dNil)) dNil)))) (dgName 6))
    (z5__law_grown))
def z16__law_grown : DS :=
    (dDrop (dMeth mAppend (dSetd (dVar 8) (dVar 9) (dNew dNil)) (dCons (dOp getN (dVar 4) (dVar 6)) dNil)))
def z15__law_grown : DS :=
    (dSeq (dAsg (dVar 9) (dgSub (dOp ixD (dVar 2) (dOp ixD (dVar 6) (dC (.int 0)))) (dOp ixD (dVar 6) (dC (.int 1)))))
    (z16__law_grown))
def b3__law_grown : DS :=
    (dSeq (dAsg (dOp ixD (dVar 1) (dCall sp__law_draw (dCons (dVar 0) (dCons (dB bLen (dCons (dVar 1) dNil)) dNil)))) (dgName 9))
    (z15__law_grown))
def e1__law_grown : DE :=
    (dB bTuple (dCons (dVar 10) dNil))
def z17__law_grown : DS :=
    (dRet (dTup (dCons (dB bTuple (dCons (dLc (dIter (dVar 2)) (dgName 10) dYes (e1__law_grown) [10]) dNil)) (dCons (dVar 8) dNil))))
def z13__law_grown : DS :=
    (dSeq (dFor (dIter (dVar 3)) (dgName 6) (b3__law_grown))
    (z17__law_grown))
def z12__law_grown : DS :=
    (dSeq (dAsg (dNewD false) (dgName 8))
    (z13__law_grown))
def z3__law_grown : DS :=
    (dSeq (dFor (dRng1 (dCall sp__law_draw (dCons (dVar 0) (dCons (dC (.int 8)) dNil)))) (dgName 5) (b2__law_grown))
    (z12__law_grown))
def z2__law_grown : DS :=
    (dSeq (dAsg (dDispN (((dTup (dCons (dC (.int 0)) (dCons (dC (.int 0)) dNil))), (dC (.int 1))) :: (((dTup (dCons (dC (.int 0)) (dCons (dC (.int 1)) dNil))), (dC (.int 1))) :: []))) (dgName 4))
    (z3__law_grown))
def t__law_grown : DS :=
    (dSeq (dPar 2 3 (dCons (dNew (dCons (dNew (dCons (dC (.str "")) (dCons (dC (.str "")) dNil))) dNil)) (dCons (dNew (dCons (dTup (dCons (dC (.int 0)) (dCons (dC (.int 0)) dNil))) (dCons (dTup (dCons (dC (.int 0)) (dCons (dC (.int 1)) dNil))) dNil))) dNil)))
    (z2__law_grown))
theorem st__law_grown (a0 a1 : D) : startD N__law_grown [a0, a1] = [some a0, some a1, none, none, none, none, none, none, none, none, none] := rfl
/-! how many ones a number has -/
def popF : Nat → Nat → Nat
  | 0, _ => 0
  | f + 1, n => n % 2 + popF f (n / 2)
theorem popF_zero : ∀ f, popF f 0 = 0
  | 0 => rfl
  | f + 1 => by
    unfold popF
    simpa using popF_zero f
theorem popF_add : ∀ (f a b c : Nat), c ≤ 1 → popF f (a + b + c) ≤ popF f a + popF f b + c
  | 0, _, _, _, _ => Nat.zero_le _
  | f + 1, a, b, c, hc => by
    have ih := popF_add f (a / 2) (b / 2) ((a % 2 + b % 2 + c) / 2) (by omega)
    have e : (a + b + c) / 2 = a / 2 + b / 2 + (a % 2 + b % 2 + c) / 2 := by omega
    unfold popF
    rw [e]
    omega
theorem popF_pow : ∀ (f k : Nat), popF f (2 ^ k) ≤ 1
  | 0, _ => Nat.zero_le _
  | f + 1, 0 => by
    show 1 + popF f 0 ≤ 1
    rw [popF_zero]
    exact Nat.le_refl _
  | f + 1, k + 1 => by
    have ih := popF_pow f k
    unfold popF
    rw [Nat.pow_succ, Nat.mul_mod_left, Nat.mul_div_cancel _ (by decide)]
    omega
def sumP (ks : List Nat) : Nat := (ks.map fun k => 2 ^ k).sum
theorem sumP_cons (k : Nat) (ks : List Nat) : sumP (k :: ks) = 2 ^ k + sumP ks := by
  unfold sumP
  rw [List.map_cons, List.sum_cons]
theorem popF_sum (f : Nat) : ∀ ks : List Nat, popF f (sumP ks) ≤ ks.length
  | [] => by rw [show sumP [] = 0 from rfl, popF_zero]; exact Nat.le_refl _
  | k :: ks => by
    have ih := popF_sum f ks
    have a := popF_add f (2 ^ k) (sumP ks) 0 (by decide)
    have b := popF_pow f k
    rw [sumP_cons, List.length_cons]
    rw [Nat.add_zero] at a
    omega
theorem sumP_split : ∀ ks : List Nat, ∃ c r, sumP ks = c + 2 * sumP r ∧ ks.length = c + r.length ∧ (∀ j ∈ r, j + 1 ∈ ks) ∧ (ks.Nodup → r.Nodup ∧ c ≤ 1 ∧ (0 ∉ ks → c = 0))
  | [] => ⟨0, [], rfl, rfl, fun _ h => (by cases h), fun _ => ⟨List.nodup_nil, by decide, fun _ => rfl⟩⟩
  | 0 :: ks => by
    obtain ⟨c, r, h1, h2, h3, h4⟩ := sumP_split ks
    refine ⟨c + 1, r, by rw [sumP_cons, h1]; omega, by rw [List.length_cons, h2]; omega, fun j hj => List.mem_cons_of_mem _ (h3 j hj), fun nd => ?_⟩
    rw [List.nodup_cons] at nd
    obtain ⟨a, _, b⟩ := h4 nd.2
    exact ⟨a, by rw [b nd.1]; decide, fun z => absurd List.mem_cons_self z⟩
  | (j + 1) :: ks => by
    obtain ⟨c, r, h1, h2, h3, h4⟩ := sumP_split ks
    refine ⟨c, j :: r, by rw [sumP_cons, sumP_cons, h1, Nat.pow_succ]; omega, by rw [List.length_cons, List.length_cons, h2]; omega, fun i hi => ?_, fun nd => ?_⟩
    · rcases List.mem_cons.mp hi with z | z
      · rw [z]; exact List.mem_cons_self
      · exact List.mem_cons_of_mem _ (h3 i z)
    · rw [List.nodup_cons] at nd
      obtain ⟨a, b, d⟩ := h4 nd.2
      exact ⟨List.nodup_cons.mpr ⟨fun z => nd.1 (h3 j z), a⟩, b, fun z => d fun w => z (List.mem_cons_of_mem _ w)⟩
theorem popF_nd : ∀ (f : Nat) (ks : List Nat), ks.Nodup → (∀ k ∈ ks, k < f) → popF f (sumP ks) = ks.length
  | 0, ks, _, h => by
    cases ks with
    | nil => rfl
    | cons k r => exact absurd (h k List.mem_cons_self) (Nat.not_lt_zero _)
  | f + 1, ks, nd, h => by
    obtain ⟨c, r, h1, h2, h3, h4⟩ := sumP_split ks
    obtain ⟨a, b, _⟩ := h4 nd
    have ih := popF_nd f r a fun j hj => by have := h _ (h3 j hj); omega
    unfold popF
    rw [h1, show (c + 2 * sumP r) % 2 = c by omega, show (c + 2 * sumP r) / 2 = sumP r by omega, ih, h2]
theorem sumP_perm {a b : List Nat} (p : a.Perm b) : sumP a = sumP b := (p.map _).sum_nat
theorem popF_few (f : Nat) : ∀ ks : List Nat, ¬ ks.Nodup → popF f (sumP ks) < ks.length
  | [], h => absurd List.nodup_nil h
  | k :: ks, h => by
    have b := popF_pow f k
    by_cases m : k ∈ ks
    · have p := List.perm_cons_erase m
      have e : sumP (k :: ks) = 2 ^ (k + 1) + sumP (ks.erase k) := by
        rw [sumP_cons, sumP_perm p, sumP_cons, Nat.pow_succ]
        omega
      have l := p.length_eq
      have a := popF_add f (2 ^ (k + 1)) (sumP (ks.erase k)) 0 (by decide)
      have c := popF_pow f (k + 1)
      have d := popF_sum f (ks.erase k)
      rw [e, List.length_cons]
      rw [List.length_cons] at l
      rw [Nat.add_zero] at a
      omega
    · have ih := popF_few f ks fun nd => h (List.nodup_cons.mpr ⟨m, nd⟩)
      have a := popF_add f (2 ^ k) (sumP ks) 0 (by decide)
      rw [sumP_cons, List.length_cons]
      rw [Nat.add_zero] at a
      omega
def low32 (x : Nat) : Nat × Nat := if x % 2 = 1 then (x, 5) else if x / 2 % 2 = 1 then (x / 2, 4) else if x / 4 % 2 = 1 then (x / 4, 3) else if x / 8 % 2 = 1 then (x / 8, 2) else (x / 16, 1)
theorem low32_ok {x : Nat} (h1 : 1 ≤ x) (h2 : x < 32) : (low32 x).2 ≤ 5 ∧ (low32 x).1 % 2 = 1 ∧ (low32 x).1 < 2 ^ (low32 x).2 ∧ (low32 x).1 * 2 ^ (5 - (low32 x).2) = x := by
  have : ∀ x : Fin 32, 1 ≤ x.val → (low32 x.val).2 ≤ 5 ∧ (low32 x.val).1 % 2 = 1 ∧ (low32 x.val).1 < 2 ^ (low32 x.val).2 ∧ (low32 x.val).1 * 2 ^ (5 - (low32 x.val).2) = x.val := by decide +kernel
  exact this ⟨x, h2⟩ h1
theorem low32_pop {x : Nat} (h1 : 1 ≤ x) (h2 : x < 32) : (dps (low32 x).1 (low32 x).2).length = popF 5 x := by
  have : ∀ x : Fin 32, 1 ≤ x.val → (dps (low32 x.val).1 (low32 x.val).2).length = popF 5 x.val := by decide +kernel
  exact this ⟨x, h2⟩ h1
theorem S_of (z : Str) : S z.cps.toList = z := by
  unfold S
  rw [Array.toArray_toList]
/-! ends: how deep they lie -/
def sumG (ds : List Nat) : Nat := (ds.map fun d => 2 ^ (5 - d)).sum
theorem sumG_P (ds : List Nat) : sumG ds = sumP (ds.map fun d => 5 - d) := by
  unfold sumG sumP
  rw [List.map_map]
  rfl
theorem five_nd {ds : List Nat} (h : ∀ d ∈ ds, 1 ≤ d ∧ d ≤ 5) : (ds.map fun d => 5 - d).Nodup ↔ ds.Nodup := by
  unfold List.Nodup
  rw [List.pairwise_map]
  constructor
  · intro p
    exact p.imp fun ne e => ne (by rw [e])
  · intro p
    exact List.Pairwise.imp_of_mem (fun {a b} ha hb ne e => ne (by have := h a ha; have := h b hb; omega)) p
theorem pop_le (ds : List Nat) : popF 5 (sumG ds) ≤ ds.length := by
  have := popF_sum 5 (ds.map fun d => 5 - d)
  rwa [List.length_map, ← sumG_P] at this
theorem pop_nd {ds : List Nat} (h : ∀ d ∈ ds, 1 ≤ d ∧ d ≤ 5) (nd : ds.Nodup) : popF 5 (sumG ds) = ds.length := by
  have := popF_nd 5 (ds.map fun d => 5 - d) ((five_nd h).mpr nd) fun k hk => by
    obtain ⟨d, hd, rfl⟩ := List.mem_map.mp hk
    have := h d hd
    omega
  rwa [List.length_map, ← sumG_P] at this
theorem pop_few {ds : List Nat} (h : ∀ d ∈ ds, 1 ≤ d ∧ d ≤ 5) (nd : ¬ ds.Nodup) : popF 5 (sumG ds) < ds.length := by
  have := popF_few 5 (ds.map fun d => 5 - d) fun z => nd ((five_nd h).mp z)
  rwa [List.length_map, ← sumG_P] at this
abbrev Gr := Str × Nat × List Nat
def rowG (G : List Gr) : List D := tabR D.str (fun x : Nat × List Nat => D.obj x.1) G
def lisN (ds : List Nat) : List D := ds.map fun d : Nat => D.int (d : Nat)
structure Grown (m : Nat) (ys : List Str) (G : List Gr) (s : Sto) : Prop where
  nd : (G.map (·.1)).Nodup
  nm : ∀ p ∈ G, p.1 ∈ ys
  ne : ∀ p ∈ G, p.2.2 ≠ []
  dp : ∀ p ∈ G, ∀ d ∈ p.2.2, 1 ≤ d ∧ d ≤ 5
  at_ : ∀ p ∈ G, s[p.2.1]? = some (lisN p.2.2)
  sum : (G.map fun p => sumG p.2.2).sum = 32
  cnt : (G.map fun p => p.2.2.length).sum = m + 1
/-! pans -/
def panD (p : Nat × Nat) : D := .tup [.int (p.1 : Nat), .int (p.2 : Nat)]
theorem nk_pan (p : Nat × Nat) : nkT (panD p) = some (.tup [.num (p.1 : Nat), .num (p.2 : Nat)]) := by
  unfold panD nkT
  simp only [nkD, nkDs]
  rw [if_pos (by simp [NestedKey.depth, NestedKey.depthAll])]
theorem pan_eq {p q : Nat × Nat} : nkT (panD p) = nkT (panD q) ↔ p = q := by
  rw [nk_pan, nk_pan]
  constructor
  · intro h
    injection h with h
    injection h with h
    injection h with h1 h2
    injection h2 with h2 _
    injection h1 with h1
    injection h2 with h2
    exact Prod.ext (by omega) (by omega)
  · intro h
    rw [h]
theorem pan_eqD (p q : Nat × Nat) : eqD (panD p) (panD q) = decide (p = q) := by
  obtain ⟨a, b⟩ := p
  obtain ⟨c, d⟩ := q
  simp only [panD, eqD, eqDs, Bool.and_true]
  by_cases z : a = c <;> by_cases y : b = d <;> simp [z, y] <;> omega
theorem valN_put {k k' d : D} : ∀ (n : Nat) {rows : List D}, rows.length = 2 * n → valN (putN rows k d) k' = if nkT k = nkT k' then some d else valN rows k'
  | 0, [], _ => rfl
  | 0, _ :: _, h => by simp at h
  | n + 1, [], h => by simp at h
  | n + 1, [_], h => by simp only [List.length_cons, List.length_nil] at h; omega
  | n + 1, a :: b :: r, h => by
    have ih := valN_put (k := k) (k' := k') (d := d) n (rows := r) (by simp only [List.length_cons] at h; omega)
    unfold putN
    by_cases e : nkT a = nkT k
    · rw [if_pos e]
      unfold valN
      rw [e]
      by_cases z : nkT k = nkT k'
      · rw [if_pos z, if_pos z]
      · rw [if_neg z, if_neg z, if_neg z]
    · rw [if_neg e]
      unfold valN
      by_cases z : nkT a = nkT k'
      · rw [if_pos z, if_pos z, if_neg fun y => e (z.trans y.symm)]
      · rw [if_neg z, if_neg z, ih]
theorem putN_len {k d : D} : ∀ (n : Nat) {rows : List D}, rows.length = 2 * n → ∃ m, (putN rows k d).length = 2 * m ∧ m ≤ n + 1
  | 0, [], _ => ⟨1, rfl, Nat.le_refl _⟩
  | 0, _ :: _, h => by simp at h
  | n + 1, [], h => by simp at h
  | n + 1, [_], h => by simp only [List.length_cons, List.length_nil] at h; omega
  | n + 1, a :: b :: r, h => by
    obtain ⟨m, h1, h2⟩ := putN_len (k := k) (d := d) n (rows := r) (by simp only [List.length_cons] at h; omega)
    unfold putN
    split
    · exact ⟨n + 1, by simpa using h, by omega⟩
    · exact ⟨m + 1, by simp only [List.length_cons, h1]; omega, by omega⟩
/-- a house of m balances, as far as it goes -/
structure Gs (m : Nat) (E : List (Nat × Nat)) (f : Nat × Nat → Nat) (rows : List D) : Prop where
  ev : ∃ k, rows.length = 2 * k ∧ k ≤ 2 * m
  nd : E.Nodup
  ok : ∀ p ∈ E, p.1 < m ∧ p.2 ≤ 1
  dep : ∀ p ∈ E, valN rows (panD p) = some (.int (f p : Nat)) ∧ 1 ≤ f p ∧ f p ≤ 5
  sum : (E.map fun p => 2 ^ (5 - f p)).sum = 32
  cnt : E.length = m + 1
theorem find_pan {p : Nat × Nat} : ∀ {E : List (Nat × Nat)}, p ∈ E → ∃ j, findD (panD p) (E.map panD) = some j ∧ E[j]? = some p
  | [], h => by cases h
  | q :: E, h => by
    unfold findD
    rw [List.map_cons, List.findIdx?_cons, pan_eqD]
    by_cases e : q = p
    · exact ⟨0, by simp [e], by rw [e]; rfl⟩
    · rcases List.mem_cons.mp h with z | z
      · exact absurd z.symm e
      · obtain ⟨j, h1, h2⟩ := find_pan z
        unfold findD at h1
        refine ⟨j + 1, ?_, h2⟩
        rw [decide_eq_false e, h1]
        rfl
theorem perm_erase {α : Type} {p : α} : ∀ {E : List α} {j : Nat}, E[j]? = some p → E.Perm (p :: E.eraseIdx j)
  | [], _, h => by simp at h
  | x :: E, 0, h => by
    simp at h
    rw [h]
    exact List.Perm.refl _
  | x :: E, j + 1, h => ((perm_erase (E := E) (j := j) (by simpa using h)).cons x).trans (List.Perm.swap _ _ _)
theorem Gs.first : Gs 1 [(0, 0), (0, 1)] (fun _ => 1) (mergeN [] [(panD (0, 0), .int 1), (panD (0, 1), .int 1)]) := by
  have e : mergeN [] [(panD (0, 0), .int 1), (panD (0, 1), .int 1)] = [panD (0, 0), .int 1, panD (0, 1), .int 1] := by
    show putN [panD (0, 0), .int 1] (panD (0, 1)) (.int 1) = _
    unfold putN
    rw [if_neg fun h => by have := pan_eq.mp h; cases this]
    rfl
  rw [e]
  refine ⟨⟨2, rfl, by decide⟩, by decide, by decide, fun p hp => ?_, rfl, rfl⟩
  rcases List.mem_cons.mp hp with z | z
  · rw [z]
    refine ⟨?_, by decide, by decide⟩
    unfold valN
    rw [if_pos rfl]
    rfl
  · rw [List.mem_singleton.mp z]
    refine ⟨?_, by decide, by decide⟩
    unfold valN
    rw [if_neg fun h => by have := pan_eq.mp h; cases this]
    unfold valN
    rw [if_pos rfl]
    rfl
def grF (m : Nat) (p : Nat × Nat) (f : Nat × Nat → Nat) : Nat × Nat → Nat := fun q => if q.1 = m then f p + 1 else f q
theorem Gs.next {m : Nat} {E : List (Nat × Nat)} {f : Nat × Nat → Nat} {rows : List D} (g : Gs m E f rows) {p : Nat × Nat} {j : Nat} (hj : E[j]? = some p) (h5 : f p < 5) :
    Gs (m + 1) (E.eraseIdx j ++ [(m, 0)] ++ [(m, 1)]) (grF m p f) (putN (putN rows (panD (m, 0)) (.int ((f p + 1 : Nat) : Int))) (panD (m, 1)) (.int ((f p + 1 : Nat) : Int))) := by
  have pm := perm_erase hj
  have hp : p ∈ E := List.mem_of_getElem? hj
  have sub : ∀ q ∈ E.eraseIdx j, q ∈ E := fun q hq => pm.mem_iff.mpr (List.mem_cons_of_mem _ hq)
  obtain ⟨k, k1, k2⟩ := g.ev
  obtain ⟨k', l1, l2⟩ := putN_len (k := panD (m, 0)) (d := .int ((f p + 1 : Nat) : Int)) k k1
  obtain ⟨k'', l3, l4⟩ := putN_len (k := panD (m, 1)) (d := .int ((f p + 1 : Nat) : Int)) k' l1
  have nd := pm.nodup_iff.mp g.nd
  rw [List.nodup_cons] at nd
  have old : ∀ q ∈ E.eraseIdx j, q.1 ≠ m := fun q hq => by have := (g.ok q (sub q hq)).1; omega
  refine ⟨⟨k'', l3, by omega⟩, ?_, fun q hq => ?_, fun q hq => ?_, ?_, ?_⟩
  · rw [List.nodup_append, List.nodup_append]
    refine ⟨⟨nd.2, by simp, fun a ha b hb e => ?_⟩, by simp, fun a ha b hb e => ?_⟩
    · rw [List.mem_singleton.mp hb] at e
      exact old a ha (by rw [e])
    · rw [List.mem_singleton.mp hb] at e
      rcases List.mem_append.mp ha with z | z
      · exact old a z (by rw [e])
      · rw [List.mem_singleton.mp z] at e
        cases e
  · rcases List.mem_append.mp hq with z | z
    · rcases List.mem_append.mp z with z | z
      · have := g.ok q (sub q z)
        omega
      · rw [List.mem_singleton.mp z]
        exact ⟨Nat.lt_succ_self _, Nat.zero_le _⟩
    · rw [List.mem_singleton.mp z]
      exact ⟨Nat.lt_succ_self _, Nat.le_refl _⟩
  · rw [valN_put k' l1, valN_put k k1]
    have new : q.1 = m → grF m p f q = f p + 1 := fun z => if_pos z
    rcases List.mem_append.mp hq with z | z
    · rcases List.mem_append.mp z with z | z
      · have o := old q z
        have e : grF m p f q = f q := if_neg o
        rw [if_neg fun y => o (by rw [← pan_eq.mp y]), if_neg fun y => o (by rw [← pan_eq.mp y]), e]
        exact g.dep q (sub q z)
      · have eq := List.mem_singleton.mp z
        subst eq
        rw [if_neg fun y => (by have := pan_eq.mp y; cases this), if_pos rfl, new rfl]
        exact ⟨rfl, by omega, by omega⟩
    · have eq := List.mem_singleton.mp z
      subst eq
      rw [if_pos rfl, new rfl]
      exact ⟨rfl, by omega, by omega⟩
  · have s := g.sum
    rw [(pm.map fun p => 2 ^ (5 - f p)).sum_nat, List.map_cons, List.sum_cons] at s
    have e : (E.eraseIdx j).map (fun q => 2 ^ (5 - grF m p f q)) = (E.eraseIdx j).map fun q => 2 ^ (5 - f q) := List.map_congr_left fun q hq => by
      rw [show grF m p f q = f q from if_neg (old q hq)]
    have n0 : grF m p f (m, 0) = f p + 1 := if_pos rfl
    have n1 : grF m p f (m, 1) = f p + 1 := if_pos rfl
    have h2 : 2 ^ (5 - f p) = 2 ^ (5 - (f p + 1)) + 2 ^ (5 - (f p + 1)) := by
      rw [show 5 - f p = 5 - (f p + 1) + 1 by omega, Nat.pow_succ]
      omega
    rw [List.map_append, List.map_append, List.sum_append, List.sum_append, e, List.map_singleton, List.map_singleton, List.sum_singleton, List.sum_singleton, n0, n1]
    rw [h2] at s
    generalize ((E.eraseIdx j).map fun q => 2 ^ (5 - f q)).sum = A at s ⊢
    generalize 2 ^ (5 - (f p + 1)) = B at s ⊢
    clear h2 e n0 n1
    omega
  · have l := pm.length_eq
    have c := g.cnt
    rw [List.length_cons] at l
    rw [List.length_append, List.length_append, List.length_singleton, List.length_singleton]
    omega
/-! ends by names -/
def addG : List Gr → Str → Nat → Nat → List Gr
  | [], z, k, d => [(z, k, [d])]
  | p :: r, z, k, d => if p.1 = z then (z, p.2.1, p.2.2 ++ [d]) :: r else p :: addG r z k d
theorem addG_old {z : Str} {k d : Nat} : ∀ {G : List Gr} {x : Nat × List Nat}, look G z = some x → rowG (addG G z k d) = rowG G
  | [], _, h => by cases h
  | p :: r, x, h => by
    unfold addG
    by_cases e : p.1 = z
    · rw [if_pos e]
      subst e
      rfl
    · rw [if_neg e]
      have h' : look r z = some x := by
        have h2 : (if p.1 = z then some p.2 else look r z) = some x := h
        rwa [if_neg e] at h2
      have ih := addG_old (k := k) (d := d) h'
      unfold rowG tabR at ih ⊢
      rw [List.map_cons, List.map_cons, ih]
theorem addG_new {z : Str} {k d : Nat} : ∀ {G : List Gr}, look G z = none → addG G z k d = G ++ [(z, k, [d])]
  | [], _ => rfl
  | p :: r, h => by
    have h1 := look_none.mp h
    rw [List.map_cons, List.mem_cons, not_or] at h1
    unfold addG
    rw [if_neg fun e => h1.1 e.symm, addG_new (look_none.mpr h1.2)]
    rfl
theorem addG_keys {z : Str} {k d : Nat} : ∀ (G : List Gr) (y : Str), y ∈ (addG G z k d).map (·.1) → y = z ∨ y ∈ G.map (·.1)
  | [], y, h => .inl (List.mem_singleton.mp h)
  | p :: r, y, h => by
    unfold addG at h
    split at h
    · rcases List.mem_cons.mp h with e | e
      · exact .inl e
      · exact .inr (List.mem_cons_of_mem _ e)
    · rcases List.mem_cons.mp h with e | e
      · exact .inr (by rw [e]; exact List.mem_cons_self)
      · rcases addG_keys r y e with e | e
        · exact .inl e
        · exact .inr (List.mem_cons_of_mem _ e)
theorem addG_nd {z : Str} {k d : Nat} : ∀ {G : List Gr}, (G.map (·.1)).Nodup → ((addG G z k d).map (·.1)).Nodup
  | [], _ => by simp [addG]
  | p :: r, h => by
    rw [List.map_cons, List.nodup_cons] at h
    unfold addG
    split
    · rename_i e
      rw [List.map_cons, List.nodup_cons]
      exact ⟨by rw [← e]; exact h.1, h.2⟩
    · rename_i e
      rw [List.map_cons, List.nodup_cons]
      refine ⟨fun m => ?_, addG_nd h.2⟩
      rcases addG_keys r _ m with w | w
      · exact e w
      · exact h.1 w
theorem addG_sum {z : Str} {k d : Nat} (F : List Nat → Nat) (c : Nat) (h1 : F [d] = c) (h2 : ∀ ds, F (ds ++ [d]) = F ds + c) : ∀ G : List Gr, ((addG G z k d).map fun p => F p.2.2).sum = (G.map fun p => F p.2.2).sum + c
  | [] => by simp [addG, h1]
  | p :: r => by
    unfold addG
    split
    · rw [List.map_cons, List.map_cons, List.sum_cons, List.sum_cons, h2]
      omega
    · rw [List.map_cons, List.map_cons, List.sum_cons, List.sum_cons, addG_sum F c h1 h2 r]
      omega
theorem addG_all {z : Str} {k d : Nat} (P : Gr → Prop) : ∀ {G : List Gr}, (∀ p ∈ G, p.1 ≠ z → P p) → (∀ p ∈ G, p.1 = z → P (z, p.2.1, p.2.2 ++ [d])) → ((G.map (·.1)).Nodup) → (z ∉ G.map (·.1) → P (z, k, [d])) → ∀ p ∈ addG G z k d, P p
  | [], _, _, _, h3, p, hp => by rw [List.mem_singleton.mp hp]; exact h3 (by simp)
  | q :: r, h1, h2, nd, h3, p, hp => by
    rw [List.map_cons, List.nodup_cons] at nd
    unfold addG at hp
    split at hp
    · rename_i e
      rcases List.mem_cons.mp hp with w | w
      · rw [w]
        exact h2 q List.mem_cons_self e
      · refine h1 p (List.mem_cons_of_mem _ w) fun y => nd.1 ?_
        rw [e, ← y]
        exact List.mem_map_of_mem w
    · rename_i e
      rcases List.mem_cons.mp hp with w | w
      · rw [w]
        exact h1 q List.mem_cons_self e
      · exact addG_all P (fun x hx => h1 x (List.mem_cons_of_mem _ hx)) (fun x hx => h2 x (List.mem_cons_of_mem _ hx)) nd.2 (fun y => h3 (by rw [List.map_cons, List.mem_cons, not_or]; exact ⟨fun w => e w.symm, y⟩)) p w
/-! the store, while a house grows: its first balance, the house, its ends, how deep they lie, .. -/
structure Hs (st : Sto) (i n : Nat) (as : List Nat) (es rows : List D) (s : Sto) : Prop where
  frm : ∃ xs L, s = st.set i xs ++ L
  tp : Tp i n s
  il : i < st.length
  hs : s[st.length + 1]? = some (as.map D.obj)
  inn : ∀ a ∈ as, st.length ≤ a ∧ a ≠ st.length + 1 ∧ a ≠ st.length + 2 ∧ a ≠ st.length + 3 ∧ ∃ x y, s[a]? = some [x, y]
  es_ : s[st.length + 2]? = some es
  dr : s[st.length + 3]? = some rows
theorem frm_set {st s : Sto} {i k : Nat} (h : ∃ xs L, s = st.set i xs ++ L) (hk : st.length ≤ k) (y : List D) : ∃ xs L, s.set k y = st.set i xs ++ L := by
  obtain ⟨xs, L, rfl⟩ := h
  exact ⟨xs, L.set (k - st.length) y, by rw [List.set_append_right _ _ (by rw [List.length_set]; exact hk), List.length_set]⟩
theorem frm_tape {st s : Sto} {i : Nat} (h : ∃ xs L, s = st.set i xs ++ L) (hi : i < st.length) (y : List D) : ∃ xs L, s.set i y = st.set i xs ++ L := by
  obtain ⟨xs, L, rfl⟩ := h
  exact ⟨y, L, by rw [List.set_append_left _ _ (by rw [List.length_set]; exact hi), List.set_set]⟩
theorem frm_app {st s : Sto} {i : Nat} (h : ∃ xs L, s = st.set i xs ++ L) (M : Sto) : ∃ xs L, s ++ M = st.set i xs ++ L := by
  obtain ⟨xs, L, rfl⟩ := h
  exact ⟨xs, L ++ M, by rw [List.append_assoc]⟩
theorem get_lt {s : Sto} {k : Nat} {x : List D} (h : s[k]? = some x) : k < s.length := (List.getElem?_eq_some_iff.mp h).1
section
variable {st s : Sto} {i n : Nat} {as : List Nat} {es rows : List D}
theorem Hs.tape (h : Hs st i n as es rows s) {y : List D} {n' : Nat} (t : Tp i n' (s.set i y)) : Hs st i n' as es rows (s.set i y) := by
  have il := h.il
  refine ⟨frm_tape h.frm il y, t, il, ?_, fun a ha => ?_, ?_, ?_⟩
  · rw [List.getElem?_set_ne (by omega)]; exact h.hs
  · obtain ⟨a1, a2, a3, a4, x, y', e⟩ := h.inn a ha
    exact ⟨a1, a2, a3, a4, x, y', by rw [List.getElem?_set_ne (by omega)]; exact e⟩
  · rw [List.getElem?_set_ne (by omega)]; exact h.es_
  · rw [List.getElem?_set_ne (by omega)]; exact h.dr
theorem Hs.setE (h : Hs st i n as es rows s) (es' : List D) : Hs st i n as es' rows (s.set (st.length + 2) es') := by
  have il := h.il
  refine ⟨frm_set h.frm (by omega) _, h.tp.set _ (by omega), il, ?_, fun a ha => ?_, List.getElem?_set_self (get_lt h.es_), ?_⟩
  · rw [List.getElem?_set_ne (by omega)]; exact h.hs
  · obtain ⟨a1, a2, a3, a4, x, y', e⟩ := h.inn a ha
    exact ⟨a1, a2, a3, a4, x, y', by rw [List.getElem?_set_ne (by omega)]; exact e⟩
  · rw [List.getElem?_set_ne (by omega)]; exact h.dr
theorem Hs.setR (h : Hs st i n as es rows s) (rows' : List D) : Hs st i n as es rows' (s.set (st.length + 3) rows') := by
  have il := h.il
  refine ⟨frm_set h.frm (by omega) _, h.tp.set _ (by omega), il, ?_, fun a ha => ?_, ?_, List.getElem?_set_self (get_lt h.dr)⟩
  · rw [List.getElem?_set_ne (by omega)]; exact h.hs
  · obtain ⟨a1, a2, a3, a4, x, y', e⟩ := h.inn a ha
    exact ⟨a1, a2, a3, a4, x, y', by rw [List.getElem?_set_ne (by omega)]; exact e⟩
  · rw [List.getElem?_set_ne (by omega)]; exact h.es_
theorem Hs.setA (h : Hs st i n as es rows s) {a : Nat} (ha : a ∈ as) (x y : D) : Hs st i n as es rows (s.set a [x, y]) := by
  have il := h.il
  obtain ⟨a1, a2, a3, a4, x0, y0, e0⟩ := h.inn a ha
  refine ⟨frm_set h.frm a1 _, h.tp.set _ (by omega), il, ?_, fun b hb => ?_, ?_, ?_⟩
  · rw [List.getElem?_set_ne (by omega)]; exact h.hs
  · obtain ⟨b1, b2, b3, b4, x', y', e⟩ := h.inn b hb
    by_cases z : a = b
    · subst z
      exact ⟨b1, b2, b3, b4, x, y, List.getElem?_set_self (get_lt e0)⟩
    · exact ⟨b1, b2, b3, b4, x', y', by rw [List.getElem?_set_ne z]; exact e⟩
  · rw [List.getElem?_set_ne (by omega)]; exact h.es_
  · rw [List.getElem?_set_ne (by omega)]; exact h.dr
theorem Hs.app (h : Hs st i n as es rows s) (M : Sto) : Hs st i n as es rows (s ++ M) := by
  refine ⟨frm_app h.frm M, h.tp.app M, h.il, ?_, fun a ha => ?_, ?_, ?_⟩
  · rw [List.getElem?_append_left (get_lt h.hs)]; exact h.hs
  · obtain ⟨a1, a2, a3, a4, x, y', e⟩ := h.inn a ha
    exact ⟨a1, a2, a3, a4, x, y', by rw [List.getElem?_append_left (get_lt e)]; exact e⟩
  · rw [List.getElem?_append_left (get_lt h.es_)]; exact h.es_
  · rw [List.getElem?_append_left (get_lt h.dr)]; exact h.dr
theorem Hs.grow (h : Hs st i n as es rows s) (x y : D) : Hs st i n (as ++ [s.length]) es rows ((s ++ [[x, y]]).set (st.length + 1) ((as ++ [s.length]).map D.obj)) := by
  have il := h.il
  have h' := h.app [[x, y]]
  have ld := get_lt h.dr
  refine ⟨frm_set h'.frm (by omega) _, h'.tp.set _ (by omega), il, List.getElem?_set_self (get_lt h'.hs), fun a ha => ?_, ?_, ?_⟩
  · rcases List.mem_append.mp ha with z | z
    · obtain ⟨a1, a2, a3, a4, x', y', e⟩ := h'.inn a z
      exact ⟨a1, a2, a3, a4, x', y', by rw [List.getElem?_set_ne (by omega)]; exact e⟩
    · rw [List.mem_singleton.mp z]
      exact ⟨by omega, by omega, by omega, by omega, x, y, by rw [List.getElem?_set_ne (by omega)]; exact app_get⟩
  · rw [List.getElem?_set_ne (by omega)]; exact h'.es_
  · rw [List.getElem?_set_ne (by omega)]; exact h'.dr
end
theorem Hs.mono {st s : Sto} {i n m : Nat} {as : List Nat} {es rows : List D} (h : Hs st i n as es rows s) (l : n ≤ m) : Hs st i m as es rows s := ⟨h.frm, h.tp.mono l, h.il, h.hs, h.inn, h.es_, h.dr⟩
theorem itQ_n {c a b : Prop} {i : Decidable c} (h : ¬ c) (q : b) : @ite Prop c i a b := by rw [if_neg h]; exact q
theorem itQ_y {c a b : Prop} {i : Decidable c} (h : c) (q : a) : @ite Prop c i a b := by rw [if_pos h]; exact q
theorem pans_ok (n : Nat) : ∀ E : List (Nat × Nat), okDs (n + 2) (E.map panD) = true
  | [] => rfl
  | p :: E => by
    have ih := pans_ok n E
    simp only [List.map_cons, okDs, ih, Bool.and_true]
    rfl
theorem map_erase {α : Type} (f : α → D) : ∀ (E : List α) (j : Nat), (E.map f).eraseIdx j = (E.eraseIdx j).map f
  | [], _ => rfl
  | _ :: _, 0 => rfl
  | x :: E, j + 1 => by
    have := map_erase f E j
    simp only [List.map_cons, List.eraseIdx_cons_succ, this]
theorem set_two (x y d : D) : ∀ m, m < 2 → ∃ x' y', [x, y].set m d = [x', y']
  | 0, _ => ⟨_, _, rfl⟩
  | 1, _ => ⟨_, _, rfl⟩
  | m + 2, h => by omega
/-- .. and the ends of each name -/
structure Ff (st : Sto) (i n : Nat) (as : List Nat) (es rows : List D) (fI : Nat) (G : List Gr) (s : Sto) : Prop where
  h : Hs st i n as es rows s
  fr : s[fI]? = some (rowG G)
  f0 : st.length + 4 ≤ fI
  ga : ∀ a ∈ as, a < fI
  gl : ∀ p ∈ G, fI < p.2.1 ∧ s[p.2.1]? = some (lisN p.2.2)
  gd : (G.map (·.2.1)).Nodup
theorem Ff.tape {st s : Sto} {i n fI : Nat} {as : List Nat} {es rows : List D} {G : List Gr} (F : Ff st i n as es rows fI G s) {y : List D} {n' : Nat} (t : Tp i n' (s.set i y)) : Ff st i n' as es rows fI G (s.set i y) := by
  have il := F.h.il
  have f0 := F.f0
  refine ⟨F.h.tape t, by rw [List.getElem?_set_ne (by omega)]; exact F.fr, f0, F.ga, fun p hp => ?_, F.gd⟩
  obtain ⟨a, b⟩ := F.gl p hp
  exact ⟨a, by rw [List.getElem?_set_ne (by omega)]; exact b⟩
theorem Ff.setA {st s : Sto} {i n fI : Nat} {as : List Nat} {es rows : List D} {G : List Gr} (F : Ff st i n as es rows fI G s) {a : Nat} (ha : a ∈ as) (x y : D) : Ff st i n as es rows fI G (s.set a [x, y]) := by
  have l := F.ga a ha
  refine ⟨F.h.setA ha x y, by rw [List.getElem?_set_ne (by omega)]; exact F.fr, F.f0, F.ga, fun p hp => ?_, F.gd⟩
  obtain ⟨b1, b2⟩ := F.gl p hp
  exact ⟨b1, by rw [List.getElem?_set_ne (by omega)]; exact b2⟩
theorem nd_inj {α β : Type} {f : α → β} : ∀ {q : List α}, (q.map f).Nodup → ∀ v ∈ q, ∀ w ∈ q, f v = f w → v = w
  | [], _, _, h, _, _, _ => by cases h
  | x :: q, nd, v, hv, w, hw, e => by
    rw [List.map_cons, List.nodup_cons] at nd
    rcases List.mem_cons.mp hv with a | a <;> rcases List.mem_cons.mp hw with b | b
    · rw [a, b]
    · exact absurd (by rw [← a, e]; exact List.mem_map_of_mem b) nd.1
    · exact absurd (by rw [← b, ← e]; exact List.mem_map_of_mem a) nd.1
    · exact nd_inj nd.2 v a w b e
theorem Hs.other {st s : Sto} {i n k : Nat} {as : List Nat} {es rows : List D} (h : Hs st i n as es rows s) (hk : st.length + 4 ≤ k) (na : k ∉ as) (y : List D) : Hs st i n as es rows (s.set k y) := by
  have il := h.il
  refine ⟨frm_set h.frm (by omega) _, h.tp.set _ (by omega), il, ?_, fun a ha => ?_, ?_, ?_⟩
  · rw [List.getElem?_set_ne (by omega)]; exact h.hs
  · obtain ⟨a1, a2, a3, a4, x, y', e⟩ := h.inn a ha
    exact ⟨a1, a2, a3, a4, x, y', by rw [List.getElem?_set_ne (fun z => na (by rw [z]; exact ha))]; exact e⟩
  · rw [List.getElem?_set_ne (by omega)]; exact h.es_
  · rw [List.getElem?_set_ne (by omega)]; exact h.dr
theorem addG_idx {z : Str} {k d : Nat} : ∀ {G : List Gr} {x : Nat × List Nat}, look G z = some x → (addG G z k d).map (·.2.1) = G.map (·.2.1)
  | [], _, h => by cases h
  | p :: r, x, h => by
    unfold addG
    by_cases e : p.1 = z
    · rw [if_pos e]
      rfl
    · rw [if_neg e]
      have h' : look r z = some x := by
        have h2 : (if p.1 = z then some p.2 else look r z) = some x := h
        rwa [if_neg e] at h2
      rw [List.map_cons, List.map_cons, addG_idx h']
theorem addG_len {z : Str} {k d : Nat} : ∀ G : List Gr, (addG G z k d).length ≤ G.length + 1
  | [] => Nat.le_refl _
  | p :: r => by
    have := addG_len (z := z) (k := k) (d := d) r
    unfold addG
    split
    · exact Nat.le_succ _
    · simp only [List.length_cons]; omega
theorem Ff.sd {st s : Sto} {i n fI : Nat} {as : List Nat} {es rows : List D} {G : List Gr} (F : Ff st i n as es rows fI G s) (nd : (G.map (·.1)).Nodup) (lg : G.length ≤ 1000) {z : Str} {kd : DK}
    (hk : ∀ (idx : Nat) (ds : List Nat) (s' : Sto), s'[idx]? = some (lisN ds) → s'[st.length + 3]? = some rows → (∀ B, (∀ p ∈ G, p.2.2.length ≤ B) → ds.length ≤ B) → (∀ d, Ff st i n as es rows fI (addG G z s.length d) (s'.set idx (lisN (ds ++ [d])))) → kd (.obj idx) s') :
    setdD (.dic false fI) (.str z) (.obj s.length) (s ++ [[]]) kd := by
  have fl := get_lt F.fr
  have fg : (s ++ [[]])[fI]? = some (rowG G) := by rw [List.getElem?_append_left fl]; exact F.fr
  have f0 := F.f0
  have na : ∀ k, fI < k → k ∉ as := fun k hk m => by have := F.ga k m; omega
  rw [e_dsetd fg]
  refine ⟨rfl, by unfold rowG; rw [tabR_length]; omega, okRows_tab, ?_⟩
  have e1 : valR false (rowG G) (.str z) = (look G z).map fun x : Nat × List Nat => D.obj x.1 := valR_tab keyS _ _
  rw [e1]
  have H1 := F.h.app [[]]
  cases e : look G z with
  | some x =>
    have hx := look_mem e
    obtain ⟨x1, x2⟩ := F.gl _ hx
    dsimp only at x1 x2
    show kd (.obj x.1) (s ++ [[]])
    have gx : (s ++ [[]])[x.1]? = some (lisN x.2) := by rw [List.getElem?_append_left (get_lt x2)]; exact x2
    refine hk x.1 x.2 _ gx H1.dr (fun B hB => hB _ hx) fun d => ?_
    refine ⟨H1.other (by omega) (na _ x1) _, ?_, f0, F.ga, ?_, by rw [addG_idx e]; exact F.gd⟩
    · rw [List.getElem?_set_ne (by omega), fg, addG_old e]
    · refine addG_all (fun p => fI < p.2.1 ∧ ((s ++ [[]]).set x.1 (lisN (x.2 ++ [d])))[p.2.1]? = some (lisN p.2.2)) (fun p hp ne => ?_) (fun p hp ez => ?_) nd (fun h => absurd (List.mem_map_of_mem (f := (·.1)) hx) h)
      · obtain ⟨a, b⟩ := F.gl p hp
        refine ⟨a, ?_⟩
        have nx : x.1 ≠ p.2.1 := fun w => ne (by rw [nd_inj F.gd p hp _ hx w.symm])
        rw [List.getElem?_set_ne nx, List.getElem?_append_left (get_lt b)]
        exact b
      · have ep : p.2 = x := by
          have := look_of_mem nd hp
          rw [ez, e] at this
          exact (Option.some.inj this).symm
        rw [ep]
        exact ⟨x1, List.getElem?_set_self (get_lt gx)⟩
  | none =>
    have e3 : putR false (rowG G) (.str z) (.obj s.length) = rowG (putL G z (s.length, [])) := putR_tab (f := fun x : Nat × List Nat => D.obj x.1) keyS z (s.length, []) G
    show kd (.obj s.length) ((s ++ [[]]).set fI (putR false (rowG G) (.str z) (.obj s.length)))
    rw [e3, putL_new e]
    have H2 := H1.other f0 (fun m => by have := F.ga fI m; omega) (rowG (G ++ [(z, s.length, [])]))
    have g2 : ((s ++ [[]]).set fI (rowG (G ++ [(z, s.length, [])])))[s.length]? = some [] := by rw [List.getElem?_set_ne (by omega)]; exact app_get
    refine hk s.length [] _ g2 H2.dr (fun B _ => Nat.zero_le _) fun d => ?_
    have er : rowG (addG G z s.length d) = rowG (G ++ [(z, s.length, [])]) := by
      rw [addG_new e]
      unfold rowG tabR
      rw [List.map_append, List.map_append]
      rfl
    have old : ∀ p ∈ G, p.2.1 < s.length := fun p hp => get_lt (F.gl p hp).2
    refine ⟨H2.other (by omega) (na _ fl) _, ?_, f0, F.ga, fun p hp => ?_, ?_⟩
    · rw [List.getElem?_set_ne (by omega), List.getElem?_set_self (get_lt fg), er]
    · rw [addG_new e] at hp
      rcases List.mem_append.mp hp with w | w
      · obtain ⟨a, b⟩ := F.gl p w
        have := old p w
        refine ⟨a, ?_⟩
        rw [List.getElem?_set_ne (by omega), List.getElem?_set_ne (by omega), List.getElem?_append_left (get_lt b)]
        exact b
      · rw [List.mem_singleton.mp w]
        exact ⟨fl, List.getElem?_set_self (get_lt g2)⟩
    · rw [addG_new e, List.map_append, List.map_singleton, List.nodup_append]
      refine ⟨F.gd, by simp, fun a ha b hb w => ?_⟩
      obtain ⟨p, hp, ep⟩ := List.mem_map.mp ha
      have := old p hp
      have ep : p.2.1 = a := ep
      have hb : b = s.length := List.mem_singleton.mp hb
      omega
/-- house[pan[0]][pan[1]] = .. -/
theorem Hs.into {st s : Sto} {i n : Nat} {as : List Nat} {es rows : List D} (H : Hs st i n as es rows s) {p : Nat × Nat} (p1 : p.1 < as.length) (p2 : p.2 ≤ 1) (v : D) {k : Sto → Prop} (hk : ∀ a ∈ as, ∀ x y, k (s.set a [x, y])) :
    ixD (panD p) (D.int 0) s fun y s2 => ixD (D.obj (st.length + 1)) y s2 fun o s1 => ixD (panD p) (D.int 1) s1 fun i1 s2 => setD o i1 v s2 k := by
  have ma := List.getElem_mem p1
  obtain ⟨_, _, _, _, x, y, e⟩ := H.inn as[p.1] ma
  refine ⟨.int (p.1 : Nat), rfl, ?_⟩
  dsimp only
  rw [e_ixO H.hs]
  refine ⟨_, atI_some (f := D.obj) (x := as[p.1]) (List.getElem?_eq_getElem p1), ?_⟩
  refine ⟨.int (p.2 : Nat), rfl, ?_⟩
  dsimp only
  rw [e_setO e]
  obtain ⟨x', y', ex⟩ := set_two x y v p.2 (by omega)
  refine ⟨p.2, ?_, ?_⟩
  · rcases (show p.2 = 0 ∨ p.2 = 1 by omega) with z | z <;> rw [z] <;> rfl
  · rw [ex]
    exact hk _ ma x' y'
def sp__law_grown : SpD := fun ds st kk => ∃ (i n : Nat) (ys : List Str), ds = [.obj i, .lst (ys.map D.str)] ∧ Tp i n st ∧ n < 1000000 ∧ 1 ≤ ys.length ∧ ys.length ≤ 6 ∧ ∀ (xs house : List D) (L : Sto) (G : List Gr) (j : Nat), Grown house.length ys G (st.set i xs ++ L) → house.length ≤ 8 → (st.set i xs ++ L)[j]? = some (rowG G) → Tp i (n + 30) (st.set i xs ++ L) → kk (.tup [.tup house, .dic false j]) (st.set i xs ++ L)
theorem len__law_grown (ds : List D) (st : Sto) (kk : DK) (h : sp__law_grown ds st kk) : ds.length = 2 := by
  obtain ⟨_, _, _, rfl, _⟩ := h
  rfl
theorem p__law_grown : BodyD false N__law_grown sp__law_grown t__law_grown := by
  rintro ds st kk ⟨i, n, ys, rfl, ht, hn, y1, y6, h⟩
  rw [st__law_grown]
  simp only [t__law_grown]
  (walk_at "lw_dd0")
  have il := ht.lt
  simp only [z2__law_grown]
  (walk_at "lw_dd0")
  refine ⟨app_get, ⟨rfl, rfl, trivial⟩, ?_⟩
  rw [app_set]
  have g := Gs.first
  have H0 : Hs st i n [st.length] ([(0, 0), (0, 1)].map panD) (mergeN [] [(panD (0, 0), .int 1), (panD (0, 1), .int 1)]) (st ++ [[D.str (Str.ofString ""), D.str (Str.ofString "")]] ++ [[D.obj st.length]] ++ [[D.tup [D.int 0, D.int 0], D.tup [D.int 0, D.int 1]]] ++ [mergeN [] [(D.tup [D.int 0, D.int 0], D.int 1), (D.tup [D.int 0, D.int 1], D.int 1)]]) := by
    obtain ⟨xs, hx⟩ := List.getElem?_eq_some_iff.mp (show st[i]? = some st[i] from List.getElem?_eq_getElem il)
    refine ⟨⟨st[i], _, by rw [List.set_getElem_self]; simp only [List.append_assoc]; rfl⟩, (((ht.app _).app _).app _).app _, il, by simp, fun a ha => ?_, by simp [panD], by simp [panD]⟩
    rw [List.mem_singleton.mp ha]
    exact ⟨Nat.le_refl _, by omega, by omega, by omega, D.str (Str.ofString ""), D.str (Str.ofString ""), by simp⟩
  simp only [List.length_append, List.length_singleton, Nat.add_assoc, Nat.reduceAdd]
  generalize (st ++ [[D.str (Str.ofString ""), D.str (Str.ofString "")]] ++ [[D.obj st.length]] ++ [[D.tup [D.int 0, D.int 0], D.tup [D.int 0, D.int 1]]] ++ [mergeN [] [(D.tup [D.int 0, D.int 0], D.int 1), (D.tup [D.int 0, D.int 1], D.int 1)]]) = s0 at H0 ⊢
  simp only [z3__law_grown]
  (walk_at "lw_dd0")
  refine ⟨i, n, 8, rfl, H0.tp, by omega, by (first | exact mulc _ _ (by decide) (by decide) | exact mulr _ _ (by decide) (by decide) | exact ⟨by decide, by decide, by decide⟩ | exact ⟨by decide, by decide⟩ | exact mulb _ _ | exact ⟨by omega, by omega⟩ | exact mulc _ _ (by omega) (by omega) | exact mulr _ _ (by omega) (by omega) | exact div_small (by omega) (by omega) | exact ⟨by omega, by omega, by omega⟩ | omega | decide), fun r x r0 r1 t1 => ?_⟩
  have H1 := H0.tape t1
  generalize s0.set i x = s1 at H1 ⊢
  obtain ⟨k, rfl⟩ := Int.eq_ofNat_of_zero_le r0
  (walk_at "lw_dd0")
  refine ⟨by omega, ?_⟩
  refine go_range k (fun t env s => ∃ (m : Nat) (as : List Nat) (E : List (Nat × Nat)) (f : Nat × Nat → Nat) (rows : List D) (v5 v6 v7 : Option D), Hs st i (n + 1 + t) as (E.map panD) rows s ∧ Gs m E f rows ∧ as.length = m ∧ 1 ≤ m ∧ m ≤ 1 + t ∧
    env = [some (.obj i), some (.lst (ys.map D.str)), some (.obj (st.length + 1)), some (.obj (st.length + 2)), some (.dic .n (st.length + 3)), v5, v6, v7, none, none, none]) ?_ ?_ _ _ ⟨1, [st.length], _, _, _, none, none, none, H1, g, rfl, Nat.le_refl _, Nat.le_refl _, rfl⟩
  · rintro t env s nx hk ⟨m, as, E, f, rows, v5, v6, v7, H, G, la, m1, mt, rfl⟩ q
    refine ⟨trivial, ?_⟩
    (walk_at "lw_dd0")
    simp only [b2__law_grown]
    (walk_at "lw_dd0")
    rw [e_lenO H.es_, List.length_map]
    have cE := G.cnt
    refine ⟨i, _, _, rfl, H.tp, by omega, by rw [cE]; (first | exact mulc _ _ (by decide) (by decide) | exact mulr _ _ (by decide) (by decide) | exact ⟨by decide, by decide, by decide⟩ | exact ⟨by decide, by decide⟩ | exact mulb _ _ | exact ⟨by omega, by omega⟩ | exact mulc _ _ (by omega) (by omega) | exact mulr _ _ (by omega) (by omega) | exact div_small (by omega) (by omega) | exact ⟨by omega, by omega, by omega⟩ | omega | decide), fun r x r0 r1 t2 => ?_⟩
    have H2 := H.tape t2
    generalize s.set i x = s2 at H2 ⊢
    obtain ⟨a, rfl⟩ := Int.eq_ofNat_of_zero_le r0
    have ha : a < E.length := by omega
    dsimp only
    rw [e_ixO H2.es_]
    refine ⟨_, atI_some (f := panD) (x := E[a]) (List.getElem?_eq_getElem ha), ?_⟩
    have hp := List.getElem_mem ha
    generalize E[a] = p at hp ⊢
    obtain ⟨d1, d2, d3⟩ := G.dep p hp
    have evn : rows.length % 2 = 0 := by obtain ⟨k, k1, _⟩ := G.ev; omega
    simp only [z5__law_grown]
    (walk_at "lw_dd0")
    rw [e_getN H2.dr]
    refine ⟨evn, by rw [nk_pan]; rfl, _, d1, ?_⟩
    (walk_at "lw_dd0")
    by_cases c : f p < 5
    · refine itQ_y (by omega) ?_
      obtain ⟨j, j1, j2⟩ := find_pan hp
      refine ⟨by rw [e_isO H2.es_], ?_⟩
      rw [e_remO H2.es_]
      refine ⟨pans_ok 57 E, rfl, j, j1, ?_⟩
      rw [map_erase]
      have H3 := H2.setE ((E.eraseIdx j).map panD)
      generalize s2.set (st.length + 2) ((E.eraseIdx j).map panD) = s3 at H3 ⊢
      have N := G.next j2 c
      obtain ⟨p1, p2⟩ := G.ok p hp
      simp only [z7__law_grown]
      (walk_at "lw_dd0")
      rw [e_lenO H3.hs, List.length_map]
      refine H3.into (by omega) p2 _ fun b hb x y => ?_
      have H4 := H3.setA hb x y
      generalize s3.set b [x, y] = s4 at H4 ⊢
      have side : ∀ (sd : Nat) (nx : DL.Env → Sto → Prop) (E' : List (Nat × Nat)) (rows' : List D) (s' : Sto) (v7 : Option D), Hs st i (n + 1 + (t + 1)) as (E'.map panD) rows' s' → rows'.length % 2 = 0 → rows'.length ≤ 1000 → E'.length ≤ 1000 → valN rows' (panD p) = some (.int (f p : Nat)) →
          (∀ s'', Hs st i (n + 1 + (t + 1)) as ((E' ++ [(m, sd)]).map panD) (putN rows' (panD (m, sd)) (.int ((f p + 1 : Nat) : Int))) s'' → nx [some (.obj i), some (.lst (ys.map D.str)), some (.obj (st.length + 1)), some (.obj (st.length + 2)), some (.dic .n (st.length + 3)), some (.int (t : Nat)), some (panD p), some (.int (sd : Nat)), none, none, none] s'') →
          b1__law_grown ⟨nx, fun d st' => kk d st'⟩ [some (.obj i), some (.lst (ys.map D.str)), some (.obj (st.length + 1)), some (.obj (st.length + 2)), some (.dic .n (st.length + 3)), some (.int (t : Nat)), some (panD p), some (.int (sd : Nat)), none, none, none] s' := fun sd nx E' rows' s' v7 h1 h2 h3 h4 h5 h6 => by
        simp only [b1__law_grown]
        (walk_at "lw_dd0")
        rw [e_getN h1.dr]
        refine ⟨h2, by rw [nk_pan]; rfl, _, h5, ?_⟩
        (walk_at "lw_dd0")
        rw [e_lenO h1.hs, List.length_map, la]
        (walk_at "lw_dd0")
        rw [show D.tup [D.int (m : Nat), D.int (sd : Nat)] = panD (m, sd) from rfl, e_putNs h1.dr]
        refine ⟨h2, by rw [nk_pan]; rfl, by omega, ?_⟩
        have H' := h1.setR (putN rows' (panD (m, sd)) (.int ((f p + 1 : Nat) : Int)))
        rw [show (D.int ((f p : Nat) + 1 : Int)) = .int ((f p + 1 : Nat) : Int) from rfl]
        generalize s'.set (st.length + 3) (putN rows' (panD (m, sd)) (.int ((f p + 1 : Nat) : Int))) = s'' at H' ⊢
        simp only [z10__law_grown]
        (walk_at "lw_dd0")
        refine ⟨by rw [e_isO H'.es_], ?_⟩
        rw [e_lenO H'.hs, List.length_map, la]
        (walk_at "lw_dd0")
        rw [show D.tup [D.int (m : Nat), D.int (sd : Nat)] = panD (m, sd) from rfl, e_app H'.es_]
        refine ⟨by rw [List.length_map]; omega, ?_⟩
        have H'' := H'.setE ((E' ++ [(m, sd)]).map panD)
        rw [List.map_append, List.map_singleton] at H''
        refine h6 _ ?_
        rw [List.map_append, List.map_singleton]
        exact H''
      obtain ⟨kk1, kk2, kk3⟩ := G.ev
      obtain ⟨kk4, kk5, kk6⟩ := putN_len (k := panD (m, 0)) (d := .int ((f p + 1 : Nat) : Int)) kk1 kk2
      have le1 : (E.eraseIdx j).length ≤ E.length := List.length_eraseIdx_le ..
      simp only [z8__law_grown]
      (walk_at "lw_dd0")
      refine fun _ => ?_
      refine ⟨trivial, ?_⟩
      refine side 0 _ _ _ _ v7 (H4.mono (by omega)) evn (by omega) (by omega) d1 fun s5 H5 => ?_
      refine ⟨trivial, ?_⟩
      refine side 1 _ _ _ _ none H5 (by omega) (by omega) (by rw [List.length_append, List.length_singleton]; omega) ?_ fun s6 H6 => ?_
      · rw [valN_put kk1 kk2, if_neg fun z => (by have := pan_eq.mp z; subst this; omega)]
        exact d1
      refine ⟨trivial, ?_⟩
      simp only [z11__law_grown]
      (walk_at "lw_dd0")
      refine ⟨by rw [e_isO H6.hs], ?_⟩
      have H7 := H6.app [[D.str (Str.ofString ""), D.str (Str.ofString "")]]
      rw [e_app H7.hs, show as.map D.obj ++ [D.obj s6.length] = (as ++ [s6.length]).map D.obj by rw [List.map_append, List.map_singleton]]
      refine ⟨by rw [List.length_map]; omega, ?_⟩
      have H8 := H6.grow (D.str (Str.ofString "")) (D.str (Str.ofString ""))
      exact q _ _ ⟨m + 1, as ++ [s6.length], _, _, _, _, _, _, H8, N, by rw [List.length_append, List.length_singleton, la], by omega, by omega, rfl⟩
    · refine itQ_n (by omega) ?_
      exact q _ _ ⟨m, as, E, f, rows, _, _, _, H2.mono (by omega), G, la, m1, by omega, rfl⟩
  · rintro env s ⟨m, as, E, f, rows, v5, v6, v7, H, G, la, m1, mt, rfl⟩
    refine ⟨trivial, ?_⟩
    simp only [z12__law_grown]
    (walk_at "lw_dd0")
    have f0 := get_lt H.dr
    have F0 : Ff st i (n + 1 + k) as (E.map panD) rows s.length [] (s ++ [[]]) := ⟨H.app _, app_get, by omega, fun a ha => by obtain ⟨_, _, _, _, _, _, e⟩ := H.inn a ha; exact get_lt e, fun p hp => (by cases hp), List.nodup_nil⟩
    generalize s.length = fI at F0 ⊢
    generalize s ++ [[]] = s1 at F0 ⊢
    simp only [z13__law_grown]
    (walk_at "lw_dd0")
    rw [e_iterO F0.h.es_]
    refine fun _ => ?_
    have cE := G.cnt
    refine go_for panD (fun r env s => ∃ (dn : List (Nat × Nat)) (g : List Gr) (v6 v7 v9 v10 : Option D), dn ++ r = E ∧ Ff st i (n + 1 + k + dn.length) as (E.map panD) rows fI g s ∧ (g.map (·.1)).Nodup ∧ (∀ p ∈ g, p.1 ∈ ys ∧ p.2.2 ≠ [] ∧ p.2.2.length ≤ dn.length ∧ ∀ d ∈ p.2.2, 1 ≤ d ∧ d ≤ 5) ∧ (g.map fun p => sumG p.2.2).sum = (dn.map fun p => 2 ^ (5 - f p)).sum ∧ (g.map fun p => p.2.2.length).sum = dn.length ∧ g.length ≤ dn.length ∧
      env = [some (.obj i), some (.lst (ys.map D.str)), some (.obj (st.length + 1)), some (.obj (st.length + 2)), some (.dic .n (st.length + 3)), v5, v6, v7, some (.dic false fI), v9, v10]) ?_ ?_ _ _ _ ⟨[], [], v6, v7, none, none, rfl, F0, List.nodup_nil, fun p hp => (by cases hp), rfl, rfl, Nat.le_refl _, rfl⟩
    · rintro p r env s nx ⟨dn, g, v6, v7, v9, v10, hd, F, nd, gp, gs, gc, gl, rfl⟩ q
      refine ⟨⟨F.h.es_, trivial⟩, ?_⟩
      have hp : p ∈ E := by rw [← hd]; simp
      obtain ⟨d1, d2, d3⟩ := G.dep p hp
      obtain ⟨p1, p2⟩ := G.ok p hp
      have ldn : dn.length ≤ 10 := by
        have := congrArg List.length hd
        rw [List.length_append, List.length_cons] at this
        omega
      (walk_at "lw_dd0")
      simp only [b3__law_grown]
      (walk_at "lw_dd0")
      refine ⟨i, _, _, rfl, F.h.tp, by omega, by (first | exact mulc _ _ (by decide) (by decide) | exact mulr _ _ (by decide) (by decide) | exact ⟨by decide, by decide, by decide⟩ | exact ⟨by decide, by decide⟩ | exact mulb _ _ | exact ⟨by omega, by omega⟩ | exact mulc _ _ (by omega) (by omega) | exact mulr _ _ (by omega) (by omega) | exact div_small (by omega) (by omega) | exact ⟨by omega, by omega, by omega⟩ | omega | decide), fun r x r0 r1 t2 => ?_⟩
      have F2 := F.tape t2
      generalize s.set i x = s2 at F2 ⊢
      obtain ⟨a, rfl⟩ := Int.eq_ofNat_of_zero_le r0
      have ha : a < ys.length := by omega
      dsimp only
      (walk_at "lw_dd0")
      refine ⟨_, atI_some (f := D.str) (x := ys[a]) (List.getElem?_eq_getElem ha), ?_⟩
      have hz := List.getElem_mem ha
      generalize ys[a] = z at hz ⊢
      simp only [z15__law_grown]
      (walk_at "lw_dd0")
      refine F2.h.into (by omega) p2 _ fun b hb x y => ?_
      have F3 := F2.setA hb x y
      generalize s2.set b [x, y] = s3 at F3 ⊢
      simp only [z16__law_grown]
      (walk_at "lw_dd0")
      refine ⟨e_dsome F3.fr, ?_⟩
      refine F3.sd nd (by omega) fun idx ds s' i1 i2 i3 FF => ?_
      refine ⟨by rw [e_isO i1], ?_⟩
      rw [e_getN i2]
      refine ⟨by obtain ⟨k, k1, _⟩ := G.ev; omega, by rw [nk_pan]; rfl, _, d1, ?_⟩
      rw [e_app i1, show lisN ds ++ [D.int (f p : Nat)] = lisN (ds ++ [f p]) by unfold lisN; rw [List.map_append, List.map_singleton]]
      have lds := i3 dn.length fun p hp => (gp p hp).2.2.1
      refine ⟨by unfold lisN; rw [List.length_map]; omega, ?_⟩
      have F4 := FF (f p)
      have ld : (dn ++ [p]).length = dn.length + 1 := by rw [List.length_append, List.length_singleton]
      refine q _ _ ⟨dn ++ [p], addG g z s3.length (f p), _, _, _, _, by rw [List.append_assoc]; exact hd, by rw [ld]; exact F4, addG_nd nd, ?_, ?_, ?_, by have := addG_len (z := z) (k := s3.length) (d := f p) g; omega, rfl⟩
      · rw [ld]
        refine addG_all (fun x : Gr => x.1 ∈ ys ∧ x.2.2 ≠ [] ∧ x.2.2.length ≤ dn.length + 1 ∧ ∀ d ∈ x.2.2, 1 ≤ d ∧ d ≤ 5) (fun p' hp' _ => ?_) (fun p' hp' _ => ?_) nd (fun _ => ⟨hz, by simp, by simp, fun d hd => by rw [List.mem_singleton.mp hd]; exact ⟨d2, d3⟩⟩)
        · obtain ⟨a1, a2, a3, a4⟩ := gp p' hp'
          exact ⟨a1, a2, by omega, a4⟩
        · obtain ⟨a1, a2, a3, a4⟩ := gp p' hp'
          refine ⟨hz, by simp, by show (p'.2.2 ++ [f p]).length ≤ _; rw [List.length_append, List.length_singleton]; omega, fun d hd => ?_⟩
          rcases List.mem_append.mp hd with w | w
          · exact a4 d w
          · rw [List.mem_singleton.mp w]
            exact ⟨d2, d3⟩
      · rw [addG_sum sumG (2 ^ (5 - f p)) (by simp [sumG]) (fun ds => by simp [sumG]), gs, List.map_append, List.sum_append]
        simp
      · rw [addG_sum List.length 1 rfl (fun ds => by simp), gc, ld]
    · rintro env s ⟨dn, g, v6, v7, v9, v10, hd, F, nd, gp, gs, gc, gl, rfl⟩
      refine ⟨⟨F.h.es_, trivial⟩, ?_⟩
      rw [List.append_nil] at hd
      subst hd
      simp only [z17__law_grown]
      (walk_at "lw_dd0")
      have e : ∀ a ∈ as, ∃ l, s[a]? = some l := fun a ha => by obtain ⟨_, _, _, _, x, y, e⟩ := F.h.inn a ha; exact ⟨_, e⟩
      rw [e_iterO F.h.hs]
      refine fun hl => ⟨hl, ?_⟩
      refine lc_map (src := [(st.length + 1, as.map D.obj)]) D.obj (fun a => D.tup (s[a]?.getD [])) as s ⟨F.h.hs, trivial⟩ [] (fun a ha kd hkd => ?_) ?_
      · (walk_at "lw_dd0")
        simp only [e1__law_grown]
        (walk_at "lw_dd0")
        obtain ⟨l, el⟩ := e a ha
        rw [e_tupO el]
        rw [el] at hkd
        exact hkd
      rw [List.nil_append]
      obtain ⟨xs, L, es⟩ := F.h.frm
      have ha : (as.map fun a => D.tup (s[a]?.getD [])).length = as.length := List.length_map ..
      have tp := F.h.tp
      generalize as.map (fun a => D.tup (s[a]?.getD [])) = house at ha ⊢
      have fr := F.fr
      have gl2 := F.gl
      subst es
      refine h xs house L g fI ⟨nd, fun p hp => (gp p hp).1, fun p hp => (gp p hp).2.1, fun p hp => (gp p hp).2.2.2, fun p hp => (gl2 p hp).2, by rw [gs, G.sum], by rw [gc, cE, ha, la]⟩ (by omega) fr (tp.mono (by omega))
def e1__law_right : DE :=
    (dCall sp__law_twos (dCons (dOp subD (dC (.int 5)) (dVar 6)) dNil))
def b1__law_right : DS :=
    (dDrop (dMeth mAppend (dVar 4) (dCons (dTup (dCons (dVar 5) (dCons (dCall sp__law_fraction (dCons (dB bSum1 (dCons (dLc (dIter (dOp getD (dVar 3) (dVar 5))) (dgName 6) dYes (e1__law_right) [6]) dNil)) (dCons (dC (.int 32)) dNil))) dNil))) dNil)))
def e2__law_right : DE :=
    (dTup (dCons (dVar 5) (dCons (dCall sp__law_fraction (dCons (dOp getD (dVar 9) (dVar 5)) (dCons (dVar 10) dNil))) dNil)))
def e3__law_right : DE :=
    (dOp (eqOp false) (dLenSetZ (dVar 12)) (dB bLen (dCons (dVar 12) dNil)))
def z14__law_right : DS :=
    (dRet (dIf (dTru (dVar 11)) (dOp (eqOp false) (dVar 7) (dB bLen (dCons (dVar 2) dNil))) (dOp (cmpI fun i j => decide (i < j)) (dVar 7) (dB bLen (dCons (dVar 2) dNil)))))
def z13__law_right : DS :=
    (dSeq (dAsg (dB bAll (dCons (dLockE 3 (dLc (dWalkL valsR 3) (dgName 12) dYes (e3__law_right) [12])) dNil)) (dgName 11))
    (z14__law_right))
def z11__law_right : DS :=
    (dSeq (dIfS (dTest (dOp (eqOp true) (dLc (dIter (dB bSortedDS (dCons (dVar 9) dNil))) (dgName 5) dYes (e2__law_right) [5]) (dVar 4))) (dRet (dC (.bl false))) dPass)
    (z13__law_right))
def z10__law_right : DS :=
    (dSeq (dAsg (dTup (dCons (dCall sp__law_shares (dCons (dVar 8) dNil)) (dCons (dCall sp__law_twos (dCons (dB bLen (dCons (dVar 8) dNil)) dNil)) dNil))) (dgTup 2 (dgCons (dgName 9) (dgCons (dgName 10) dgNil))))
    (z11__law_right))
def z8__law_right : DS :=
    (dSeq (dIfS (dOr (dTest (dOp (cmpI fun i j => decide (j < i)) (dVar 7) (dB bLen (dCons (dVar 2) dNil)))) (dOr (dTest (dOp (eqOp true) (dB bLen (dCons (dVar 8) dNil)) (dVar 7))) (dNot (dTru (dCall sp__law_is_tree (dCons (dVar 8) dNil)))))) (dRet (dC (.bl false))) dPass)
    (z10__law_right))
def z7__law_right : DS :=
    (dSeq (dPar 7 8 (dCons (dCall sp_fewest_balances (dCons (dB bTuple (dCons (dVar 4) dNil)) dNil)) (dCons (dCall sp_tree_of (dCons (dB bTuple (dCons (dVar 4) dNil)) dNil)) dNil)))
    (z8__law_right))
def z5__law_right : DS :=
    (dSeq (dFor (dIter (dB bSortedDS (dCons (dVar 3) dNil))) (dgName 5) (b1__law_right))
    (z7__law_right))
def z4__law_right : DS :=
    (dSeq (dAsg (dNew dNil) (dgName 4))
    (z5__law_right))
def z2__law_right : DS :=
    (dSeq (dIfS (dTest (dOp (cmpI fun i j => decide (i < j)) (dB bLenD (dCons (dVar 3) dNil)) (dC (.int 2)))) (dRet (dC (.bl true))) dPass)
    (z4__law_right))
def t__law_right : DS :=
    (dSeq (dAsg (dCall sp__law_grown (dCons (dVar 0) (dCons (dVar 1) dNil))) (dgTup 2 (dgCons (dgName 2) (dgCons (dgName 3) dgNil))))
    (z2__law_right))
theorem st__law_right (a0 a1 : D) : startD N__law_right [a0, a1] = [some a0, some a1, none, none, none, none, none, none, none, none, none, none, none] := rfl
theorem fine_of {zs : List Sh} {D : Nat} {t : Pt} {w : Web} (T : Told D zs) (J : JFin (items zs) t) (W : TreeOf w t) : WebFine w := by
  have hf := W.nt.fwd
  have hl := W.nt.few
  have one : ∀ k s v, leadW w k s = some v → LdFine v := fun k s v e => by
    cases v with
    | bal j =>
      have := hf k s j e
      show j < 1000
      omega
    | out cs =>
      obtain ⟨q, hq, hc⟩ := J.lv cs (W.out k s cs e)
      obtain ⟨z, hz, hq⟩ := List.mem_flatMap.mp hq
      obtain ⟨e, _, rfl⟩ := List.mem_map.mp hq
      rw [List.mem_singleton.mp hc]
      exact T.nm z hz
  intro p hp
  obtain ⟨k, hk, e⟩ := List.mem_iff_getElem.mp hp
  have h2 : w[k]? = some p := by rw [List.getElem?_eq_getElem hk, e]
  exact ⟨one k false p.1 (by unfold leadW; rw [h2]; rfl), one k true p.2 (by unfold leadW; rw [h2]; rfl)⟩
def sN (G : List Gr) (z : Str) : Nat := sumG (((look G z).map (·.2)).getD [])
def shG (G : List Gr) (z : Str) : Sh := (z.cps.toList, low32 (sN G z))
theorem sN_of {G : List Gr} (nd : (G.map (·.1)).Nodup) {p : Gr} (hp : p ∈ G) : sN G p.1 = sumG p.2.2 := by
  unfold sN
  rw [look_of_mem nd hp]
  rfl
theorem short_of : ∀ ns : List Int, ¬ ns.Nodup → ∃ ms : List Int, ms.length < ns.length ∧ ∀ k ∈ ns, k ∈ ms
  | [], h => absurd List.nodup_nil h
  | x :: r, h => by
    by_cases m : x ∈ r
    · refine ⟨r, by rw [List.length_cons]; omega, fun k hk => ?_⟩
      rcases List.mem_cons.mp hk with e | e
      · rw [e]; exact m
      · exact e
    · obtain ⟨ms, l, q⟩ := short_of r fun nd => h (List.nodup_cons.mpr ⟨m, nd⟩)
      refine ⟨x :: ms, by rw [List.length_cons, List.length_cons]; omega, fun k hk => ?_⟩
      rcases List.mem_cons.mp hk with e | e
      · rw [e]; exact List.mem_cons_self
      · exact List.mem_cons_of_mem _ (q k e)
theorem setZ_dup (ds : List Nat) : decide ((setZ (ds.map fun d : Nat => (d : Int))).length = ds.length) = decide ds.Nodup := by
  have nd : (setZ (ds.map fun d : Nat => (d : Int))).Nodup := (setZ_lt _).imp fun h => by omega
  have inj : (ds.map fun d : Nat => (d : Int)).Nodup ↔ ds.Nodup := by
    unfold List.Nodup
    rw [List.pairwise_map]
    constructor
    · exact fun p => p.imp fun ne e => ne (by rw [e])
    · exact fun p => p.imp fun ne e => ne (by omega)
  refine decide_eq_decide.mpr ⟨fun h => ?_, fun h => ?_⟩
  · refine Classical.byContradiction fun z => ?_
    obtain ⟨ms, l, m⟩ := short_of _ fun y => z (inj.mp y)
    have := List.Nodup.length_le_of_subset nd fun k hk => m k (mem_setZ.mp hk)
    rw [List.length_map] at l
    omega
  · have a := List.Nodup.length_le_of_subset (inj.mpr h) fun k hk => mem_setZ.mpr hk
    have b := setZ_length_le (ds.map fun d : Nat => (d : Int))
    rw [List.length_map] at a b
    omega
theorem sumG_int (ds : List Nat) : (ds.map fun d : Nat => ((2 ^ (5 - d) : Nat) : Int)).sum = ((sumG ds : Nat) : Int) := by
  unfold sumG
  induction ds with
  | nil => rfl
  | cons d r ih => rw [List.map_cons, List.map_cons, List.sum_cons, List.sum_cons, ih, Int.natCast_add]
theorem sumG_pos {ds : List Nat} (h : ds ≠ []) : 1 ≤ sumG ds := by
  cases ds with
  | nil => exact absurd rfl h
  | cons d r =>
    unfold sumG
    rw [List.map_cons, List.sum_cons]
    have := Nat.two_pow_pos (5 - d)
    omega
theorem key_sum {α : Type} : ∀ (l : List α) (f : α → Nat) (z : α), z ∈ l → (∀ y ∈ l, 1 ≤ f y) → f z + l.length ≤ (l.map f).sum + 1 := by
  intro l f
  induction l with
  | nil => intro z h; cases h
  | cons y r ih =>
    intro z h h1
    rw [List.map_cons, List.sum_cons, List.length_cons]
    have hy := h1 y List.mem_cons_self
    have hr := fun x hx => h1 x (List.mem_cons_of_mem _ hx)
    rcases List.mem_cons.mp h with w | w
    · rw [w]
      have := sum_ge f r hr
      omega
    · have := ih z w hr
      omega
theorem pops_cmp : ∀ G : List Gr, (∀ p ∈ G, ∀ d ∈ p.2.2, 1 ≤ d ∧ d ≤ 5) → (G.map fun p => popF 5 (sumG p.2.2)).sum ≤ (G.map fun p => p.2.2.length).sum ∧ ((∀ p ∈ G, p.2.2.Nodup) → (G.map fun p => popF 5 (sumG p.2.2)).sum = (G.map fun p => p.2.2.length).sum) ∧
    ((∃ p ∈ G, ¬ p.2.2.Nodup) → (G.map fun p => popF 5 (sumG p.2.2)).sum < (G.map fun p => p.2.2.length).sum)
  | [], _ => ⟨Nat.le_refl _, fun _ => rfl, fun ⟨_, h, _⟩ => by cases h⟩
  | p :: G, h => by
    obtain ⟨a, b, c⟩ := pops_cmp G fun q hq => h q (List.mem_cons_of_mem _ hq)
    have hp := h p List.mem_cons_self
    have l := pop_le p.2.2
    simp only [List.map_cons, List.sum_cons]
    refine ⟨by omega, fun nd => ?_, fun ⟨q, hq, nq⟩ => ?_⟩
    · rw [b fun q hq => nd q (List.mem_cons_of_mem _ hq), pop_nd hp (nd p List.mem_cons_self)]
    · rcases List.mem_cons.mp hq with w | w
      · subst w
        have := pop_few hp nq
        omega
      · have := c ⟨q, w, nq⟩
        omega
structure ToldG (m : Nat) (G : List Gr) (zs : List Str) : Prop where
  told : Told 5 (zs.map (shG G))
  low : ∀ z ∈ zs, 1 ≤ sN G z ∧ sN G z < 32
  ends : endsN (zs.map (shG G)) = (G.map fun p => popF 5 (sumG p.2.2)).sum
theorem told_of {m : Nat} {ys zs : List Str} {G : List Gr} {s : Sto} (g : Grown m ys G s) (nms : ∀ z ∈ ys, ∃ cs, NameL cs ∧ z = S cs) (two : 2 ≤ G.length) (p : zs.Perm (G.map (·.1))) : ToldG m G zs := by
  have nd := g.nd
  have mem : ∀ z ∈ zs, ∃ q ∈ G, q.1 = z := fun z hz => List.mem_map.mp (p.mem_iff.mp hz)
  have one : ∀ z ∈ zs, 1 ≤ sN G z := fun z hz => by
    obtain ⟨q, hq, rfl⟩ := mem z hz
    rw [sN_of nd hq]
    exact sumG_pos (g.ne q hq)
  have lz : 2 ≤ zs.length := by rw [p.length_eq, List.length_map]; exact two
  have sum : (zs.map (sN G)).sum = 32 := by
    rw [(p.map (sN G)).sum_nat, List.map_map, ← g.sum]
    congr 1
    exact List.map_congr_left fun q hq => sN_of nd hq
  have less : ∀ z ∈ zs, sN G z < 32 := fun z hz => by
    have := key_sum zs (sN G) z hz one
    omega
  have znd : zs.Nodup := p.nodup_iff.mpr nd
  have ms : ∀ x ∈ zs.map (shG G), ∃ z ∈ zs, x = shG G z := fun x hx => by
    obtain ⟨z, hz, e⟩ := List.mem_map.mp hx
    exact ⟨z, hz, e.symm⟩
  refine ⟨⟨?_, ?_, ?_, ?_, ?_, by rw [List.length_map]; exact lz, Nat.le_refl 5, ?_⟩, fun z hz => ⟨one z hz, less z hz⟩, ?_⟩
  · rw [List.map_map]
    exact List.Pairwise.map _ (fun a b hab e => hab (str_ext e)) znd
  · intro x hx
    obtain ⟨z, hz, rfl⟩ := ms x hx
    exact (low32_ok (one z hz) (less z hz)).2.1
  · intro x hx
    obtain ⟨z, hz, rfl⟩ := ms x hx
    exact (low32_ok (one z hz) (less z hz)).2.2.1
  · intro x hx
    obtain ⟨z, hz, rfl⟩ := ms x hx
    exact (low32_ok (one z hz) (less z hz)).1
  · rw [List.map_map, ← show (zs.map (sN G)).sum = 2 ^ 5 from sum]
    congr 1
    exact List.map_congr_left fun z hz => (low32_ok (one z hz) (less z hz)).2.2.2
  · intro x hx
    obtain ⟨z, hz, rfl⟩ := ms x hx
    obtain ⟨q, hq, e⟩ := mem z hz
    obtain ⟨cs, n1, n2⟩ := nms z (by rw [← e]; exact g.nm q hq)
    have e7 : z.cps.toList = cs := by rw [n2, S_cps]
    show NameL z.cps.toList
    rw [e7]
    exact n1
  · unfold endsN
    rw [List.map_map]
    have e : zs.map ((fun z : Sh => (dps z.2.1 z.2.2).length) ∘ shG G) = zs.map fun z => popF 5 (sN G z) := List.map_congr_left fun z hz => low32_pop (one z hz) (less z hz)
    rw [e, (p.map fun z => popF 5 (sN G z)).sum_nat, List.map_map]
    congr 1
    refine List.map_congr_left fun q hq => ?_
    simp only [Function.comp]
    rw [sN_of nd hq]
def sp__law_right : SpD := fun ds st kk => ∃ (i n : Nat) (ys : List Str), ds = [.obj i, .lst (ys.map D.str)] ∧ Tp i n st ∧ n < 900000 ∧ 1 ≤ ys.length ∧ ys.length ≤ 6 ∧ (∀ z ∈ ys, ∃ cs, NameL cs ∧ z = S cs) ∧ ∀ st', Tp i (n + 30) st' → kk (.bl true) st'
theorem len__law_right (ds : List D) (st : Sto) (kk : DK) (h : sp__law_right ds st kk) : ds.length = 2 := by
  obtain ⟨_, _, _, rfl, _⟩ := h
  rfl
theorem p__law_right : BodyD false N__law_right sp__law_right t__law_right := by
  rintro ds st kk ⟨i, n, ys, rfl, ht, hn, y1, y6, nms, h⟩
  rw [st__law_right]
  simp only [t__law_right]
  (walk_at "lw_dd0")
  refine ⟨i, n, ys, rfl, ht, by omega, y1, y6, fun xs house L G j g h8 gr tp => ?_⟩
  generalize st.set i xs ++ L = s at g gr tp ⊢
  (walk_at "lw_dd0")
  simp only [z2__law_right]
  (walk_at "lw_dd0")
  rw [e_lenDO gr okRows_tab, show (rowG G).length = G.length by unfold rowG; rw [tabR_length]]
  (walk_at "lw_dd0")
  by_cases c : G.length < 2
  · refine itQ_y (by omega) ?_
    exact h _ tp
  refine itQ_n (by omega) ?_
  have lG : G.length ≤ 9 := by
    have := sum_ge (fun p : Gr => p.2.2.length) G fun p hp => List.length_pos_iff.mpr (g.ne p hp)
    rw [g.cnt] at this
    omega
  simp only [z4__law_right]
  (walk_at "lw_dd0")
  have jl := get_lt gr
  have gr1 : ∀ x : List D, (s ++ [x])[j]? = some (rowG G) := fun x => by rw [List.getElem?_append_left jl]; exact gr
  simp only [z5__law_right]
  (walk_at "lw_dd0")
  rw [e_sortedDS rfl (gr1 []) (zs := G.map (·.1)) (by unfold rowG; rw [keysR_tab, show (G.map fun p => D.str p.1) = (G.map (·.1)).map D.str by rw [List.map_map]; rfl]; exact strsOf_map _)]
  refine ⟨by rw [List.length_map]; omega, fun zs p1 q1 => ?_⟩
  have TG := told_of g nms (by omega) p1
  have T := TG.told
  have zl : zs.length = G.length := by rw [p1.length_eq, List.length_map]
  (walk_at "lw_dd0")
  refine fun _ => ?_
  refine go_for D.str (fun r env s' => ∃ (dn : List Str) (v5 v6 : Option D), dn ++ r = zs ∧ s' = s ++ [(dn.map (shG G)).map shD] ∧ env = [some (.obj i), some (.lst (ys.map D.str)), some (.tup house), some (.dic false j), some (.obj s.length), v5, v6, none, none, none, none, none, none]) ?_ ?_ _ _ _ ⟨[], _, _, rfl, rfl, rfl⟩
  · rintro z r env s' nx ⟨dn, v5, v6, hd, rfl, rfl⟩ q
    refine ⟨trivial, ?_⟩
    have hz : z ∈ zs := by rw [← hd]; simp
    obtain ⟨w1, w2⟩ := TG.low z hz
    have ldn : dn.length ≤ 9 := by
      have := congrArg List.length hd
      rw [List.length_append, List.length_cons] at this
      omega
    (walk_at "lw_dd0")
    simp only [b1__law_right]
    (walk_at "lw_dd0")
    obtain ⟨p, hp, ez⟩ := List.mem_map.mp (p1.mem_iff.mp hz)
    have lk := look_of_mem g.nd hp
    rw [ez] at lk
    refine ⟨by rw [e_isO app_get], ?_⟩
    rw [e_dget (gr1 _)]
    refine ⟨rfl, .obj p.2.1, ?_, ?_⟩
    · have : valR false (rowG G) (.str z) = (look G z).map fun x : Nat × List Nat => D.obj x.1 := valR_tab keyS _ _
      rw [this, lk]
      rfl
    have ga := g.at_ p hp
    have ga1 : ∀ x : List D, (s ++ [x])[p.2.1]? = some (lisN p.2.2) := fun x => by rw [List.getElem?_append_left (get_lt ga)]; exact ga
    rw [e_iterO (ga1 _)]
    refine fun hl => ⟨hl, ?_⟩
    refine lc_map (src := [(p.2.1, lisN p.2.2)]) (fun d : Nat => D.int (d : Nat)) (fun d : Nat => D.int ((2 ^ (5 - d) : Nat) : Int)) p.2.2 _ ⟨ga1 _, trivial⟩ [] (fun d hd kd hkd => ?_) ?_
    · (walk_at "lw_dd0")
      simp only [e1__law_right]
      (walk_at "lw_dd0")
      have := g.dp p hp d hd
      exact ⟨5 - d, by rw [show (5 : Int) - (d : Nat) = ((5 - d : Nat) : Int) by omega], by omega, hkd⟩
    rw [List.nil_append, show (p.2.2.map fun d : Nat => D.int ((2 ^ (5 - d) : Nat) : Int)) = (p.2.2.map fun d : Nat => ((2 ^ (5 - d) : Nat) : Int)).map D.int by rw [List.map_map]; rfl]
    rw [e_sum1L, sumG_int]
    (walk_at "lw_dd0")
    refine ⟨_, _, rfl, by decide, by decide, ?_⟩
    have e9 : shD (shG G z) = .tup [.str z, frI ((sumG p.2.2 : Nat) : Int) 32] := by
      obtain ⟨a1, a2, a3, a4⟩ := low32_ok w1 w2
      have e0 : sN G z = sumG p.2.2 := by rw [← ez]; exact sN_of g.nd hp
      unfold shD shG
      dsimp only
      rw [S_of]
      congr 2
      have e8 := fr_odd (n := 5) a2 a1
      rw [a4, e0] at e8
      rw [e0]
      exact congrArg (fun d => [d]) e8.symm
    (walk_at "lw_dd0")
    rw [← e9, e_app app_get, app_set]
    refine ⟨by rw [List.length_map, List.length_map]; omega, ?_⟩
    exact q _ _ ⟨dn ++ [z], _, _, by rw [List.append_assoc]; exact hd, by simp, rfl⟩
  · rintro env s' ⟨dn, v5, v6, hd, rfl, rfl⟩
    rw [List.append_nil] at hd
    subst hd
    refine ⟨trivial, ?_⟩
    simp only [z7__law_right]
    (walk_at "lw_dd0")
    rw [e_tupO app_get]
    have t1 := T.ends
    have dz : ∀ z ∈ dn.map (shG G), z.2.2 ≤ 1000 := fun z hz => by have := T.le z hz; omega
    have cmp := pops_cmp G g.dp
    rw [← TG.ends, g.cnt] at cmp
    generalize ezs : dn.map (shG G) = zs at *
    refine ⟨zs, rfl, by omega, dz, ?_⟩
    dsimp only
    rw [e_tupO app_get]
    refine ⟨zs, 5, rfl, by omega, dz, t1.1, by omega, T.jn, fun t w L2 J W => ?_⟩
    have G2 := T.gives J W
    have R := T.rows G2
    have fine : WebFine w := fine_of T J W
    have hw : (w.length : Int) = (endsN zs : Int) - 1 := by
      have h1 := W.len
      have h2 := J.nd
      rw [items_len] at h2
      omega
    have wl : w.length ≤ 32 := by omega
    simp only [z8__law_right]
    (walk_at "lw_dd0")
    refine itQ_n (by omega) ?_
    show bLen [.tup (w.map ldsD)] _ _
    rw [e_lenT, List.length_map]
    refine ⟨rfl, ?_⟩
    refine itQ_n (by rw [hw]; show ¬ (!eqD (.int _) (.int _)) = true; (walk_at "lw_dd0"); simp) ?_
    refine ⟨w, rfl, W.nt, W.led, fun L3 => ?_⟩
    (walk_at "lw_dd0")
    simp only [z10__law_right]
    (walk_at "lw_dd0")
    refine ⟨w, rfl, W.nt, W.ledw, by omega, fun b => ?_⟩
    (walk_at "lw_dd0")
    show bLen [.tup (w.map ldsD)] _ _
    rw [e_lenT, List.length_map]
    (walk_at "lw_dd0")
    refine ⟨w.length, rfl, by omega, ?_⟩
    generalize ha : s ++ [zs.map shD] ++ L2 ++ L3 = A
    have g1 : (A ++ [b, outRows (outT (ledT w (2 ^ w.length) 0))])[A.length + 1]? = some (outRows (outT (ledT w (2 ^ w.length) 0))) := sa_get rfl
    have hs : sortedS (zs.map fun z => S z.1) = true := by
      have e : zs.map (fun z => S z.1) = dn := by
        rw [← ezs, List.map_map]
        conv => rhs; rw [← List.map_id dn]
        exact List.map_congr_left fun z _ => S_of z
      rw [e]
      exact q1
    have tpA : ∀ M, Tp i (n + 30) (A ++ M) := fun M => by rw [← ha]; exact ((((tp.app _).app _).app _).app _)
    have low : ∀ {k : Nat} {x : List D} (M : Sto), s[k]? = some x → (A ++ M)[k]? = some x := fun {k x} M e => by
      rw [← ha, List.append_assoc, List.append_assoc, List.append_assoc, List.getElem?_append_left (get_lt e)]
      exact e
    have gm : ∀ M, (A ++ M)[s.length]? = some (zs.map shD) := fun M => by rw [← ha]; simp
    clear ha
    simp only [z11__law_right]
    (walk_at "lw_dd0")
    rw [e_sortedDS rfl g1 (zs := (outT (ledT w (2 ^ w.length) 0)).map (·.1)) (by unfold outRows; rw [keysR_tab]; rw [show ((outT (ledT w (2 ^ w.length) 0)).map fun p => D.str p.1) = ((outT (ledT w (2 ^ w.length) 0)).map (·.1)).map D.str by rw [List.map_map]; rfl]; exact strsOf_map _)]
    refine ⟨by rw [G2.perm.length_eq, List.length_map]; omega, fun ys2 p2 q2 => ?_⟩
    have ey := mem_sorted_names hs (p2.trans G2.perm) q2
    subst ey
    rw [show ((zs.map fun z => S z.1).map D.str) = zs.map fun z => D.str (S z.1) by rw [List.map_map]; rfl]
    (walk_at "lw_dd0")
    refine fun _ => ⟨by omega, ?_⟩
    refine lc_map (src := []) (fun z : Sh => D.str (S z.1)) shD zs _ trivial [] (fun z hz kd hkd => ?_) ?_
    · (walk_at "lw_dd0")
      simp only [e2__law_right]
      (walk_at "lw_dd0")
      obtain ⟨r1, r2⟩ := R z hz
      rw [e_dget g1]
      refine ⟨rfl, _, r1, ?_⟩
      refine ⟨_, _, rfl, by have := Nat.two_pow_pos w.length; omega, ?_, ?_⟩
      · have : 2 ^ w.length ≤ 2 ^ 32 := Nat.pow_le_pow_right (by decide) wl
        have e2 : (2 : Int) ^ 200 = ((2 ^ 200 : Nat) : Int) := by decide
        have e3 : 2 ^ 32 < 2 ^ 200 := by decide
        rw [e2]
        omega
      rw [r2]
      exact hkd
    rw [List.nil_append]
    have dm : deref (A ++ [b, outRows (outT (ledT w (2 ^ w.length) 0))]) (D.obj s.length) = .lst (zs.map shD) := by simp only [deref, gm]
    refine ⟨T.okd, by rw [dm]; exact T.okd, itQ_n (by rw [dm]; show ¬ (!eqDs (zs.map shD) (zs.map shD)) = true; rw [eqDs_refl _ _ T.okd]; decide) ?_⟩
    have t9 := tpA [b, outRows (outT (ledT w (2 ^ w.length) 0))]
    have low9 : ∀ {k : Nat} {x : List D}, s[k]? = some x → (A ++ [b, outRows (outT (ledT w (2 ^ w.length) 0))])[k]? = some x := fun e => low _ e
    clear dm gm low g1 tpA
    generalize A ++ [b, outRows (outT (ledT w (2 ^ w.length) 0))] = s9 at t9 low9 ⊢
    simp only [z13__law_right]
    (walk_at "lw_dd0")
    have gr9 := low9 gr
    have s9e : ∀ x : List D, (s9.set j x).set j (rowG G) = s9 := fun x => by
      rw [List.set_set]
      obtain ⟨l, e⟩ := List.getElem?_eq_some_iff.mp gr9
      rw [← e, List.set_getElem_self]
    refine lockAt_of rfl gr9 okRows_tab ?_
    refine dWalkL_of (rows := rowG G) rfl (List.getElem?_set_self (get_lt gr9)) okRows_tab ?_
    rw [show valsR (rowG G) = G.map fun p => D.obj p.2.1 from valsR_tab _]
    refine ⟨by rw [List.length_map]; omega, ?_⟩
    refine lc_map (src := []) (fun p : Gr => D.obj p.2.1) (fun p : Gr => D.bl (decide p.2.2.Nodup)) G _ trivial [] (fun p hp kd hkd => ?_) ?_
    · have ne : j ≠ p.2.1 := fun e => by
        have a := g.at_ p hp
        rw [← e, gr] at a
        have a := Option.some.inj a
        have b := g.ne p hp
        cases hG : G with
        | nil => rw [hG] at hp; cases hp
        | cons q r =>
          cases hd : p.2.2 with
          | nil => exact b hd
          | cons d r2 =>
            rw [hG, hd] at a
            unfold rowG tabR lisN at a
            rw [List.map_cons, List.map_cons] at a
            injection a with a _
            cases a
      have gp9 : (s9.set j (rowG G ++ [lockD]))[p.2.1]? = some (lisN p.2.2) := by
        rw [List.getElem?_set_ne ne]
        exact low9 (g.at_ p hp)
      have ld : p.2.2.length ≤ 9 := by
        have key : ∀ l : List Gr, p ∈ l → p.2.2.length ≤ (l.map fun p => p.2.2.length).sum := by
          intro l
          induction l with
          | nil => intro h; cases h
          | cons x r ih =>
            intro h
            rw [List.map_cons, List.sum_cons]
            rcases List.mem_cons.mp h with w | w
            · rw [w]; omega
            · have := ih w; omega
        have := key G hp
        rw [g.cnt] at this
        omega
      (walk_at "lw_dd0")
      simp only [e3__law_right]
      (walk_at "lw_dd0")
      have el : lisN p.2.2 = (p.2.2.map fun d : Nat => (d : Int)).map D.int := by unfold lisN; rw [List.map_map]; rfl
      unfold lnSetZ
      rw [show deref (s9.set j (rowG G ++ [lockD])) (.obj p.2.1) = .lst ((p.2.2.map fun d : Nat => (d : Int)).map D.int) by simp only [deref, gp9, el]]
      simp only [intsD_map]
      refine ⟨by rw [List.length_map]; omega, ?_⟩
      rw [e_lenO gp9]
      refine ⟨rfl, rfl, ?_⟩
      have e5 : eqD (.int ((setZ (p.2.2.map fun d : Nat => (d : Int))).length : Nat)) (.int ((lisN p.2.2).length : Nat)) = decide p.2.2.Nodup := by
        rw [← setZ_dup, show (lisN p.2.2).length = p.2.2.length by unfold lisN; rw [List.length_map]]
        show decide _ = decide _
        exact decide_eq_decide.mpr (by omega)
      refine (show ∀ b : Bool, b = decide p.2.2.Nodup → kd (.bl b) _ from fun b hb => by rw [hb]; exact hkd) _ ?_
      exact e5
    rw [List.nil_append]
    dsimp only
    rw [s9e, e_all (bs := G.map fun p => decide p.2.2.Nodup) (by rw [show (G.map fun p => D.bl (decide p.2.2.Nodup)) = (G.map fun p => decide p.2.2.Nodup).map D.bl by rw [List.map_map]; rfl]; exact blsD_map _)]
    simp only [z14__law_right]
    (walk_at "lw_dd0")
    obtain ⟨c1, c2, c3⟩ := cmp
    have out : ∀ b : Bool, b = true → kk (.bl b) s9 := fun b hb => by rw [hb]; exact h _ t9
    by_cases u : ∀ p ∈ G, p.2.2.Nodup
    · refine itQ_y ?_ (out _ ?_)
      · rw [List.all_eq_true]
        intro b hb
        obtain ⟨p, hp, rfl⟩ := List.mem_map.mp hb
        exact decide_eq_true (u p hp)
      · have := c2 u
        rw [beq_iff_eq]
        omega
    · have u2 : ∃ p ∈ G, ¬ p.2.2.Nodup := Classical.byContradiction fun z => u fun p hp => Classical.byContradiction fun y => z ⟨p, hp, y⟩
      refine itQ_n (fun z => ?_) (out _ ?_)
      · rw [List.all_eq_true] at z
        obtain ⟨p, hp, n⟩ := u2
        exact n (of_decide_eq_true (z _ (List.mem_map.mpr ⟨p, hp, rfl⟩)))
      · have := c3 u2
        exact decide_eq_true (by omega)
def e1_law : DE :=
    (dCall sp__law_right (dCons (dVar 3) (dCons (dVar 4) dNil)))
def z5_law : DS :=
    (dIfS (dNot (dTru (dB bAll (dCons (dLc (dRng1 (dC (.int 20))) (dgName 5) dYes (e1_law) [5]) dNil)))) (dRet (dC (.bl false))) dPass)
def z4_law : DS :=
    (dSeq (dAsg (dCut cutOp (dSrtTx (dCall sp__law_names (dCons (dVar 3) (dCons (dC (.int 4)) dNil)))) dNo (dSome (dOp addD (dC (.int 2)) (dCall sp__law_draw (dCons (dVar 3) (dCons (dC (.int 3)) dNil)))))) (dgName 4))
    (z5_law))
def b1_law : DS :=
    (dSeq (dAsg (dCall sp__law_tape (dCons (dVar 1) (dCons (dVar 2) dNil))) (dgName 3))
    (z4_law))
def z7_law : DS :=
    (dRet (dC (.bl true)))
def z2_law : DS :=
    (dSeq (dFor (dRng1 (dB bLen (dCons (dVar 1) dNil))) (dgName 2) (b1_law))
    (z7_law))
def t_law : DS :=
    (dSeq (dAsg (dIf (dTest (dOp (eqOp true) (dVar 0) (dLst dNil))) (dCall sp__law_folded (dCons (dVar 0) (dCons (dC (.int 3)) dNil))) (dLst (dCons (dC (.int 0)) dNil))) (dgName 1))
    (z2_law))
theorem st_law (a0 : D) : startD N_law [a0] = [some a0, none, none, none, none, none] := rfl
theorem natOf_range (n : Nat) : rangeD 0 n = (List.range n).map fun i => D.int (i : Nat) := by
  unfold rangeD
  refine List.map_congr_left fun x _ => ?_
  rw [Int.zero_add]
theorem right_lc {i : Nat} {env : DL.Env} {k : List D → Sto → Prop} (e1 : ∀ (x : D) (n : Nat) (st : Sto) (kd : DK), Tp i n st → n < 900000 → (∀ st', Tp i (n + 30) st' → kd (.bl true) st') → e1_law ((wipeE env [5]).set 5 (some x)) st kd) : ∀ (xs : List D) (acc : List D) (n : Nat) (st : Sto), Tp i n st → n + 30 * xs.length < 900000 →
    (∀ st', k (acc ++ xs.map fun _ => D.bl true) st') → goLc [] (dgName 5) dYes e1_law [5] env k xs acc st
  | [], acc, n, st, _, _, q => ⟨trivial, by simpa using q st⟩
  | x :: xs, acc, n, st, t, l, q => by
    refine ⟨trivial, ?_⟩
    rw [List.length_cons] at l
    refine e1 x n st _ t (by omega) fun st' t' => ?_
    refine right_lc e1 xs (acc ++ [D.bl true]) (n + 30) st' t' (by omega) fun st'' => ?_
    have := q st''
    rw [List.append_assoc]
    exact this
def sp_law : SpD := spLaw
theorem len_law (ds : List D) (st : Sto) (kk : DK) (h : spLaw ds st kk) : ds.length = 1 := by
  obtain ⟨ns, rfl, _⟩ := h
  rfl
theorem p_law : BodyD false N_law spLaw t_law := by
  rintro ds st kk ⟨ns, rfl, h1, h2, rfl, h⟩
  rw [st_law]
  simp only [t_law]
  (try simp only [BEq.rfl, ↓e_v0, ↓e_vs, ↓e_c, ↓e_op, ↓e_test, ↓e_testK, ↓e_tru, ↓e_truL, ↓e_truT, ↓e_truB, ↓e_truI, ↓e_truN, ↓e_truS, ↓e_not, ↓e_or, ↓e_notK, ↓e_if, ↓e_nil, ↓e_cons, ↓e_tup, ↓e_lst, ↓e_new, ↓e_call, ↓e_drop, ↓e_ret, ↓e_pass, ↓e_ifS, ↓e_g0, ↓e_gs, ↓e_gnil, ↓e_gcons, ↓e_gtup, ↓e_asg, ↓e_par, ↓e_parK, ↓e_par3, ↓e_par3K, ↓e_chain, ↓e_chK, ↓e_no, ↓e_some, ↓e_someK, ↓e_cut, ↓e_b, ↓e_iter, ↓e_iterL, ↓e_iterT, ↓e_iterS, ↓e_rng1, ↓e_rng1K, ↓e_enum, ↓e_enumL, ↓e_enumT, ↓e_for, ↓e_lc, ↓e_lcNew, ↓e_forN, ↓e_forC, ↓e_lcN, ↓e_lcC, ↓e_srcN, ↓e_srcC, ↓e_meth, ↓e_isL, ↓e_sub, ↓e_isi, ↓e_yes, ↓e_bits, ↓e_bitsK, ↓e_addI, ↓e_addB, ↓e_addS, ↓e_addT, ↓e_addL, ↓e_subI, ↓e_mulI, ↓e_mulT, ↓e_mulL, ↓e_divI, ↓e_modI, ↓e_powI, ↓e_cmpI, ↓e_eq, ↓e_ne, ↓e_ixL, ↓e_ixKL, ↓e_ixT, ↓e_cutL, ↓e_cutKL, ↓e_cutT, ↓e_lenL, ↓e_lenKL, ↓e_lenT, ↓e_abs, ↓e_intI, ↓e_intB, ↓e_listNL, ↓e_listNT, ↓e_tupL, ↓e_tupT, ↓e_sum1T, ↓e_sum1L, ↓e_max1T, ↓e_max1L, ↓e_drI, ↓e_drB, ↓e_drS, ↓e_drN, ↓e_drL, ↓e_drT, ↓e_seq, ↓e_sortedL, ↓e_lr2, ↓e_lr2K, ↓e_unlL, ↓e_inL, ↓e_inKL, ↓e_inT, ↓e_inFlat, ↓e_drK, ↓e_addBI, ↓e_subBI, ↓e_subIB, ↓e_drG, ↓e_dnew, ↓e_dgetF, ↓e_dget2, ↓e_dsetdS, ↓e_dgPut, ↓e_lenSetZ, ↓e_lenSetZL, ↓e_join, ↓e_joinL, ↓e_cutS, ↓e_mulS, ↓e_andI, ↓e_srtTx, ↓e_srtTxL, ↓e_pairs0, ↓e_pairs1, ↓e_shrI, ↓e_dispN, ↓e_putN, e_kyI, e_kyS, Nat.reduceAdd, Nat.zero_add, List.length_cons, List.length_nil, List.length_map, Nat.reduceLeDiff, and_true, true_and, if_true, ite_true, decide_eq_true_eq, Bool.not_eq_true, Bool.false_eq_true, if_false, ite_false, ↓reduceIte, Int.reduceToNat, Int.reducePow, ne_eq, q_okI, q_okB, q_okN, q_okS, q_okL, q_okT, q_oks0, q_oks1, q_eqII, q_eqBB, q_eqSS, q_eqLL, q_eqTT, q_eqNN, q_eqNI, q_eqIN, q_eqs0, q_eqs1, Bool.true_and, Bool.and_true, beq_iff_eq, reduceCtorEq, wipeE, List.set_cons_zero, List.set_cons_succ, List.set_nil, Bool.not_true, Bool.not_false, List.getElem?_cons_zero, List.getElem?_cons_succ, okDs_int])
  rw [eqDs_nil]
  have fin : ∀ cs : List Int, cs.length ≤ 3 → z2_law ⟨fun _ st' => kk .non st', fun d st' => kk d st'⟩ [some (.klst (ns.map D.int)), some (.lst (cs.map D.int)), none, none, none, none] [] := by
    intro cs hc
    simp only [z2_law]
    (walk_at "lw_dd0")
    refine ⟨by (first | exact mulc _ _ (by decide) (by decide) | exact mulr _ _ (by decide) (by decide) | exact ⟨by decide, by decide, by decide⟩ | exact ⟨by decide, by decide⟩ | exact mulb _ _ | exact ⟨by omega, by omega⟩ | exact mulc _ _ (by omega) (by omega) | exact mulr _ _ (by omega) (by omega) | exact div_small (by omega) (by omega) | exact ⟨by omega, by omega, by omega⟩ | omega | decide), ?_⟩
    rw [natOf_range]
    refine go_for (fun j : Nat => D.int (j : Nat)) (fun r env s => (∀ j ∈ r, j < 1000) ∧ ∃ (v2 v3 v4 v5 : Option D), env = [some (.klst (ns.map D.int)), some (.lst (cs.map D.int)), v2, v3, v4, v5]) ?_ ?_ _ _ _ ⟨fun j hj => by have := List.mem_range.mp hj; omega, _, _, _, _, rfl⟩
    · rintro j r _ sx nx ⟨hr, v2, v3, v4, v5, rfl⟩ q
      refine ⟨trivial, ?_⟩
      (walk_at "lw_dd")
      simp only [b1_law]
      (walk_at "lw_dd")
      refine ⟨cs, j, rfl, by have := hr j List.mem_cons_self; omega, fun xs hx => ?_⟩
      simp only [z4_law]
      (walk_at "lw_dd0")
      have t0 : Tp sx.length 0 (sx ++ [xs]) := ⟨xs, app_get, hx⟩
      refine ⟨_, 0, 4, rfl, t0, by decide, by decide, by decide, fun nm x1 hl1 hnm hnd t1 => ?_⟩
      rw [show nm.map (fun z => D.str (S z)) = (nm.map S).map D.str by rw [List.map_map]; rfl, e_srtTxL]
      have nS : (nm.map S).Nodup := by
        unfold List.Nodup
        rw [List.pairwise_map]
        exact hnd.imp fun z e => z (S_inj e)
      refine ⟨by rw [List.length_map]; omega, fun ys p1 q1 => ?_⟩
      have py : ys.Perm (nm.map S) := p1.trans (nd_perm (setS_nd _) nS fun z => mem_setS)
      have yl : ys.length = 4 := by rw [py.length_eq, List.length_map]; omega
      have ynm : ∀ z ∈ ys, ∃ cs, NameL cs ∧ z = S cs := fun z hz => by
        obtain ⟨cs, hc, e⟩ := List.mem_map.mp (py.mem_iff.mp hz)
        exact ⟨cs, hnm cs hc, e.symm⟩
      clear p1 q1 py
      refine ⟨_, _, 3, rfl, t1, by omega, by (first | exact mulc _ _ (by decide) (by decide) | exact mulr _ _ (by decide) (by decide) | exact ⟨by decide, by decide, by decide⟩ | exact ⟨by decide, by decide⟩ | exact mulb _ _ | exact ⟨by omega, by omega⟩ | exact mulc _ _ (by omega) (by omega) | exact mulr _ _ (by omega) (by omega) | exact div_small (by omega) (by omega) | exact ⟨by omega, by omega, by omega⟩ | omega | decide), fun y x2 y0 y1 t2 => ?_⟩
      obtain ⟨m, rfl⟩ := Int.eq_ofNat_of_zero_le y0
      (walk_at "lw_dd0")
      rw [show (2 : Int) + (m : Nat) = ((2 + m : Nat) : Int) by omega, cutD_map, cutD_to]
      simp only [z5_law]
      (walk_at "lw_dd0")
      refine ⟨⟨by decide, by decide⟩, by rw [rangeD_length]; decide, ?_⟩
      refine right_lc (i := sx.length) (fun x n st kd t l hk => ?_) _ [] _ _ t2 (by rw [rangeD_length]; decide) fun st' => ?_
      · simp only [e1_law]
        (walk_at "lw_dd0")
        refine ⟨sx.length, n, ys.take (2 + m), rfl, t, l, by rw [List.length_take]; omega, by rw [List.length_take]; omega, fun z hz => ynm z (List.mem_of_mem_take hz), hk⟩
      · rw [List.nil_append]
        rw [all_true]
        (walk_at "lw_dd0")
        exact q _ _ ⟨fun i hi => hr i (List.mem_cons_of_mem _ hi), _, _, _, _, rfl⟩
    · rintro _ sx ⟨hr, v2, v3, v4, v5, rfl⟩
      refine ⟨trivial, ?_⟩
      (walk_at "lw_dd0")
      exact h sx
  by_cases e : ns = []
  · rw [if_neg (by simp [e])]
    exact fin [0] (by decide)
  · rw [if_pos (by simp [e])]
    refine ⟨ns, 3, rfl, by decide, by decide, h1, fun cs hc => ?_⟩
    (walk_at "lw_dd")
    exact fin cs (by omega)
structure Fx (K : PySem.W.Frag) (mg : Str → Option Value) : Prop where
  b_range : mg "range" = none
  b_sum : mg "sum" = none
  b_len : mg "len" = none
  b_max : mg "max" = none
  b_enumerate : mg "enumerate" = none
  b_isinstance : mg "isinstance" = none
  b_str : mg "str" = none
  b_tuple : mg "tuple" = none
  b_abs : mg "abs" = none
  b_int : mg "int" = none
  b_list : mg "list" = none
  b_dict : mg "dict" = none
  b_bool : mg "bool" = none
  b_sorted : mg "sorted" = none
  b_all : mg "all" = none
  b_set : mg "set" = none
theorem d_depths_of {P : Program} {wo : World} {K : PySem.W.Frag} {mg : Str → Option Value} {base : Heap} {f : Addr} {cdv : Value} {A : Around} {outer : List PySem.Env} {s : Shared} {H : Hp} {E : XK} (T : Fx K mg)
    (hr : RoomG 0 (A.deeper (envOfC "depths_of" (defScope s_depths_of) s.heap.objs.size f cdv))) : PDSs (cxOf CX0 P wo K mg base N_depths_of "depths_of" (defScope s_depths_of) f cdv A outer s H E).nox (defBody s_depths_of) t_depths_of :=
    (pdss_cons (pds_asg (pd_var 0) (pdg_tup rfl (pdgs_cons (pdg_name 1 sc_depths_of.nd) (pdgs_cons (pdg_name 2 sc_depths_of.nd) pdgs_nil))))
    (pdss_cons (pds_set 3 sc_depths_of.nd (pd_op dop_sub (pd_bits (pd_var 2)) pd_int))
    (pdss_one (pds_ret (pd_lc [("place", 4)] rfl sc_depths_of.nd (pdi_range1 T.b_range (pd_var 3)) (blkOk_by (N := N_depths_of) (sc := defScope s_depths_of) (by decide +kernel)) (fun _ _ _ _ _ => (pdgo_name 4 sc_depths_of.nd)) (fun _ _ _ _ _ => (pdts_one (pd_tcmp (dop_eq hr.units) (pd_op dop_and (pd_op dop_shr (pd_var 1) (pd_var 4)) pd_int) pd_int (nomark _)))) (fun _ _ _ _ _ => (pd_op dop_sub (pd_var 3) (pd_var 4))))))))
theorem ok_depths_of {P : Program} {wo : World} {K : PySem.W.Frag} {mg : Str → Option Value} {base : Heap} {f : Addr} {fd : FuncData} (T : Fx K mg) (F : FnP K "depths_of" s_depths_of f fd) : FnG P wo K mg base CX0 1 f fd ["share"] (spD K sp_depths_of) :=
  fnD false F sc_depths_of len_depths_of (fun cdv A outer s H E hr => d_depths_of T  hr) p_depths_of
theorem d_fewest_balances {P : Program} {wo : World} {K : PySem.W.Frag} {mg : Str → Option Value} {base : Heap} {f : Addr} {cdv : Value} {A : Around} {outer : List PySem.Env} {s : Shared} {H : Hp} {E : XK} (T : Fx K mg) (c_depths_of : Cal P wo K mg base 1 "depths_of" ["share"] sp_depths_of)
    (hr : RoomG 1 (A.deeper (envOfC "fewest_balances" (defScope s_fewest_balances) s.heap.objs.size f cdv))) : PDSs (cxOf CX0 P wo K mg base N_fewest_balances "fewest_balances" (defScope s_fewest_balances) f cdv A outer s H E).nox (defBody s_fewest_balances) t_fewest_balances :=
    (pdss_one (pds_ret (pd_op dop_sub (pd_callB (cb_sum1 rfl) T.b_sum (by decide +kernel) (pda_cons (pd_lc [("name", 1), ("share", 2)] rfl sc_fewest_balances.nd (pdi_any (pd_var 0)) (blkOk_by (N := N_fewest_balances) (sc := defScope s_fewest_balances) (by decide +kernel)) (fun _ _ _ _ _ => (pdgo_tup rfl (pdgso_cons (pdgo_name 1 sc_fewest_balances.nd) (pdgso_cons (pdgo_name 2 sc_fewest_balances.nd) pdgso_nil)))) (fun _ _ _ _ _ => pdts_nil) (fun _ _ _ _ _ => (pd_callB cb_len T.b_len (by decide +kernel) (pda_cons (pd_callC c_depths_of hr (pda_cons (pd_var 2) pda_nil)) pda_nil)))) pda_nil)) pd_int)))
theorem ok_fewest_balances {P : Program} {wo : World} {K : PySem.W.Frag} {mg : Str → Option Value} {base : Heap} {f : Addr} {fd : FuncData} (T : Fx K mg) (F : FnP K "fewest_balances" s_fewest_balances f fd) (c_depths_of : Cal P wo K mg base 1 "depths_of" ["share"] sp_depths_of) : FnG P wo K mg base CX0 2 f fd ["shares"] (spD K sp_fewest_balances) :=
  fnD false F sc_fewest_balances len_fewest_balances (fun cdv A outer s H E hr => d_fewest_balances T c_depths_of hr) p_fewest_balances
theorem d_joined {P : Program} {wo : World} {K : PySem.W.Frag} {mg : Str → Option Value} {base : Heap} {f : Addr} {cdv : Value} {A : Around} {outer : List PySem.Env} {s : Shared} {H : Hp} {E : XK} (T : Fx K mg) (c_depths_of : Cal P wo K mg base 1 "depths_of" ["share"] sp_depths_of)
    (hr : RoomG 1 (A.deeper (envOfC "joined" (defScope s_joined) s.heap.objs.size f cdv))) : PDSs (cxOf CX0 P wo K mg base N_joined "joined" (defScope s_joined) f cdv A outer s H E).nox (defBody s_joined) t_joined :=
    (pdss_cons (pds_setLc2New 1 [("name", 2), ("share", 3), ("depth", 4)] [4] rfl sc_joined.nd (pdi_any (pd_var 0)) (blkOk_by (N := N_joined) (sc := defScope s_joined) (by decide +kernel)) (by decide) (fun _ _ _ _ _ => (pdgo_tup rfl (pdgso_cons (pdgo_name 2 sc_joined.nd) (pdgso_cons (pdgo_name 3 sc_joined.nd) pdgso_nil)))) (fun _ _ _ _ _ => pdts_nil) (fun _ _ _ _ _ => (pdi_any (pd_callC c_depths_of hr (pda_cons (pd_var 3) pda_nil)))) (fun _ _ _ _ _ => (pdgo_name 4 sc_joined.nd)) (fun _ _ _ _ _ => pdts_nil) (fun _ _ _ _ _ => (pd_tup (pda_cons (pd_var 4) (pda_cons (pd_var 2) pda_nil)))) (sw_true rfl rfl rfl (by decide +kernel)))
    (pdss_cons (pds_while PassesOwn.never (pd_tcmp dop_gt (pd_callB cb_len T.b_len (by decide +kernel) (pda_cons (pd_var 1) pda_nil)) pd_int (nomark _)) (pdss_cons (pds_set 5 sc_joined.nd (pd_callB (cb_max1 rfl) T.b_max (by decide +kernel) (pda_cons (pd_lc [("depth", 4), ("part", 6)] rfl sc_joined.nd (pdi_any (pd_var 1)) (blkOk_by (N := N_joined) (sc := defScope s_joined) (by decide +kernel)) (fun _ _ _ _ _ => (pdgo_tup rfl (pdgso_cons (pdgo_name 4 sc_joined.nd) (pdgso_cons (pdgo_name 6 sc_joined.nd) pdgso_nil)))) (fun _ _ _ _ _ => pdts_nil) (fun _ _ _ _ _ => (pd_var 4))) pda_nil)))
    (pdss_cons (pds_asg (pd_cut sl_cut (pd_lc [("place", 9), ("depth", 4), ("part", 6)] rfl sc_joined.nd (pdi_enum T.b_enumerate (pd_var 1)) (blkOk_by (N := N_joined) (sc := defScope s_joined) (by decide +kernel)) (fun _ _ _ _ _ => (pdgo_tup rfl (pdgso_cons (pdgo_name 9 sc_joined.nd) (pdgso_cons (pdgo_tup rfl (pdgso_cons (pdgo_name 4 sc_joined.nd) (pdgso_cons (pdgo_name 6 sc_joined.nd) pdgso_nil))) pdgso_nil)))) (fun _ _ _ _ _ => (pdts_one (pd_tcmp (dop_eq hr.units) (pd_var 4) (pd_var 5) (nomark _)))) (fun _ _ _ _ _ => (pd_var 9))) pdo_none (pdo_some pd_int)) (pdg_unl rfl (pdgs_cons (pdg_name 7 sc_joined.nd) (pdgs_cons (pdg_name 8 sc_joined.nd) pdgs_nil))))
    (pdss_cons (pds_set 10 sc_joined.nd (pd_tup (pda_cons (pd_ix (pd_ix (pd_var 1) (pd_var 7)) pd_int) (pda_cons (pd_ix (pd_ix (pd_var 1) (pd_var 8)) pd_int) pda_nil))))
    (pdss_cons (pds_setLcNew 1 [("place", 9), ("part", 6)] rfl sc_joined.nd (pdi_enum T.b_enumerate (pd_var 1)) (blkOk_by (N := N_joined) (sc := defScope s_joined) (by decide +kernel)) (fun _ _ _ _ _ => (pdgo_tup rfl (pdgso_cons (pdgo_name 9 sc_joined.nd) (pdgso_cons (pdgo_name 6 sc_joined.nd) pdgso_nil)))) (fun _ _ _ _ _ => (pdts_one (pd_tcmp (dop_notin hr.units) (pd_var 9) (pd_tup (pda_cons (pd_var 7) (pda_cons (pd_var 8) pda_nil))) (by rfl)))) (fun _ _ _ _ _ => (pd_var 6)) (sw_true rfl rfl rfl (by decide +kernel)))
    (pdss_one (pds_expr (pd_bm PySem.F.slot_list_append PySem.F.type_list_append md_append (pd_var 1) (pda_cons (pd_tup (pda_cons (pd_op dop_sub (pd_var 5) pd_int) (pda_cons (pd_var 10) pda_nil))) pda_nil)))))))))
    (pdss_one (pds_ret (pd_ix (pd_ix (pd_var 1) pd_int) pd_int)))))
theorem ok_joined {P : Program} {wo : World} {K : PySem.W.Frag} {mg : Str → Option Value} {base : Heap} {f : Addr} {fd : FuncData} (T : Fx K mg) (F : FnP K "joined" s_joined f fd) (c_depths_of : Cal P wo K mg base 1 "depths_of" ["share"] sp_depths_of) : FnG P wo K mg base CX0 2 f fd ["shares"] (spD K sp_joined) :=
  fnD false F sc_joined len_joined (fun cdv A outer s H E hr => d_joined T c_depths_of hr) p_joined
theorem d_tree_of {P : Program} {wo : World} {K : PySem.W.Frag} {mg : Str → Option Value} {base : Heap} {f : Addr} {cdv : Value} {A : Around} {outer : List PySem.Env} {s : Shared} {H : Hp} {E : XK} (T : Fx K mg) (c_joined : Cal P wo K mg base 2 "joined" ["shares"] sp_joined)
    (hr : RoomG 2 (A.deeper (envOfC "tree_of" (defScope s_tree_of) s.heap.objs.size f cdv))) : PDSs (cxOf CX0 P wo K mg base N_tree_of "tree_of" (defScope s_tree_of) f cdv A outer s H E).nox (defBody s_tree_of) t_tree_of :=
    (pdss_cons (pds_par 1 2 rfl sc_tree_of.nd (pda_cons (pd_new (pda_cons (pd_callC c_joined hr (pda_cons (pd_var 0) pda_nil)) pda_nil)) (pda_cons (pd_new pda_nil) pda_nil)))
    (pdss_cons (pds_while PassesOwn.never (pd_tcmp dop_lt (pd_callB cb_len T.b_len (by decide +kernel) (pda_cons (pd_var 2) pda_nil)) (pd_callB cb_len T.b_len (by decide +kernel) (pda_cons (pd_var 1) pda_nil)) (nomark _)) (pdss_cons (pds_set 3 sc_tree_of.nd (pd_new pda_nil))
    (pdss_cons (pds_for PassesOwn.never rfl (pdi_any (pd_ix (pd_var 1) (pd_callB cb_len T.b_len (by decide +kernel) (pda_cons (pd_var 2) pda_nil)))) (pdg_name 4 sc_tree_of.nd) (pdss_one (pds_if (pd_tru (pd_isi T.b_isinstance (pd_var 4) T.b_str (by decide +kernel))) (pdss_one (pds_expr (pd_bm PySem.F.slot_list_append PySem.F.type_list_append md_append (pd_var 3) (pda_cons (pd_var 4) pda_nil)))) (pdss_cons (pds_expr (pd_bm PySem.F.slot_list_append PySem.F.type_list_append md_append (pd_var 3) (pda_cons (pd_callB cb_len T.b_len (by decide +kernel) (pda_cons (pd_var 1) pda_nil)) pda_nil)))
    (pdss_one (pds_expr (pd_bm PySem.F.slot_list_append PySem.F.type_list_append md_append (pd_var 1) (pda_cons (pd_var 4) pda_nil))))))))
    (pdss_one (pds_expr (pd_bm PySem.F.slot_list_append PySem.F.type_list_append md_append (pd_var 2) (pda_cons (pd_callTy cb_tuple T.b_tuple (by decide +kernel) (pda_cons (pd_var 3) pda_nil)) pda_nil)))))))
    (pdss_one (pds_ret (pd_callTy cb_tuple T.b_tuple (by decide +kernel) (pda_cons (pd_var 2) pda_nil))))))
theorem ok_tree_of {P : Program} {wo : World} {K : PySem.W.Frag} {mg : Str → Option Value} {base : Heap} {f : Addr} {fd : FuncData} (T : Fx K mg) (F : FnP K "tree_of" s_tree_of f fd) (c_joined : Cal P wo K mg base 2 "joined" ["shares"] sp_joined) : FnG P wo K mg base CX0 3 f fd ["shares"] (spD K sp_tree_of) :=
  fnD false F sc_tree_of len_tree_of (fun cdv A outer s H E hr => d_tree_of T c_joined hr) p_tree_of
theorem d__law_twos {P : Program} {wo : World} {K : PySem.W.Frag} {mg : Str → Option Value} {base : Heap} {f : Addr} {cdv : Value} {A : Around} {outer : List PySem.Env} {s : Shared} {H : Hp} {E : XK} (T : Fx K mg)
    (hr : RoomG 0 (A.deeper (envOfC "_law_twos" (defScope s__law_twos) s.heap.objs.size f cdv))) : PDSs (cxOf CX0 P wo K mg base N__law_twos "_law_twos" (defScope s__law_twos) f cdv A outer s H E).nox (defBody s__law_twos) t__law_twos :=
    (pdss_cons (pds_set 1 sc__law_twos.nd pd_int)
    (pdss_cons (pds_for PassesOwn.never rfl (pdi_range1 T.b_range (pd_var 0)) (pdg_name 2 sc__law_twos.nd) (pdss_one (pds_set 1 sc__law_twos.nd (pd_op dop_mul pd_int (pd_var 1)))))
    (pdss_one (pds_ret (pd_var 1)))))
theorem ok__law_twos {P : Program} {wo : World} {K : PySem.W.Frag} {mg : Str → Option Value} {base : Heap} {f : Addr} {fd : FuncData} (T : Fx K mg) (F : FnP K "_law_twos" s__law_twos f fd) : FnG P wo K mg base CX0 1 f fd ["_law_count"] (spD K sp__law_twos) :=
  fnD false F sc__law_twos len__law_twos (fun cdv A outer s H E hr => d__law_twos T  hr) p__law_twos
theorem d__law_tape {P : Program} {wo : World} {K : PySem.W.Frag} {mg : Str → Option Value} {base : Heap} {f : Addr} {cdv : Value} {A : Around} {outer : List PySem.Env} {s : Shared} {H : Hp} {E : XK} (T : Fx K mg)
    (hr : RoomG 0 (A.deeper (envOfC "_law_tape" (defScope s__law_tape) s.heap.objs.size f cdv))) : PDSs (cxOf CX0 P wo K mg base N__law_tape "_law_tape" (defScope s__law_tape) f cdv A outer s H E).nox (defBody s__law_tape) t__law_tape :=
    (pdss_cons (pds_set 2 sc__law_tape.nd (pd_ife (pd_tcmp dop_lt (pd_var 1) (pd_callB cb_len T.b_len (by decide +kernel) (pda_cons (pd_var 0) pda_nil)) (nomark _)) (pd_ix (pd_var 0) (pd_var 1)) pd_int))
    (pdss_one (pds_ret (pd_new (pda_cons (pd_op dop_mul (pd_callB cb_abs T.b_abs (by decide +kernel) (pda_cons (pd_var 2) pda_nil)) (pd_callTy cb_int T.b_int (by decide +kernel) (pda_cons (pd_cmp dop_ge (pd_callB cb_abs T.b_abs (by decide +kernel) (pda_cons (pd_var 2) pda_nil)) (pd_op dop_pow pd_int pd_int) (nomark _)) pda_nil))) (pda_cons (pd_op dop_add (pd_op dop_add (pd_op dop_mod (pd_var 2) pd_int) (pd_op dop_mul pd_int (pd_var 1))) pd_int) (pda_cons pd_int pda_nil)))))))
theorem ok__law_tape {P : Program} {wo : World} {K : PySem.W.Frag} {mg : Str → Option Value} {base : Heap} {f : Addr} {fd : FuncData} (T : Fx K mg) (F : FnP K "_law_tape" s__law_tape f fd) : FnG P wo K mg base CX0 1 f fd ["_law_script", "_law_k"] (spD K sp__law_tape) :=
  fnD false F sc__law_tape len__law_tape (fun cdv A outer s H E hr => d__law_tape T  hr) p__law_tape
theorem d__law_draw {P : Program} {wo : World} {K : PySem.W.Frag} {mg : Str → Option Value} {base : Heap} {f : Addr} {cdv : Value} {A : Around} {outer : List PySem.Env} {s : Shared} {H : Hp} {E : XK} (T : Fx K mg)
    (hr : RoomG 0 (A.deeper (envOfC "_law_draw" (defScope s__law_draw) s.heap.objs.size f cdv))) : PDSs (cxOf CX0 P wo K mg base N__law_draw "_law_draw" (defScope s__law_draw) f cdv A outer s H E).nox (defBody s__law_draw) t__law_draw :=
    (pdss_cons (pds_if (pd_tcmp dop_gt (pd_ix (pd_var 0) pd_int) pd_int (nomark _)) (pdss_cons (pds_set 2 sc__law_draw.nd (pd_op dop_mod (pd_ix (pd_var 0) pd_int) (pd_var 1)))
    (pdss_cons (pds_asg (pd_op dop_div (pd_ix (pd_var 0) pd_int) (pd_var 1)) (pdg_sub (pd_var 0) pd_int))
    (pdss_one (pds_ret (pd_var 2))))) pdss_nil)
    (pdss_cons (pds_asg (pd_op dop_add (pd_ix (pd_var 0) pd_int) pd_int) (pdg_sub (pd_var 0) pd_int))
    (pdss_cons (pds_set 3 sc__law_draw.nd (pd_op dop_mod (pd_op dop_pow (pd_op dop_add (pd_ix (pd_var 0) pd_int) (pd_op dop_mul pd_int (pd_ix (pd_var 0) pd_int))) pd_int) pd_int))
    (pdss_cons (pds_set 4 sc__law_draw.nd (pd_op dop_mod (pd_op dop_mul (pd_op dop_add (pd_var 3) (pd_ix (pd_var 0) pd_int)) (pd_op dop_add (pd_op dop_add (pd_op dop_mod (pd_var 3) pd_int) pd_int) (pd_ix (pd_var 0) pd_int))) pd_int))
    (pdss_cons (pds_set 5 sc__law_draw.nd (pd_op dop_mod (pd_op dop_add (pd_op dop_add (pd_op dop_div (pd_ix (pd_var 0) pd_int) pd_int) (pd_op dop_mul (pd_var 4) pd_int)) (pd_ix (pd_var 0) pd_int)) pd_int))
    (pdss_one (pds_ret (pd_op dop_mod (pd_op dop_div (pd_op dop_mod (pd_op dop_add (pd_op dop_add (pd_op dop_mul (pd_var 4) pd_int) (pd_op dop_mul (pd_var 5) pd_int)) (pd_var 3)) pd_int) pd_int) (pd_var 1)))))))))
theorem ok__law_draw {P : Program} {wo : World} {K : PySem.W.Frag} {mg : Str → Option Value} {base : Heap} {f : Addr} {fd : FuncData} (T : Fx K mg) (F : FnP K "_law_draw" s__law_draw f fd) : FnG P wo K mg base CX0 1 f fd ["_law_tape_here", "_law_count"] (spD K sp__law_draw) :=
  fnD false F sc__law_draw len__law_draw (fun cdv A outer s H E hr => d__law_draw T  hr) p__law_draw
theorem d__law_folded {P : Program} {wo : World} {K : PySem.W.Frag} {mg : Str → Option Value} {base : Heap} {f : Addr} {cdv : Value} {A : Around} {outer : List PySem.Env} {s : Shared} {H : Hp} {E : XK} (T : Fx K mg)
    (hr : RoomG 0 (A.deeper (envOfC "_law_folded" (defScope s__law_folded) s.heap.objs.size f cdv))) : PDSs (cxOf CX0 P wo K mg base N__law_folded "_law_folded" (defScope s__law_folded) f cdv A outer s H E).nox (defBody s__law_folded) t__law_folded :=
    (pdss_cons (pds_set 2 sc__law_folded.nd (pd_callTy cb_listNew T.b_list (by decide +kernel) (pda_cons (pd_cut sl_cut (pd_var 0) pdo_none (pdo_some (pd_var 1))) pda_nil)))
    (pdss_cons (pds_for PassesOwn.never rfl (pdi_enum T.b_enumerate (pd_cut sl_cut (pd_var 0) (pdo_some (pd_var 1)) (pdo_some pd_int))) (pdg_tup rfl (pdgs_cons (pdg_name 3 sc__law_folded.nd) (pdgs_cons (pdg_name 4 sc__law_folded.nd) pdgs_nil))) (pdss_one (pds_asg (pd_op dop_add (pd_ix (pd_var 2) (pd_op dop_mod (pd_var 3) (pd_var 1))) (pd_op dop_mul (pd_var 4) (pd_op dop_add (pd_var 3) pd_int))) (pdg_sub (pd_var 2) (pd_op dop_mod (pd_var 3) (pd_var 1))))))
    (pdss_one (pds_ret (pd_var 2)))))
theorem ok__law_folded {P : Program} {wo : World} {K : PySem.W.Frag} {mg : Str → Option Value} {base : Heap} {f : Addr} {fd : FuncData} (T : Fx K mg) (F : FnP K "_law_folded" s__law_folded f fd) : FnG P wo K mg base CX0 1 f fd ["_law_script", "_law_count"] (spD K sp__law_folded) :=
  fnD true F sc__law_folded len__law_folded (fun cdv A outer s H E hr => d__law_folded T  hr) p__law_folded
theorem d__law_names {P : Program} {wo : World} {K : PySem.W.Frag} {mg : Str → Option Value} {base : Heap} {f : Addr} {cdv : Value} {A : Around} {outer : List PySem.Env} {s : Shared} {H : Hp} {E : XK} (T : Fx K mg) (c__law_draw : Cal P wo K mg base 1 "_law_draw" ["_law_tape_here", "_law_count"] sp__law_draw)
    (hr : RoomG 1 (A.deeper (envOfC "_law_names" (defScope s__law_names) s.heap.objs.size f cdv))) : PDSs (cxOf CX0 P wo K mg base N__law_names "_law_names" (defScope s__law_names) f cdv A outer s H E).nox (defBody s__law_names) t__law_names :=
    (pdss_cons (pds_asg (pd_tup (pda_cons pd_str (pda_cons (pd_callC c__law_draw hr (pda_cons (pd_var 0) (pda_cons pd_int pda_nil))) pda_nil))) (pdg_tup rfl (pdgs_cons (pdg_name 2 sc__law_names.nd) (pdgs_cons (pdg_name 3 sc__law_names.nd) pdgs_nil))))
    (pdss_cons (pds_set 4 sc__law_names.nd (pd_join pd_str (pd_lc [("_law_k", 5)] rfl sc__law_names.nd (pdi_range1 T.b_range (pd_callC c__law_draw hr (pda_cons (pd_var 0) (pda_cons pd_int pda_nil)))) (blkOk_by (N := N__law_names) (sc := defScope s__law_names) (by decide +kernel)) (fun _ _ _ _ _ => (pdgo_name 5 sc__law_names.nd)) (fun _ _ _ _ _ => pdts_nil) (fun _ _ _ _ _ => (pd_ix (pd_var 2) (pd_callC c__law_draw hr (pda_cons (pd_var 0) (pda_cons pd_int pda_nil))))))))
    (pdss_cons (pds_par3 6 7 8 rfl sc__law_names.nd (pda_cons (pd_callC c__law_draw hr (pda_cons (pd_var 0) (pda_cons (pd_op dop_add (pd_callB cb_len T.b_len (by decide +kernel) (pda_cons (pd_var 4) pda_nil)) pd_int) pda_nil))) (pda_cons (pd_ix (pd_lst (pda_cons pd_int (pda_cons pd_int (pda_cons pd_int pda_nil)))) (pd_callC c__law_draw hr (pda_cons (pd_var 0) (pda_cons pd_int pda_nil)))) (pda_cons (pd_new pda_nil) pda_nil))))
    (pdss_cons (pds_par 9 10 rfl sc__law_names.nd (pda_cons (pd_cut sl_cut (pd_var 4) pdo_none (pdo_some (pd_var 6))) (pda_cons (pd_cut sl_cut (pd_var 4) (pdo_some (pd_var 6)) pdo_none) pda_nil)))
    (pdss_cons (pds_for PassesOwn.never rfl (pdi_range1 T.b_range (pd_var 1)) (pdg_name 5 sc__law_names.nd) (pdss_cons (pds_set 11 sc__law_names.nd (pd_op dop_mul (pd_op dop_mod (pd_op dop_add (pd_op dop_add (pd_var 3) (pd_var 6)) (pd_callB cb_len T.b_len (by decide +kernel) (pda_cons (pd_var 4) pda_nil))) pd_int) (pd_callTy cb_int T.b_int (by decide +kernel) (pda_cons (pd_cmp (dop_ne hr.units) (pd_var 10) pd_str (nomark _)) pda_nil))))
    (pdss_cons (pds_set 12 sc__law_names.nd (pd_ix (pd_var 2) (pd_op dop_mod (pd_op dop_add (pd_var 3) (pd_op dop_mul (pd_var 7) (pd_ix (pd_lst (pda_cons (pd_var 5) (pda_cons (pd_op dop_div (pd_var 5) pd_int) (pda_cons (pd_var 5) pda_nil)))) (pd_var 11)))) pd_int)))
    (pdss_one (pds_expr (pd_bm PySem.F.slot_list_append PySem.F.type_list_append md_append (pd_var 8) (pda_cons (pd_op dop_add (pd_op dop_add (pd_var 9) (pd_var 12)) (pd_ix (pd_lst (pda_cons (pd_var 10) (pda_cons (pd_op dop_mul (pd_var 10) (pd_op dop_mod (pd_var 5) pd_int)) (pda_cons (pd_cut sl_cut (pd_var 10) pdo_none (pdo_some (pd_op dop_mod (pd_var 5) (pd_op dop_add (pd_callB cb_len T.b_len (by decide +kernel) (pda_cons (pd_var 10) pda_nil)) pd_int)))) pda_nil)))) (pd_var 11))) pda_nil)))))))
    (pdss_one (pds_ret (pd_var 8))))))))
theorem ok__law_names {P : Program} {wo : World} {K : PySem.W.Frag} {mg : Str → Option Value} {base : Heap} {f : Addr} {fd : FuncData} (T : Fx K mg) (F : FnP K "_law_names" s__law_names f fd) (c__law_draw : Cal P wo K mg base 1 "_law_draw" ["_law_tape_here", "_law_count"] sp__law_draw) : FnG P wo K mg base CX0 2 f fd ["_law_tape_here", "_law_count"] (spD K sp__law_names) :=
  fnD true F sc__law_names len__law_names (fun cdv A outer s H E hr => d__law_names T c__law_draw hr) p__law_names
theorem d__law_fraction {P : Program} {wo : World} {K : PySem.W.Frag} {mg : Str → Option Value} {base : Heap} {f : Addr} {cdv : Value} {A : Around} {outer : List PySem.Env} {s : Shared} {H : Hp} {E : XK} (T : Fx K mg)
    (hr : RoomG 0 (A.deeper (envOfC "_law_fraction" (defScope s__law_fraction) s.heap.objs.size f cdv))) : PDSs (cxOf CX0 P wo K mg base N__law_fraction "_law_fraction" (defScope s__law_fraction) f cdv A outer s H E).nox (defBody s__law_fraction) t__law_fraction :=
    (pdss_cons (pds_par 2 3 rfl sc__law_fraction.nd (pda_cons (pd_callB cb_abs T.b_abs (by decide +kernel) (pda_cons (pd_var 0) pda_nil)) (pda_cons (pd_var 1) pda_nil)))
    (pdss_cons (pds_while PassesOwn.never (pd_tcmp dop_gt (pd_var 3) pd_int (nomark _)) (pdss_one (pds_par 2 3 rfl sc__law_fraction.nd (pda_cons (pd_var 3) (pda_cons (pd_op dop_mod (pd_var 2) (pd_var 3)) pda_nil)))))
    (pdss_one (pds_ret (pd_tup (pda_cons (pd_op dop_div (pd_var 0) (pd_var 2)) (pda_cons (pd_op dop_div (pd_var 1) (pd_var 2)) pda_nil)))))))
theorem ok__law_fraction {P : Program} {wo : World} {K : PySem.W.Frag} {mg : Str → Option Value} {base : Heap} {f : Addr} {fd : FuncData} (T : Fx K mg) (F : FnP K "_law_fraction" s__law_fraction f fd) : FnG P wo K mg base CX0 1 f fd ["_law_top", "_law_bottom"] (spD K sp__law_fraction) :=
  fnD false F sc__law_fraction len__law_fraction (fun cdv A outer s H E hr => d__law_fraction T  hr) p__law_fraction
theorem d__law_shares {P : Program} {wo : World} {K : PySem.W.Frag} {mg : Str → Option Value} {base : Heap} {f : Addr} {cdv : Value} {A : Around} {outer : List PySem.Env} {s : Shared} {H : Hp} {E : XK} (T : Fx K mg) (c__law_twos : Cal P wo K mg base 1 "_law_twos" ["_law_count"] sp__law_twos)
    (hr : RoomG 1 (A.deeper (envOfC "_law_shares" (defScope s__law_shares) s.heap.objs.size f cdv))) : PDSs (cxOf CX0 P wo K mg base N__law_shares "_law_shares" (defScope s__law_shares) f cdv A outer s H E).nox (defBody s__law_shares) t__law_shares :=
    (pdss_cons (pds_par 1 2 rfl sc__law_shares.nd (pda_cons (pd_callTy (cb_dictP rfl) T.b_dict (by decide +kernel) (pda_cons (pd_lst (pda_cons (pd_tup (pda_cons pd_int (pda_cons (pd_callC c__law_twos hr (pda_cons (pd_callB cb_len T.b_len (by decide +kernel) (pda_cons (pd_var 0) pda_nil)) pda_nil)) pda_nil))) pda_nil)) pda_nil)) (pda_cons pd_dnewK pda_nil)))
    (pdss_cons (pds_for PassesOwn.never rfl (pdi_enum T.b_enumerate (pd_var 0)) (pdg_tup rfl (pdgs_cons (pdg_name 3 sc__law_shares.nd) (pdgs_cons (pdg_name 4 sc__law_shares.nd) pdgs_nil))) (pdss_one (pds_for PassesOwn.never rfl (pdi_any (pd_var 4)) (pdg_name 5 sc__law_shares.nd) (pdss_one (pds_asg (pd_op dop_add (pd_dget2 hr.units (pd_var 1) (pd_var 5) pd_int) (pd_op dop_div (pd_dget hr.units (pd_var 1) (pd_var 3)) pd_int)) (pdg_put hr.units (pd_var 1) (pd_var 5)))))))
    (pdss_cons (pds_lock 1 (pds_for PassesOwn.never rfl (pdi_keysL 1) (pdg_name 5 sc__law_shares.nd) (pdss_one (pds_if (pd_tru (pd_isi T.b_isinstance (pd_var 5) T.b_str (by decide +kernel))) (pdss_one (pds_asg (pd_dget hr.units (pd_var 1) (pd_var 5)) (pdg_put hr.units (pd_var 2) (pd_var 5)))) pdss_nil))))
    (pdss_one (pds_ret (pd_var 2))))))
theorem ok__law_shares {P : Program} {wo : World} {K : PySem.W.Frag} {mg : Str → Option Value} {base : Heap} {f : Addr} {fd : FuncData} (T : Fx K mg) (F : FnP K "_law_shares" s__law_shares f fd) (c__law_twos : Cal P wo K mg base 1 "_law_twos" ["_law_count"] sp__law_twos) : FnG P wo K mg base CX0 2 f fd ["_law_house"] (spD K sp__law_shares) :=
  fnD false F sc__law_shares len__law_shares (fun cdv A outer s H E hr => d__law_shares T c__law_twos hr) p__law_shares
theorem d__law_is_tree {P : Program} {wo : World} {K : PySem.W.Frag} {mg : Str → Option Value} {base : Heap} {f : Addr} {cdv : Value} {A : Around} {outer : List PySem.Env} {s : Shared} {H : Hp} {E : XK} (T : Fx K mg)
    (hr : RoomG 0 (A.deeper (envOfC "_law_is_tree" (defScope s__law_is_tree) s.heap.objs.size f cdv))) : PDSs (cxOf CX0 P wo K mg base N__law_is_tree "_law_is_tree" (defScope s__law_is_tree) f cdv A outer s H E).nox (defBody s__law_is_tree) t__law_is_tree :=
    (pdss_cons (pds_if (L2.PW.pt (pw_dor (pd_tnot (pd_tru (pd_isi T.b_isinstance (pd_var 0) T.b_tuple (by decide +kernel)))) (pw_or1 (pd_tcmp (dop_eq hr.units) (pd_callB cb_len T.b_len (by decide +kernel) (pda_cons (pd_var 0) pda_nil)) pd_int (nomark _))))) (pdss_one (pds_ret pd_bl)) pdss_nil)
    (pdss_cons (pds_set 1 sc__law_is_tree.nd (pd_new pda_nil))
    (pdss_cons (pds_for PassesOwn.never rfl (pdi_enum T.b_enumerate (pd_var 0)) (pdg_tup rfl (pdgs_cons (pdg_name 2 sc__law_is_tree.nd) (pdgs_cons (pdg_name 3 sc__law_is_tree.nd) pdgs_nil))) (pdss_cons (pds_if (L2.PW.pt (pw_dor (pd_tnot (pd_tru (pd_isi T.b_isinstance (pd_var 3) T.b_tuple (by decide +kernel)))) (pw_or1 (pd_tcmp (dop_ne hr.units) (pd_callB cb_len T.b_len (by decide +kernel) (pda_cons (pd_var 3) pda_nil)) pd_int (nomark _))))) (pdss_one (pds_ret pd_bl)) pdss_nil)
    (pdss_one (pds_for PassesOwn.never rfl (pdi_any (pd_var 3)) (pdg_name 4 sc__law_is_tree.nd) (pdss_one (pds_if (pd_tnot (pd_tru (pd_isi T.b_isinstance (pd_var 4) T.b_str (by decide +kernel)))) (pdss_cons (pds_if (L2.PW.pt (pw_dor (pd_tru (pd_isi T.b_isinstance (pd_var 4) T.b_bool (by decide +kernel))) (pw_dor (pd_tnot (pd_tru (pd_isi T.b_isinstance (pd_var 4) T.b_int (by decide +kernel)))) (pw_or1 (pd_tnot (pd_tchain dop_lt dop_lt (pd_var 2) (pd_var 4) (pd_callB cb_len T.b_len (by decide +kernel) (pda_cons (pd_var 0) pda_nil)))))))) (pdss_one (pds_ret pd_bl)) pdss_nil)
    (pdss_one (pds_expr (pd_bm PySem.F.slot_list_append PySem.F.type_list_append md_append (pd_var 1) (pda_cons (pd_var 4) pda_nil))))) pdss_nil))))))
    (pdss_one (pds_ret (pd_cmp (dop_eq hr.units) (pd_callB cb_sorted T.b_sorted (by decide +kernel) (pda_cons (pd_var 1) pda_nil)) (pd_listR2 rfl T.b_list T.b_range pd_int (pd_callB cb_len T.b_len (by decide +kernel) (pda_cons (pd_var 0) pda_nil))) (nomark _)))))))
theorem ok__law_is_tree {P : Program} {wo : World} {K : PySem.W.Frag} {mg : Str → Option Value} {base : Heap} {f : Addr} {fd : FuncData} (T : Fx K mg) (F : FnP K "_law_is_tree" s__law_is_tree f fd) : FnG P wo K mg base CX0 1 f fd ["_law_house"] (spD K sp__law_is_tree) :=
  fnD false F sc__law_is_tree len__law_is_tree (fun cdv A outer s H E hr => d__law_is_tree T  hr) p__law_is_tree
theorem d__law_grown {P : Program} {wo : World} {K : PySem.W.Frag} {mg : Str → Option Value} {base : Heap} {f : Addr} {cdv : Value} {A : Around} {outer : List PySem.Env} {s : Shared} {H : Hp} {E : XK} (T : Fx K mg) (c__law_draw : Cal P wo K mg base 1 "_law_draw" ["_law_tape_here", "_law_count"] sp__law_draw)
    (hr : RoomG 1 (A.deeper (envOfC "_law_grown" (defScope s__law_grown) s.heap.objs.size f cdv))) : PDSs (cxOf CX0 P wo K mg base N__law_grown "_law_grown" (defScope s__law_grown) f cdv A outer s H E).nox (defBody s__law_grown) t__law_grown :=
    (pdss_cons (pds_par 2 3 rfl sc__law_grown.nd (pda_cons (pd_new (pda_cons (pd_new (pda_cons pd_str (pda_cons pd_str pda_nil))) pda_nil)) (pda_cons (pd_new (pda_cons (pd_tup (pda_cons pd_int (pda_cons pd_int pda_nil))) (pda_cons (pd_tup (pda_cons pd_int (pda_cons pd_int pda_nil))) pda_nil))) pda_nil)))
    (pdss_cons (pds_set 4 sc__law_grown.nd (pd_dispN hr.units (pdps_cons (pd_tup (pda_cons pd_int (pda_cons pd_int pda_nil))) pd_int (pdps_cons (pd_tup (pda_cons pd_int (pda_cons pd_int pda_nil))) pd_int pdps_nil))))
    (pdss_cons (pds_for PassesOwn.never rfl (pdi_range1 T.b_range (pd_callC c__law_draw hr (pda_cons (pd_var 0) (pda_cons pd_int pda_nil)))) (pdg_name 5 sc__law_grown.nd) (pdss_cons (pds_set 6 sc__law_grown.nd (pd_ix (pd_var 3) (pd_callC c__law_draw hr (pda_cons (pd_var 0) (pda_cons (pd_callB cb_len T.b_len (by decide +kernel) (pda_cons (pd_var 3) pda_nil)) pda_nil)))))
    (pdss_one (pds_if (pd_tcmp dop_lt (pd_dgetN hr.units (pd_var 4) (pd_var 6)) pd_int (nomark _)) (pdss_cons (pds_expr (pd_bm PySem.F.slot_list_remove PySem.F.type_list_remove (md_remove hr.units) (pd_var 3) (pda_cons (pd_var 6) pda_nil)))
    (pdss_cons (pds_asg (pd_callB cb_len T.b_len (by decide +kernel) (pda_cons (pd_var 2) pda_nil)) (pdg_sub (pd_ix (pd_var 2) (pd_ix (pd_var 6) pd_int)) (pd_ix (pd_var 6) pd_int)))
    (pdss_cons (pds_for PassesOwn.never rfl (pdi_any (pd_tup (pda_cons pd_int (pda_cons pd_int pda_nil)))) (pdg_name 7 sc__law_grown.nd) (pdss_cons (pds_asg (pd_op dop_add (pd_dgetN hr.units (pd_var 4) (pd_var 6)) pd_int) (pdg_putN hr.units (pd_var 4) (pd_tup (pda_cons (pd_callB cb_len T.b_len (by decide +kernel) (pda_cons (pd_var 2) pda_nil)) (pda_cons (pd_var 7) pda_nil)))))
    (pdss_one (pds_expr (pd_bm PySem.F.slot_list_append PySem.F.type_list_append md_append (pd_var 3) (pda_cons (pd_tup (pda_cons (pd_callB cb_len T.b_len (by decide +kernel) (pda_cons (pd_var 2) pda_nil)) (pda_cons (pd_var 7) pda_nil))) pda_nil))))))
    (pdss_one (pds_expr (pd_bm PySem.F.slot_list_append PySem.F.type_list_append md_append (pd_var 2) (pda_cons (pd_new (pda_cons pd_str (pda_cons pd_str pda_nil))) pda_nil))))))) pdss_nil))))
    (pdss_cons (pds_set 8 sc__law_grown.nd pd_dnewK)
    (pdss_cons (pds_for PassesOwn.never rfl (pdi_any (pd_var 3)) (pdg_name 6 sc__law_grown.nd) (pdss_cons (pds_set 9 sc__law_grown.nd (pd_ix (pd_var 1) (pd_callC c__law_draw hr (pda_cons (pd_var 0) (pda_cons (pd_callB cb_len T.b_len (by decide +kernel) (pda_cons (pd_var 1) pda_nil)) pda_nil)))))
    (pdss_cons (pds_asg (pd_var 9) (pdg_sub (pd_ix (pd_var 2) (pd_ix (pd_var 6) pd_int)) (pd_ix (pd_var 6) pd_int)))
    (pdss_one (pds_expr (pd_bm PySem.F.slot_list_append PySem.F.type_list_append md_append (pd_dsetd (pd_var 8) (pd_var 9) (pd_new pda_nil)) (pda_cons (pd_dgetN hr.units (pd_var 4) (pd_var 6)) pda_nil)))))))
    (pdss_one (pds_ret (pd_tup (pda_cons (pd_callTy cb_tuple T.b_tuple (by decide +kernel) (pda_cons (pd_lc [("_law_leads", 10)] rfl sc__law_grown.nd (pdi_any (pd_var 2)) (blkOk_by (N := N__law_grown) (sc := defScope s__law_grown) (by decide +kernel)) (fun _ _ _ _ _ => (pdgo_name 10 sc__law_grown.nd)) (fun _ _ _ _ _ => pdts_nil) (fun _ _ _ _ _ => (pd_callTy cb_tuple T.b_tuple (by decide +kernel) (pda_cons (pd_var 10) pda_nil)))) pda_nil)) (pda_cons (pd_var 8) pda_nil))))))))))
theorem ok__law_grown {P : Program} {wo : World} {K : PySem.W.Frag} {mg : Str → Option Value} {base : Heap} {f : Addr} {fd : FuncData} (T : Fx K mg) (F : FnP K "_law_grown" s__law_grown f fd) (c__law_draw : Cal P wo K mg base 1 "_law_draw" ["_law_tape_here", "_law_count"] sp__law_draw) : FnG P wo K mg base CX0 2 f fd ["_law_tape_here", "_law_names_here"] (spD K sp__law_grown) :=
  fnD false F sc__law_grown len__law_grown (fun cdv A outer s H E hr => d__law_grown T c__law_draw hr) p__law_grown
theorem d__law_right {P : Program} {wo : World} {K : PySem.W.Frag} {mg : Str → Option Value} {base : Heap} {f : Addr} {cdv : Value} {A : Around} {outer : List PySem.Env} {s : Shared} {H : Hp} {E : XK} (T : Fx K mg) (c__law_grown : Cal P wo K mg base 2 "_law_grown" ["_law_tape_here", "_law_names_here"] sp__law_grown) (c__law_fraction : Cal P wo K mg base 1 "_law_fraction" ["_law_top", "_law_bottom"] sp__law_fraction) (c__law_twos : Cal P wo K mg base 1 "_law_twos" ["_law_count"] sp__law_twos) (c_fewest_balances : Cal P wo K mg base 2 "fewest_balances" ["shares"] sp_fewest_balances) (c_tree_of : Cal P wo K mg base 3 "tree_of" ["shares"] sp_tree_of) (c__law_is_tree : Cal P wo K mg base 1 "_law_is_tree" ["_law_house"] sp__law_is_tree) (c__law_shares : Cal P wo K mg base 2 "_law_shares" ["_law_house"] sp__law_shares)
    (hr : RoomG 3 (A.deeper (envOfC "_law_right" (defScope s__law_right) s.heap.objs.size f cdv))) : PDSs (cxOf CX0 P wo K mg base N__law_right "_law_right" (defScope s__law_right) f cdv A outer s H E).nox (defBody s__law_right) t__law_right :=
    (pdss_cons (pds_asg (pd_callC c__law_grown hr (pda_cons (pd_var 0) (pda_cons (pd_var 1) pda_nil))) (pdg_tup rfl (pdgs_cons (pdg_name 2 sc__law_right.nd) (pdgs_cons (pdg_name 3 sc__law_right.nd) pdgs_nil))))
    (pdss_cons (pds_if (pd_tcmp dop_lt (pd_callB cb_lenD T.b_len (by decide +kernel) (pda_cons (pd_var 3) pda_nil)) pd_int (nomark _)) (pdss_one (pds_ret pd_bl)) pdss_nil)
    (pdss_cons (pds_set 4 sc__law_right.nd (pd_new pda_nil))
    (pdss_cons (pds_for PassesOwn.never rfl (pdi_any (pd_callB (cb_sortedDS rfl) T.b_sorted (by decide +kernel) (pda_cons (pd_var 3) pda_nil))) (pdg_name 5 sc__law_right.nd) (pdss_one (pds_expr (pd_bm PySem.F.slot_list_append PySem.F.type_list_append md_append (pd_var 4) (pda_cons (pd_tup (pda_cons (pd_var 5) (pda_cons (pd_callC c__law_fraction hr (pda_cons (pd_callB (cb_sum1 rfl) T.b_sum (by decide +kernel) (pda_cons (pd_lc [("_law_deep", 6)] rfl sc__law_right.nd (pdi_any (pd_dget hr.units (pd_var 3) (pd_var 5))) (blkOk_by (N := N__law_right) (sc := defScope s__law_right) (by decide +kernel)) (fun _ _ _ _ _ => (pdgo_name 6 sc__law_right.nd)) (fun _ _ _ _ _ => pdts_nil) (fun _ _ _ _ _ => (pd_callC c__law_twos hr (pda_cons (pd_op dop_sub pd_int (pd_var 6)) pda_nil)))) pda_nil)) (pda_cons pd_int pda_nil))) pda_nil))) pda_nil)))))
    (pdss_cons (pds_par 7 8 rfl sc__law_right.nd (pda_cons (pd_callC c_fewest_balances hr (pda_cons (pd_callTy cb_tuple T.b_tuple (by decide +kernel) (pda_cons (pd_var 4) pda_nil)) pda_nil)) (pda_cons (pd_callC c_tree_of hr (pda_cons (pd_callTy cb_tuple T.b_tuple (by decide +kernel) (pda_cons (pd_var 4) pda_nil)) pda_nil)) pda_nil)))
    (pdss_cons (pds_if (L2.PW.pt (pw_dor (pd_tcmp dop_gt (pd_var 7) (pd_callB cb_len T.b_len (by decide +kernel) (pda_cons (pd_var 2) pda_nil)) (nomark _)) (pw_dor (pd_tcmp (dop_ne hr.units) (pd_callB cb_len T.b_len (by decide +kernel) (pda_cons (pd_var 8) pda_nil)) (pd_var 7) (nomark _)) (pw_or1 (pd_tnot (pd_tru (pd_callC c__law_is_tree hr (pda_cons (pd_var 8) pda_nil)))))))) (pdss_one (pds_ret pd_bl)) pdss_nil)
    (pdss_cons (pds_asg (pd_tup (pda_cons (pd_callC c__law_shares hr (pda_cons (pd_var 8) pda_nil)) (pda_cons (pd_callC c__law_twos hr (pda_cons (pd_callB cb_len T.b_len (by decide +kernel) (pda_cons (pd_var 8) pda_nil)) pda_nil)) pda_nil))) (pdg_tup rfl (pdgs_cons (pdg_name 9 sc__law_right.nd) (pdgs_cons (pdg_name 10 sc__law_right.nd) pdgs_nil))))
    (pdss_cons (pds_if (pd_tcmp (dop_ne hr.units) (pd_lc [("_law_name", 5)] rfl sc__law_right.nd (pdi_any (pd_callB (cb_sortedDS rfl) T.b_sorted (by decide +kernel) (pda_cons (pd_var 9) pda_nil))) (blkOk_by (N := N__law_right) (sc := defScope s__law_right) (by decide +kernel)) (fun _ _ _ _ _ => (pdgo_name 5 sc__law_right.nd)) (fun _ _ _ _ _ => pdts_nil) (fun _ _ _ _ _ => (pd_tup (pda_cons (pd_var 5) (pda_cons (pd_callC c__law_fraction hr (pda_cons (pd_dget hr.units (pd_var 9) (pd_var 5)) (pda_cons (pd_var 10) pda_nil))) pda_nil))))) (pd_var 4) (nomark _)) (pdss_one (pds_ret pd_bl)) pdss_nil)
    (pdss_cons (pds_set 11 sc__law_right.nd (pd_callB (cb_all rfl) T.b_all (by decide +kernel) (pda_cons (pd_lock 3 (pd_lc [("_law_some", 12)] rfl sc__law_right.nd (pdi_valuesL 3) (blkOk_by (N := N__law_right) (sc := defScope s__law_right) (by decide +kernel)) (fun _ _ _ _ _ => (pdgo_name 12 sc__law_right.nd)) (fun _ _ _ _ _ => pdts_nil) (fun _ _ _ _ _ => (pd_cmp (dop_eq hr.units) (pd_lenSetZ rfl T.b_len T.b_set (by decide +kernel) (by decide +kernel) (pd_var 12)) (pd_callB cb_len T.b_len (by decide +kernel) (pda_cons (pd_var 12) pda_nil)) (nomark _))))) pda_nil)))
    (pdss_one (pds_ret (pd_ife (pd_tru (pd_var 11)) (pd_cmp (dop_eq hr.units) (pd_var 7) (pd_callB cb_len T.b_len (by decide +kernel) (pda_cons (pd_var 2) pda_nil)) (nomark _)) (pd_cmp dop_lt (pd_var 7) (pd_callB cb_len T.b_len (by decide +kernel) (pda_cons (pd_var 2) pda_nil)) (nomark _))))))))))))))
theorem ok__law_right {P : Program} {wo : World} {K : PySem.W.Frag} {mg : Str → Option Value} {base : Heap} {f : Addr} {fd : FuncData} (T : Fx K mg) (F : FnP K "_law_right" s__law_right f fd) (c__law_grown : Cal P wo K mg base 2 "_law_grown" ["_law_tape_here", "_law_names_here"] sp__law_grown) (c__law_fraction : Cal P wo K mg base 1 "_law_fraction" ["_law_top", "_law_bottom"] sp__law_fraction) (c__law_twos : Cal P wo K mg base 1 "_law_twos" ["_law_count"] sp__law_twos) (c_fewest_balances : Cal P wo K mg base 2 "fewest_balances" ["shares"] sp_fewest_balances) (c_tree_of : Cal P wo K mg base 3 "tree_of" ["shares"] sp_tree_of) (c__law_is_tree : Cal P wo K mg base 1 "_law_is_tree" ["_law_house"] sp__law_is_tree) (c__law_shares : Cal P wo K mg base 2 "_law_shares" ["_law_house"] sp__law_shares) : FnG P wo K mg base CX0 4 f fd ["_law_tape_here", "_law_names_here"] (spD K sp__law_right) :=
  fnD false F sc__law_right len__law_right (fun cdv A outer s H E hr => d__law_right T c__law_grown c__law_fraction c__law_twos c_fewest_balances c_tree_of c__law_is_tree c__law_shares hr) p__law_right
theorem d_law {P : Program} {wo : World} {K : PySem.W.Frag} {mg : Str → Option Value} {base : Heap} {f : Addr} {cdv : Value} {A : Around} {outer : List PySem.Env} {s : Shared} {H : Hp} {E : XK} (T : Fx K mg) (c__law_folded : Cal P wo K mg base 1 "_law_folded" ["_law_script", "_law_count"] sp__law_folded) (c__law_tape : Cal P wo K mg base 1 "_law_tape" ["_law_script", "_law_k"] sp__law_tape) (c__law_names : Cal P wo K mg base 2 "_law_names" ["_law_tape_here", "_law_count"] sp__law_names) (c__law_draw : Cal P wo K mg base 1 "_law_draw" ["_law_tape_here", "_law_count"] sp__law_draw) (c__law_right : Cal P wo K mg base 4 "_law_right" ["_law_tape_here", "_law_names_here"] sp__law_right)
    (hr : RoomG 4 (A.deeper (envOfC "law" (defScope s_law) s.heap.objs.size f cdv))) : PDSs (cxOf CX0 P wo K mg base N_law "law" (defScope s_law) f cdv A outer s H E).nox (defBody s_law) t_law :=
    (pdss_cons (pds_set 1 sc_law.nd (pd_ife (pd_tcmp (dop_ne hr.units) (pd_var 0) (pd_lst pda_nil) (nomark _)) (pd_callC c__law_folded hr (pda_cons (pd_var 0) (pda_cons pd_int pda_nil))) (pd_lst (pda_cons pd_int pda_nil))))
    (pdss_cons (pds_for PassesOwn.never rfl (pdi_range1 T.b_range (pd_callB cb_len T.b_len (by decide +kernel) (pda_cons (pd_var 1) pda_nil))) (pdg_name 2 sc_law.nd) (pdss_cons (pds_set 3 sc_law.nd (pd_callC c__law_tape hr (pda_cons (pd_var 1) (pda_cons (pd_var 2) pda_nil))))
    (pdss_cons (pds_set 4 sc_law.nd (pd_cut sl_cut (pd_srtTx rfl (by rfl) T.b_sorted (by rfl) T.b_set (pd_callC c__law_names hr (pda_cons (pd_var 3) (pda_cons pd_int pda_nil)))) pdo_none (pdo_some (pd_op dop_add pd_int (pd_callC c__law_draw hr (pda_cons (pd_var 3) (pda_cons pd_int pda_nil)))))))
    (pdss_one (pds_if (pd_tnot (pd_tru (pd_callB (cb_all rfl) T.b_all (by decide +kernel) (pda_cons (pd_lc [("_law_turn", 5)] rfl sc_law.nd (pdi_range1 T.b_range pd_int) (blkOk_by (N := N_law) (sc := defScope s_law) (by decide +kernel)) (fun _ _ _ _ _ => (pdgo_name 5 sc_law.nd)) (fun _ _ _ _ _ => pdts_nil) (fun _ _ _ _ _ => (pd_callC c__law_right hr (pda_cons (pd_var 3) (pda_cons (pd_var 4) pda_nil))))) pda_nil)))) (pdss_one (pds_ret pd_bl)) pdss_nil)))))
    (pdss_one (pds_ret pd_bl))))
theorem ok_law {P : Program} {wo : World} {K : PySem.W.Frag} {mg : Str → Option Value} {base : Heap} {f : Addr} {fd : FuncData} (T : Fx K mg) (F : FnP K "law" s_law f fd) (c__law_folded : Cal P wo K mg base 1 "_law_folded" ["_law_script", "_law_count"] sp__law_folded) (c__law_tape : Cal P wo K mg base 1 "_law_tape" ["_law_script", "_law_k"] sp__law_tape) (c__law_names : Cal P wo K mg base 2 "_law_names" ["_law_tape_here", "_law_count"] sp__law_names) (c__law_draw : Cal P wo K mg base 1 "_law_draw" ["_law_tape_here", "_law_count"] sp__law_draw) (c__law_right : Cal P wo K mg base 4 "_law_right" ["_law_tape_here", "_law_names_here"] sp__law_right) : FnG P wo K mg base CX0 5 f fd ["_law_script"] (spD K sp_law) :=
  fnD false F sc_law len_law (fun cdv A outer s H E hr => d_law T c__law_folded c__law_tape c__law_names c__law_draw c__law_right hr) p_law
def q_depths_of : He.DefD := ⟨("depths_of", none), "depths_of", "depths_of", defArgs s_depths_of, defBody s_depths_of, defScope s_depths_of, [], []⟩
def q_fewest_balances : He.DefD := ⟨("fewest_balances", none), "fewest_balances", "fewest_balances", defArgs s_fewest_balances, defBody s_fewest_balances, defScope s_fewest_balances, [], []⟩
def q_joined : He.DefD := ⟨("joined", none), "joined", "joined", defArgs s_joined, defBody s_joined, defScope s_joined, [], []⟩
def q_tree_of : He.DefD := ⟨("tree_of", none), "tree_of", "tree_of", defArgs s_tree_of, defBody s_tree_of, defScope s_tree_of, [], []⟩
def q__law_twos : He.DefD := ⟨("_law_twos", none), "_law_twos", "_law_twos", defArgs s__law_twos, defBody s__law_twos, defScope s__law_twos, [], []⟩
def q__law_tape : He.DefD := ⟨("_law_tape", none), "_law_tape", "_law_tape", defArgs s__law_tape, defBody s__law_tape, defScope s__law_tape, [], []⟩
def q__law_draw : He.DefD := ⟨("_law_draw", none), "_law_draw", "_law_draw", defArgs s__law_draw, defBody s__law_draw, defScope s__law_draw, [], []⟩
def q__law_folded : He.DefD := ⟨("_law_folded", none), "_law_folded", "_law_folded", defArgs s__law_folded, defBody s__law_folded, defScope s__law_folded, [], []⟩
def q__law_names : He.DefD := ⟨("_law_names", none), "_law_names", "_law_names", defArgs s__law_names, defBody s__law_names, defScope s__law_names, [], []⟩
def q__law_fraction : He.DefD := ⟨("_law_fraction", none), "_law_fraction", "_law_fraction", defArgs s__law_fraction, defBody s__law_fraction, defScope s__law_fraction, [], []⟩
def q__law_shares : He.DefD := ⟨("_law_shares", none), "_law_shares", "_law_shares", defArgs s__law_shares, defBody s__law_shares, defScope s__law_shares, [], []⟩
def q__law_is_tree : He.DefD := ⟨("_law_is_tree", none), "_law_is_tree", "_law_is_tree", defArgs s__law_is_tree, defBody s__law_is_tree, defScope s__law_is_tree, [], []⟩
def q__law_grown : He.DefD := ⟨("_law_grown", none), "_law_grown", "_law_grown", defArgs s__law_grown, defBody s__law_grown, defScope s__law_grown, [], []⟩
def q__law_right : He.DefD := ⟨("_law_right", none), "_law_right", "_law_right", defArgs s__law_right, defBody s__law_right, defScope s__law_right, [], []⟩
def q_law : He.DefD := ⟨("law", none), "law", "law", defArgs s_law, defBody s_law, defScope s_law, [], []⟩
def fn : List He.DefD := [q_depths_of, q_fewest_balances, q_joined, q_tree_of, q__law_twos, q__law_tape, q__law_draw, q__law_folded, q__law_names, q__law_fraction, q__law_shares, q__law_is_tree, q__law_grown, q__law_right, q_law]
def fa : List He.Fa := [.glo "depths_of", .glo "fewest_balances", .glo "joined", .glo "tree_of", .glo "_law_twos", .glo "_law_tape", .glo "_law_draw", .glo "_law_folded", .glo "_law_names", .glo "_law_fraction", .glo "_law_shares", .glo "_law_is_tree", .glo "_law_grown", .glo "_law_right", .glo "law", .free "range", .free "sum", .free "len", .free "max", .free "enumerate", .free "isinstance", .free "str", .free "tuple", .free "abs", .free "int", .free "list", .free "dict", .free "bool", .free "sorted", .free "all", .free "set"]
def ex : List (PySem.W.Frag → Bool) := []
abbrev R : PySem.W.OpenRow := PySem.W.OpenLaw.row PySem.Challenge.rw_panfalls_k69_whole_no_tree_has_fewer
abbrev hk : PySem.W.Hook := hookX 4 ex fa fn
def ob (s : PySem.W.SharedT) : AlX := obsXG 4 ex fa fn (HandSHeadRun.getT s)
theorem ob_eq (s : PySem.W.SharedT) : ob s = hk.obs s.abs := obsXG_eq (HandSHeadRun.getT_eq s)
def lo0 : List Str := ["depths_of", "fewest_balances", "joined", "tree_of", "_law_twos", "_law_tape", "_law_draw", "_law_folded", "_law_names", "_law_fraction", "_law_shares", "_law_is_tree", "_law_grown", "_law_right"]
def loose : List Str := lo0
theorem run (w : World) : HandSHeadRun.RunEq R (PySem.W.view R.prog [16]) hk ob 1420 loose w := by
  intro os
  kernel_rfl
theorem facts {P : Program} {wo : World} {K : PySem.W.Frag} {h : Heap} {mg : Str → Option Value} {fx : Addr} (X : K.In h) (G : h.Ns mainGlobals mg) (hfa : mg ("law" : Str) = some (.ref fx)) (c : SaysX ex fa fn K) :
    ∃ fd : FuncData, (∀ (s : Shared) (v : Value), BindsTo s fd ⟨[v], []⟩ [("_law_script", v)]) ∧ ∀ base : Heap, K.In base → base.Ns mainGlobals mg → FnG P wo K mg base CX0 5 fx fd ["_law_script"] (spD K spLaw) := by
  obtain ⟨fd0, F0⟩ := c.d.def_ 0 (d := q_depths_of) rfl
  obtain ⟨fd1, F1⟩ := c.d.def_ 1 (d := q_fewest_balances) rfl
  obtain ⟨fd2, F2⟩ := c.d.def_ 2 (d := q_joined) rfl
  obtain ⟨fd3, F3⟩ := c.d.def_ 3 (d := q_tree_of) rfl
  obtain ⟨fd4, F4⟩ := c.d.def_ 4 (d := q__law_twos) rfl
  obtain ⟨fd5, F5⟩ := c.d.def_ 5 (d := q__law_tape) rfl
  obtain ⟨fd6, F6⟩ := c.d.def_ 6 (d := q__law_draw) rfl
  obtain ⟨fd7, F7⟩ := c.d.def_ 7 (d := q__law_folded) rfl
  obtain ⟨fd8, F8⟩ := c.d.def_ 8 (d := q__law_names) rfl
  obtain ⟨fd9, F9⟩ := c.d.def_ 9 (d := q__law_fraction) rfl
  obtain ⟨fd10, F10⟩ := c.d.def_ 10 (d := q__law_shares) rfl
  obtain ⟨fd11, F11⟩ := c.d.def_ 11 (d := q__law_is_tree) rfl
  obtain ⟨fd12, F12⟩ := c.d.def_ 12 (d := q__law_grown) rfl
  obtain ⟨fd13, F13⟩ := c.d.def_ 13 (d := q__law_right) rfl
  obtain ⟨fd14, F14⟩ := c.d.def_ 14 (d := q_law) rfl
  have T : Fx K mg := ⟨He.free_ok X G (c.d.fact 15 (f := .free "range") rfl), He.free_ok X G (c.d.fact 16 (f := .free "sum") rfl), He.free_ok X G (c.d.fact 17 (f := .free "len") rfl), He.free_ok X G (c.d.fact 18 (f := .free "max") rfl), He.free_ok X G (c.d.fact 19 (f := .free "enumerate") rfl), He.free_ok X G (c.d.fact 20 (f := .free "isinstance") rfl), He.free_ok X G (c.d.fact 21 (f := .free "str") rfl), He.free_ok X G (c.d.fact 22 (f := .free "tuple") rfl), He.free_ok X G (c.d.fact 23 (f := .free "abs") rfl), He.free_ok X G (c.d.fact 24 (f := .free "int") rfl), He.free_ok X G (c.d.fact 25 (f := .free "list") rfl), He.free_ok X G (c.d.fact 26 (f := .free "dict") rfl), He.free_ok X G (c.d.fact 27 (f := .free "bool") rfl), He.free_ok X G (c.d.fact 28 (f := .free "sorted") rfl), He.free_ok X G (c.d.fact 29 (f := .free "all") rfl), He.free_ok X G (c.d.fact 30 (f := .free "set") rfl)⟩
  have e := hfa.symm.trans (He.glo_ok X G (c.d.fact 14 (f := .glo "law") rfl))
  cases e
  have b := FunD.bindsA (ps := ["_law_script"]) F14 fun _ _ _ _ _ _ us hl => match us, hl with | [_], _ => rfl
  refine ⟨fd14, fun s v => b s [v] rfl, fun base _ _ => ?_⟩
  have o_depths_of := ok_depths_of (P := P) (wo := wo) (base := base) T F0 
  have c_depths_of : Cal P wo K mg base 1 "depths_of" ["share"] sp_depths_of := ⟨_, _, (He.glo_ok X G (c.d.fact 0 (f := .glo "depths_of") rfl)), F0.kp, o_depths_of, F0.bindsN (fun _ _ _ _ _ _ us hl => match us, hl with | [_], _ => rfl)⟩
  have o_fewest_balances := ok_fewest_balances (P := P) (wo := wo) (base := base) T F1 c_depths_of
  have c_fewest_balances : Cal P wo K mg base 2 "fewest_balances" ["shares"] sp_fewest_balances := ⟨_, _, (He.glo_ok X G (c.d.fact 1 (f := .glo "fewest_balances") rfl)), F1.kp, o_fewest_balances, F1.bindsN (fun _ _ _ _ _ _ us hl => match us, hl with | [_], _ => rfl)⟩
  have o_joined := ok_joined (P := P) (wo := wo) (base := base) T F2 c_depths_of
  have c_joined : Cal P wo K mg base 2 "joined" ["shares"] sp_joined := ⟨_, _, (He.glo_ok X G (c.d.fact 2 (f := .glo "joined") rfl)), F2.kp, o_joined, F2.bindsN (fun _ _ _ _ _ _ us hl => match us, hl with | [_], _ => rfl)⟩
  have o_tree_of := ok_tree_of (P := P) (wo := wo) (base := base) T F3 c_joined
  have c_tree_of : Cal P wo K mg base 3 "tree_of" ["shares"] sp_tree_of := ⟨_, _, (He.glo_ok X G (c.d.fact 3 (f := .glo "tree_of") rfl)), F3.kp, o_tree_of, F3.bindsN (fun _ _ _ _ _ _ us hl => match us, hl with | [_], _ => rfl)⟩
  have o__law_twos := ok__law_twos (P := P) (wo := wo) (base := base) T F4 
  have c__law_twos : Cal P wo K mg base 1 "_law_twos" ["_law_count"] sp__law_twos := ⟨_, _, (He.glo_ok X G (c.d.fact 4 (f := .glo "_law_twos") rfl)), F4.kp, o__law_twos, F4.bindsN (fun _ _ _ _ _ _ us hl => match us, hl with | [_], _ => rfl)⟩
  have o__law_tape := ok__law_tape (P := P) (wo := wo) (base := base) T F5 
  have c__law_tape : Cal P wo K mg base 1 "_law_tape" ["_law_script", "_law_k"] sp__law_tape := ⟨_, _, (He.glo_ok X G (c.d.fact 5 (f := .glo "_law_tape") rfl)), F5.kp, o__law_tape, F5.bindsN (fun _ _ _ _ _ _ us hl => match us, hl with | [_, _], _ => rfl)⟩
  have o__law_draw := ok__law_draw (P := P) (wo := wo) (base := base) T F6 
  have c__law_draw : Cal P wo K mg base 1 "_law_draw" ["_law_tape_here", "_law_count"] sp__law_draw := ⟨_, _, (He.glo_ok X G (c.d.fact 6 (f := .glo "_law_draw") rfl)), F6.kp, o__law_draw, F6.bindsN (fun _ _ _ _ _ _ us hl => match us, hl with | [_, _], _ => rfl)⟩
  have o__law_folded := ok__law_folded (P := P) (wo := wo) (base := base) T F7 
  have c__law_folded : Cal P wo K mg base 1 "_law_folded" ["_law_script", "_law_count"] sp__law_folded := ⟨_, _, (He.glo_ok X G (c.d.fact 7 (f := .glo "_law_folded") rfl)), F7.kp, o__law_folded, F7.bindsN (fun _ _ _ _ _ _ us hl => match us, hl with | [_, _], _ => rfl)⟩
  have o__law_names := ok__law_names (P := P) (wo := wo) (base := base) T F8 c__law_draw
  have c__law_names : Cal P wo K mg base 2 "_law_names" ["_law_tape_here", "_law_count"] sp__law_names := ⟨_, _, (He.glo_ok X G (c.d.fact 8 (f := .glo "_law_names") rfl)), F8.kp, o__law_names, F8.bindsN (fun _ _ _ _ _ _ us hl => match us, hl with | [_, _], _ => rfl)⟩
  have o__law_fraction := ok__law_fraction (P := P) (wo := wo) (base := base) T F9 
  have c__law_fraction : Cal P wo K mg base 1 "_law_fraction" ["_law_top", "_law_bottom"] sp__law_fraction := ⟨_, _, (He.glo_ok X G (c.d.fact 9 (f := .glo "_law_fraction") rfl)), F9.kp, o__law_fraction, F9.bindsN (fun _ _ _ _ _ _ us hl => match us, hl with | [_, _], _ => rfl)⟩
  have o__law_shares := ok__law_shares (P := P) (wo := wo) (base := base) T F10 c__law_twos
  have c__law_shares : Cal P wo K mg base 2 "_law_shares" ["_law_house"] sp__law_shares := ⟨_, _, (He.glo_ok X G (c.d.fact 10 (f := .glo "_law_shares") rfl)), F10.kp, o__law_shares, F10.bindsN (fun _ _ _ _ _ _ us hl => match us, hl with | [_], _ => rfl)⟩
  have o__law_is_tree := ok__law_is_tree (P := P) (wo := wo) (base := base) T F11 
  have c__law_is_tree : Cal P wo K mg base 1 "_law_is_tree" ["_law_house"] sp__law_is_tree := ⟨_, _, (He.glo_ok X G (c.d.fact 11 (f := .glo "_law_is_tree") rfl)), F11.kp, o__law_is_tree, F11.bindsN (fun _ _ _ _ _ _ us hl => match us, hl with | [_], _ => rfl)⟩
  have o__law_grown := ok__law_grown (P := P) (wo := wo) (base := base) T F12 c__law_draw
  have c__law_grown : Cal P wo K mg base 2 "_law_grown" ["_law_tape_here", "_law_names_here"] sp__law_grown := ⟨_, _, (He.glo_ok X G (c.d.fact 12 (f := .glo "_law_grown") rfl)), F12.kp, o__law_grown, F12.bindsN (fun _ _ _ _ _ _ us hl => match us, hl with | [_, _], _ => rfl)⟩
  have o__law_right := ok__law_right (P := P) (wo := wo) (base := base) T F13 c__law_grown c__law_fraction c__law_twos c_fewest_balances c_tree_of c__law_is_tree c__law_shares
  have c__law_right : Cal P wo K mg base 4 "_law_right" ["_law_tape_here", "_law_names_here"] sp__law_right := ⟨_, _, (He.glo_ok X G (c.d.fact 13 (f := .glo "_law_right") rfl)), F13.kp, o__law_right, F13.bindsN (fun _ _ _ _ _ _ us hl => match us, hl with | [_, _], _ => rfl)⟩
  exact ok_law T F14 c__law_folded c__law_tape c__law_names c__law_draw c__law_right
end LW
set_option maxHeartbeats 0
open PySem PySem.W PySem.Calls PyProof.Rows
theorem PySem.Challenge.cw_panfalls_k69_whole_no_tree_has_fewer_holds : PySem.Challenge.rw_panfalls_k69_whole_no_tree_has_fewer.Holds := by
  w_on; o_law
  refine HandSHeadRun.head_any (r := OpenLaw.row PySem.Challenge.rw_panfalls_k69_whole_no_tree_has_fewer) (q := view (OpenLaw.row PySem.Challenge.rw_panfalls_k69_whole_no_tree_has_fewer).prog [16]) (H := LW.hk) (ob := LW.ob) (M := 1420) (loose := LW.loose) (d := HandSHeadRun.topDef (OpenLaw.row PySem.Challenge.rw_panfalls_k69_whole_no_tree_has_fewer).prog 16) (kwd := []) LW.ob_eq
    (by kernel_rfl) (fun s => by kernel_rfl) LW.run (by kernel_rfl) (by kernel_rfl) (by kernel_rfl) (by rfl) (by first | assumption | decide +kernel) (by decide +kernel) ⟨rfl, rfl, rfl, rfl, rfl, by decide +kernel⟩ ?hw ?hc
  case hw => w_witness2
  case hc =>
    refine DL.law_end (l := PySem.Challenge.rw_panfalls_k69_whole_no_tree_has_fewer) (k := 5) (x := "_law_script") rfl (by kernel_rfl) ⟨⟨rfl, by decide, by decide⟩, rfl⟩ ?F
    intro w mg fa h Y G hmg0
    obtain ⟨K, KX, c⟩ := Y
    have hmg : mg ("law" : PySem.Str) = some (.ref fa) := by
      have e : (HandSHeadRun.topDef (OpenLaw.row PySem.Challenge.rw_panfalls_k69_whole_no_tree_has_fewer).prog 16).name = ("law" : PySem.Str) := by kernel_rfl
      rw [← e]
      exact hmg0
    obtain ⟨fd, hb, hF⟩ := LW.facts (P := (PySem.Challenge.rw_panfalls_k69_whole_no_tree_has_fewer).prog) (wo := w) KX G hmg c
    exact ⟨K, fd, KX, hb, hF⟩
