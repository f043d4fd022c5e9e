import PyProof.Rows.All
import Wide.All
import OpenK.AllK
import Wide.FinOn
import HandS.ForMost
import HandS.Wide
import HandS.Defaults
import HandS.Ends
import HandS.Zip
import HandS.Walk
import HandS.IsInst
import HandS.TupAny
import HandS.TupMul
import HandS.Conv
import HandS.HeadHook1
import KE.GoesEnum
import HandS.HeadEnd
import HandS.EndBits
import HandS.Head0
import HandS.Head1
import HandS.Head2
import HandS.HeadHook2
import Lean
import KE.KTupSum
import HandS.Style
import KE.GoesEnumKw
import HandS.SortInts
import HandS.SetFor
import HandS.Strs
import HandS.WideBits
import HandS.RevRange
import HandS.Deep
import HandS.NoneIn
import HandS.TupSets
import HandS.RaiseMore
import HandS.FStrTup
import PyProof.ReprText
import PyProof.ReprRoads
import PyProof.FitsInt
import PyProof.StrLawsRepr
import HandS.Dict
import HandS.SetKeys
import HandS.DictTup
import KE.KDictCopyH
import KE.KDictSum
import HandS.More
import HandS.Set
import HandS.Text
import KE.DataFind
import HandS.SortRule
import HandS.SetBool
import HandS.SetTxt0
import HandS.DictComp
import HandS.MakeKwOnly
import KE.SortCalls
import KE.KSortTupAny
import HandS.Comp
import PyProof.DictUpdate
import KE.BitLaws
import PyProof.MaxThree
import HandS.Iter
import PyProof.StrLawsIn
import KE.KStateDown
import PySem.Challenge.RW_panfalls_k63_whole_alike_or_parted
set_option Elab.async false
set_option linter.all false
set_option maxRecDepth 100000
set_option maxHeartbeats 4000000
/-! Promises of defs where no repr is under way. -/
namespace DL
open PySem PySem.Spec PyProof.Rows L2

/-- room, and nothing is being shown -/
structure RoomG (k : Nat) (A : Around) : Prop extends Room k A where
  gd : A.guards = some []
theorem RoomG.mono {j k : Nat} {A : Around} (r : RoomG k A) (le : j ≤ k) : RoomG j A := ⟨r.toRoom.mono le, r.gd⟩
theorem RoomG.deeper {k : Nat} {A : Around} (r : RoomG (k + 1) A) (ev : PySem.Env) : RoomG k (A.deeper ev) := ⟨r.toRoom.deeper ev, r.gd⟩

/-- a def's promise, given only where nothing is being shown -/
structure FnG (pr : Program) (wo : World) (fr : PySem.W.Frag) (mg : Str → Option Value) (ba : Heap) (cx : CXT) (k : Nat) (f : Addr) (fd : FuncData) (ps : List Str) (sp : Sp) : Prop where
  len : ∀ xs H q x, sp xs H q x → xs.length = ps.length
  run : ∀ (A : Around) (ou : List PySem.Env) (s : Shared) (H : Hp) (ar : Args) (us : List Value) (xs : List V) (q : VK) (x : XK), RoomG k A →
    Env0 pr wo fr mg ba A ou s H → BindsTo s fd ar (ps.zip us) → Vals xs us → sp xs H q x → codeAny (model pr wo) A (.call (.ref f) ar) (CR cx ou pr wo H s q x) s
section
variable {pr : Program} {wo : World} {fr : PySem.W.Frag} {mg : Str → Option Value} {ba : Heap} {cx : CXT} {j k : Nat} {f : Addr} {fd : FuncData} {ps : List Str} {sp : Sp}
theorem FnG.mono (g : FnG pr wo fr mg ba cx j f fd ps sp) (le : j ≤ k) : FnG pr wo fr mg ba cx k f fd ps sp :=
  ⟨g.len, fun A ou s H ar us xs q x r => g.run A ou s H ar us xs q x (r.mono le)⟩

/-- a call of such a def -/
theorem run_fnG {X : Cx} {pins : List (Addr × Obj)} {σ : L2.St} {H : Hp} {s : Shared} {q : VK} {x : XK} {us ws : List Value} {kw : List (Str × Value)} {xs : List V} (g : FnG X.prog X.w X.K X.mg X.base cx k f fd ps sp) (r : RoomG k X.A)
    (pa : Passes cx X x) (I : Inv X pins σ H s) (bi : BindsTo s fd ⟨us, kw⟩ (ps.zip ws)) (rv : Vals xs ws) (h : sp xs H q x) : wpAny (model X.prog X.w) X.A (call (.ref f) us kw) (EP X pins σ q) X.xe s := by
  refine wpAny_call (codeAny_mono (g.run X.A X.stack s H ⟨us, kw⟩ ws xs q x r I.env0 bi rv h) fun out s2 z => ?_)
  match out, z with
  | .error e, z => exact pa pins σ H s e s2 I z
  | .ok (.ret u), z => exact I.after z
  | .ok .next, z => exact z.elim
  | .ok .brk, z => exact z.elim
  | .ok .cont, z => exact z.elim

/-- a def by its body -/
theorem fnG_body {N : List Str} {x qual : Str} {params : Arguments} {body : List Stmt} {scope : Scope} {kws : List (Str × V)} (F : FunD fr x qual params body scope [] kws f fd) (sc : FnScope N ps scope) (ln : ∀ xs H q y, sp xs H q y → xs.length = ps.length)
    (hb : ∀ (cd : Value) (A : Around) (ou : List PySem.Env) (s : Shared) (H : Hp) (xs : List V) (q : VK) (y : XK), RoomG k (A.deeper (envOfC qual scope s.heap.objs.size f cd)) → sp xs H q y →
      ∃ t, PSs (cxOf cx pr wo fr mg ba N qual scope f cd A ou s H y) body t ∧ t { nx := fun _ H2 => q .non H2, rt := q } (start N xs) H) : FnG pr wo fr mg ba cx (k + 1) f fd ps sp := by
  obtain ⟨oc, od, dV, kV, doc, pm, an, cd, ct, osl, rfl, lk, hcd, _, _⟩ := F.ex
  refine ⟨ln, fun A ou s H ar us xs q y hr e0 bi rv hsp => ?_⟩
  have hl := ln _ _ _ _ hsp
  have inK : fr.In s.heap := e0.mod.kin.keeps fun b o z => (e0.bs b o z).1
  have nl : s.heap.NoLimit := e0.mod.nolimit.keeps fun b o z => (e0.bs b o z).1
  have kinds : ∀ z ∈ ps.zip us, scope.names.lookup z.1 = some .local ∨ (scope.names.lookup z.1 = some .cell ∧ ((cellsFrom (s.heap.objs.size + 1) scope.names []).lookup z.1).isSome = true) := by
    rintro ⟨nm, v⟩ hz
    rcases sc.par nm (List.of_mem_zip hz).1 with a | a
    · exact .inl a
    · exact .inr ⟨a, PySem.W.cellsFrom_some _ _ _ (.inl a)⟩
  refine codeAny_call_function hr.toRoom.depth (inK _ _ lk) rfl sc.co sc.gen rfl (PySem.W.codeRec_of inK hcd) (bi _ _ _ _ ?_)
  refine wpAny_newFunctionEnv_cells sc.kind kinds fun ev hev s1 xx => ?_
  subst hev
  refine ⟨nl.keeps xx.toInCall.keep, codeAny_func ?_⟩
  obtain ⟨t, ht, hq⟩ := hb cd A ou s H xs q y (hr.deeper _) hsp
  have J : Inv (cxOf cx pr wo fr mg ba N qual scope f cd A ou s H y) [] (start N xs) H s1 := inv_start sc hr.hd e0 hl rv xx
  refine wpAny_mono (ht.run [] s1 (start N xs) H _ J hq) (fun fl s2 hs => ?_) fun e s2 hs => hs
  match fl, hs with
  | .ret u, ⟨v, σ2, H2, J2, r2, q2⟩ => exact ⟨v, H2, J2.os, J2.bare, J2.base, J2.hok, r2, q2⟩
  | .next, ⟨σ2, H2, J2, q2⟩ => exact ⟨V.non, H2, J2.os, J2.bare, J2.base, J2.hok, (rfl : Value.none = Value.none), q2⟩
  | .brk, ⟨_, _, _, z⟩ => exact z.elim
  | .cont, ⟨_, _, _, z⟩ => exact z.elim

/-- the law at the heap behind the top -/
theorem law_callG {fa a : Addr} {x : Str} {s₁ : Shared} {vs : List Value} {ns : List Int} {mb : Str → Option Value}
    (inK : fr.In s₁.heap) (nsg : s₁.heap.Ns mainGlobals mg) (nsb : s₁.heap.Ns builtinsNs mb) (boot : ∀ z : Str, z ≠ "__name__" → mb z = bootBuiltins z) (nolim : s₁.heap.NoLimit) (gens : s₁.gens = #[])
    (scr : s₁.heap.get? a = some { cls := .type "list", data := .seq vs.toArray }) (are : IntsAre vs ns) (few : ns.length ≤ sizeLine) (hr : RoomG k callerA)
    (F : ∀ base : Heap, fr.In base → base.Ns mainGlobals mg → FnG pr wo fr mg base cx k fa fd [x] sp) (bnd : ∀ (s : Shared) (u : Value), BindsTo s fd ⟨[u], []⟩ [(x, u)])
    (hsp : ∀ H : Hp, Only H → SqL fr H a (ns.map V.int) → sp [.ref a] H (fun v _ => v = .bl true) fun _ _ _ => False)
    (hcx : ∀ H e s2, cx [] H s₁ (fun _ _ _ => False) e s2 → False) :
    codeAny (model pr wo) callerA (.call (.ref fa) ⟨[.ref a], []⟩) (fun r s2 => r = .ok (.ret (.bool true)) ∧ OldK s₁.heap s2.heap ∧ s2.os = s₁.os ∧ AllBare s2.gens) s₁ := by
  have same := vals_ints are
  have many := are.length
  have go : ∀ G : Hp, Only G → SqL fr G a (ns.map V.int) → HOk pr wo G s₁.heap → (∀ b, G b ≠ none → b = a) → (G a ≠ none → fr.lookup a = none) →
      codeAny (model pr wo) callerA (.call (.ref fa) ⟨[.ref a], []⟩) (fun r s2 => r = .ok (.ret (.bool true)) ∧ OldK s₁.heap s2.heap ∧ s2.os = s₁.os ∧ AllBare s2.gens) s₁ := by
    intro G only sq hok mine notK
    have seen : ∀ {b : Addr} {o : Obj}, s₁.heap.get? b = some o → G b = none → (hidT s₁.heap G).get? b = some o := fun z n => hidT_get z n
    have noDict : ∀ {b : Addr} {o : Obj} {es : Array DictEntry} {n : Nat}, s₁.heap.get? b = some o → o.data = .dict es n → G b = none := by
      intro b o es n z dz
      by_cases c : G b = none
      · exact c
      · rw [mine b c, scr] at z
        cases z
        cases (show Data.seq vs.toArray _ = Data.dict es n from dz)
    have ns2 : ∀ {b : Addr} {m : Str → Option Value}, s₁.heap.Ns b m → (hidT s₁.heap G).Ns b m := fun ⟨o, es, n, z, dz, rest⟩ => ⟨o, es, n, seen z (noDict z dz), dz, rest⟩
    have inB : fr.In (hidT s₁.heap G) := by
      intro b o z
      refine seen (inK b o z) ?_
      by_cases c : G b = none
      · exact c
      · have hba := mine b c
        subst hba
        rw [notK c] at z
        cases z
    obtain ⟨ml, l1, l2⟩ := nolim
    have md : Mod fr mg (hidT s₁.heap G) := ⟨inB, ns2 nsg, ⟨mb, ns2 nsb, boot⟩, ⟨ml, ns2 l1, l2⟩⟩
    have e0 : Env0 pr wo fr mg (hidT s₁.heap G) callerA [] s₁ G := ⟨rfl, md, fun b o z => of_hidT z, Nat.le_of_eq (hidT_size _ _), trivial, fun b hb => (nomatch (show b ∈ ([] : List Addr) from hb)), hok, .of_eq gens⟩
    refine codeAny_mono ((F _ inB (ns2 nsg)).run callerA [] s₁ G ⟨[.ref a], []⟩ [.ref a] [.ref a] _ _ hr e0 (bnd s₁ (.ref a)) (.cons rfl .nil) (hsp G only sq)) fun out s2 z => ?_
    match out, z with
    | .error e, z => exact (hcx G e s2 z).elim
    | .ok .next, z => exact z.elim
    | .ok .brk, z => exact z.elim
    | .ok .cont, z => exact z.elim
    | .ok (.ret u), ⟨v, G2, os, bare, un, hok2, rv, qv⟩ =>
      have qv2 : v = .bl true := qv
      subst qv2
      cases (show u = Value.bool true from rv)
      refine ⟨rfl, OldK.of_keep fun b o z => ?_, os, bare⟩
      cases c : G b with
      | none => exact un.keep b o z c (fun y => nomatch (show b ∈ ([] : List Addr) from y)) (by simp)
      | some t =>
        rcases only b with y | ⟨ob, ys, y⟩
        · rw [c] at y
          cases y
        · obtain ⟨y1, _⟩ := hok b _ y
          obtain ⟨y2, _⟩ := hok2 b _ (un.frzs b ob _ y)
          rw [z] at y1
          cases y1
          exact y2
  cases held : fr.lookup a with
  | some o =>
    have z := inK a o held
    rw [scr] at z
    cases z
    exact go (fun _ => none) (fun _ => .inl rfl) (.inr ⟨_, vs.toArray, _, held, rfl, rfl, rfl, by rw [List.size_toArray, many]; exact few, by simpa using same⟩) (fun b u y => nomatch (show (none : Option HO) = some u from y)) (fun b y => absurd rfl y) fun y => absurd rfl y
  | none =>
    refine go (fun b => if b = a then some (.frz { cls := .type "list", data := .seq vs.toArray } (.lst (ns.map V.int))) else none) (fun b => ?_) (.inl (.inr ⟨{ cls := .type "list", data := .seq vs.toArray }, if_pos rfl⟩)) (fun b u y => ?_) (fun b y => ?_) fun _ => held
    · by_cases c : b = a
      · exact .inr ⟨_, _, if_pos c⟩
      · exact .inl (if_neg c)
    · by_cases c : b = a
      · cases (if_pos c).symm.trans y
        subst c
        exact ⟨scr, by rw [List.length_map]; exact few, vs, _, same, scr⟩
      · cases (if_neg c).symm.trans y
    · by_cases c : b = a
      · exact c
      · exact absurd (if_neg c) y
end
end DL

/-! The data layer: Python values as trees of data, mutable lists in a small store; readings without a heap. -/
namespace DL
open PySem PySem.Spec PyProof.Rows L2

/-- what an object of the store is, beside a list: a dict (its keys tuples or not), an instance of a class -/
inductive Kd where
  | b (t : Bool) | ins (c : Str)
instance : Coe Bool Kd := ⟨.b⟩
inductive D where
  | non | bl (b : Bool) | int (i : Int) | str (x : Str) | lst (xs : List D) | klst (xs : List D) | tup (xs : List D) | obj (i : Nat)
  /-- a dict of the store, a frozen one; t: its keys are tuples. Its rows: .tup [key, value] -/
  | dic (t : Kd) (i : Nat) | fdic (t : Kd) (rows : List D)
  /-- a tuple of the module's head -/
  | gtup (xs : List D)

/-- a state of the frozen part and of the addresses of the store's lists -/
structure Wd where
  G : Hp
  as : List Addr
  /-- lists that are being made: nobody else sees them -/
  hid : List (Addr × List V) := []
  /-- which of the store's objects are dicts (keys tuples or not) -/
  dk : Addr → Option Kd := fun _ => none
  /-- dicts that are being walked: as they stand -/
  lk : Addr → Option (Obj × List (Key × V)) := fun _ => none
abbrev Sto := List (List D)
abbrev Env := List (Option D)

/-- a key of a dict -/
def keyD : D → Option Key
  | .int i => some (.inl i)
  | .str x => some (.inr x)
  | _ => none
def keysD : List D → Option (List Key)
  | [] => some []
  | d :: r => match keyD d, keysD r with
    | some k, some ks => some (k :: ks)
    | _, _ => none
def tkeyD : D → Option (List Key)
  | .tup xs => keysD xs
  | _ => none
def okTy : List String := ["int", "bool", "str", "list", "tuple"]
/-- what of the text a class must have whose instances are handed about -/
structure ClsT (K : PySem.W.Frag) (c : Str) : Prop where
  cls : Cls K (He.ga K c)
  ha : PySem.W.findIn K (.ref (He.ga K c)) "__class__" = some (some (.builtin "object.__class__"))
  hn : PySem.W.specialIn K (.builtin "object.__class__") "__get__" = some (some (.builtin "getset_descriptor.__get__"))
  htk : PySem.W.takesIn K (.builtin "object.__class__") = some true
  hm : PySem.W.mroIn K (He.ga K c) (.type "object") = some true
  no : ∀ b ∈ okTy, PySem.W.kitOne K (.ref (He.ga K c)) (.type b) = some false
def KdT (K : PySem.W.Frag) : Kd → Prop
  | .b _ => True
  | .ins c => ClsT K c
/-- rows as an instance's fields -/
def fsOf : List (Key × V) → List (Str × V)
  | [] => []
  | (.inr s, v) :: r => (s, v) :: fsOf r
  | (.inl _, _) :: r => fsOf r
mutual
def Rep (K : PySem.W.Frag) (w : Wd) : D → V → Prop
  | .non, v => v = .non
  | .bl b, v => v = .bl b
  | .int i, v => v = .int i
  | .str x, v => v = .str x
  | .lst xs, v => ∃ a vs, v = .ref a ∧ w.G a = some (.lst vs) ∧ Reps K w xs vs
  | .klst xs, v => ∃ a vs, v = .ref a ∧ SqL K w.G a vs ∧ Reps K w xs vs
  | .tup xs, v => ∃ a vs, v = .ref a ∧ w.G a = some (.tup vs) ∧ Reps K w xs vs
  | .gtup xs, v => ∃ a vs, v = .ref a ∧ SqT K w.G a vs ∧ Reps K w xs vs
  | .obj i, v => ∃ a, v = .ref a ∧ w.as[i]? = some a ∧ w.dk a = none
  | .dic t i, v => ∃ a, v = .ref a ∧ w.as[i]? = some a ∧ w.dk a = some t ∧ KdT K t
  | .fdic (.b false) rows, v => ∃ a kvs, v = .ref a ∧ w.G a = some (.dK kvs) ∧ kvs.length ≤ sizeLine ∧ RowsK K w rows kvs
  | .fdic (.b true) rows, v => ∃ a kvs, v = .ref a ∧ w.G a = some (.dT kvs) ∧ kvs.length ≤ sizeLine ∧ RowsT K w rows kvs
  | .fdic (.ins c) rows, v => ∃ a dx kvs, v = .ref a ∧ w.G a = some (.ins (He.ga K c) dx (fsOf kvs)) ∧ ClsT K c ∧ RowsK K w rows kvs
def RowsK (K : PySem.W.Frag) (w : Wd) : List D → List (Key × V) → Prop
  | [], kvs => kvs = []
  | .tup [k, d] :: ds, kvs => ∃ y v r, kvs = (y, v) :: r ∧ keyD k = some y ∧ Rep K w d v ∧ RowsK K w ds r
  | _ :: _, _ => False
def RowsT (K : PySem.W.Frag) (w : Wd) : List D → List (List Key × V) → Prop
  | [], kvs => kvs = []
  | .tup [k, d] :: ds, kvs => ∃ y v r, kvs = (y, v) :: r ∧ tkeyD k = some y ∧ Rep K w d v ∧ RowsT K w ds r
  | _ :: _, _ => False
def Reps (K : PySem.W.Frag) (w : Wd) : List D → List V → Prop
  | [], vs => vs = []
  | d :: ds, vs => ∃ v r, vs = v :: r ∧ Rep K w d v ∧ Reps K w ds r
end

structure Pre (w w' : Wd) : Prop where
  as : ∃ m, w'.as = w.as ++ m
  dk : ∀ a ∈ w.as, w'.dk a = w.dk a
theorem Pre.eq {w w' : Wd} (h : w'.as = w.as) (k : w'.dk = w.dk) : Pre w w' := ⟨⟨[], by rw [h]; simp⟩, fun _ _ => by rw [k]⟩
structure Le0 (w w' : Wd) : Prop where
  same : Same w.G w'.G
  pre : Pre w w'
  lk : ∀ a ∈ w.as, w'.lk a = w.lk a
structure Le (w w' : Wd) : Prop extends Le0 w w' where
  hid : w'.hid = w.hid
theorem Le0.refl (w : Wd) : Le0 w w := ⟨Same.refl _, .eq rfl rfl, fun _ _ => rfl⟩
theorem Le0.trans {w1 w2 w3 : Wd} (a : Le0 w1 w2) (b : Le0 w2 w3) : Le0 w1 w3 := by
  obtain ⟨⟨m, e⟩, p⟩ := a.pre
  obtain ⟨⟨n, f⟩, q⟩ := b.pre
  exact ⟨a.same.trans b.same, ⟨⟨m ++ n, by rw [f, e, List.append_assoc]⟩, fun x hx => (q x (by rw [e]; exact List.mem_append_left _ hx)).trans (p x hx)⟩, fun x hx => (b.lk x (by rw [e]; exact List.mem_append_left _ hx)).trans (a.lk x hx)⟩
theorem Le.refl (w : Wd) : Le w w := ⟨.refl w, rfl⟩
theorem Le.trans {w1 w2 w3 : Wd} (a : Le w1 w2) (b : Le w2 w3) : Le w1 w3 := ⟨a.toLe0.trans b.toLe0, b.hid.trans a.hid⟩
theorem as_get {w w' : Wd} (l : Pre w w') {i : Nat} {a : Addr} (h : w.as[i]? = some a) : w'.as[i]? = some a := by
  obtain ⟨⟨m, e⟩, _⟩ := l
  rw [e, List.getElem?_append_left (List.getElem?_eq_some_iff.mp h).1]
  exact h
theorem seqT_mono {K : PySem.W.Frag} {H H' : Hp} {a : Addr} {xs : List V} (e : Same H H') (h : SqT K H a xs) : SqT K H' a xs := by
  rcases h with (h | ⟨o, h⟩) | h
  · exact .inl (.inl (e _ _ h))
  · exact .inl (.inr ⟨o, e _ _ h⟩)
  · exact .inr h

section
variable {K : PySem.W.Frag} {w w' : Wd}
mutual
theorem Rep.mono' (s : Same w.G w'.G) (l : Pre w w') : ∀ (d : D) (v : V), Rep K w d v → Rep K w' d v
  | .non, _, h => by simpa only [Rep] using h
  | .bl _, _, h => by simpa only [Rep] using h
  | .int _, _, h => by simpa only [Rep] using h
  | .str _, _, h => by simpa only [Rep] using h
  | .lst xs, v, h => by
    simp only [Rep] at h ⊢
    obtain ⟨a, vs, e, q, r⟩ := h
    exact ⟨a, vs, e, s _ _ q, Reps.mono' s l xs vs r⟩
  | .klst xs, v, h => by
    simp only [Rep] at h ⊢
    obtain ⟨a, vs, e, q, r⟩ := h
    exact ⟨a, vs, e, s.seq q, Reps.mono' s l xs vs r⟩
  | .tup xs, v, h => by
    simp only [Rep] at h ⊢
    obtain ⟨a, vs, e, q, r⟩ := h
    exact ⟨a, vs, e, s _ _ q, Reps.mono' s l xs vs r⟩
  | .gtup xs, v, h => by
    simp only [Rep] at h ⊢
    obtain ⟨a, vs, e, q, r⟩ := h
    exact ⟨a, vs, e, seqT_mono s q, Reps.mono' s l xs vs r⟩
  | .obj i, v, h => by
    simp only [Rep] at h ⊢
    obtain ⟨a, e, q, q2⟩ := h
    exact ⟨a, e, as_get l q, (l.dk a (List.mem_of_getElem? q)).trans q2⟩
  | .dic t i, v, h => by
    simp only [Rep] at h ⊢
    obtain ⟨a, e, q, q2, q3⟩ := h
    exact ⟨a, e, as_get l q, (l.dk a (List.mem_of_getElem? q)).trans q2, q3⟩
  | .fdic (.ins c) rows, v, h => by
    simp only [Rep] at h ⊢
    obtain ⟨a, dx, kvs, e, q, n, r⟩ := h
    exact ⟨a, dx, kvs, e, s _ _ q, n, RowsK.mono' s l rows kvs r⟩
  | .fdic (.b false) rows, v, h => by
    simp only [Rep] at h ⊢
    obtain ⟨a, kvs, e, q, n, r⟩ := h
    exact ⟨a, kvs, e, s _ _ q, n, RowsK.mono' s l rows kvs r⟩
  | .fdic (.b true) rows, v, h => by
    simp only [Rep] at h ⊢
    obtain ⟨a, kvs, e, q, n, r⟩ := h
    exact ⟨a, kvs, e, s _ _ q, n, RowsT.mono' s l rows kvs r⟩
theorem RowsK.mono' (s : Same w.G w'.G) (l : Pre w w') : ∀ (ds : List D) (kvs : List (Key × V)), RowsK K w ds kvs → RowsK K w' ds kvs
  | [], _, h => by simpa only [RowsK] using h
  | .tup [k, d] :: ds, kvs, h => by
    simp only [RowsK] at h ⊢
    obtain ⟨y, v, r, e, h1, h2, h3⟩ := h
    exact ⟨y, v, r, e, h1, Rep.mono' s l d v h2, RowsK.mono' s l ds r h3⟩
  | .tup [] :: _, _, h => by simp only [RowsK] at h
  | .tup [_] :: _, _, h => by simp only [RowsK] at h
  | .tup (_ :: _ :: _ :: _) :: _, _, h => by simp only [RowsK] at h
  | .non :: _, _, h => by simp only [RowsK] at h
  | .bl _ :: _, _, h => by simp only [RowsK] at h
  | .int _ :: _, _, h => by simp only [RowsK] at h
  | .str _ :: _, _, h => by simp only [RowsK] at h
  | .lst _ :: _, _, h => by simp only [RowsK] at h
  | .klst _ :: _, _, h => by simp only [RowsK] at h
  | .obj _ :: _, _, h => by simp only [RowsK] at h
  | .dic _ _ :: _, _, h => by simp only [RowsK] at h
  | .fdic _ _ :: _, _, h => by simp only [RowsK] at h
  | .gtup _ :: _, _, h => by simp only [RowsK] at h
theorem RowsT.mono' (s : Same w.G w'.G) (l : Pre w w') : ∀ (ds : List D) (kvs : List (List Key × V)), RowsT K w ds kvs → RowsT K w' ds kvs
  | [], _, h => by simpa only [RowsT] using h
  | .tup [k, d] :: ds, kvs, h => by
    simp only [RowsT] at h ⊢
    obtain ⟨y, v, r, e, h1, h2, h3⟩ := h
    exact ⟨y, v, r, e, h1, Rep.mono' s l d v h2, RowsT.mono' s l ds r h3⟩
  | .tup [] :: _, _, h => by simp only [RowsT] at h
  | .tup [_] :: _, _, h => by simp only [RowsT] at h
  | .tup (_ :: _ :: _ :: _) :: _, _, h => by simp only [RowsT] at h
  | .non :: _, _, h => by simp only [RowsT] at h
  | .bl _ :: _, _, h => by simp only [RowsT] at h
  | .int _ :: _, _, h => by simp only [RowsT] at h
  | .str _ :: _, _, h => by simp only [RowsT] at h
  | .lst _ :: _, _, h => by simp only [RowsT] at h
  | .klst _ :: _, _, h => by simp only [RowsT] at h
  | .obj _ :: _, _, h => by simp only [RowsT] at h
  | .dic _ _ :: _, _, h => by simp only [RowsT] at h
  | .fdic _ _ :: _, _, h => by simp only [RowsT] at h
  | .gtup _ :: _, _, h => by simp only [RowsT] at h
theorem Reps.mono' (s : Same w.G w'.G) (l : Pre w w') : ∀ (ds : List D) (vs : List V), Reps K w ds vs → Reps K w' ds vs
  | [], _, h => by simpa only [Reps] using h
  | d :: ds, vs, h => by
    simp only [Reps] at h ⊢
    obtain ⟨v, r, e, h1, h2⟩ := h
    exact ⟨v, r, e, Rep.mono' s l d v h1, Reps.mono' s l ds r h2⟩
end
theorem Rep.mono (l : Le w w') (d : D) (v : V) (h : Rep K w d v) : Rep K w' d v := Rep.mono' l.same l.pre d v h
theorem Reps.mono (l : Le w w') (ds : List D) (vs : List V) (h : Reps K w ds vs) : Reps K w' ds vs := Reps.mono' l.same l.pre ds vs h
theorem Reps.nil : Reps K w [] [] := by simp only [Reps]
theorem Reps.cons {d : D} {ds : List D} {v : V} {vs : List V} (h : Rep K w d v) (r : Reps K w ds vs) : Reps K w (d :: ds) (v :: vs) := by
  simp only [Reps]
  exact ⟨v, vs, rfl, h, r⟩
theorem Reps.inv {d : D} {ds : List D} {vs : List V} (h : Reps K w (d :: ds) vs) : ∃ v r, vs = v :: r ∧ Rep K w d v ∧ Reps K w ds r := by
  simpa only [Reps] using h
theorem Reps.inv0 {vs : List V} (h : Reps K w [] vs) : vs = [] := by simpa only [Reps] using h
theorem Reps.length : ∀ {ds : List D} {vs : List V}, Reps K w ds vs → vs.length = ds.length
  | [], vs, h => by rw [h.inv0]; rfl
  | d :: ds, vs, h => by
    obtain ⟨v, r, rfl, _, h2⟩ := h.inv
    simp [h2.length]
theorem Reps.get : ∀ {ds : List D} {vs : List V} {i : Nat} {d : D}, Reps K w ds vs → ds[i]? = some d → ∃ v, vs[i]? = some v ∧ Rep K w d v
  | [], _, _, _, _, e => by simp at e
  | d :: ds, vs, 0, _, h, e => by
    obtain ⟨v, r, rfl, h1, _⟩ := h.inv
    simp at e
    subst e
    exact ⟨v, rfl, h1⟩
  | d :: ds, vs, i + 1, x, h, e => by
    obtain ⟨v, r, rfl, _, h2⟩ := h.inv
    obtain ⟨u, e1, e2⟩ := h2.get (i := i) (d := x) (by simpa using e)
    exact ⟨u, by simpa using e1, e2⟩
theorem Reps.getv : ∀ {ds : List D} {vs : List V} {i : Nat} {v : V}, Reps K w ds vs → vs[i]? = some v → ∃ d, ds[i]? = some d ∧ Rep K w d v
  | [], _, _, _, h, e => by rw [h.inv0] at e; simp at e
  | d :: ds, vs, 0, _, h, e => by
    obtain ⟨v, r, rfl, h1, _⟩ := h.inv
    simp at e
    subst e
    exact ⟨d, rfl, h1⟩
  | d :: ds, vs, i + 1, x, h, e => by
    obtain ⟨v, r, rfl, _, h2⟩ := h.inv
    obtain ⟨u, e1, e2⟩ := h2.getv (i := i) (v := x) (by simpa using e)
    exact ⟨u, by simpa using e1, e2⟩
theorem Reps.append : ∀ {ds es : List D} {vs us : List V}, Reps K w ds vs → Reps K w es us → Reps K w (ds ++ es) (vs ++ us)
  | [], _, _, _, h, g => by rw [h.inv0]; exact g
  | d :: ds, es, vs, us, h, g => by
    obtain ⟨v, r, rfl, h1, h2⟩ := h.inv
    exact .cons h1 (h2.append g)
theorem Reps.set : ∀ {ds : List D} {vs : List V} (i : Nat) {d : D} {v : V}, Reps K w ds vs → Rep K w d v → Reps K w (ds.set i d) (vs.set i v)
  | [], _, _, _, _, h, _ => by rw [h.inv0]; exact .nil
  | _ :: _, vs, 0, _, _, h, g => by
    obtain ⟨v, r, rfl, h1, h2⟩ := h.inv
    exact .cons g h2
  | _ :: _, vs, i + 1, _, _, h, g => by
    obtain ⟨v, r, rfl, h1, h2⟩ := h.inv
    exact .cons h1 (h2.set i g)
theorem Reps.take : ∀ {ds : List D} {vs : List V} (n : Nat), Reps K w ds vs → Reps K w (ds.take n) (vs.take n)
  | [], _, n, h => by rw [h.inv0]; simp; exact .nil
  | _ :: _, vs, 0, h => by simp; exact .nil
  | _ :: _, vs, n + 1, h => by
    obtain ⟨v, r, rfl, h1, h2⟩ := h.inv
    exact .cons h1 (h2.take n)
theorem Reps.drop : ∀ {ds : List D} {vs : List V} (n : Nat), Reps K w ds vs → Reps K w (ds.drop n) (vs.drop n)
  | [], _, n, h => by rw [h.inv0]; simp; exact .nil
  | _ :: _, vs, 0, h => h
  | _ :: _, vs, n + 1, h => by
    obtain ⟨v, r, rfl, h1, h2⟩ := h.inv
    exact h2.drop n
theorem Reps.rev {ds : List D} {vs : List V} (h : Reps K w ds vs) : Reps K w ds.reverse vs.reverse := by
  induction ds generalizing vs with
  | nil => rw [h.inv0]; exact .nil
  | cons d ds ih =>
    obtain ⟨v, r, rfl, h1, h2⟩ := h.inv
    rw [List.reverse_cons, List.reverse_cons]
    exact (ih h2).append (.cons h1 .nil)
theorem Reps.rep {ds : List D} {vs : List V} (h : Reps K w ds vs) : ∀ k : Nat, Reps K w (List.replicate k ds).flatten (List.replicate k vs).flatten
  | 0 => .nil
  | k + 1 => by
    rw [List.replicate_succ, List.replicate_succ, List.flatten_cons, List.flatten_cons]
    exact h.append (h.rep k)
theorem Reps.ints : ∀ {ns : List Int} {vs : List V}, Reps K w (ns.map D.int) vs → vs = ns.map V.int
  | [], _, h => h.inv0
  | n :: ns, vs, h => by
    obtain ⟨v, r, rfl, h1, h2⟩ := Reps.inv h
    simp only [Rep] at h1
    rw [h1, h2.ints]
    rfl
theorem Reps.of_ints : ∀ (ns : List Int), Reps K w (ns.map D.int) (ns.map V.int)
  | [] => .nil
  | n :: ns => .cons (by simp only [Rep]) (Reps.of_ints ns)
theorem Reps.bls : ∀ {ns : List Bool} {vs : List V}, Reps K w (ns.map D.bl) vs → vs = ns.map V.bl
  | [], _, h => h.inv0
  | n :: ns, vs, h => by
    obtain ⟨v, r, rfl, h1, h2⟩ := Reps.inv h
    simp only [Rep] at h1
    rw [h1, h2.bls]
    rfl
theorem Reps.strs : ∀ {ns : List Str} {vs : List V}, Reps K w (ns.map D.str) vs → vs = ns.map V.str
  | [], _, h => h.inv0
  | n :: ns, vs, h => by
    obtain ⟨v, r, rfl, h1, h2⟩ := Reps.inv h
    simp only [Rep] at h1
    rw [h1, h2.strs]
    rfl
end

/-! ### the state -/
def SizeOk : HO → Prop
  | .lst xs => xs.length ≤ sizeLine
  | .tup xs => xs.length ≤ sizeLine
  | .frz _ (.lst xs) => xs.length ≤ sizeLine
  | .frz _ (.tup xs) => xs.length ≤ sizeLine
  | _ => True
/-- what an object of the store holds -/
def EntP (K : PySem.W.Frag) (w : Wd) : Option Kd → List D → HO → Prop
  | none, xs, o => ∃ vs, o = .lst vs ∧ vs.length ≤ sizeLine ∧ Reps K w xs vs
  | some (.b false), xs, o => ∃ kvs, o = .dK kvs ∧ kvs.length ≤ sizeLine ∧ RowsK K w xs kvs
  | some (.b true), xs, o => ∃ kvs, o = .dT kvs ∧ kvs.length ≤ sizeLine ∧ RowsT K w xs kvs
  | some (.ins c), xs, o => ∃ dx kvs, o = .ins (He.ga K c) dx (fsOf kvs) ∧ RowsK K w xs kvs
/-- what stands behind the rows of a dict that is being walked -/
def lockD : D := .fdic (.b false) [.non]
/-- each row is a pair -/
def okRows : List D → Bool
  | [] => true
  | .tup [_, _] :: r => okRows r
  | _ => false
theorem okRows_app : ∀ {a b : List D}, okRows (a ++ b) = (okRows a && okRows b)
  | [], b => by simp [okRows]
  | .tup [_, _] :: r, b => by simp only [List.cons_append, okRows, okRows_app (a := r)]
  | .tup [] :: _, _ => by simp [okRows]
  | .tup [_] :: _, _ => by simp [okRows]
  | .tup (_ :: _ :: _ :: _) :: _, _ => by simp [okRows]
  | .non :: _, _ => by simp [okRows]
  | .bl _ :: _, _ => by simp [okRows]
  | .int _ :: _, _ => by simp [okRows]
  | .str _ :: _, _ => by simp [okRows]
  | .lst _ :: _, _ => by simp [okRows]
  | .klst _ :: _, _ => by simp [okRows]
  | .obj _ :: _, _ => by simp [okRows]
  | .dic _ _ :: _, _ => by simp [okRows]
  | .fdic _ _ :: _, _ => by simp [okRows]
  | .gtup _ :: _, _ => by simp [okRows]
theorem okRows_map {α : Type} (f g : α → D) : ∀ xs : List α, okRows (xs.map fun x => .tup [f x, g x]) = true
  | [] => rfl
  | x :: r => by simp only [List.map_cons, okRows, okRows_map f g r]
abbrev Lk := Option (Obj × List (Key × V))
def EntL (K : PySem.W.Frag) (w : Wd) (k : Option Kd) (L : Lk) (xs : List D) (o : HO) : Prop := k = some (.b false) ∧ ∃ rows ob kvs, L = some (ob, kvs) ∧ xs = rows ++ [lockD] ∧ o = .frz ob (.dK kvs) ∧ kvs.length ≤ sizeLine ∧ RowsK K w rows kvs
def EntR (K : PySem.W.Frag) (w : Wd) (k : Option Kd) (L : Lk) (xs : List D) (o : HO) : Prop := (L = none ∧ EntP K w k xs o) ∨ EntL K w k L xs o
theorem EntR.lst {K : PySem.W.Frag} {w : Wd} {L : Lk} {xs : List D} {o : HO} (h : EntR K w none L xs o) : ∃ vs, o = .lst vs ∧ vs.length ≤ sizeLine ∧ Reps K w xs vs := h.elim And.right fun z => nomatch z.1
theorem EntR.dT {K : PySem.W.Frag} {w : Wd} {L : Lk} {xs : List D} {o : HO} (h : EntR K w (some (.b true)) L xs o) : ∃ kvs, o = .dT kvs ∧ kvs.length ≤ sizeLine ∧ RowsT K w xs kvs := h.elim And.right fun z => nomatch z.1
theorem lock_no {rows : List D} (ok : okRows (rows ++ [lockD]) = true) : False := by
  rw [okRows_app] at ok
  simp [okRows, lockD] at ok
theorem EntR.dK {K : PySem.W.Frag} {w : Wd} {L : Lk} {xs : List D} {o : HO} (h : EntR K w (some (.b false)) L xs o) (ok : okRows xs = true) : ∃ kvs, o = .dK kvs ∧ kvs.length ≤ sizeLine ∧ RowsK K w xs kvs := h.elim And.right fun ⟨_, rows, ob, kvs, _, e, _⟩ => (lock_no (e ▸ ok)).elim
theorem EntR.ins {K : PySem.W.Frag} {w : Wd} {c : Str} {L : Lk} {xs : List D} {o : HO} (h : EntR K w (some (.ins c)) L xs o) : ∃ dx kvs, o = .ins (He.ga K c) dx (fsOf kvs) ∧ RowsK K w xs kvs := h.elim And.right fun z => nomatch z.1
theorem EntR.un {K : PySem.W.Frag} {w : Wd} {k : Option Kd} {L : Lk} {xs : List D} {o : HO} (h : EntR K w k L xs o) (ok : k ≠ some (.b false) ∨ okRows xs = true) : L = none := by
  rcases h with h | ⟨hk, rows, ob, kvs, _, e, _⟩
  · exact h.1
  · rcases ok with z | z
    · exact absurd hk z
    · exact (lock_no (e ▸ z)).elim
theorem EntR.mono' {K : PySem.W.Frag} {w w' : Wd} (s : Same w.G w'.G) (l : Pre w w') {k : Option Kd} {L : Lk} {xs : List D} {o : HO} (h : EntR K w k L xs o) : EntR K w' k L xs o := by
  rcases h with ⟨hL, h⟩ | ⟨hk, rows, ob, kvs, e0, e1, e2, n, r⟩
  · refine .inl ⟨hL, ?_⟩
    match k, h with
    | none, ⟨vs, e, n, r⟩ => exact ⟨vs, e, n, Reps.mono' s l _ _ r⟩
    | some (.b false), ⟨vs, e, n, r⟩ => exact ⟨vs, e, n, RowsK.mono' s l _ _ r⟩
    | some (.b true), ⟨vs, e, n, r⟩ => exact ⟨vs, e, n, RowsT.mono' s l _ _ r⟩
    | some (.ins c), ⟨dx, vs, e, r⟩ => exact ⟨dx, vs, e, RowsK.mono' s l _ _ r⟩
  · exact .inr ⟨hk, rows, ob, kvs, e0, e1, e2, n, RowsK.mono' s l _ _ r⟩
theorem EntR.mono {K : PySem.W.Frag} {w w' : Wd} (l : Le w w') {k : Option Kd} {L : Lk} {xs : List D} {o : HO} (h : EntR K w k L xs o) : EntR K w' k L xs o := h.mono' l.same l.pre
structure Wld (K : PySem.W.Frag) (w : Wd) (st : Sto) (H : Hp) : Prop where
  same : Same w.G H
  len : w.as.length = st.length
  nd : w.as.Nodup
  at_ : ∀ (i : Nat) (a : Addr), w.as[i]? = some a → w.G a = none ∧ ∃ (xs : List D) (o : HO), st[i]? = some xs ∧ H a = some o ∧ EntR K w (w.dk a) (w.lk a) xs o
  small : ∀ a u, w.G a = some u → SizeOk u
  hidd : ∀ (a : Addr) (vs : List V), (a, vs) ∈ w.hid → w.G a = none ∧ a ∉ w.as ∧ H a = some (.lst vs)
  hnd : (w.hid.map (·.1)).Nodup

section
variable {K : PySem.W.Frag} {w w' : Wd} {st : Sto} {H : Hp}
theorem sq_small {G : Hp} {a : Addr} {vs : List V} (sm : ∀ a u, G a = some u → SizeOk u) (h : SqL K G a vs) : vs.length ≤ sizeLine := by
  rcases h with (h | ⟨o, h⟩) | ⟨o, its, n, _, _, _, _, hz, r⟩
  · exact sm _ _ h
  · exact sm _ _ h
  · have := r.length
    simp only [Array.length_toList] at this
    omega
theorem sqt_small {G : Hp} {a : Addr} {vs : List V} (sm : ∀ a u, G a = some u → SizeOk u) (h : SqT K G a vs) : vs.length ≤ sizeLine := by
  rcases h with (h | ⟨o, h⟩) | ⟨o, its, n, _, _, _, hz, r⟩
  · exact sm _ _ h
  · exact sm _ _ h
  · have := r.length
    simp only [Array.length_toList] at this
    omega
/-- the lists of the store read through -/
def deref (st : Sto) : D → D
  | .obj i => match st[i]? with
    | some xs => .lst xs
    | none => .obj i
  | .klst xs => .lst xs
  | .gtup xs => .tup xs
  | d => d
theorem deref_self {st : Sto} {d e : D} (h : deref st d = e) (n1 : ∀ xs, e ≠ .lst xs) (n2 : ∀ i, e ≠ .obj i) (n3 : ∀ xs, e ≠ .tup xs := by intro _ z; cases z) : d = e := by
  cases d with
  | gtup ys => exact (n3 _ h.symm).elim
  | klst ys => exact (n1 _ h.symm).elim
  | obj i =>
    have h' : (match st[i]? with | some xs => D.lst xs | none => D.obj i) = e := h
    split at h'
    · exact (n1 _ h'.symm).elim
    · exact (n2 _ h'.symm).elim
  | _ => exact h
/-- not for tuples of the module's head -/
def noG (d : D) (p : Prop) : Prop := match d with
  | .gtup _ => False
  | _ => p
theorem noG_of {d : D} {p : Prop} (h : noG d p) : (∀ ys, d ≠ .gtup ys) ∧ p := by
  cases d with
  | gtup _ => exact h.elim
  | _ => exact ⟨fun _ z => by (cases z), h⟩
theorem deref_tup {st : Sto} {d : D} {xs : List D} (h : deref st d = .tup xs) (n : ∀ ys, d ≠ .gtup ys) : d = .tup xs := by
  cases d with
  | gtup ys => exact (n _ rfl).elim
  | obj i =>
    have h' : (match st[i]? with | some xs => D.lst xs | none => D.obj i) = .tup xs := h
    split at h' <;> cases h'
  | klst ys => cases h
  | _ => exact h
theorem deref_tups {st : Sto} {d : D} {xs : List D} (h : deref st d = .tup xs) (st' : Sto) : deref st' d = .tup xs := by
  cases d with
  | gtup ys => exact h
  | obj i =>
    have h' : (match st[i]? with | some xs => D.lst xs | none => D.obj i) = .tup xs := h
    split at h' <;> cases h'
  | klst ys => cases h
  | _ => exact h
theorem rep_lst {d : D} {v : V} {xs : List D} (W : Wld K w st H) (R : Rep K w d v) (e : deref st d = .lst xs) :
    ∃ a vs, v = .ref a ∧ SqL K H a vs ∧ Reps K w xs vs ∧ vs.length ≤ sizeLine := by
  cases d with
  | lst ys =>
    cases e
    simp only [Rep] at R
    obtain ⟨a, vs, e1, q, r⟩ := R
    exact ⟨a, vs, e1, .of (W.same _ _ q), r, W.small _ _ q⟩
  | klst ys =>
    cases e
    simp only [Rep] at R
    obtain ⟨a, vs, e1, q, r⟩ := R
    exact ⟨a, vs, e1, W.same.seq q, r, sq_small W.small q⟩
  | obj i =>
    simp only [Rep] at R
    obtain ⟨a, e1, q, q2⟩ := R
    obtain ⟨g, ys, o, h1, h2, h3⟩ := W.at_ i a q
    rw [q2] at h3
    obtain ⟨vs, rfl, n3, h4⟩ := h3.lst
    have e2 : (match st[i]? with | some xs => D.lst xs | none => D.obj i) = .lst xs := e
    rw [h1] at e2
    cases e2
    exact ⟨a, vs, e1, .of h2, h4, n3⟩
  | _ => cases e
/-- lists that may be put together with others -/
def derefM (st : Sto) : D → Option (List D)
  | .obj i => st[i]?
  | .lst xs => some xs
  | _ => none
theorem rep_lstM {d : D} {v : V} {xs : List D} (W : Wld K w st H) (R : Rep K w d v) (e : derefM st d = some xs) :
    ∃ a vs, v = .ref a ∧ H a = some (.lst vs) ∧ Reps K w xs vs ∧ vs.length ≤ sizeLine := by
  cases d with
  | lst ys =>
    cases e
    simp only [Rep] at R
    obtain ⟨a, vs, e1, q, r⟩ := R
    exact ⟨a, vs, e1, W.same _ _ q, r, W.small _ _ q⟩
  | obj i =>
    simp only [Rep] at R
    obtain ⟨a, e1, q, q2⟩ := R
    obtain ⟨g, ys, o, h1, h2, h3⟩ := W.at_ i a q
    rw [q2] at h3
    obtain ⟨vs, rfl, n3, h4⟩ := h3.lst
    have e2 : st[i]? = some xs := e
    rw [h1] at e2
    cases e2
    exact ⟨a, vs, e1, h2, h4, n3⟩
  | _ => cases e
theorem rep_tup {d : D} {v : V} {xs : List D} (W : Wld K w st H) (R : Rep K w d v) (e : deref st d = .tup xs) :
    ∃ a vs, v = .ref a ∧ SqT K H a vs ∧ Reps K w xs vs ∧ vs.length ≤ sizeLine := by
  cases d with
  | tup ys =>
    cases e
    simp only [Rep] at R
    obtain ⟨a, vs, e1, q, r⟩ := R
    exact ⟨a, vs, e1, .of (W.same _ _ q), r, W.small _ _ q⟩
  | gtup ys =>
    cases e
    simp only [Rep] at R
    obtain ⟨a, vs, e1, q, r⟩ := R
    exact ⟨a, vs, e1, seqT_mono W.same q, r, sqt_small W.small q⟩
  | obj i =>
    have e2 : (match st[i]? with | some xs => D.lst xs | none => D.obj i) = .tup xs := e
    cases h : st[i]? with
    | none => rw [h] at e2; cases e2
    | some _ => rw [h] at e2; cases e2
  | _ => cases e
theorem Wld.free (W : Wld K w st H) {p : Addr} (h : H p = none) : w.G p = none := W.same.free h
theorem Wld.nas (W : Wld K w st H) {p : Addr} (h : H p = none) : p ∉ w.as := fun m => by
  obtain ⟨i, hi⟩ := List.getElem?_of_mem m
  obtain ⟨_, xs, o, _, e, _⟩ := W.at_ i p hi
  rw [h] at e
  cases e
/-- a new frozen object -/
def Wd.put (w : Wd) (p : Addr) (o : HO) : Wd := ⟨upd w.G p o, w.as, w.hid, w.dk, w.lk⟩
theorem Le.put {p : Addr} {o : HO} (h : w.G p = none) : Le w (w.put p o) := ⟨⟨fun b u e => by
  show upd w.G p o b = some u
  rw [upd_ne (ne_of_none e h)]
  exact e, .eq rfl rfl, fun _ _ => rfl⟩, rfl⟩
theorem Wld.put (W : Wld K w st H) {p : Addr} {o : HO} (h : H p = none) (s : SizeOk o) : Wld K (w.put p o) st (upd H p o) := by
  have hg := W.free h
  have l := Le.put (w := w) (o := o) hg
  refine ⟨fun b u e => ?_, W.len, W.nd, fun i a e => ?_, fun a u e => ?_, fun a vs e => ?_, W.hnd⟩
  · by_cases hb : b = p
    · subst hb
      have e' : upd w.G b o b = some u := e
      rw [upd_same] at e' ⊢
      exact e'
    · have e' : upd w.G p o b = some u := e
      rw [upd_ne hb] at e' ⊢
      exact W.same b u e'
  · obtain ⟨g, xs, u, h1, h2, h3⟩ := W.at_ i a e
    have ne : a ≠ p := fun z => by rw [z, h] at h2; cases h2
    refine ⟨?_, xs, u, h1, by rw [upd_ne ne]; exact h2, h3.mono l⟩
    show upd w.G p o a = none
    rw [upd_ne ne]
    exact g
  · have e' : upd w.G p o a = some u := e
    by_cases ha : a = p
    · subst ha
      rw [upd_same] at e'
      cases e'
      exact s
    · rw [upd_ne ha] at e'
      exact W.small a u e'
  · obtain ⟨g, n, h1⟩ := W.hidd a vs e
    have ne : a ≠ p := fun z => by rw [z, h] at h1; cases h1
    refine ⟨?_, n, by rw [upd_ne ne]; exact h1⟩
    show upd w.G p o a = none
    rw [upd_ne ne]
    exact g
/-- a new object of the store -/
def Wd.addK (w : Wd) (p : Addr) (k : Option Kd) : Wd := ⟨w.G, w.as ++ [p], w.hid, fun b => if b = p then k else w.dk b, fun b => if b = p then none else w.lk b⟩
theorem Pre.addK {p : Addr} {k : Option Kd} (h : p ∉ w.as) : Pre w (w.addK p k) := ⟨⟨[p], rfl⟩, fun a ha => if_neg fun (z : a = p) => h (z ▸ ha)⟩
theorem Le.addK {p : Addr} {k : Option Kd} (h : p ∉ w.as) : Le w (w.addK p k) := ⟨⟨Same.refl _, .addK h, fun a ha => if_neg fun (z : a = p) => h (z ▸ ha)⟩, rfl⟩
theorem Wld.addK (W : Wld K w st H) {p : Addr} {k : Option Kd} {xs : List D} {o : HO} (h : H p = none) (r : EntP K w k xs o) : Wld K (w.addK p k) (st ++ [xs]) (upd H p o) := by
  have hg := W.free h
  have hn := W.nas h
  refine ⟨fun b u e => ?_, ?_, ?_, fun i a e => ?_, W.small, fun a vs e => ?_, W.hnd⟩
  · have ne : b ≠ p := fun z => by
      have e' : w.G b = some u := e
      rw [z, hg] at e'
      cases e'
    rw [upd_ne ne]
    exact W.same b u e
  · show (w.as ++ [p]).length = (st ++ [xs]).length
    rw [List.length_append, List.length_append, W.len]
    rfl
  · show (w.as ++ [p]).Nodup
    refine List.nodup_append.mpr ⟨W.nd, by simp, fun a ha b hb z => ?_⟩
    have : b = p := by simpa using hb
    subst this
    rw [z] at ha
    exact hn ha
  · have e' : (w.as ++ [p])[i]? = some a := e
    by_cases hi : i < w.as.length
    · rw [List.getElem?_append_left hi] at e'
      obtain ⟨g, ys, u, h1, h2, h3⟩ := W.at_ i a e'
      have ne : a ≠ p := fun z => by rw [z, h] at h2; cases h2
      have ek : (w.addK p k).dk a = w.dk a := if_neg ne
      have el : (w.addK p k).lk a = w.lk a := if_neg ne
      exact ⟨g, ys, u, by rw [List.getElem?_append_left (by rw [← W.len]; exact hi)]; exact h1, by rw [upd_ne ne]; exact h2, by rw [ek, el]; exact h3.mono (.addK hn)⟩
    · have hi2 : i = w.as.length := by
        have := (List.getElem?_eq_some_iff.mp e').1
        simp at this
        omega
      subst hi2
      rw [List.getElem?_concat_length] at e'
      cases e'
      have ek : (w.addK p k).dk p = k := if_pos rfl
      have el : (w.addK p k).lk p = none := if_pos rfl
      exact ⟨hg, xs, o, by rw [W.len, List.getElem?_concat_length], upd_same, by rw [ek, el]; exact EntR.mono (.addK hn) (.inl ⟨rfl, r⟩)⟩
  · obtain ⟨g, n, h1⟩ := W.hidd a vs e
    have ne : a ≠ p := fun z => by rw [z, h] at h1; cases h1
    refine ⟨g, fun m => ?_, by rw [upd_ne ne]; exact h1⟩
    have m' : a ∈ w.as ++ [p] := m
    rcases List.mem_append.mp m' with z | z
    · exact n z
    · exact ne (by simpa using z)
/-- a new list of the store -/
def Wd.add (w : Wd) (p : Addr) : Wd := w.addK p none
theorem Wld.add (W : Wld K w st H) {p : Addr} {xs : List D} {vs : List V} (h : H p = none) (r : Reps K w xs vs) (s : vs.length ≤ sizeLine) : Wld K (w.add p) (st ++ [xs]) (upd H p (.lst vs)) := W.addK h ⟨vs, rfl, s, r⟩
/-- an object of the store written -/
theorem Wld.wrK (W : Wld K w st H) {i : Nat} {a : Addr} {xs : List D} {o : HO} (ha : w.as[i]? = some a) (r : EntR K w (w.dk a) (w.lk a) xs o) : Wld K w (st.set i xs) (upd H a o) := by
  obtain ⟨g, ys, us, h1, h2, h3⟩ := W.at_ i a ha
  refine ⟨fun b u e => ?_, by rw [List.length_set]; exact W.len, W.nd, fun j b e => ?_, W.small, fun b vs e => ?_, W.hnd⟩
  · have ne : b ≠ a := fun z => by rw [z, g] at e; cases e
    rw [upd_ne ne]
    exact W.same b u e
  · by_cases hj : j = i
    · subst hj
      rw [ha] at e
      cases e
      exact ⟨g, xs, o, List.getElem?_set_self (List.getElem?_eq_some_iff.mp h1).1, upd_same, r⟩
    · obtain ⟨g', zs, ws, k1, k2, k3⟩ := W.at_ j b e
      have ne : b ≠ a := fun z => by
        subst z
        exact hj (nd_ix W.nd e ha)
      exact ⟨g', zs, ws, by rw [List.getElem?_set_ne (Ne.symm hj)]; exact k1, by rw [upd_ne ne]; exact k2, k3⟩
  · obtain ⟨g', n, h'⟩ := W.hidd b vs e
    have ne : b ≠ a := fun z => n (by rw [z]; exact List.mem_of_getElem? ha)
    exact ⟨g', n, by rw [upd_ne ne]; exact h'⟩
/-- a list of the store written -/
theorem Wld.wr (W : Wld K w st H) {i : Nat} {a : Addr} {xs : List D} {vs : List V} (ha : w.as[i]? = some a) (hk : w.dk a = none) (r : Reps K w xs vs) (s : vs.length ≤ sizeLine) : Wld K w (st.set i xs) (upd H a (.lst vs)) :=
  W.wrK ha (by
    obtain ⟨_, ys, o, _, _, h3⟩ := W.at_ i a ha
    have hl := h3.un (.inl (by rw [hk]; exact nofun))
    rw [hk]
    exact .inl ⟨hl, vs, rfl, s, r⟩)
end

/-! ### readings over data -/
abbrev DK := D → Sto → Prop
abbrev DE := Env → Sto → DK → Prop
abbrev DT := Env → Sto → (Bool → Sto → Prop) → Prop
abbrev DA := Env → Sto → (List D → Sto → Prop) → Prop
structure DEnds where
  nx : Env → Sto → Prop
  rt : DK
abbrev DS := DEnds → Env → Sto → Prop

def EnvR (K : PySem.W.Frag) (w : Wd) (env : Env) (σ : L2.St) : Prop :=
  env.length = σ.length ∧ ∀ (i : Nat) (d : D), env[i]? = some (some d) → ∃ v, σ[i]? = some (some v) ∧ Rep K w d v
theorem EnvR.mono {K : PySem.W.Frag} {w w' : Wd} {env : Env} {σ : L2.St} (h : EnvR K w env σ) (l : Le w w') : EnvR K w' env σ :=
  ⟨h.1, fun i d e => let ⟨v, e1, r⟩ := h.2 i d e; ⟨v, e1, Rep.mono l _ _ r⟩⟩
theorem EnvR.mono0 {K : PySem.W.Frag} {w w' : Wd} {env : Env} {σ : L2.St} (h : EnvR K w env σ) (l : Le0 w w') : EnvR K w' env σ :=
  ⟨h.1, fun i d e => let ⟨v, e1, r⟩ := h.2 i d e; ⟨v, e1, Rep.mono' l.same l.pre _ _ r⟩⟩
theorem EnvR.set {K : PySem.W.Frag} {w : Wd} {env : Env} {σ : L2.St} (h : EnvR K w env σ) {d : D} {v : V} (i : Nat) (r : Rep K w d v) : EnvR K w (env.set i (some d)) (σ.set i (some v)) := by
  refine ⟨by simp [h.1], fun j x e => ?_⟩
  by_cases hj : j = i
  · subst hj
    have hlt : j < env.length := by
      have := (List.getElem?_eq_some_iff.mp e).1
      simpa using this
    rw [List.getElem?_set_self hlt] at e
    cases e
    exact ⟨v, List.getElem?_set_self (by rw [← h.1]; exact hlt), r⟩
  · rw [List.getElem?_set_ne (Ne.symm hj)] at e
    obtain ⟨u, e1, r1⟩ := h.2 j x e
    exact ⟨u, by rw [List.getElem?_set_ne (Ne.symm hj)]; exact e1, r1⟩
theorem EnvR.unset {K : PySem.W.Frag} {w : Wd} {env : Env} {σ : L2.St} (h : EnvR K w env σ) (i : Nat) : EnvR K w (env.set i none) (σ.set i none) := by
  refine ⟨by simp [h.1], fun j x e => ?_⟩
  by_cases hj : j = i
  · subst hj
    have hlt : j < env.length := by
      have := (List.getElem?_eq_some_iff.mp e).1
      simpa using this
    rw [List.getElem?_set_self hlt] at e
    cases e
  · rw [List.getElem?_set_ne (Ne.symm hj)] at e
    obtain ⟨u, e1, r1⟩ := h.2 j x e
    exact ⟨u, by rw [List.getElem?_set_ne (Ne.symm hj)]; exact e1, r1⟩

/-- what must follow a value that comes -/
def Fol (K : PySem.W.Frag) (w : Wd) (kk : DK) (Q : VK) : Prop := ∀ d st' v w' H', kk d st' → Le w w' → Wld K w' st' H' → Rep K w' d v → Q v H'
def tD (K : PySem.W.Frag) (t : DE) : TE := fun σ H Q => ∃ w env st kk, Wld K w st H ∧ EnvR K w env σ ∧ t env st kk ∧ Fol K w kk Q
def FolT (K : PySem.W.Frag) (w : Wd) (kk : Bool → Sto → Prop) (Q : Bool → Hp → Prop) : Prop := ∀ b st' w' H', kk b st' → Le w w' → Wld K w' st' H' → Q b H'
def tDT (K : PySem.W.Frag) (t : DT) : TT := fun σ H Q => ∃ w env st kk, Wld K w st H ∧ EnvR K w env σ ∧ t env st kk ∧ FolT K w kk Q
def FolA (K : PySem.W.Frag) (w : Wd) (kk : List D → Sto → Prop) (Q : List V → Hp → Prop) : Prop := ∀ ds st' vs w' H', kk ds st' → Le w w' → Wld K w' st' H' → Reps K w' ds vs → Q vs H'
def tDA (K : PySem.W.Frag) (t : DA) : TA := fun σ H Q => ∃ w env st kk, Wld K w st H ∧ EnvR K w env σ ∧ t env st kk ∧ FolA K w kk Q
def FolN (K : PySem.W.Frag) (w : Wd) (nx : Env → Sto → Prop) (Q : L2.St → Hp → Prop) : Prop := ∀ env' st' σ' w' H', nx env' st' → Le w w' → Wld K w' st' H' → EnvR K w' env' σ' → Q σ' H'
def tDS (K : PySem.W.Frag) (t : DS) : TS := fun E σ H => ∃ w env st, ∃ (D : DEnds), Wld K w st H ∧ EnvR K w env σ ∧ t D env st ∧ FolN K w D.nx E.nx ∧ Fol K w D.rt E.rt
abbrev PD (X : Cx) (e : Expr) (t : DE) : Prop := PE X e (tD X.K t)
abbrev PDT (X : Cx) (e : Expr) (t : DT) : Prop := PT X e (tDT X.K t)
abbrev PDA (X : Cx) (es : List Expr) (t : DA) : Prop := PA X es (tDA X.K t)
abbrev PDS (X : Cx) (st : Stmt) (t : DS) : Prop := PS X st (tDS X.K t)
abbrev PDSs (X : Cx) (st : List Stmt) (t : DS) : Prop := PSs X st (tDS X.K t)

section
variable {K : PySem.W.Frag} {w w' : Wd} {kk : DK} {Q : VK}
theorem Fol.le (h : Fol K w kk Q) (l : Le w w') : Fol K w' kk Q := fun d st' v w2 H' k l2 => h d st' v w2 H' k (l.trans l2)
theorem FolT.le {kk : Bool → Sto → Prop} {Q : Bool → Hp → Prop} (h : FolT K w kk Q) (l : Le w w') : FolT K w' kk Q := fun d st' w2 H' k l2 => h d st' w2 H' k (l.trans l2)
theorem FolA.le {kk : List D → Sto → Prop} {Q : List V → Hp → Prop} (h : FolA K w kk Q) (l : Le w w') : FolA K w' kk Q := fun d st' v w2 H' k l2 => h d st' v w2 H' k (l.trans l2)
theorem FolN.le {nx : Env → Sto → Prop} {Q : L2.St → Hp → Prop} (h : FolN K w nx Q) (l : Le w w') : FolN K w' nx Q := fun d st' v w2 H' k l2 => h d st' v w2 H' k (l.trans l2)
theorem Fol.id {st : Sto} {H : Hp} {d : D} {v : V} (h : Fol K w kk Q) (k : kk d st) (W : Wld K w st H) (R : Rep K w d v) : Q v H := h d st v w H k (.refl w) W R
end
theorem _root_.L2.PE.wk {X : Cx} {e : Expr} {t t' : TE} (h : PE X e t) (i : ∀ σ H Q, t' σ H Q → t σ H Q) : PE X e t' := ⟨fun pins s σ H Q I q => h.run pins s σ H Q I (i σ H Q q)⟩
theorem _root_.L2.PT.wk {X : Cx} {e : Expr} {t t' : TT} (h : PT X e t) (i : ∀ σ H Q, t' σ H Q → t σ H Q) : PT X e t' := ⟨fun pins s σ H Q I q => h.run pins s σ H Q I (i σ H Q q)⟩
theorem _root_.L2.PA.wk {X : Cx} {e : List Expr} {t t' : TA} (h : PA X e t) (i : ∀ σ H Q, t' σ H Q → t σ H Q) : PA X e t' := ⟨fun ps pins s σ H Q I q => h.run ps pins s σ H Q I (i σ H Q q)⟩
theorem _root_.L2.PS.wk {X : Cx} {e : Stmt} {t t' : TS} (h : PS X e t) (i : ∀ D σ H, t' D σ H → t D σ H) : PS X e t' := ⟨fun pins s σ H D I q => h.run pins s σ H D I (i D σ H q)⟩
theorem _root_.L2.PSs.wk {X : Cx} {e : List Stmt} {t t' : TS} (h : PSs X e t) (i : ∀ D σ H, t' D σ H → t D σ H) : PSs X e t' := ⟨fun pins s σ H D I q => h.run pins s σ H D I (i D σ H q)⟩

/-! ### names, constants -/
section
variable {X : Cx} {e a b : Expr} {es : List Expr} {pos : Pos} {ta tb : DE}
def dVar (i : Nat) : DE := fun env st k => match env[i]? with
  | some (some d) => k d st
  | _ => False
theorem pd_var (i : Nat) {x : Str} (hN : X.N[i]? = some x := by rfl) (hv : Vis X.env.scope x := by first | exact Or.inl rfl | exact Or.inr (Or.inl rfl) | exact Or.inr (Or.inr rfl)) (hd : (x == ("__debug__" : Str)) = false := by decide)
    (hcd : (x == ("__classdict__" : Str)) = false := by decide) : PD X (.Name x pos) (dVar i) := by
  refine (pe_var hN hv hd hcd).wk fun σ H Q ⟨w, env, st, kk, W, E, h, f⟩ => ?_
  unfold dVar at h
  split at h
  · rename_i d e
    obtain ⟨v, e1, r⟩ := E.2 i d e
    exact ⟨v, e1, f.id h W r⟩
  · exact h.elim
def dC (d : D) : DE := fun _ st k => k d st
theorem pd_of {v : V} {d : D} (h : PE X e (tC v)) (r : ∀ w, Rep X.K w d v) : PD X e (dC d) :=
  h.wk fun σ H Q ⟨w, env, st, kk, W, E, h, f⟩ => f.id h W (r w)
theorem pd_int {i j} : PD X (.Constant (.int i) j pos) (dC (.int i)) := pd_of pe_int fun w => by simp only [Rep]
theorem pd_bl {i j} : PD X (.Constant (.bool i) j pos) (dC (.bl i)) := pd_of pe_bl fun w => by simp only [Rep]
theorem pd_non {j} : PD X (.Constant .none j pos) (dC .non) := pd_of pe_non fun w => by simp only [Rep]
theorem pd_str {i j} : PD X (.Constant (.str i) j pos) (dC (.str i)) := pd_of pe_str fun w => by simp only [Rep]
theorem pd_gstr {x z : Str} (hm : ∃ t, X.mg x = some (.str z t)) (hg : Gl X x := by rfl) (hd : (x == ("__debug__" : Str)) = false := by decide) : PD X (.Name x pos) (dC (.str z)) := by
  obtain ⟨t, hm⟩ := hm
  exact pd_of (pe_glob (v := .str z) hg hm ⟨t, rfl⟩ hd) fun w => by simp only [Rep]
theorem pd_gint {x : Str} {i : Int} (hm : ∃ t, X.mg x = some (.int i t)) (hg : Gl X x := by rfl) (hd : (x == ("__debug__" : Str)) = false := by decide) : PD X (.Name x pos) (dC (.int i)) := by
  obtain ⟨t, hm⟩ := hm
  exact pd_of (pe_glob (v := .int i) hg hm ⟨t, rfl⟩ hd) fun w => by simp only [Rep]

/-! ### two values, an operator -/
abbrev F2 := D → D → Sto → DK → Prop
def dOp (f : F2) (ta tb : DE) : DE := fun env st k => ta env st fun x s1 => tb env s1 fun y s2 => f x y s2 k
def rD (K : PySem.W.Frag) (f : F2) : R2 := fun x y H Q => ∃ w st d e kk, Wld K w st H ∧ Rep K w d x ∧ Rep K w e y ∧ f d e st kk ∧ Fol K w kk Q
theorem d2_in {K : PySem.W.Frag} {f : F2} {σ : L2.St} {H : Hp} {Q : VK} (h : tD K (dOp f ta tb) σ H Q) : tOp (rD K f) (tD K ta) (tD K tb) σ H Q := by
  obtain ⟨w, env, st, kk, W, E, h, fo⟩ := h
  exact ⟨w, env, st, _, W, E, h, fun d st1 v w1 H1 h1 l1 W1 R1 => ⟨w1, env, st1, _, W1, E.mono l1, h1, fun e st2 u w2 H2 h2 l2 W2 R2 =>
    ⟨w2, st2, d, e, kk, W2, Rep.mono l2 _ _ R1, R2, h2, fo.le (l1.trans l2)⟩⟩⟩
theorem pd_op {op : Operator} {f : F2} (ho : OpR X (binaryOp op) (rD X.K f)) (ha : PD X a ta) (hb : PD X b tb) : PD X (.BinOp a op b pos) (dOp f ta tb) :=
  (pe_op ho ha hb).wk fun _ _ _ h => d2_in h
theorem pd_cmp {op : CmpOp} {f : F2} (ho : OpR X (compareOp op) (rD X.K f)) (ha : PD X a ta) (hb : PD X b tb) (hm : behindInMarks op b = false) : PD X (.Compare a [op] [b] pos) (dOp f ta tb) :=
  (pe_cmpR ho ha hb hm).wk fun _ _ _ h => d2_in h
/-- a value that is True or False, as a test -/
def dTest (t : DE) : DT := fun env st k => t env st fun d s1 => match d with
  | .bl b => k b s1
  | _ => False
theorem pd_tcmp {op : CmpOp} {f : F2} (ho : OpR X (compareOp op) (rD X.K f)) (ha : PD X a ta) (hb : PD X b tb) (hm : behindInMarks op b = false) : PDT X (.Compare a [op] [b] pos) (dTest (dOp f ta tb)) := by
  refine (pt_cmpR ho ha hb hm).wk fun σ H Q ⟨w, env, st, kk, W, E, h, fo⟩ => ?_
  refine d2_in (Q := fun x H' => ∃ k, x = .bl k ∧ Q k H') ⟨w, env, st, _, W, E, h, fun d st1 v w1 H1 h1 l1 W1 R1 => ?_⟩
  cases d with
  | bl b =>
    simp only [Rep] at R1
    exact ⟨b, R1, fo b st1 w1 H1 h1 l1 W1⟩
  | _ => exact h1.elim
/-- a one-place operation -/
abbrev F1 := D → Sto → DK → Prop
def dUn (f : F1) (ta : DE) : DE := fun env st k => ta env st fun x s1 => f x s1 k
def rD1 (K : PySem.W.Frag) (f : F1) : V → Hp → VK → Prop := fun x H Q => ∃ w st d kk, Wld K w st H ∧ Rep K w d x ∧ f d st kk ∧ Fol K w kk Q
theorem d1_in {K : PySem.W.Frag} {f : F1} {σ : L2.St} {H : Hp} {Q : VK} (h : tD K (dUn f ta) σ H Q) : tUn (rD1 K f) (tD K ta) σ H Q := by
  obtain ⟨w, env, st, kk, W, E, h, fo⟩ := h
  exact ⟨w, env, st, _, W, E, h, fun d st1 v w1 H1 h1 l1 W1 R1 => ⟨w1, st1, d, kk, W1, R1, h1, fo.le l1⟩⟩
theorem pd_un {op : UnaryOp} {f : F1} (ho : UnR X (unaryOp op) (rD1 X.K f)) (ha : PD X a ta) : PD X (.UnaryOp op a pos) (dUn f ta) :=
  (pe_un ho ha).wk fun _ _ _ h => d1_in h

/-! ### tests -/
def truD (st : Sto) (d : D) : Bool := match deref st d with
  | .non => false
  | .bl b => b
  | .int i => i != 0
  | .str x => (x.length : Int) != 0
  | .lst xs => !xs.isEmpty
  | .tup xs => !xs.isEmpty
  | .klst _ => false
  | .obj _ => false
  | .dic _ _ => false
  | .fdic _ _ => false
  | .gtup _ => false
def OkTru (st : Sto) (d : D) : Prop := match deref st d with
  | .str x => x.length ≤ sizeLine
  | .klst _ => False
  | .obj _ => False
  | .dic _ _ => False
  | .fdic _ _ => False
  | .gtup _ => False
  | _ => True
def dTru (t : DE) : DT := fun env st k => t env st fun d s1 => OkTru s1 d ∧ k (truD s1 d) s1
theorem tru_rep {K : PySem.W.Frag} {w : Wd} {st : Sto} {H : Hp} {d : D} {v : V} (W : Wld K w st H) (R : Rep K w d v) (ok : OkTru st d) : TruV K v H (truD st d) := by
  unfold OkTru at ok
  unfold truD
  have nl : ∀ {xs : List D} {vs : List V}, Reps K w xs vs → (!xs.isEmpty) = !vs.isEmpty := fun {xs vs} r => by
    cases xs with
    | nil => rw [r.inv0]; rfl
    | cons d ds => obtain ⟨v, r', rfl, _, _⟩ := r.inv; rfl
  cases e : deref st d with
  | obj i => rw [e] at ok; exact ok.elim
  | klst i => rw [e] at ok; exact ok.elim
  | dic _ _ => rw [e] at ok; exact ok.elim
  | fdic _ _ => rw [e] at ok; exact ok.elim
  | gtup _ => rw [e] at ok; exact ok.elim
  | lst xs =>
    obtain ⟨a, vs, rfl, q, r, _⟩ := rep_lst W R e
    exact .inl ⟨vs, q, nl r⟩
  | tup xs =>
    obtain ⟨a, vs, rfl, q, r, _⟩ := rep_tup W R e
    exact .inr (.inl ⟨vs, q, nl r⟩)
  | non =>
    have : d = .non := deref_self e (fun _ z => by cases z) (fun _ z => by cases z)
    subst this
    simp only [Rep] at R
    subst R
    rfl
  | bl b =>
    have : d = .bl b := deref_self e (fun _ z => by cases z) (fun _ z => by cases z)
    subst this
    simp only [Rep] at R
    subst R
    rfl
  | int b =>
    have : d = .int b := deref_self e (fun _ z => by cases z) (fun _ z => by cases z)
    subst this
    simp only [Rep] at R
    subst R
    rfl
  | str b =>
    have : d = .str b := deref_self e (fun _ z => by cases z) (fun _ z => by cases z)
    subst this
    simp only [Rep] at R
    subst R
    rw [e] at ok
    exact ⟨ok, rfl⟩
theorem pd_tru (ha : PD X a ta) (he : ∀ whole, isTrue a X.env whole = (do let v ← whole; standAt a.pos; holding [v] (truthy v)) := by intro _; rfl) : PDT X a (dTru ta) := by
  refine (pt_truth ha he).wk fun σ H Q ⟨w, env, st, kk, W, E, h, fo⟩ => ?_
  exact ⟨w, env, st, _, W, E, h, fun d st1 v w1 H1 h1 l1 W1 R1 => ⟨_, tru_rep W1 R1 h1.1, fo _ st1 w1 H1 h1.2 l1 W1⟩⟩
def dNot (t : DT) : DT := fun env st k => t env st fun b s1 => k (!b) s1
theorem pd_tnot {t : DT} (ha : PDT X a t) : PDT X (.UnaryOp .Not a pos) (dNot t) := by
  refine (pt_not ha).wk fun σ H Q ⟨w, env, st, kk, W, E, h, fo⟩ => ?_
  exact ⟨w, env, st, _, W, E, h, fun b st1 w1 H1 h1 l1 W1 => fo _ st1 w1 H1 h1 l1 W1⟩
def dAnd (t u : DT) : DT := fun env st k => t env st fun b s1 => if b = true then u env s1 k else k false s1
def dOr (t u : DT) : DT := fun env st k => t env st fun b s1 => if b = true then k true s1 else u env s1 k
abbrev PDW (X : Cx) (e : Expr) (t : DT) : Prop := PW X e (tDT X.K t)
theorem _root_.L2.PW.wk {X : Cx} {e : Expr} {t t' : TT} (h : PW X e t) (i : ∀ σ H Q, t' σ H Q → t σ H Q) : PW X e t' := ⟨fun wh pins s σ H Q I q => h.run wh pins s σ H Q I (i σ H Q q)⟩
theorem pw_dand {rest : List Expr} {t u : DT} (ha : PDT X a t) (hb : PDW X (.BoolOp .And (b :: rest) pos) u) : PDW X (.BoolOp .And (a :: b :: rest) pos) (dAnd t u) := by
  refine L2.PW.wk (pw_and ha hb) fun σ H Q ⟨w, env, st, kk, W, E, h, fo⟩ => ?_
  refine ⟨w, env, st, _, W, E, h, fun c st1 w1 H1 h1 l1 W1 => ?_⟩
  cases c with
  | true =>
    rw [if_pos rfl] at h1 ⊢
    exact ⟨w1, env, st1, _, W1, E.mono l1, h1, fo.le l1⟩
  | false =>
    rw [if_neg Bool.false_ne_true] at h1 ⊢
    exact fo _ _ _ _ h1 l1 W1
theorem pw_dor {rest : List Expr} {t u : DT} (ha : PDT X a t) (hb : PDW X (.BoolOp .Or (b :: rest) pos) u) : PDW X (.BoolOp .Or (a :: b :: rest) pos) (dOr t u) := by
  refine L2.PW.wk (pw_or ha hb) fun σ H Q ⟨w, env, st, kk, W, E, h, fo⟩ => ?_
  refine ⟨w, env, st, _, W, E, h, fun c st1 w1 H1 h1 l1 W1 => ?_⟩
  cases c with
  | false =>
    rw [if_neg Bool.false_ne_true] at h1 ⊢
    exact ⟨w1, env, st1, _, W1, E.mono l1, h1, fo.le l1⟩
  | true =>
    rw [if_pos rfl] at h1 ⊢
    exact fo _ _ _ _ h1 l1 W1
/-- as values: all but the last True or False -/
def dAndV (t u : DE) : DE := fun env st k => t env st fun d s1 => match d with
  | .bl b => if b = true then u env s1 k else k (.bl false) s1
  | _ => False
def dNotV (t : DE) : DE := fun env st k => t env st fun d s1 => match d with
  | .bl b => k (.bl (!b)) s1
  | _ => False
theorem pd_andv {rest : List Expr} {t u : DE} (ha : PD X a t) (hb : PD X (.BoolOp .And (b :: rest) pos) u) : PD X (.BoolOp .And (a :: b :: rest) pos) (dAndV t u) := by
  refine (pe_and ha hb).wk fun σ H Q ⟨w, env, st, kk, W, E, h, fo⟩ => ?_
  refine ⟨w, env, st, _, W, E, h, fun d st1 v w1 H1 h1 l1 W1 R1 => ?_⟩
  cases d with
  | bl c =>
    simp only [Rep] at R1
    refine ⟨c, R1, ?_⟩
    cases c with
    | true =>
      simp only [↓reduceIte] at h1 ⊢
      exact ⟨w1, env, st1, _, W1, E.mono l1, h1, fo.le l1⟩
    | false =>
      simp only [Bool.false_eq_true, ↓reduceIte] at h1 ⊢
      exact fo _ _ _ _ _ h1 l1 W1 (by simp only [Rep])
  | _ => exact h1.elim
theorem pd_notv {t : DE} (ha : PD X a t) : PD X (.UnaryOp .Not a pos) (dNotV t) := by
  refine (pe_not ha).wk fun σ H Q ⟨w, env, st, kk, W, E, h, fo⟩ => ?_
  refine ⟨w, env, st, _, W, E, h, fun d st1 v w1 H1 h1 l1 W1 R1 => ?_⟩
  cases d with
  | bl c =>
    simp only [Rep] at R1
    exact ⟨c, R1, fo _ _ _ _ _ h1 l1 W1 (by simp only [Rep])⟩
  | _ => exact h1.elim
def dIf (c : DT) (t u : DE) : DE := fun env st k => c env st fun b s1 => if b = true then t env s1 k else u env s1 k
theorem pd_ife {c : Expr} {tc : DT} {t u : DE} (hc : PDT X c tc) (ha : PD X a t) (hb : PD X b u) : PD X (.IfExp c a b pos) (dIf tc t u) := by
  refine (pe_ifExp hc ha hb).wk fun σ H Q ⟨w, env, st, kk, W, E, h, fo⟩ => ?_
  refine ⟨w, env, st, _, W, E, h, fun c st1 w1 H1 h1 l1 W1 => ?_⟩
  cases c with
  | true =>
    rw [if_pos rfl] at h1 ⊢
    exact ⟨w1, env, st1, _, W1, E.mono l1, h1, fo.le l1⟩
  | false =>
    rw [if_neg Bool.false_ne_true] at h1 ⊢
    exact ⟨w1, env, st1, _, W1, E.mono l1, h1, fo.le l1⟩

/-! ### argument lists, displays -/
def dNil : DA := fun _ st k => k [] st
def dCons (t : DE) (u : DA) : DA := fun env st k => t env st fun d s1 => u env s1 fun ds s2 => k (d :: ds) s2
theorem pda_nil : PDA X [] dNil := pa_nil.wk fun σ H Q ⟨w, env, st, kk, W, E, h, fo⟩ => fo _ _ _ _ _ h (.refl _) W .nil
theorem pda_cons {t : DE} {u : DA} (ha : PD X e t) (hr : PDA X es u) (hs : starEach (e :: es) X.env = (false, eval e X.env) :: starEach es X.env := by rfl) : PDA X (e :: es) (dCons t u) := by
  refine (pa_cons ha hr hs).wk fun σ H Q ⟨w, env, st, kk, W, E, h, fo⟩ => ?_
  exact ⟨w, env, st, _, W, E, h, fun d st1 v w1 H1 h1 l1 W1 R1 => ⟨w1, env, st1, _, W1, E.mono l1, h1, fun ds st2 vs w2 H2 h2 l2 W2 R2 =>
    fo _ _ _ _ _ h2 (l1.trans l2) W2 (.cons (Rep.mono l2 _ _ R1) R2)⟩⟩
def dTup (t : DA) : DE := fun env st k => t env st fun ds s1 => ds.length ≤ 16777216 ∧ k (.tup ds) s1
/-- a list display that nobody changes -/
def dLst (t : DA) : DE := fun env st k => t env st fun ds s1 => ds.length ≤ 16777216 ∧ k (.lst ds) s1
/-- a list display of the store -/
def dNew (t : DA) : DE := fun env st k => t env st fun ds s1 => ds.length ≤ 16777216 ∧ k (.obj s1.length) (s1 ++ [ds])
theorem line16 {n : Nat} (h : n ≤ 16777216) : n ≤ sizeLine := by rw [sizeLine_eq]; exact h
theorem fol_tup {K : PySem.W.Frag} {w : Wd} {st : Sto} {H : Hp} {kk : DK} {Q : VK} {ds : List D} {vs : List V} (W : Wld K w st H) (R : Reps K w ds vs) (n : vs.length ≤ sizeLine) (k : kk (.tup ds) st) (fo : Fol K w kk Q) :
    ∀ p, H p = none → Q (.ref p) (upd H p (.tup vs)) := fun p hp => by
  have l := Le.put (w := w) (o := .tup vs) (W.free hp)
  refine fo _ _ _ _ _ k l (W.put hp n) ?_
  simp only [Rep]
  exact ⟨p, vs, rfl, upd_same, Reps.mono l _ _ R⟩
theorem fol_lst {K : PySem.W.Frag} {w : Wd} {st : Sto} {H : Hp} {kk : DK} {Q : VK} {ds : List D} {vs : List V} (W : Wld K w st H) (R : Reps K w ds vs) (n : vs.length ≤ sizeLine) (k : kk (.lst ds) st) (fo : Fol K w kk Q) :
    ∀ p, H p = none → Q (.ref p) (upd H p (.lst vs)) := fun p hp => by
  have l := Le.put (w := w) (o := .lst vs) (W.free hp)
  refine fo _ _ _ _ _ k l (W.put hp n) ?_
  simp only [Rep]
  exact ⟨p, vs, rfl, upd_same, Reps.mono l _ _ R⟩
theorem fol_new {K : PySem.W.Frag} {w : Wd} {st : Sto} {H : Hp} {kk : DK} {Q : VK} {ds : List D} {vs : List V} (W : Wld K w st H) (R : Reps K w ds vs) (n : vs.length ≤ sizeLine) (k : kk (.obj st.length) (st ++ [ds])) (fo : Fol K w kk Q) :
    ∀ p, H p = none → Q (.ref p) (upd H p (.lst vs)) := fun p hp => by
  refine fo _ _ _ _ _ k (Le.addK (W.nas hp)) (W.add hp R n) ?_
  simp only [Rep]
  refine ⟨p, rfl, ?_, if_pos rfl⟩
  show (w.as ++ [p])[st.length]? = some p
  rw [← W.len, List.getElem?_concat_length]
theorem pd_tup {x1} {t : DA} (h : PDA X es t) : PD X (.Tuple es x1 pos) (dTup t) := by
  refine (pe_tup h).wk fun σ H Q ⟨w, env, st, kk, W, E, h, fo⟩ => ?_
  refine ⟨w, env, st, _, W, E, h, fun ds st1 vs w1 H1 h1 l1 W1 R1 => ?_⟩
  have n : vs.length ≤ sizeLine := by rw [R1.length]; exact line16 h1.1
  exact ⟨n, fol_tup W1 R1 n h1.2 (fo.le l1)⟩
theorem pd_lst {t : DA} (h : PDA X es t) : PD X (.List es pos) (dLst t) := by
  refine (pe_lst h).wk fun σ H Q ⟨w, env, st, kk, W, E, h, fo⟩ => ?_
  refine ⟨w, env, st, _, W, E, h, fun ds st1 vs w1 H1 h1 l1 W1 R1 => ?_⟩
  have n : vs.length ≤ sizeLine := by rw [R1.length]; exact line16 h1.1
  exact ⟨n, fol_lst W1 R1 n h1.2 (fo.le l1)⟩
theorem pd_new {t : DA} (h : PDA X es t) : PD X (.List es pos) (dNew t) := by
  refine (pe_lst h).wk fun σ H Q ⟨w, env, st, kk, W, E, h, fo⟩ => ?_
  refine ⟨w, env, st, _, W, E, h, fun ds st1 vs w1 H1 h1 l1 W1 R1 => ?_⟩
  have n : vs.length ≤ sizeLine := by rw [R1.length]; exact line16 h1.1
  exact ⟨n, fol_new W1 R1 n h1.2 (fo.le l1)⟩

/-! ### calls of defs -/
abbrev SpD := List D → Sto → DK → Prop
/-- a def's promise over data -/
def spD (K : PySem.W.Frag) (sp : SpD) : Sp := fun vs H Q _ => ∃ w st ds kk, Wld K w st H ∧ Reps K w ds vs ∧ sp ds st kk ∧ Fol K w kk Q
def dCall (sp : SpD) (t : DA) : DE := fun env st k => t env st fun ds s1 => sp ds s1 k
variable {k : Nat} {f : Addr} {fd : FuncData} {ps : List Str} {sp : SpD} {x : Str} {p : Pos}
theorem pd_call {t : DA} (F : FnG X.prog X.w X.K X.mg X.base CX0 k f fd ps (spD X.K sp)) (hr : RoomG k X.A) (hm : X.mg x = some (.ref f)) (hk : PySem.W.keepIn X.K (.ref f) = true) (hb : Binds X.K fd ps [])
    (ha : PDA X (e :: es) t) (hg : Gl X x := by rfl) (hdb : (x == ("__debug__" : Str)) = false := by decide) (he : starEach (e :: es) X.env = (false, eval e X.env) :: starEach es X.env := by rfl) (hpl : (backTo pos (starEach es X.env)).any (·.1) = false := by rfl) :
    PD X (.Call (.Name x p) (e :: es) [] pos) (dCall sp t) := by
  refine ⟨fun pins s σ H Q I ⟨w, env, st, kk, W, E, h, fo⟩ => ?_⟩
  refine wpAny_Call_Name_kw (ld_glob I hg hm ?_ hdb)
  refine PySem.W.callWith_K (h₀ := X.base) I.ok.mod.kin hk (thn (ha.run pos pins s σ H (fun vs H1 => spD X.K sp vs H1 Q E0) I ⟨w, env, st, _, W, E, h, fun ds st1 vs w1 H1 h1 l1 W1 R1 => ⟨w1, st1, ds, kk, W1, R1, h1, fo.le l1⟩⟩) fun us s1 ⟨vs, H1, I1, r, q⟩ => ⟨I1.kIn, ?_⟩) he hpl
  have hl : us.length = ps.length := r.length.symm.trans (F.len _ _ _ _ q)
  have z := hb s1 us I1.kIn (by rw [List.append_nil]; exact hl)
  rw [List.append_nil] at z
  exact run_fnG F hr pass0 I1 z r q
/-! ### statements -/
def dDrop (t : DE) : DS := fun D env st => t env st fun _ s1 => D.nx env s1
def dRet (t : DE) : DS := fun D env st => t env st D.rt
def dSeq (t u : DS) : DS := fun D env st => t { D with nx := u D } env st
def dPass : DS := fun D env st => D.nx env st
def dIfS (c : DT) (t u : DS) : DS := fun D env st => c env st fun b s1 => if b = true then t D env s1 else u D env s1
theorem pds_expr {t : DE} (he : PD X e t) (hs : swapsWith e none pos.line X.env = pure false := by rfl) : PDS X (.Expr e pos) (dDrop t) := by
  refine (ps_expr he hs).wk fun Ed σ H ⟨w, env, st, D, W, E, h, fn, fr⟩ => ?_
  exact ⟨w, env, st, _, W, E, h, fun d st1 v w1 H1 h1 l1 W1 R1 => fn _ _ _ _ _ h1 l1 W1 (E.mono l1)⟩
theorem pds_ret {t : DE} (he : PD X e t) : PDS X (.Return (some e) pos) (dRet t) := by
  refine (ps_ret he).wk fun Ed σ H ⟨w, env, st, D, W, E, h, fn, fr⟩ => ?_
  exact ⟨w, env, st, _, W, E, h, fr⟩
theorem pdss_nil : PDSs X [] dPass := by
  refine pss_nil.wk fun Ed σ H ⟨w, env, st, D, W, E, h, fn, fr⟩ => ?_
  exact fn _ _ _ _ _ h (.refl _) W E
theorem pdss_one {s : Stmt} {t : DS} (h : PDS X s t) : PDSs X [s] t := pss_one h
theorem pdss_cons {s : Stmt} {rest : List Stmt} {t u : DS} (h1 : PDS X s t) (h2 : PDSs X rest u) : PDSs X (s :: rest) (dSeq t u) := by
  refine (pss_cons h1 h2).wk fun Ed σ H ⟨w, env, st, D, W, E, h, fn, fr⟩ => ?_
  exact ⟨w, env, st, _, W, E, h, fun env1 st1 σ1 w1 H1 h1 l1 W1 E1 => ⟨w1, env1, st1, D, W1, E1, h1, fn.le l1, fr.le l1⟩, fr⟩
theorem pds_if {c : Expr} {xs ys : List Stmt} {tc : DT} {t u : DS} (hc : PDT X c tc) (ha : PDSs X xs t) (hb : PDSs X ys u) : PDS X (.If c xs ys pos) (dIfS tc t u) := by
  refine (ps_if hc ha hb).wk fun Ed σ H ⟨w, env, st, D, W, E, h, fn, fr⟩ => ?_
  refine ⟨w, env, st, _, W, E, h, fun c st1 w1 H1 h1 l1 W1 => ?_⟩
  cases c with
  | true =>
    rw [if_pos rfl] at h1 ⊢
    exact ⟨w1, env, st1, D, W1, E.mono l1, h1, fn.le l1, fr.le l1⟩
  | false =>
    rw [if_neg Bool.false_ne_true] at h1 ⊢
    exact ⟨w1, env, st1, D, W1, E.mono l1, h1, fn.le l1, fr.le l1⟩

/-! ### targets -/
abbrev DG := D → Env → Sto → (Env → Sto → Prop) → Prop
abbrev DGs := List D → Env → Sto → (Env → Sto → Prop) → Prop
def tDG (K : PySem.W.Frag) (g : DG) : TG := fun v σ H Q => ∃ w env st d nx, Wld K w st H ∧ EnvR K w env σ ∧ Rep K w d v ∧ g d env st nx ∧ FolN K w nx Q
def tDGs (K : PySem.W.Frag) (g : DGs) : TGs := fun vs σ H Q => ∃ w env st ds nx, Wld K w st H ∧ EnvR K w env σ ∧ Reps K w ds vs ∧ g ds env st nx ∧ FolN K w nx Q
abbrev PDG (X : Cx) (e : Expr) (g : DG) : Prop := PG X e (tDG X.K g)
abbrev PDGs (X : Cx) (e : List Expr) (g : DGs) : Prop := PGs X e (tDGs X.K g)
theorem _root_.L2.PG.wk {X : Cx} {e : Expr} {t t' : TG} (h : PG X e t) (i : ∀ v σ H Q, t' v σ H Q → t v σ H Q) : PG X e t' := ⟨fun pins s σ H v u Q I r q => h.run pins s σ H v u Q I r (i v σ H Q q)⟩
theorem _root_.L2.PGs.wk {X : Cx} {e : List Expr} {t t' : TGs} (h : PGs X e t) (i : ∀ v σ H Q, t' v σ H Q → t v σ H Q) : PGs X e t' := ⟨fun pins s σ H v u Q I r q => h.run pins s σ H v u Q I r (i v σ H Q q)⟩
def dgName (i : Nat) : DG := fun d env st k => k (env.set i (some d)) st
theorem pdg_name (i : Nat) {x : Str} (hN : X.N.Nodup) (hi : X.N[i]? = some x := by rfl) (hx : Loc X.env.scope x := by first | exact Or.inl rfl | exact Or.inr rfl) (hf : X.fn x = true ∨ X.env.scope.names.lookup x = some .local := by first | exact .inl rfl | exact .inr rfl | assumption) : PDG X (.Name x pos) (dgName i) := by
  refine L2.PG.wk (pg_name hN hi hx hf) fun v σ H Q ⟨w, env, st, d, nx, W, E, R, h, fn⟩ => ?_
  exact fn _ _ _ _ _ h (.refl _) W (E.set i R)
def dgNil : DGs := fun ds env st k => match ds with
  | [] => k env st
  | _ => False
def dgCons (g : DG) (h : DGs) : DGs := fun ds env st k => match ds with
  | d :: r => g d env st fun env' st' => h r env' st' k
  | [] => False
theorem pdgs_nil : PDGs X [] dgNil := by
  refine L2.PGs.wk pgs_nil fun v σ H Q ⟨w, env, st, ds, nx, W, E, R, h, fn⟩ => ?_
  cases ds with
  | nil => exact ⟨R.inv0, fn _ _ _ _ _ h (.refl _) W E⟩
  | cons _ _ => exact h.elim
theorem pdgs_cons {t : DG} {u : DGs} (h1 : PDG X e t) (h2 : PDGs X es u)
    (hs : (assignEach (e :: es) X.env).map (·.2) = assign e X.env :: (assignEach es X.env).map (·.2) := by rfl) : PDGs X (e :: es) (dgCons t u) := by
  refine L2.PGs.wk (pgs_cons h1 h2 hs) fun v σ H Q ⟨w, env, st, ds, nx, W, E, R, h, fn⟩ => ?_
  cases ds with
  | nil => exact h.elim
  | cons d r =>
    obtain ⟨v, vr, rfl, R1, R2⟩ := R.inv
    exact ⟨v, vr, rfl, w, env, st, d, _, W, E, R1, h, fun env1 st1 σ1 w1 H1 h1 l1 W1 E1 => ⟨w1, env1, st1, r, nx, W1, E1, Reps.mono l1 _ _ R2, h1, fn.le l1⟩⟩
def dgTup (n : Nat) (g : DGs) : DG := fun d env st k => match deref st d with
  | .tup xs => xs.length = n ∧ g xs env st k
  | _ => False
theorem pdg_tup {kk : Nat} {t : DGs} {n : Nat} (hc : X.calm = true) (h : PDGs X es t)
    (hn : (assignEach es X.env).length = n := by rfl) (hst : (assignEach es X.env).findIdx? (·.1) = none := by rfl) : PDG X (.Tuple es kk pos) (dgTup n t) := by
  refine L2.PG.wk (pg_tup hc h hn hst) fun v σ H Q ⟨w, env, st, d, nx, W, E, R, h, fn⟩ => ?_
  unfold dgTup at h
  split at h
  · rename_i xs e
    obtain ⟨a, vs, rfl, q, r, _⟩ := rep_tup W R e
    exact ⟨a, vs, rfl, q, by rw [r.length]; exact h.1, w, env, st, xs, nx, W, E, r, h.2, fn⟩
  · exact h.elim
def dAsg (t : DE) (g : DG) : DS := fun D env st => t env st fun d s1 => g d env s1 D.nx
theorem asg_in {K : PySem.W.Frag} {t : DE} {g : DG} {Ed : Ends} {σ : L2.St} {H : Hp} (h : tDS K (dAsg t g) Ed σ H) : tAsg (tD K t) (tDG K g) Ed σ H := by
  obtain ⟨w, env, st, D, W, E, h, fn, fr⟩ := h
  exact ⟨w, env, st, _, W, E, h, fun d st1 v w1 H1 h1 l1 W1 R1 => ⟨w1, env, st1, d, _, W1, E.mono l1, R1, h1, fn.le l1⟩⟩
theorem pds_asg {tg : Expr} {t : DE} {g : DG} (he : PD X e t) (hg : PDG X tg g) (hs : swapsWithSole [tg] e pos.line X.env = pure false := by rfl) (hw : swappedStores [tg] e X.env = pure none := by rfl)
    (h1 : (assignEach [tg] X.env).map (·.2) = [assign tg X.env] := by rfl) : PDS X (.Assign [tg] e pos) (dAsg t g) :=
  (ps_asg he hg hs hw h1).wk fun _ _ _ h => asg_in h
theorem pds_set (i : Nat) {x : Str} {t : DE} {pos' : Pos} (hN : X.N.Nodup) (he : PD X e t) (hi : X.N[i]? = some x := by rfl) (hx : Loc X.env.scope x := by first | exact Or.inl rfl | exact Or.inr rfl) (hs : swapsWith e (some (.Name x pos')) pos.line X.env = pure false := by rfl) (hf : X.fn x = true ∨ X.env.scope.names.lookup x = some .local := by first | exact .inl rfl | exact .inr rfl | assumption) :
    PDS X (.Assign [.Name x pos'] e pos) (dAsg t (dgName i)) := by
  refine (ps_set hN hi hx he hs hf).wk fun Ed σ H ⟨w, env, st, D, W, E, h, fn, fr⟩ => ?_
  exact ⟨w, env, st, _, W, E, h, fun d st1 v w1 H1 h1 l1 W1 R1 => fn _ _ _ _ _ h1 l1 W1 ((E.mono l1).set i R1)⟩
/-- a, b = x, y with plain local names: stored from the right -/
def dPar (i j : Nat) (t : DA) : DS := fun D env st => t env st fun ds s1 => match ds with
  | [d, e] => D.nx ((env.set i (some d)).set j (some e)) s1
  | _ => False
theorem pds_par (i j : Nat) {x y : Str} {t : DA} {px py pt : Pos} {kt k2 pt2} (hc : X.calm = true) (hN : X.N.Nodup) (ha : PDA X [a, b] t) (hi : X.N[i]? = some x := by rfl) (hj : X.N[j]? = some y := by rfl) (hij : i ≠ j := by decide)
    (hx : X.env.scope.names.lookup x = some .local := by rfl) (hy : X.env.scope.names.lookup y = some .local := by rfl)
    (hw : swappedStores [.Tuple [.Name x px, .Name y py] kt pt] (.Tuple [a, b] k2 pt2) X.env = pure (some [x, y]) := by rfl)
    (hs : swapsWithSole [.Tuple [.Name x px, .Name y py] kt pt] (.Tuple [a, b] k2 pt2) pos.line X.env = pure false := by rfl) :
    PDS X (.Assign [.Tuple [.Name x px, .Name y py] kt pt] (.Tuple [a, b] k2 pt2) pos) (dPar i j t) := by
  refine (ps_par hc hN hi hj hij hx hy ha hw hs).wk fun Ed σ H ⟨w, env, st, D, W, E, h, fn, fr⟩ => ?_
  refine ⟨w, env, st, _, W, E, h, fun ds st1 vs w1 H1 h1 l1 W1 R1 => ?_⟩
  match ds, h1, R1 with
  | [d, e], h1, R1 =>
    obtain ⟨v, r, rfl, Rv, R2⟩ := R1.inv
    obtain ⟨u, r', rfl, Ru, R3⟩ := R2.inv
    rw [R3.inv0]
    exact ⟨v, u, rfl, fn _ _ _ _ _ h1 l1 W1 (((E.mono l1).set i Rv).set j Ru)⟩
  | [], h1, _ => exact h1.elim
  | [_], h1, _ => exact h1.elim
  | _ :: _ :: _ :: _, h1, _ => exact h1.elim
end
end DL

/-! a tuple taken once -/
namespace DL
open PySem PySem.Spec PyProof.Rows L2
theorem tupOnce (a : Addr) (vs : Array Value) (n : Nat) (dd : Option Addr) (sl : Array (Option Value)) (u : Tok) :
    Meets (Builtin.«tuple.__mul__» ⟨[.ref a, .int 1 u], []⟩) (fun _ R z => z.heap.get? a = some { cls := .type "tuple", dict := dd, data := .seq vs n, slots := sl } ∧ R (.ok (.ret (Value.ref a))) z) :=
  .of_wp fun pr w A R z hh => by
    obtain ⟨hp, gs, dr, tk, os⟩ := z
    obtain ⟨hl, hh⟩ := hh
    have f1 := AutoSeq1.idx_int
    have c1 : (vs.isEmpty || (1 : Int) == 1) = true := by simp
    wp_walk using wpAny_loadPart' hl
    exact ⟨_, rfl, hh⟩
def rOnceT (K : PySem.W.Frag) : R2 := fun x y H Q => ∃ l xs, x = .ref l ∧ y = .int 1 ∧ SqT K H l xs ∧ Q (.ref l) H
theorem op_onceT {X : Cx} : OpR X (binaryOp .Mult) (rOnceT X.K) := by
  intro pins s σ H x y v u Q I rx ry h
  obtain ⟨l, xs, rfl, rfl, hT, q⟩ := h
  cases rx
  obtain ⟨t, rfl⟩ := ry
  obtain ⟨its, r, ⟨⟨cls, dd, data, sl⟩, ho, hc, n, hd⟩, hs⟩ := I.tuple hT
  simp only at hc hd
  subst hc hd
  refine wpAny_binaryOp_repeat_ref (T := "tuple") (U := "int") (by decide) ⟨_, ho, rfl⟩ (fun s' => typeIs_int s' 1 t) noFill_tuple_mul F.fills_int_mul F.slot_int_rmul repeat_tuple F.slot_int_index.lookup
    (call_meets F.slot_int_rmul (typeIs_int s 1 t) F.entry_int_rmul (F.args_int_rmul_2 _ _) (int_rmul_tuple 1 t l its.toArray n dd sl)
      ⟨ho, rfl, ⟨_, ho, rfl⟩, call_meets F.slot_tuple_mul ⟨_, ho, rfl⟩ F.entry_tuple_mul (F.args_tuple_mul_2 _ _) (tupOnce l its.toArray n dd sl t) ⟨ho, ?_⟩⟩)
  exact ⟨.ref l, H, I, rfl, q⟩
end DL

namespace DL
open PySem PySem.Spec PyProof.Rows L2
/-! ### operators by data -/
def MulOk (a b : Int) : Prop := (-(2 ^ 64) < a ∧ a < 2 ^ 64) ∨ (-(2 ^ 64) < b ∧ b < 2 ^ 64) ∨ a.natAbs.log2 + b.natAbs.log2 < 1000000
def DivOk (b : Int) : Prop := 0 < b ∧ b.natAbs.log2 < 9000
def PowOk (a b : Int) : Prop := 0 ≤ b ∧ b ≤ 1000000 ∧ a.natAbs < 2 ^ 64
def addD : F2 := fun d e st k => match d, e with
  | .int a, .int b => k (.int (a + b)) st
  | .int a, .bl b => k (.int (a + b2i b)) st
  | .bl a, .int b => k (.int (b2i a + b)) st
  | .str a, .str b => a.length + b.length ≤ 16777216 ∧ k (.str (a ++ b)) st
  | .tup a, .tup b => a.length + b.length ≤ 16777216 ∧ k (.tup (a ++ b)) st
  | d, e => match derefM st d, derefM st e with
    | some a, some b => a.length + b.length ≤ 16777216 ∧ k (.lst (a ++ b)) st
    | _, _ => False
def subD : F2 := fun d e st k => match d, e with
  | .int a, .int b => k (.int (a - b)) st
  | .int a, .bl b => k (.int (a - b2i b)) st
  | .bl a, .int b => k (.int (b2i a - b)) st
  | _, _ => False
def mulD : F2 := fun d e st k => match d, e with
  | .int a, .int b => MulOk a b ∧ k (.int (a * b)) st
  | .tup a, .int b => a ≠ [] ∧ 1 ≤ b ∧ b ≤ 1000 ∧ a.length ≤ 1000 ∧ k (.tup (List.replicate b.toNat a).flatten) st
  | .str z, .int b => 0 ≤ b ∧ b ≤ 1 ∧ k (.str (if b < 1 then Str.empty else z)) st
  | d, .int b => match derefM st d with
    | some a => -(2 ^ 63) ≤ b ∧ b < 2 ^ 63 ∧ a.length * b.toNat ≤ 16777216 ∧ k (.lst (List.replicate b.toNat a).flatten) st
    | none => False
  | _, _ => False
def divD : F2 := fun d e st k => match d, e with
  | .int a, .int b => DivOk b ∧ k (.int (a / b)) st
  | _, _ => False
def modD : F2 := fun d e st k => match d, e with
  | .int a, .int b => 0 < b ∧ k (.int (a % b)) st
  | _, _ => False
def powD : F2 := fun d e st k => match d, e with
  | .int a, .int b => PowOk a b ∧ k (.int (a ^ b.toNat)) st
  | _, _ => False
def negD : F1 := fun d st k => match d with
  | .int a => k (.int (-a)) st
  | _ => False

section
variable {X : Cx}
theorem rep_int {K : PySem.W.Frag} {w : Wd} {a : Int} : Rep K w (.int a) (.int a) := by simp only [Rep]
theorem rep_bl {K : PySem.W.Frag} {w : Wd} {a : Bool} : Rep K w (.bl a) (.bl a) := by simp only [Rep]
theorem rep_str {K : PySem.W.Frag} {w : Wd} {a : Str} : Rep K w (.str a) (.str a) := by simp only [Rep]
theorem rep_non {K : PySem.W.Frag} {w : Wd} : Rep K w .non .non := by simp only [Rep]
theorem OpR.wk {f : Value → Value → Sem Value} {r r' : R2} (h : OpR X f r) (i : ∀ x y H Q, r' x y H Q → r x y H Q) : OpR X f r' := fun pins s σ H x y v u Q I rx ry q => h pins s σ H x y v u Q I rx ry (i x y H Q q)
/-- a rule by cases of the data -/
theorem OpR.by_ {f : Value → Value → Sem Value} {g : F2}
    (h : ∀ (x y : V) (H : Hp) (Q : VK) (w : Wd) (st : Sto) (d e : D) (kk : DK), Wld X.K w st H → Rep X.K w d x → Rep X.K w e y → g d e st kk → Fol X.K w kk Q → ∃ r : R2, OpR X f r ∧ r x y H Q) : OpR X f (rD X.K g) :=
  fun pins s σ H x y v u Q I rx ry ⟨w, st, d, e, kk, W, R1, R2, q, fo⟩ => by
    obtain ⟨r, hr, q⟩ := h x y H Q w st d e kk W R1 R2 q fo
    exact hr pins s σ H x y v u Q I rx ry q
theorem cat_lists {w : Wd} {st : Sto} {H : Hp} {d e : D} {x y : V} {kk : DK} {Q : VK} {a b : List D} (W : Wld X.K w st H) (R1 : Rep X.K w d x) (R2 : Rep X.K w e y) (h1 : derefM st d = some a) (h2 : derefM st e = some b)
    (n : a.length + b.length ≤ 16777216) (k : kk (.lst (a ++ b)) st) (fo : Fol X.K w kk Q) : ∃ r : L2.R2, OpR X (binaryOp .Add) r ∧ r x y H Q := by
  obtain ⟨p, vs, rfl, q1, r1, _⟩ := rep_lstM W R1 h1
  obtain ⟨p2, us, rfl, q2, r2, _⟩ := rep_lstM W R2 h2
  have n' : vs.length + us.length ≤ sizeLine := by rw [r1.length, r2.length]; exact line16 n
  exact ⟨rCat, op_cat, p, p2, vs, us, rfl, rfl, q1, q2, n', fol_lst W (r1.append r2) (by rw [List.length_append]; exact n') k fo⟩
theorem op_add_bi : OpR X (binaryOp .Add) (fun x y H Q => ∃ k i, x = .bl k ∧ y = .int i ∧ Q (.int (b2i k + i)) H) := by
  rintro pins s σ H x y v u Q I rx ry ⟨k, i, rfl, rfl, q⟩
  obtain ⟨t, rfl⟩ := ry
  cases rx
  exact PySem.IntBool.add_bool_int ⟨.int (b2i k + i), H, I.tok _, ⟨_, rfl⟩, q⟩
theorem op_sub_bi : OpR X (binaryOp .Sub) (fun x y H Q => ∃ k i, x = .bl k ∧ y = .int i ∧ Q (.int (b2i k - i)) H) := by
  rintro pins s σ H x y v u Q I rx ry ⟨k, i, rfl, rfl, q⟩
  obtain ⟨t, rfl⟩ := ry
  cases rx
  exact PySem.IntBool.sub_bool_int ⟨.int (b2i k - i), H, I.tok _, ⟨_, rfl⟩, q⟩
theorem op_sub_ib : OpR X (binaryOp .Sub) (fun x y H Q => ∃ i k, x = .int i ∧ y = .bl k ∧ Q (.int (i - b2i k)) H) := by
  rintro pins s σ H x y v u Q I rx ry ⟨i, k, rfl, rfl, q⟩
  obtain ⟨t, rfl⟩ := rx
  cases ry
  exact PySem.IntBool.sub_int_bool ⟨.int (i - b2i k), H, I.tok _, ⟨_, rfl⟩, q⟩
theorem dop_add : OpR X (binaryOp .Add) (rD X.K addD) := by
  refine OpR.by_ fun x y H Q w st d e kk W R1 R2 q fo => ?_
  unfold addD at q
  split at q
  · rename_i a b
    simp only [Rep] at R1 R2
    exact ⟨_, op_add, a, b, R1, R2, fo.id q W rep_int⟩
  · rename_i a b
    simp only [Rep] at R1 R2
    exact ⟨_, op_add_ib, a, b, R1, R2, fo.id q W rep_int⟩
  · rename_i a b
    simp only [Rep] at R1 R2
    exact ⟨_, op_add_bi, a, b, R1, R2, fo.id q W rep_int⟩
  · rename_i a b
    simp only [Rep] at R1 R2
    exact ⟨_, op_add_str, a, b, R1, R2, line16 q.1, fo.id q.2 W rep_str⟩
  · rename_i a b
    obtain ⟨p, vs, rfl, q1, r1, _⟩ := rep_tup W R1 rfl
    obtain ⟨p2, us, rfl, q2, r2, _⟩ := rep_tup W R2 rfl
    have n' : vs.length + us.length ≤ sizeLine := by rw [r1.length, r2.length]; exact line16 q.1
    refine ⟨rCatA X.K, op_catA, p, p2, vs, us, rfl, rfl, q1, q2, n', fun e => ?_, fun _ e => ?_, fun _ _ => fol_tup W (r1.append r2) (by rw [List.length_append]; exact n') q.2 fo⟩
    · have ea : a = [] := by
        have := r1.length
        rw [e] at this
        exact List.eq_nil_of_length_eq_zero this.symm
      subst ea
      exact fo.id q.2 W R2
    · have eb : b = [] := by
        have := r2.length
        rw [e] at this
        exact List.eq_nil_of_length_eq_zero this.symm
      subst eb
      refine fo.id q.2 W ?_
      rw [List.append_nil]
      exact R1
  · split at q
    · rename_i a b h1 h2
      exact cat_lists W R1 R2 h1 h2 q.1 q.2 fo
    · exact q.elim
theorem MulOk.ok {a b : Int} (h : MulOk a b) : IntMulOk a b := by
  rcases h with h | h | h
  · exact CMul.ok (.inl h)
  · exact CMul.ok (.inr h)
  · exact CMulW.ok h
theorem op_mulD : OpR X (binaryOp .Mult) (rI MulOk fun i j => .int (i * j)) := opI fun _ _ _ _ _ _ _ hc q => mul_int q hc.ok
theorem op_mul_str : OpR X (binaryOp .Mult) (fun x y H Q => ∃ (z : Str) (i : Int), x = .str z ∧ y = .int i ∧ 0 ≤ i ∧ i ≤ 1 ∧ Q (.str (if i < 1 then Str.empty else z)) H) := by
  rintro pins s σ H x y v u Q I rx ry ⟨z, i, rfl, rfl, h0, h1, q⟩
  obtain ⟨t, rfl⟩ := rx
  obtain ⟨t', rfl⟩ := ry
  rcases (show i = 0 ∨ i = 1 by omega) with rfl | rfl
  · exact P.mul_str_none (by decide) (by decide) ⟨.str Str.empty, H, I.tok _, ⟨_, rfl⟩, q⟩
  · exact P.mul_str (by decide) (fun _ h => by simp at h) (fun _ h => by simp at h) (by
      rw [if_neg (by decide), if_pos (by simp)]
      exact ⟨.str z, H, I, ⟨_, rfl⟩, q⟩)
theorem dop_mul : OpR X (binaryOp .Mult) (rD X.K mulD) := by
  refine OpR.by_ fun x y H Q w st d e kk W R1 R2 q fo => ?_
  unfold mulD at q
  split at q
  · simp only [Rep] at R1 R2
    exact ⟨_, op_mulD, _, _, R1, R2, q.1, fo.id q.2 W rep_int⟩
  · rename_i a b
    obtain ⟨p, vs, rfl, q1, r1, _⟩ := rep_tup W R1 rfl
    simp only [Rep] at R2
    obtain ⟨ne, h1, h2, h3, q⟩ := q
    have nv : vs ≠ [] := fun z => ne (by
      have := r1.length
      rw [z] at this
      exact List.eq_nil_of_length_eq_zero this.symm)
    by_cases hb : b = 1
    · subst hb
      refine ⟨_, op_onceT, p, vs, rfl, R2, q1, fo.id q W ?_⟩
      have e : (List.replicate (1 : Int).toNat a).flatten = a := by
        show (List.replicate 1 a).flatten = a
        simp
      rw [e]
      exact R1
    have h1 : 2 ≤ b := by omega
    refine ⟨rRepT X.K, op_repT, p, b, vs, rfl, R2, q1, nv, h1, h2, by rw [r1.length]; exact h3, ?_⟩
    refine fol_tup W (r1.rep b.toNat) ?_ q fo
    rw [PyProof.Rows.lm_len_rep_flat, sizeLine_eq, r1.length]
    have a1 : b.toNat * a.length ≤ 1000 * 1000 := Nat.mul_le_mul (by omega) h3
    omega
  · rename_i z b
    simp only [Rep] at R1 R2
    obtain ⟨h0, h1, q⟩ := q
    exact ⟨_, op_mul_str, z, b, R1, R2, h0, h1, fo.id q W rep_str⟩
  · split at q
    · rename_i a ha
      simp only [Rep] at R2
      obtain ⟨p, vs, rfl, q1, r1, _⟩ := rep_lstM W R1 ha
      obtain ⟨h1, h2, h3, q⟩ := q
      have n' := line16 h3
      rw [← r1.length] at n'
      refine ⟨rRep, op_rep, p, _, vs, rfl, R2, q1, h1, h2, n', fol_lst W (r1.rep _) ?_ q fo⟩
      rw [PyProof.Rows.lm_len_rep_flat, Nat.mul_comm]
      exact n'
    · exact q.elim
  · exact q.elim
theorem dop_sub : OpR X (binaryOp .Sub) (rD X.K subD) := by
  refine OpR.by_ fun x y H Q w st d e kk W R1 R2 q fo => ?_
  unfold subD at q
  split at q
  · simp only [Rep] at R1 R2
    exact ⟨_, op_sub, _, _, R1, R2, fo.id q W rep_int⟩
  · simp only [Rep] at R1 R2
    exact ⟨_, op_sub_ib, _, _, R1, R2, fo.id q W rep_int⟩
  · simp only [Rep] at R1 R2
    exact ⟨_, op_sub_bi, _, _, R1, R2, fo.id q W rep_int⟩
  · exact q.elim
theorem dop_div : OpR X (binaryOp .FloorDiv) (rD X.K divD) := by
  refine OpR.by_ fun x y H Q w st d e kk W R1 R2 q fo => ?_
  unfold divD at q
  split at q
  · simp only [Rep] at R1 R2
    exact ⟨_, op_fdivW, _, _, R1, R2, q.1, fo.id q.2 W rep_int⟩
  · exact q.elim
theorem dop_mod : OpR X (binaryOp .Mod) (rD X.K modD) := by
  refine OpR.by_ fun x y H Q w st d e kk W R1 R2 q fo => ?_
  unfold modD at q
  split at q
  · simp only [Rep] at R1 R2
    exact ⟨_, op_mod, _, _, R1, R2, q.1, fo.id q.2 W rep_int⟩
  · exact q.elim
theorem dop_pow : OpR X (binaryOp .Pow) (rD X.K powD) := by
  refine OpR.by_ fun x y H Q w st d e kk W R1 R2 q fo => ?_
  unfold powD at q
  split at q
  · simp only [Rep] at R1 R2
    exact ⟨_, op_pow, _, _, R1, R2, q.1, fo.id q.2 W rep_int⟩
  · exact q.elim
theorem dun_neg : UnR X (unaryOp .USub) (rD1 X.K negD) := by
  rintro pins s σ H x v Q I rx ⟨w, st, d, kk, W, R1, q, fo⟩
  unfold negD at q
  split at q
  · simp only [Rep] at R1
    exact un_neg pins s σ H x v Q I rx ⟨_, R1, fo.id q W rep_int⟩
  · exact q.elim

/-! ### comparisons -/
mutual
def eqD : D → D → Bool
  | .non, .non => true
  | .bl a, .bl b => a == b
  | .bl a, .int j => (if a then 1 else 0) == j
  | .int i, .bl b => i == (if b then 1 else 0)
  | .int i, .int j => i == j
  | .str x, .str y => x == y
  | .lst xs, .lst ys => eqDs xs ys
  | .tup xs, .tup ys => eqDs xs ys
  | _, _ => false
def eqDs : List D → List D → Bool
  | [], [] => true
  | x :: xs, y :: ys => eqD x y && eqDs xs ys
  | _, _ => false
end
mutual
/-- data that == goes through: no list of the store within, so deep at most -/
def okD : Nat → D → Bool
  | _, .non => true
  | _, .bl _ => true
  | _, .int _ => true
  | _, .str x => PyData.strOk x
  | 0, .lst _ => false
  | n + 1, .lst xs => okDs n xs
  | 0, .tup _ => false
  | n + 1, .tup xs => okDs n xs
  | _, .klst _ => false
  | _, .obj _ => false
  | _, .dic _ _ => false
  | _, .fdic _ _ => false
  | _, .gtup _ => false
def okDs : Nat → List D → Bool
  | _, [] => true
  | n, x :: xs => okD n x && okDs n xs
end
mutual
def toP : D → PyData
  | .non => .none
  | .bl b => .bool b
  | .int i => .int i
  | .str x => .str x
  | .lst xs => .list (toPs xs)
  | .tup xs => .tuple (toPs xs)
  | .klst _ => .none
  | .obj _ => .none
  | .dic _ _ => .none
  | .fdic _ _ => .none
  | .gtup _ => .none
def toPs : List D → List PyData
  | [] => []
  | x :: xs => toP x :: toPs xs
end
mutual
theorem eqv_toP : ∀ (n m : Nat) (a b : D), okD n a = true → okD m b = true → PyData.eqv (toP a) (toP b) = eqD a b
  | n, m, .lst xs, .lst ys, h, g => by
    cases n with
    | zero => simp [okD] at h
    | succ n =>
      cases m with
      | zero => simp [okD] at g
      | succ m =>
        simp only [okD] at h g
        simp only [toP, PyData.eqv, eqD]
        exact eqv_toPs n m xs ys h g
  | n, m, .tup xs, .tup ys, h, g => by
    cases n with
    | zero => simp [okD] at h
    | succ n =>
      cases m with
      | zero => simp [okD] at g
      | succ m =>
        simp only [okD] at h g
        simp only [toP, PyData.eqv, eqD]
        exact eqv_toPs n m xs ys h g
  | n, m, .klst xs, _, h, g => by cases n <;> simp [okD] at h
  | n, m, .obj xs, _, h, g => by cases n <;> simp [okD] at h
  | n, m, .dic _ _, _, h, g => by cases n <;> simp [okD] at h
  | n, m, .fdic _ _, _, h, g => by cases n <;> simp [okD] at h
  | n, m, .gtup _, _, h, g => by cases n <;> simp [okD] at h
  | n, m, _, .klst xs, h, g => by cases m <;> simp [okD] at g
  | n, m, _, .obj xs, h, g => by cases m <;> simp [okD] at g
  | n, m, _, .dic _ _, h, g => by cases m <;> simp [okD] at g
  | n, m, _, .fdic _ _, h, g => by cases m <;> simp [okD] at g
  | n, m, _, .gtup _, h, g => by cases m <;> simp [okD] at g
  | n, m, .non, b, h, g => by cases b <;> (first | (simp [toP, PyData.eqv, eqD]; done) | (cases m <;> simp [okD] at g))
  | n, m, .bl _, b, h, g => by cases b <;> (first | (simp [toP, PyData.eqv, eqD]; done) | (cases m <;> simp [okD] at g))
  | n, m, .int _, b, h, g => by cases b <;> (first | (simp [toP, PyData.eqv, eqD]; done) | (cases m <;> simp [okD] at g))
  | n, m, .str _, b, h, g => by cases b <;> (first | (simp [toP, PyData.eqv, eqD]; done) | (cases m <;> simp [okD] at g))
  | n, m, .lst _, .non, h, g => by simp [toP, PyData.eqv, eqD]
  | n, m, .lst _, .bl _, h, g => by simp [toP, PyData.eqv, eqD]
  | n, m, .lst _, .int _, h, g => by simp [toP, PyData.eqv, eqD]
  | n, m, .lst _, .str _, h, g => by simp [toP, PyData.eqv, eqD]
  | n, m, .lst _, .tup _, h, g => by simp [toP, PyData.eqv, eqD]
  | n, m, .tup _, .non, h, g => by simp [toP, PyData.eqv, eqD]
  | n, m, .tup _, .bl _, h, g => by simp [toP, PyData.eqv, eqD]
  | n, m, .tup _, .int _, h, g => by simp [toP, PyData.eqv, eqD]
  | n, m, .tup _, .str _, h, g => by simp [toP, PyData.eqv, eqD]
  | n, m, .tup _, .lst _, h, g => by simp [toP, PyData.eqv, eqD]
theorem eqv_toPs : ∀ (n m : Nat) (a b : List D), okDs n a = true → okDs m b = true → PyData.eqvAll (toPs a) (toPs b) = eqDs a b
  | n, m, [], [], _, _ => by simp [toPs, PyData.eqvAll, eqDs]
  | n, m, [], _ :: _, _, _ => by simp [toPs, PyData.eqvAll, eqDs]
  | n, m, _ :: _, [], _, _ => by simp [toPs, PyData.eqvAll, eqDs]
  | n, m, x :: xs, y :: ys, h, g => by
    simp only [okDs, Bool.and_eq_true] at h g
    simp only [toPs, PyData.eqvAll, eqDs]
    rw [eqv_toP n m x y h.1 g.1, eqv_toPs n m xs ys h.2 g.2]
end
mutual
theorem shape_toP : ∀ (n : Nat) (a : D), okD n a = true → (toP a).canLay0 = true ∧ (toP a).depth ≤ n
  | n, .non, _ => by simp [toP, PyData.canLay0, PyData.depth]
  | n, .bl _, _ => by simp [toP, PyData.canLay0, PyData.depth]
  | n, .int _, _ => by simp [toP, PyData.canLay0, PyData.depth]
  | n, .str x, h => by
    have h' : PyData.strOk x = true := by cases n <;> simpa only [okD] using h
    simp [toP, PyData.canLay0, PyData.depth, h']
  | n, .klst xs, h => by cases n <;> simp [okD] at h
  | n, .obj xs, h => by cases n <;> simp [okD] at h
  | n, .dic _ _, h => by cases n <;> simp [okD] at h
  | n, .fdic _ _, h => by cases n <;> simp [okD] at h
  | n, .gtup _, h => by cases n <;> simp [okD] at h
  | 0, .lst xs, h => by simp [okD] at h
  | n + 1, .lst xs, h => by
    simp only [okD] at h
    obtain ⟨h1, h2⟩ := shape_toPs n xs h
    simp only [toP, PyData.canLay0, PyData.depth]
    exact ⟨h1, by omega⟩
  | 0, .tup xs, h => by simp [okD] at h
  | n + 1, .tup xs, h => by
    simp only [okD] at h
    obtain ⟨h1, h2⟩ := shape_toPs n xs h
    simp only [toP, PyData.canLay0, PyData.depth]
    exact ⟨h1, by omega⟩
theorem shape_toPs : ∀ (n : Nat) (a : List D), okDs n a = true → PyData.canLayAll0 (toPs a) = true ∧ PyData.depthAll (toPs a) ≤ n
  | n, [], _ => by simp [toPs, PyData.canLayAll0, PyData.depthAll]
  | n, x :: xs, h => by
    simp only [okDs, Bool.and_eq_true] at h
    obtain ⟨h1, h2⟩ := shape_toP n x h.1
    obtain ⟨h3, h4⟩ := shape_toPs n xs h.2
    simp only [toPs, PyData.canLayAll0, PyData.depthAll, Bool.and_eq_true]
    exact ⟨⟨h1, h3⟩, Nat.max_le.mpr ⟨h2, h4⟩⟩
end
mutual
theorem dp_of {K : PySem.W.Frag} {w : Wd} {H : Hp} (s : Same w.G H) : ∀ (n : Nat) (a : D) (v : V), okD n a = true → Rep K w a v → Dp K H v (toP a)
  | n, .non, v, _, R => by
    simp only [Rep] at R
    subst R
    simp only [toP]
    exact .non
  | n, .bl _, v, _, R => by
    simp only [Rep] at R
    subst R
    simp only [toP]
    exact .bl _
  | n, .int _, v, _, R => by
    simp only [Rep] at R
    subst R
    simp only [toP]
    exact .int _
  | n, .str _, v, _, R => by
    simp only [Rep] at R
    subst R
    simp only [toP]
    exact .str _
  | n, .klst xs, _, h, _ => by cases n <;> simp [okD] at h
  | n, .obj xs, _, h, _ => by cases n <;> simp [okD] at h
  | n, .dic _ _, _, h, _ => by cases n <;> simp [okD] at h
  | n, .fdic _ _, _, h, _ => by cases n <;> simp [okD] at h
  | n, .gtup _, _, h, _ => by cases n <;> simp [okD] at h
  | 0, .lst xs, _, h, _ => by simp [okD] at h
  | n + 1, .lst xs, v, h, R => by
    simp only [okD] at h
    simp only [Rep] at R
    obtain ⟨a, vs, rfl, q, r⟩ := R
    simp only [toP]
    exact .lst (.of (s _ _ q)) (dps_of s n xs vs h r)
  | 0, .tup xs, _, h, _ => by simp [okD] at h
  | n + 1, .tup xs, v, h, R => by
    simp only [okD] at h
    simp only [Rep] at R
    obtain ⟨a, vs, rfl, q, r⟩ := R
    simp only [toP]
    exact .tup (.of (s _ _ q)) (dps_of s n xs vs h r)
theorem dps_of {K : PySem.W.Frag} {w : Wd} {H : Hp} (s : Same w.G H) : ∀ (n : Nat) (a : List D) (vs : List V), okDs n a = true → Reps K w a vs → DpAll K H vs (toPs a)
  | n, [], vs, _, R => by
    rw [R.inv0]
    simp only [toPs]
    exact .nil
  | n, x :: xs, vs, h, R => by
    simp only [okDs, Bool.and_eq_true] at h
    obtain ⟨v, r, rfl, R1, R2⟩ := R.inv
    simp only [toPs]
    exact .cons (dp_of s n x v h.1 R1) (dps_of s n xs r h.2 R2)
end
theorem dp_deref {K : PySem.W.Frag} {w : Wd} {st : Sto} {H : Hp} {d : D} {v : V} (W : Wld K w st H) (R : Rep K w d v) (ok : okD 60 (deref st d) = true) : Dp K H v (toP (deref st d)) := by
  cases e : deref st d with
  | lst xs =>
    obtain ⟨a, vs, rfl, q, r, _⟩ := rep_lst W R e
    rw [e] at ok
    simp only [okD] at ok
    simp only [toP]
    exact .lst q (dps_of W.same 59 xs vs ok r)
  | obj i =>
    rw [e] at ok
    simp [okD] at ok
  | tup xs =>
    obtain ⟨a, vs, rfl, q, r, _⟩ := rep_tup W R e
    rw [e] at ok
    simp only [okD] at ok
    simp only [toP]
    exact .tup q (dps_of W.same 59 xs vs ok r)
  | _ =>
    rw [e] at ok
    have z := deref_self e (fun _ z => by cases z) (fun _ z => by cases z)
    first
      | (rw [z] at R; exact dp_of W.same 60 _ v ok R)
      | (simp [okD] at ok)
def eqOp (neg : Bool) : F2 := fun d e st k => okD 60 (deref st d) = true ∧ okD 60 (deref st e) = true ∧ k (.bl (if neg then !eqD (deref st d) (deref st e) else eqD (deref st d) (deref st e))) st
theorem shaped_of {a : D} (h : okD 60 a = true) : SeqAt.shaped (toP a) = true := by
  obtain ⟨h1, h2⟩ := shape_toP 60 a h
  unfold SeqAt.shaped
  rw [h1, decide_eq_true (by omega)]
  rfl
theorem dop_eq (hu : X.A.units + 64 < cLine) : OpR X (compareOp .Eq) (rD X.K (eqOp false)) := by
  refine OpR.by_ fun x y H Q w st d e kk W R1 R2 q fo => ?_
  obtain ⟨h1, h2, q⟩ := q
  refine ⟨rEqD X.K, op_eqD hu, _, _, dp_deref W R1 h1, dp_deref W R2 h2, shaped_of h1, shaped_of h2, ?_⟩
  rw [eqv_toP 60 60 _ _ h1 h2]
  exact fo.id q W rep_bl
theorem dop_ne (hu : X.A.units + 64 < cLine) : OpR X (compareOp .NotEq) (rD X.K (eqOp true)) := by
  refine OpR.by_ fun x y H Q w st d e kk W R1 R2 q fo => ?_
  obtain ⟨h1, h2, q⟩ := q
  refine ⟨rNeD X.K, op_neD hu, _, _, dp_deref W R1 h1, dp_deref W R2 h2, shaped_of h1, shaped_of h2, ?_⟩
  rw [eqv_toP 60 60 _ _ h1 h2]
  exact fo.id q W rep_bl
def cmpI (p : Int → Int → Bool) : F2 := fun d e st k => match d, e with
  | .int a, .int b => k (.bl (p a b)) st
  | _, _ => False
theorem dop_cmpI {op : CmpOp} {p : Int → Int → Bool} (h : OpR X (compareOp op) (rI0 fun i j => .bl (p i j))) : OpR X (compareOp op) (rD X.K (cmpI p)) := by
  refine OpR.by_ fun x y H Q w st d e kk W R1 R2 q fo => ?_
  unfold cmpI at q
  split at q
  · simp only [Rep] at R1 R2
    exact ⟨_, h, _, _, R1, R2, fo.id q W rep_bl⟩
  · exact q.elim
theorem dop_lt : OpR X (compareOp .Lt) (rD X.K (cmpI fun i j => decide (i < j))) := dop_cmpI op_lt
theorem dop_gt : OpR X (compareOp .Gt) (rD X.K (cmpI fun i j => decide (j < i))) := dop_cmpI op_gt
theorem dop_ge : OpR X (compareOp .GtE) (rD X.K (cmpI fun i j => decide (j ≤ i))) := dop_cmpI op_ge
def isNon : D → Bool
  | .non => true
  | _ => false
def isOp (neg : Bool) : F2 := fun d e st k => match e with
  | .non => k (.bl (if neg then !isNon d else isNon d)) st
  | .bl b => match d with
    | .bl a => k (.bl (if neg then !(a == b) else a == b)) st
    | _ => False
  | _ => False
theorem op_isB {X : Cx} : OpR X (compareOp .Is) (fun x y H Q => ∃ a b, x = .bl a ∧ y = .bl b ∧ Q (.bl (a == b)) H) := by
  rintro pins s σ H x y v u Q I rx ry ⟨a, b, rfl, rfl, q⟩
  cases (show v = Value.bool a from rx)
  cases (show u = Value.bool b from ry)
  exact wpAny_is_plain (by cases a <;> cases b <;> rfl) (fin_bl I q (by cases a <;> cases b <;> rfl))
theorem isNon_rep {K : PySem.W.Frag} {w : Wd} {d : D} {v : V} (R : Rep K w d v) : decide (v = .non) = isNon d := by
  cases d with
  | non => simp only [Rep] at R; subst R; rfl
  | bl _ => simp only [Rep] at R; subst R; rfl
  | int _ => simp only [Rep] at R; subst R; rfl
  | str _ => simp only [Rep] at R; subst R; rfl
  | lst _ => simp only [Rep] at R; obtain ⟨_, _, rfl, _⟩ := R; rfl
  | klst _ => simp only [Rep] at R; obtain ⟨_, _, rfl, _⟩ := R; rfl
  | tup _ => simp only [Rep] at R; obtain ⟨_, _, rfl, _⟩ := R; rfl
  | obj _ => simp only [Rep] at R; obtain ⟨_, rfl, _⟩ := R; rfl
  | dic _ _ => simp only [Rep] at R; obtain ⟨_, rfl, _⟩ := R; rfl
  | fdic t _ => rcases t with (_ | _) | _ <;> (simp only [Rep] at R; first | (obtain ⟨_, _, rfl, _⟩ := R; rfl) | (obtain ⟨_, _, _, rfl, _⟩ := R; rfl))
  | gtup _ => simp only [Rep] at R; obtain ⟨_, _, rfl, _⟩ := R; rfl
theorem dop_is : OpR X (compareOp .Is) (rD X.K (isOp false)) := by
  refine OpR.by_ fun x y H Q w st d e kk W R1 R2 q fo => ?_
  unfold isOp at q
  split at q
  · simp only [Rep] at R2
    refine ⟨_, op_isN, R2, ?_⟩
    rw [isNon_rep R1]
    exact fo.id q W rep_bl
  · split at q
    · simp only [Rep] at R1 R2
      exact ⟨_, op_isB, ⟨_, _, R1, R2, fo.id q W rep_bl⟩⟩
    · exact q.elim
  · exact q.elim
/-! ### chained comparisons -/
variable {a b c : Expr} {pos : Pos} {ta tb tc : DE}
/-! ### subscripts, slices -/
def ixD : F2 := fun d e st k => match e with
  | .int i => match deref st d with
    | .lst xs => ∃ x, atI xs i = some x ∧ k x st
    | .tup xs => ∃ x, atI xs i = some x ∧ k x st
    | .str z => z.length ≤ 16777216 ∧ ∃ c, atI z.cps.toList i = some c ∧ k (.str ⟨#[c]⟩) st
    | _ => False
  | _ => False
theorem atI_rep {K : PySem.W.Frag} {w : Wd} {xs : List D} {vs : List V} {i : Int} {x : D} (r : Reps K w xs vs) (h : atI xs i = some x) : ∃ v, atI vs i = some v ∧ Rep K w x v := by
  unfold atI at h ⊢
  rw [← r.length] at h
  cases e : ixN vs.length i with
  | none => rw [e] at h; cases h
  | some j =>
    rw [e] at h
    obtain ⟨v, e1, e2⟩ := r.get (i := j) (d := x) h
    exact ⟨v, e1, e2⟩
theorem dix : IxR X (rD X.K ixD) := by
  rintro value slice pins s σ H x y v u Q I rx ry ⟨w, st, d, e, kk, W, R1, R2, q, fo⟩ hs
  unfold ixD at q
  split at q
  · rename_i i
    simp only [Rep] at R2
    split at q
    · rename_i xs hd
      obtain ⟨z, hz, q⟩ := q
      obtain ⟨p, vs, e1, q1, r1, _⟩ := rep_lst W R1 hd
      obtain ⟨zv, hv, rz⟩ := atI_rep r1 hz
      exact ix_list value slice pins s σ H x y v u Q I rx ry ⟨p, vs, i, zv, e1, R2, q1, hv, fo.id q W rz⟩ hs
    · rename_i xs hd
      obtain ⟨z, hz, q⟩ := q
      obtain ⟨p, vs, e1, q1, r1, _⟩ := rep_tup W R1 hd
      obtain ⟨zv, hv, rz⟩ := atI_rep r1 hz
      exact ix_tup value slice pins s σ H x y v u Q I rx ry ⟨p, vs, i, zv, e1, R2, q1, hv, fo.id q W rz⟩ hs
    · rename_i z hd
      obtain ⟨hz, c, hc, q⟩ := q
      have e0 := deref_self hd (fun _ z => by cases z) (fun _ z => by cases z)
      subst e0
      simp only [Rep] at R1
      exact ix_str value slice pins s σ H x y v u Q I rx ry ⟨z, i, c, R1, R2, line16 hz, hc, fo.id q W rep_str⟩ hs
    · exact q.elim
  · exact q.elim
theorem pd_ix (ha : PD X a ta) (hb : PD X b tb) (hs : PlainIx b := by exact fun _ _ => rfl) : PD X (.Subscript a b pos) (dOp ixD ta tb) :=
  (pe_ix dix ha hb hs).wk fun _ _ _ h => d2_in h
/-- the items of xs[lo:hi] -/
def cutD {α : Type} (xs : List α) (lo hi : Option Int) : List α := (xs.drop (HT.sIx xs.length 0 lo)).take (HT.sIx xs.length xs.length hi - HT.sIx xs.length 0 lo)
abbrev DO := Env → Sto → (Option Int → Sto → Prop) → Prop
def tDO (K : PySem.W.Frag) (t : DO) : TO := fun σ H Q => ∃ w env st kk, Wld K w st H ∧ EnvR K w env σ ∧ t env st kk ∧ ∀ o st' w' H', kk o st' → Le w w' → Wld K w' st' H' → Q o H'
abbrev PDO (X : Cx) (e : Option Expr) (t : DO) : Prop := PO X e (tDO X.K t)
theorem _root_.L2.PO.wk {X : Cx} {e : Option Expr} {t t' : TO} (h : PO X e t) (i : ∀ σ H Q, t' σ H Q → t σ H Q) : PO X e t' := ⟨fun pins s σ H Q I q => h.run pins s σ H Q I (i σ H Q q)⟩
def dNo : DO := fun _ st k => k none st
def dSome (t : DE) : DO := fun env st k => t env st fun d s1 => match d with
  | .int i => k (some i) s1
  | _ => False
theorem pdo_none : PDO X none dNo := po_none.wk fun σ H Q ⟨w, env, st, kk, W, E, h, fo⟩ => fo _ _ _ _ h (.refl _) W
theorem pdo_some {e : Expr} (h : PD X e ta) : PDO X (some e) (dSome ta) := by
  refine (po_some h).wk fun σ H Q ⟨w, env, st, kk, W, E, h, fo⟩ => ?_
  refine ⟨w, env, st, _, W, E, h, fun d st1 v w1 H1 h1 l1 W1 R1 => ?_⟩
  cases d with
  | int i =>
    simp only [Rep] at R1
    exact ⟨i, R1, fo _ _ _ _ h1 l1 W1⟩
  | _ => exact h1.elim
def cutOp (d : D) (lo hi : Option Int) (st : Sto) (k : DK) : Prop := match deref st d with
  | .lst xs => k (.lst (cutD xs lo hi)) st
  | .tup xs => noG d (k (.tup (cutD xs lo hi)) st)
  | .str z => z.length ≤ 16777216 ∧ k (.str (L2.cutS z lo hi)) st
  | _ => False
theorem cut_reps {K : PySem.W.Frag} {w : Wd} {xs : List D} {vs : List V} (r : Reps K w xs vs) (lo hi : Option Int) : Reps K w (cutD xs lo hi) (cutV vs lo hi) := by
  unfold cutD cutV
  rw [← r.length]
  exact (r.drop _).take _
def rCut (K : PySem.W.Frag) (f : D → Option Int → Option Int → Sto → DK → Prop) : V → Option Int → Option Int → Hp → VK → Prop := fun x lo hi H Q => ∃ w st d kk, Wld K w st H ∧ Rep K w d x ∧ f d lo hi st kk ∧ Fol K w kk Q
theorem cutV_le (vs : List V) (lo hi : Option Int) (h : vs.length ≤ sizeLine) : (cutV vs lo hi).length ≤ sizeLine := Nat.le_trans (cutV_length vs lo hi) h
theorem sl_cut : SlR X (rCut X.K cutOp) := by
  rintro pins s σ H x v vl vu lo hi sl Q I rx hs pl pu ⟨w, st, d, kk, W, R1, q, fo⟩
  unfold cutOp at q
  split at q
  · rename_i xs hd
    obtain ⟨p, vs, e1, q1, r1, n⟩ := rep_lst W R1 hd
    exact sl_list pins s σ H x v vl vu lo hi sl Q I rx hs pl pu ⟨p, vs, e1, q1, fol_lst W (cut_reps r1 lo hi) (cutV_le vs lo hi n) q fo⟩
  · rename_i xs hd
    obtain ⟨p, vs, e1, q1, r1, n⟩ := rep_tup W R1 hd
    obtain ⟨ng, q⟩ := noG_of q
    refine sl_tupA pins s σ H x v vl vu lo hi sl Q I rx hs pl pu ⟨p, vs, e1, q1, fun hw => ?_, fun _ => fol_tup W (cut_reps r1 lo hi) (cutV_le vs lo hi n) q fo⟩
    have ec : cutD xs lo hi = xs := by
      unfold cutD
      rw [← r1.length, hw.1, hw.2, List.drop_zero, r1.length, Nat.sub_zero, List.take_length]
    refine fo.id q W ?_
    rw [ec]
    have e0 := deref_tup hd ng
    rw [← e0, ← e1]
    exact R1
  · rename_i z hd
    have e0 : d = .str z := by
      cases d <;> simp only [deref] at hd <;> first | exact hd | (cases hd) | (split at hd <;> cases hd)
    subst e0
    simp only [Rep] at R1
    exact sl_str pins s σ H x v vl vu lo hi sl Q I rx hs pl pu ⟨z, R1, line16 q.1, fo.id q.2 W rep_str⟩
  · exact q.elim
def dCut (f : D → Option Int → Option Int → Sto → DK → Prop) (t : DE) (l h : DO) : DE := fun env st k => t env st fun d s1 => l env s1 fun lo s2 => h env s2 fun hi s3 => f d lo hi s3 k
theorem pd_cut {f : D → Option Int → Option Int → Sto → DK → Prop} {lo hi : Option Expr} {tl th : DO} {p2 : Pos} (hf : SlR X (rCut X.K f)) (he : PD X a ta) (hl : PDO X lo tl) (hu : PDO X hi th) : PD X (.Subscript a (.Slice lo hi none p2) pos) (dCut f ta tl th) := by
  refine (pe_slice hf he hl hu).wk fun σ H Q ⟨w, env, st, kk, W, E, h, fo⟩ => ?_
  exact ⟨w, env, st, _, W, E, h, fun d st1 v w1 H1 h1 l1 W1 R1 => ⟨w1, env, st1, _, W1, E.mono l1, h1, fun lo st2 w2 H2 h2 l2 W2 =>
    ⟨w2, env, st2, _, W2, (E.mono l1).mono l2, h2, fun hi st3 w3 H3 h3 l3 W3 => ⟨w3, st3, d, kk, W3, Rep.mono (l2.trans l3) _ _ R1, h3, fo.le ((l1.trans l2).trans l3)⟩⟩⟩⟩

/-! ### built-ins called -/
abbrev FB := List D → Sto → DK → Prop
def rDB (K : PySem.W.Frag) (f : FB) : List V → Hp → VK → Prop := fun vs H Q => ∃ w st ds kk, Wld K w st H ∧ Reps K w ds vs ∧ f ds st kk ∧ Fol K w kk Q
def dB (f : FB) (t : DA) : DE := fun env st k => t env st fun ds s1 => f ds s1 k
variable {e : Expr} {es : List Expr} {x : Str} {p : Pos} {idn T : String} {f : FB} {t : DA}
theorem db_in {K : PySem.W.Frag} {σ : L2.St} {H : Hp} {Q : VK} (h : tD K (dB f t) σ H Q) : tCB (rDB K f) (tDA K t) σ H Q := by
  obtain ⟨w, env, st, kk, W, E, h, fo⟩ := h
  exact ⟨w, env, st, _, W, E, h, fun ds st1 vs w1 H1 h1 l1 W1 R1 => ⟨w1, st1, ds, kk, W1, R1, h1, fo.le l1⟩⟩
theorem pd_callB (hc : CallR X (.builtin idn) (rDB X.K f)) (hm : X.mg x = none) (hv : bootBuiltins x = some (.builtin idn)) (ha : PDA X (e :: es) t) (hg : Gl X x := by rfl) (hn : x ≠ "__name__" := by decide) (hdb : (x == ("__debug__" : Str)) = false := by decide)
    (he : starEach (e :: es) X.env = (false, eval e X.env) :: starEach es X.env := by rfl) (hpl : (backTo pos (starEach es X.env)).any (·.1) = false := by rfl) : PD X (.Call (.Name x p) (e :: es) [] pos) (dB f t) :=
  (pe_callB hc hg hm hv ha hn hdb he hpl).wk fun _ _ _ h => db_in h
theorem pd_callTy (hc : CallR X (.type T) (rDB X.K f)) (hm : X.mg x = none) (hv : bootBuiltins x = some (.type T)) (ha : PDA X (e :: es) t) (hg : Gl X x := by rfl) (hn : x ≠ "__name__" := by decide) (hdb : (x == ("__debug__" : Str)) = false := by decide)
    (he : starEach (e :: es) X.env = (false, eval e X.env) :: starEach es X.env := by rfl) (hpl : (backTo pos (starEach es X.env)).any (·.1) = false := by rfl) : PD X (.Call (.Name x p) (e :: es) [] pos) (dB f t) :=
  (pe_callTy hc hg hm hv ha hn hdb he hpl).wk fun _ _ _ h => db_in h
theorem CallR.by_ {g : Value} {f : FB}
    (h : ∀ (vs : List V) (H : Hp) (Q : VK) (w : Wd) (st : Sto) (ds : List D) (kk : DK), Wld X.K w st H → Reps X.K w ds vs → f ds st kk → Fol X.K w kk Q → ∃ r : List V → Hp → VK → Prop, CallR X g r ∧ r vs H Q) : CallR X g (rDB X.K f) :=
  fun pins s σ H xs us Q I rs ⟨w, st, ds, kk, W, R, q, fo⟩ => by
    obtain ⟨r, hr, q⟩ := h xs H Q w st ds kk W R q fo
    exact hr pins s σ H xs us Q I rs q
theorem one_rep {K : PySem.W.Frag} {w : Wd} {d : D} {vs : List V} (R : Reps K w [d] vs) : ∃ v, vs = [v] ∧ Rep K w d v := by
  obtain ⟨v, r, rfl, h1, h2⟩ := R.inv
  rw [h2.inv0]
  exact ⟨v, rfl, h1⟩
theorem two_rep {K : PySem.W.Frag} {w : Wd} {d e : D} {vs : List V} (R : Reps K w [d, e] vs) : ∃ v u, vs = [v, u] ∧ Rep K w d v ∧ Rep K w e u := by
  obtain ⟨v, r, rfl, h1, h2⟩ := R.inv
  obtain ⟨u, rfl, h3⟩ := one_rep h2
  exact ⟨v, u, rfl, h1, h3⟩
def bLen : FB := fun ds st k => match ds with
  | [d] => match deref st d with
    | .lst xs => k (.int xs.length) st
    | .tup xs => k (.int xs.length) st
    | .str z => z.length ≤ 16777216 ∧ k (.int z.length) st
    | _ => False
  | _ => False
theorem cb_len : CallR X (.builtin "len") (rDB X.K bLen) := by
  refine CallR.by_ fun vs H Q w st ds kk W R q fo => ?_
  unfold bLen at q
  split at q
  · obtain ⟨v, rfl, R1⟩ := one_rep R
    split at q
    · rename_i hd
      obtain ⟨p, us, rfl, q1, r1, _⟩ := rep_lst W R1 hd
      refine ⟨_, call_len_seq, p, us, rfl, .inl q1, ?_⟩
      rw [r1.length]
      exact fo.id q W rep_int
    · rename_i hd
      obtain ⟨p, us, rfl, q1, r1, _⟩ := rep_tup W R1 hd
      refine ⟨_, call_len_seq, p, us, rfl, .inr q1, ?_⟩
      rw [r1.length]
      exact fo.id q W rep_int
    · rename_i hd
      have e0 := deref_self hd (fun _ z => by cases z) (fun _ z => by cases z)
      subst e0
      simp only [Rep] at R1
      subst R1
      exact ⟨_, call_len_str, _, rfl, line16 q.1, fo.id q.2 W rep_int⟩
    · exact q.elim
  · exact q.elim
def bAbs : FB := fun ds st k => match ds with
  | [.int i] => k (.int (if i < 0 then -i else i)) st
  | _ => False
theorem cb_abs : CallR X (.builtin "abs") (rDB X.K bAbs) := by
  refine CallR.by_ fun vs H Q w st ds kk W R q fo => ?_
  unfold bAbs at q
  split at q
  · obtain ⟨v, rfl, R1⟩ := one_rep R
    simp only [Rep] at R1
    subst R1
    exact ⟨_, call_abs, _, rfl, fo.id q W rep_int⟩
  · exact q.elim
def bInt : FB := fun ds st k => match ds with
  | [.int i] => k (.int i) st
  | [.bl b] => k (.int (if b = true then 1 else 0)) st
  | _ => False
theorem cb_int : CallR X (.type "int") (rDB X.K bInt) := by
  refine CallR.by_ fun vs H Q w st ds kk W R q fo => ?_
  unfold bInt at q
  split at q
  · obtain ⟨v, rfl, R1⟩ := one_rep R
    simp only [Rep] at R1
    subst R1
    exact ⟨_, call_int1, .inl ⟨_, rfl, fo.id q W rep_int⟩⟩
  · obtain ⟨v, rfl, R1⟩ := one_rep R
    simp only [Rep] at R1
    subst R1
    exact ⟨_, call_int1, .inr ⟨_, rfl, fo.id q W rep_int⟩⟩
  · exact q.elim
/-- a list of ints, read off -/
def intsD : List D → Option (List Int)
  | [] => some []
  | .int i :: r => (intsD r).map (i :: ·)
  | _ => none
theorem intsD_eq : ∀ {ds : List D} {ns : List Int}, intsD ds = some ns → ds = ns.map D.int
  | [], ns, h => by cases h; rfl
  | .int i :: r, ns, h => by
    have h' : (intsD r).map (i :: ·) = some ns := h
    cases e : intsD r with
    | none => rw [e] at h'; cases h'
    | some ms =>
      rw [e] at h'
      cases h'
      rw [intsD_eq e]
      rfl
  | .non :: _, _, h => by cases h
  | .bl _ :: _, _, h => by cases h
  | .str _ :: _, _, h => by cases h
  | .lst _ :: _, _, h => by cases h
  | .klst _ :: _, _, h => by cases h
  | .tup _ :: _, _, h => by cases h
  | .obj _ :: _, _, h => by cases h
  | .dic _ _ :: _, _, h => by cases h
  | .fdic _ _ :: _, _, h => by cases h
  | .gtup _ :: _, _, h => by cases h
theorem intsD_map : ∀ (ns : List Int), intsD (ns.map D.int) = some ns
  | [] => rfl
  | n :: ns => by
    show (intsD (ns.map D.int)).map (n :: ·) = _
    rw [intsD_map ns]
    rfl
def blsD : List D → Option (List Bool)
  | [] => some []
  | .bl i :: r => (blsD r).map (i :: ·)
  | _ => none
theorem blsD_eq : ∀ {ds : List D} {ns : List Bool}, blsD ds = some ns → ds = ns.map D.bl
  | [], ns, h => by cases h; rfl
  | .bl i :: r, ns, h => by
    have h' : (blsD r).map (i :: ·) = some ns := h
    cases e : blsD r with
    | none => rw [e] at h'; cases h'
    | some ms =>
      rw [e] at h'
      cases h'
      rw [blsD_eq e]
      rfl
  | .non :: _, _, h => by cases h
  | .int _ :: _, _, h => by cases h
  | .str _ :: _, _, h => by cases h
  | .lst _ :: _, _, h => by cases h
  | .klst _ :: _, _, h => by cases h
  | .tup _ :: _, _, h => by cases h
  | .obj _ :: _, _, h => by cases h
  | .dic _ _ :: _, _, h => by cases h
  | .fdic _ _ :: _, _, h => by cases h
  | .gtup _ :: _, _, h => by cases h
def bAll : FB := fun ds st k => match ds with
  | [d] => match deref st d with
    | .lst xs => match blsD xs with
      | some bs => k (.bl (bs.all id)) st
      | none => False
    | _ => False
  | _ => False
theorem cb_all (hc : X.calm = true) : CallR X (.builtin "all") (rDB X.K bAll) := by
  refine CallR.by_ fun vs H Q w st ds kk W R q fo => ?_
  unfold bAll at q
  split at q
  · obtain ⟨v, rfl, R1⟩ := one_rep R
    split at q
    · rename_i hd
      split at q
      · rename_i bs hb
        obtain ⟨p, us, rfl, q1, r1, _⟩ := rep_lst W R1 hd
        rw [blsD_eq hb] at r1
        refine ⟨_, cr_all hc, p, bs, rfl, ?_, fo.id q W rep_bl⟩
        rw [← r1.bls]
        exact q1
      · exact q.elim
    · exact q.elim
  · exact q.elim
def bMax2 : FB := fun ds st k => match ds with
  | [.int i, .int j] => k (.int (if j > i then j else i)) st
  | _ => False
theorem cb_max2 (hc : X.calm = true) : CallR X (.builtin "max") (rDB X.K bMax2) := by
  refine CallR.by_ fun vs H Q w st ds kk W R q fo => ?_
  unfold bMax2 at q
  split at q
  · obtain ⟨v, u, rfl, R1, R2⟩ := two_rep R
    simp only [Rep] at R1 R2
    subst R1 R2
    exact ⟨_, call_max2 hc, _, _, rfl, fo.id q W rep_int⟩
  · exact q.elim
def bListNew : FB := fun ds st k => match ds with
  | [d] => match deref st d with
    | .lst xs => k (.obj st.length) (st ++ [xs])
    | .tup xs => k (.obj st.length) (st ++ [xs])
    | _ => False
  | _ => False
theorem cb_listNew : CallR X (.type "list") (rDB X.K bListNew) := by
  refine CallR.by_ fun vs H Q w st ds kk W R q fo => ?_
  unfold bListNew at q
  split at q
  · obtain ⟨v, rfl, R1⟩ := one_rep R
    split at q
    · rename_i hd
      obtain ⟨p, us, rfl, q1, r1, n⟩ := rep_lst W R1 hd
      exact ⟨_, call_list_of, p, us, rfl, .inl q1, fol_new W r1 n q fo⟩
    · rename_i hd
      obtain ⟨p, us, rfl, q1, r1, n⟩ := rep_tup W R1 hd
      exact ⟨_, call_list_of, p, us, rfl, .inr q1, fol_new W r1 n q fo⟩
    · exact q.elim
  · exact q.elim
def bTuple : FB := fun ds st k => match ds with
  | [d] => match deref st d with
    | .lst xs => k (.tup xs) st
    | .tup xs => noG d (k (.tup xs) st)
    | _ => False
  | _ => False
theorem cb_tuple : CallR X (.type "tuple") (rDB X.K bTuple) := by
  refine CallR.by_ fun vs H Q w st ds kk W R q fo => ?_
  unfold bTuple at q
  split at q
  · obtain ⟨v, rfl, R1⟩ := one_rep R
    split at q
    · rename_i hd
      obtain ⟨p, us, rfl, q1, r1, n⟩ := rep_lst W R1 hd
      exact ⟨_, call_tuple_of, p, us, rfl, .inl ⟨q1, fol_tup W r1 n q fo⟩⟩
    · rename_i hd
      obtain ⟨ng, q⟩ := noG_of q
      have e0 := deref_tup hd ng
      obtain ⟨p, us, rfl, q1, r1, n⟩ := rep_tup W R1 hd
      refine ⟨_, call_tuple_of, p, us, rfl, .inr ⟨q1, fo.id q W ?_⟩⟩
      rw [← e0]
      exact R1
    · exact q.elim
  · exact q.elim
end
end DL

/-! enumerate over a tuple, and over either -/
namespace DL
open PySem PySem.Spec PyProof.Rows L2
theorem meetsEnumOne {v : Value} {ob : Obj} {G : Heap → Prop} (B : Begins v ob G) :
    Meets (Builtin.«enumerate.__new__» ⟨[.type "enumerate", v], []⟩) (fun _ R z => G z.heap ∧
      R (.ok (.ret (.ref (z.heap.push ob).objs.size))) { z with heap := (z.heap.push ob).push { cls := .type "enumerate", data := .fields #[.none, .bool false, .ref z.heap.objs.size, rawInt 0, .none, .none] } }) :=
  .of_wp fun pr w A R z hh => by
    obtain ⟨hp, gs, dr, tk, os⟩ := z
    obtain ⟨g1, hh⟩ := hh
    have hsub := sub_enumerate
    have into : ∀ {A1 : Around} {E : Value → Shared → Prop} {Q : Value → Shared → Prop}, Q (.ref hp.objs.size) ⟨hp.push ob, gs, dr, tk, os⟩ → wpAny (model pr w) A1 (pyIter v) Q E ⟨hp, gs, dr, tk, os⟩ :=
      fun q => B.iter pr w _ _ ⟨hp, gs, dr, tk, os⟩ _ g1 q
    wp_walk using into
    refine wpAny_stack_any fun stk => wpAny_pure ?_
    split
    · rename_i cl _ _ _ _ _
      cases (cl == Value.type "enumerate")
      · wp_walk using into
        exact ⟨_, rfl, hh⟩
      · wp_walk using into
        exact ⟨_, rfl, hh⟩
    · wp_walk using into
      exact ⟨_, rfl, hh⟩
theorem callEnumOne {pr : Program} {w : World} {A : Around} {E : Value → Shared → Prop} {z : Shared} {v : Value} {ob : Obj} {G : Heap → Prop} {Q : Value → Shared → Prop} (B : Begins v ob G) (g1 : G z.heap)
    (hh : ∀ h', IsEnum h' (z.heap.objs.size + 1) z.heap.objs.size 0 .none → h'.get? z.heap.objs.size = some ob → (∀ b o, z.heap.get? b = some o → h'.get? b = some o) → Q (.ref (z.heap.objs.size + 1)) { z with heap := h' }) :
    wpAny (model pr w) A (call (.type "enumerate") [v]) Q E z := by
  refine callType_new F.called_enumerate (by decide) (F.typeCall_enumerate_1 _) (F.newCall_enumerate_1 _) (fun ob1 => F.args_object_init_2 ob1 _) F.entry_enumerate_new (meetsEnumOne B) ⟨g1, ?_⟩
  have hz : (z.heap.push ob).objs.size = z.heap.objs.size + 1 := Heap.size_push ..
  show _ ∧ _
  rw [hz]
  have he : IsEnum ((z.heap.push ob).push { cls := .type "enumerate", data := .fields #[.none, .bool false, .ref z.heap.objs.size, rawInt 0, .none, .none] }) (z.heap.objs.size + 1) z.heap.objs.size 0 .none := by
    have this := Heap.get?_push_size (z.heap.push ob) (o := { cls := .type "enumerate", data := .fields #[.none, .bool false, .ref z.heap.objs.size, rawInt 0, .none, .none] }) rfl
    rw [hz] at this
    exact this
  refine ⟨⟨_, he, rfl⟩, hh _ he (Heap.get?_push_of_some _ (Heap.get?_push_size _ B.free)) fun b o q => Heap.get?_push_of_some _ (Heap.get?_push_of_some _ q)⟩
/-- the tuple at a, each item in a new pair -/
def IteT (K : PySem.W.Frag) (a : Addr) : It :=
  ⟨fun n H => ∃ (zs : List V) (u : V), SqT K H a zs ∧ zs[n]? = some u, fun n H v H' => ∃ T u, v = .ref T ∧ H T = none ∧ H' = upd H T (.tup [.int (n : Nat), u]) ∧ ∀ zs, SqT K H a zs → zs[n]? = some u, fun n H => ∃ zs : List V, SqT K H a zs ∧ zs.length = n⟩
theorem turnEnumT {Pg : Program} {w : World} {K : PySem.W.Frag} {elts : List Expr} {kk : Nat} {tpos : Pos} (a en it : Addr) :
    Turn Pg w K (.Tuple elts kk tpos) (IteT K a) [en, it] en (fun n h => (∃ old, IsEnum h en it ((n : Nat) : Int) old) ∧ h.IsTupleIter it a n ∧ en ≠ it ∧ a ≠ it ∧ a ≠ en) where
  mem := by simp
  obj := fun n h s1 b hb => by
    obtain ⟨⟨old, g1⟩, ⟨o, ho, hc, hd⟩, _⟩ := s1
    have e' : b = en ∨ b = it := by simpa using hb
    rcases e' with rfl | rfl
    · exact ⟨_, g1, fun v q => nomatch q⟩
    · exact ⟨o, ho, fun v q => by rw [hd] at q; cases q⟩
  keep := fun n h h' s1 kp => by
    obtain ⟨⟨old, g1⟩, g2, g3, g4, g5⟩ := s1
    exact ⟨⟨old, kp en (by simp) _ g1⟩, g2.at fun o q => kp it (by simp) o q, g3, g4, g5⟩
  item := by
    intro X hP hw hK hc n pins s σ H E I fps s1 hg
    subst hP hw hK
    obtain ⟨⟨old, g1⟩, g2, g3, g4, g5⟩ := s1
    obtain ⟨zs, u, hq, hu⟩ := hg
    obtain ⟨its, rv, p, hz⟩ := I.tuple hq
    obtain ⟨val, hv, ru⟩ := rv.get hu
    have lt1 : en < s.heap.objs.size := Heap.lt_size g1
    have lt2 : it < s.heap.objs.size := by
      obtain ⟨_, q, _⟩ := g2
      exact Heap.lt_size q
    have hn : n < its.toArray.size := by
      obtain ⟨h', _⟩ := List.getElem?_eq_some_iff.mp hv
      simpa using h'
    refine wpAny_pyNext_enum_itemD (Draws.tuple (A := X.A.in1) (show X.A.in1.handled = none from I.ok.hd hc) it a g4 its.toArray) g1 ⟨g2, p⟩ hn g3 (by simp; exact ⟨g3, Ne.symm g5⟩) fun x h' tk hP ho hst hT hsz hk => ?_
    have hx : x = val := by
      have : its.toArray[n]? = some val := by simpa using hv
      rw [this] at hP
      cases hP
      rfl
    subst hx
    refine ⟨_, rfl, wpAny_letOwnedTupleGo_enum (s := { s with heap := h', toks := tk + 1 }) ho fun h'' he' sb => ?_⟩
    have hT2 : h''.get? s.heap.objs.size = some { cls := .type "tuple", data := .seq #[.int n tk, x] } := (sb.2 _ (Nat.ne_of_gt lt1)).trans hT
    have fresh : ObjOk X.prog X.w (upd H s.heap.objs.size (.tup [.int (n : Nat), u])) h'' s.heap.objs.size (.tup [.int (n : Nat), u]) :=
      ⟨by show 2 ≤ sizeLine; decide, [.int n tk, x], .cons ⟨_, rfl⟩ (.cons ru .nil), ⟨_, hT2, rfl, _, rfl⟩⟩
    have I2 : Inv X pins σ (upd H s.heap.objs.size (.tup [.int (n : Nat), u])) { s with heap := h'', toks := tk + 1 } :=
      I.turnedNew (ch := [en, it]) (fun b o1 hb q => (sb.2 b (fun z => hb (by simp [z]))).trans (hk b o1 (fun z => hb (by simp [z])) (fun z => hb (by simp [z])) q)) fps (Nat.le_refl _) fresh
    refine ⟨.ref s.heap.objs.size, _, I2, rfl, ⟨_, u, rfl, I.hok.fresh (Nat.le_refl _), rfl, fun ys hy => by rw [I.tuple_inj hy hq]; exact hu⟩, ⟨⟨x, ?_⟩, hst.1.at fun o q => (sb.2 it (Ne.symm g3)).trans q, g3, g4, g5⟩, fun b hb => ?_⟩
    · have e1 : ((n + 1 : Nat) : Int) = (n : Int) + 1 := by omega
      rw [e1]
      exact he'
    · have hb' : b < s.heap.objs.size := by
        have e' : b = en ∨ b = it := by simpa using hb
        rcases e' with rfl | rfl
        · exact lt1
        · exact lt2
      rw [upd_ne (Nat.ne_of_lt hb')]
      exact (fps b hb).1
  done := by
    intro X hP hw hK hc n pins s σ H E I fps s1 hg
    subst hP hw hK
    obtain ⟨⟨old, g1⟩, g2, g3, g4, g5⟩ := s1
    obtain ⟨zs, hq, hu⟩ := hg
    obtain ⟨its, rv, p, hz⟩ := I.tuple hq
    obtain ⟨f0, f1, f2, f3, f4, f5⟩ := fps it (by simp)
    have hl := rv.length
    have hn : its.toArray.size = n := by
      rw [← hu, hl]
      simp
    subst hn
    exact wpAny_pyNext_enum_endD (Draws.tuple (A := X.A.in1) (show X.A.in1.handled = none from I.ok.hd hc) it a g4 its.toArray) g1 ⟨g2, p⟩ fun h' eb => ⟨rfl, I.turned (t' := s.toks) (fun b o hb q => eb b o hb q) f0 f1 f3 f4 f5⟩
  self := fun A n s Q E s1 h => let ⟨⟨_, g1⟩, _⟩ := s1; wpAny_pyIter_enum g1 h
def iEnumA (K : PySem.W.Frag) (ta : TA) : TI := fun σ H R => ta σ H fun vs H1 => ∃ a xs, vs = [.ref a] ∧ ((SqL K H1 a xs ∧ R (Ite K a) H1) ∨ (SqT K H1 a xs ∧ R (IteT K a) H1))
theorem piEnumA {X : Cx} {e : Expr} {ta : TA} {p pos tpos : Pos} {elts : List Expr} {kk : Nat} (hg : Gl X "enumerate") (hm : X.mg "enumerate" = none) (ha : PA X [e] ta) (hs : starEach [e] X.env = [(false, eval e X.env)] := by rfl) :
    PI X (.Tuple elts kk tpos) (.Call (.Name "enumerate" p) [e] [] pos) (iEnumA X.K ta) := by
  refine ⟨fun pins s σ H R I hh => ?_⟩
  refine Call_ (ld_blt I hg hm boot_enumerate (PyProof.Rows.callWith_type1 (thn (ha.run pos pins s σ H _ I hh) fun us z ⟨vs, H1, I1, r1, q1⟩ => ?_) hs rfl))
  obtain ⟨a, xs, ex, q1⟩ := q1
  subst ex
  cases r1 with
  | cons r rr =>
    cases rr
    cases r
    have fps : ∀ b, b ∈ [z.heap.objs.size + 1, z.heap.objs.size] → FpOk X pins H1 b := fun b hb => by
      have hle : z.heap.objs.size ≤ b := by
        have e' : b = z.heap.objs.size + 1 ∨ b = z.heap.objs.size := by simpa using hb
        omega
      exact I1.fpOk hle (I1.hok.fresh hle)
    rcases q1 with ⟨hq, q⟩ | ⟨hq, q⟩
    · obtain ⟨its, rv, p', hz⟩ := I1.list hq
      refine callEnumOne (begins_list a its.toArray) p'.isList fun h' he hit hk => wpAny_pyIter_enum he ?_
      have I2 : Inv X pins σ H1 { z with heap := h' } := I1.kept (t' := z.toks) hk
      exact ⟨z.heap.objs.size + 1, [z.heap.objs.size + 1, z.heap.objs.size], _, _, H1, rfl, I2, turn_enum a _ _, ⟨⟨.none, he⟩, ⟨_, hit, rfl, rfl⟩, Nat.succ_ne_self _⟩, fps, q⟩
    · obtain ⟨its, rv, p', hz⟩ := I1.tuple hq
      have la : a < z.heap.objs.size := by
        obtain ⟨_, q, _⟩ := p'
        exact Heap.lt_size q
      refine callEnumOne (begins_tuple a its.toArray) p' fun h' he hit hk => wpAny_pyIter_enum he ?_
      have I2 : Inv X pins σ H1 { z with heap := h' } := I1.kept (t' := z.toks) hk
      exact ⟨z.heap.objs.size + 1, [z.heap.objs.size + 1, z.heap.objs.size], _, _, H1, rfl, I2, turnEnumT a _ _, ⟨⟨.none, he⟩, ⟨_, hit, rfl, rfl⟩, Nat.succ_ne_self _, Nat.ne_of_lt la, Nat.ne_of_lt (Nat.lt_succ_of_lt la)⟩, fps, q⟩
end DL

namespace DL
open PySem PySem.Spec PyProof.Rows L2
/-! ### what is walked -/
def SrcOk : List (Nat × List D) → Sto → Prop
  | [], _ => True
  | p :: r, st => st[p.1]? = some p.2 ∧ SrcOk r st
structure DWk (K : PySem.W.Frag) (J : It) (w : Wd) (xs : List D) (src : List (Nat × List D)) : Prop where
  goes : ∀ (i : Nat) (w1 : Wd) (st1 : Sto) (H1 : Hp), i < xs.length → Le0 w w1 → Wld K w1 st1 H1 → SrcOk src st1 → J.go i H1
  stops : ∀ (w1 : Wd) (st1 : Sto) (H1 : Hp), Le0 w w1 → Wld K w1 st1 H1 → SrcOk src st1 → J.stop xs.length H1
  yields : ∀ (i : Nat) (w1 : Wd) (st1 : Sto) (H1 : Hp) (v : V) (H2 : Hp), i < xs.length → Le0 w w1 → Wld K w1 st1 H1 → SrcOk src st1 → J.yld i H1 v H2 →
    ∃ (w2 : Wd) (d : D), Le w1 w2 ∧ Wld K w2 st1 H2 ∧ xs[i]? = some d ∧ Rep K w2 d v
abbrev DIk := List D → List (Nat × List D) → Sto → Prop
abbrev DI := Env → Sto → DIk → Prop
def tDI (K : PySem.W.Frag) (t : DI) : TI := fun σ H R => ∃ w env st kk, Wld K w st H ∧ EnvR K w env σ ∧ t env st kk ∧ ∀ xs src st' w' H' J, kk xs src st' → Le w w' → Wld K w' st' H' → DWk K J w' xs src → R J H'
abbrev PDI (X : Cx) (tg e : Expr) (t : DI) : Prop := PI X tg e (tDI X.K t)
theorem _root_.L2.PI.wk {X : Cx} {tg e : Expr} {t t' : TI} (h : PI X tg e t) (i : ∀ σ H R, t' σ H R → t σ H R) : PI X tg e t' := ⟨fun pins s σ H R I q => h.run pins s σ H R I (i σ H R q)⟩
def srcOf (d : D) (xs : List D) : List (Nat × List D) := match d with
  | .obj i => [(i, xs)]
  | _ => []
section
variable {K : PySem.W.Frag} {w w' w1 : Wd} {st st1 : Sto} {H H1 : Hp}
theorem src_seq {d : D} {a : Addr} {xs : List D} (R : Rep K w d (.ref a)) (e : deref st d = .lst xs) (l : Le0 w w1) (W1 : Wld K w1 st1 H1) (s : SrcOk (srcOf d xs) st1) : ∃ vs, SqL K H1 a vs ∧ Reps K w1 xs vs := by
  have e1 : deref st1 d = .lst xs := by
    cases d with
    | obj i =>
      have s' : st1[i]? = some xs := s.1
      show (match st1[i]? with | some xs => D.lst xs | none => D.obj i) = .lst xs
      rw [s']
    | _ => exact e
  obtain ⟨a', vs, ea, q, r, _⟩ := rep_lst W1 (Rep.mono' l.same l.pre _ _ R) e1
  cases ea
  exact ⟨vs, q, r⟩
theorem tup_seq {d : D} {a : Addr} {xs : List D} (R : Rep K w d (.ref a)) (e : deref st d = .tup xs) (l : Le0 w w1) (W1 : Wld K w1 st1 H1) : ∃ vs, SqT K H1 a vs ∧ Reps K w1 xs vs := by
  obtain ⟨a', vs, ea, q, r, _⟩ := rep_tup W1 (Rep.mono' l.same l.pre _ _ R) (deref_tups e st1)
  cases ea
  exact ⟨vs, q, r⟩
theorem wk_list {d : D} {a : Addr} {xs : List D} (R : Rep K w d (.ref a)) (e : deref st d = .lst xs) : DWk K (Itl K a) w xs (srcOf d xs) where
  goes := fun i w1 st1 H1 hi l W1 s => by
    obtain ⟨vs, q, r⟩ := src_seq R e l W1 s
    exact (walk_list (xs := vs)).goes i H1 (by rw [r.length]; exact hi) q
  stops := fun w1 st1 H1 l W1 s => by
    obtain ⟨vs, q, r⟩ := src_seq R e l W1 s
    rw [← r.length]
    exact (walk_list (xs := vs)).stops H1 q
  yields := fun i w1 st1 H1 v H2 hi l W1 s y => by
    obtain ⟨vs, q, r⟩ := src_seq R e l W1 s
    obtain ⟨rfl, h⟩ := (walk_list (xs := vs)).yields i H1 v H2 (by rw [r.length]; exact hi) q y
    obtain ⟨d', h1, h2⟩ := r.getv h
    exact ⟨w1, d', .refl _, W1, h1, h2⟩
theorem wk_tup {d : D} {a : Addr} {xs : List D} (R : Rep K w d (.ref a)) (e : deref st d = .tup xs) : DWk K (Itt K a) w xs [] where
  goes := fun i w1 st1 H1 hi l W1 s => by
    obtain ⟨vs, q, r⟩ := tup_seq R e l W1
    exact (walk_tup (xs := vs)).goes i H1 (by rw [r.length]; exact hi) q
  stops := fun w1 st1 H1 l W1 s => by
    obtain ⟨vs, q, r⟩ := tup_seq R e l W1
    rw [← r.length]
    exact (walk_tup (xs := vs)).stops H1 q
  yields := fun i w1 st1 H1 v H2 hi l W1 s y => by
    obtain ⟨vs, q, r⟩ := tup_seq R e l W1
    obtain ⟨rfl, h⟩ := (walk_tup (xs := vs)).yields i H1 v H2 (by rw [r.length]; exact hi) q y
    obtain ⟨d', h1, h2⟩ := r.getv h
    exact ⟨w1, d', .refl _, W1, h1, h2⟩
def signs (z : Str) : List D := z.cps.toList.map fun c => .str ⟨#[c]⟩
theorem signs_length (z : Str) : (signs z).length = z.cps.size := by unfold signs; rw [List.length_map, Array.length_toList]
theorem wk_str {z : Str} : DWk K (Its z) w (signs z) [] where
  goes := fun i w1 st1 H1 hi l W1 s => walk_str.goes i H1 (by rw [signs_length] at hi; exact hi) trivial
  stops := fun w1 st1 H1 l W1 s => by
    rw [signs_length]
    exact walk_str.stops H1 trivial
  yields := fun i w1 st1 H1 v H2 hi l W1 s y => by
    rw [signs_length] at hi
    obtain ⟨rfl, c, h1, rfl⟩ := walk_str.yields i H1 v H2 hi trivial y
    refine ⟨w1, .str ⟨#[c]⟩, .refl _, W1, ?_, rep_str⟩
    unfold signs
    rw [List.getElem?_map, Array.getElem?_toList, h1]
    rfl
/-- lo, lo + 1, .. -/
def rangeD (lo : Int) (n : Nat) : List D := (List.range n).map fun i => .int (lo + (i : Nat))
theorem rangeD_length (lo : Int) (n : Nat) : (rangeD lo n).length = n := by simp [rangeD]
theorem wk_range {lo : Int} {n : Nat} : DWk K (Itr lo n) w (rangeD lo n) [] where
  goes := fun i w1 st1 H1 hi l W1 s => walk_range.goes i H1 (by rw [rangeD_length] at hi; exact hi) trivial
  stops := fun w1 st1 H1 l W1 s => by
    rw [rangeD_length]
    exact walk_range.stops H1 trivial
  yields := fun i w1 st1 H1 v H2 hi l W1 s y => by
    rw [rangeD_length] at hi
    obtain ⟨rfl, rfl⟩ := walk_range.yields i H1 v H2 hi trivial y
    refine ⟨w1, .int (lo + (i : Nat)), .refl _, W1, ?_, rep_int⟩
    unfold rangeD
    rw [List.getElem?_map, List.getElem?_range hi]
    rfl
def stepD (lo c : Int) (n : Nat) : List D := (List.range n).map fun i => .int (lo + (i : Nat) * c)
theorem stepD_length (lo c : Int) (n : Nat) : (stepD lo c n).length = n := by simp [stepD]
theorem wk_step {lo c : Int} {n : Nat} : DWk K (Itc lo c n) w (stepD lo c n) [] where
  goes := fun i w1 st1 H1 hi l W1 s => walk_rangeC.goes i H1 (by rw [stepD_length] at hi; exact hi) trivial
  stops := fun w1 st1 H1 l W1 s => by
    rw [stepD_length]
    exact walk_rangeC.stops H1 trivial
  yields := fun i w1 st1 H1 v H2 hi l W1 s y => by
    rw [stepD_length] at hi
    obtain ⟨rfl, rfl⟩ := walk_rangeC.yields i H1 v H2 hi trivial y
    refine ⟨w1, .int (lo + (i : Nat) * c), .refl _, W1, ?_, rep_int⟩
    unfold stepD
    rw [List.getElem?_map, List.getElem?_range hi]
    rfl
/-- a new pair of what is represented -/
theorem pair_put (W : Wld K w st H) {T : Addr} {x y : V} {d e : D} (hT : H T = none) (r1 : Rep K w d x) (r2 : Rep K w e y) :
    ∃ w2, Le w w2 ∧ Wld K w2 st (upd H T (.tup [x, y])) ∧ Rep K w2 (.tup [d, e]) (.ref T) := by
  have l := Le.put (w := w) (o := .tup [x, y]) (W.free hT)
  refine ⟨w.put T (.tup [x, y]), l, W.put hT (by show 2 ≤ sizeLine; decide), ?_⟩
  simp only [Rep]
  exact ⟨T, [x, y], rfl, upd_same, .cons (Rep.mono l _ _ r1) (.cons (Rep.mono l _ _ r2) .nil)⟩
def enumD : Nat → List D → List D
  | _, [] => []
  | n, x :: r => .tup [.int (n : Nat), x] :: enumD (n + 1) r
theorem enumD_length : ∀ (n : Nat) (xs : List D), (enumD n xs).length = xs.length
  | _, [] => rfl
  | n, x :: r => by simp [enumD, enumD_length (n + 1) r]
theorem enumD_get : ∀ (n : Nat) (xs : List D) (i : Nat) (d : D), xs[i]? = some d → (enumD n xs)[i]? = some (.tup [.int ((n + i : Nat) : Int), d])
  | _, [], _, _, h => by simp at h
  | n, x :: r, 0, d, h => by
    simp at h
    subst h
    simp [enumD]
  | n, x :: r, i + 1, d, h => by
    have := enumD_get (n + 1) r i d (by simpa using h)
    simp only [enumD, List.getElem?_cons_succ]
    rw [this]
    have e : n + 1 + i = n + (i + 1) := by omega
    rw [e]
theorem wk_enum {d : D} {a : Addr} {xs : List D} (R : Rep K w d (.ref a)) (e : deref st d = .lst xs) : DWk K (Ite K a) w (enumD 0 xs) (srcOf d xs) where
  goes := fun i w1 st1 H1 hi l W1 s => by
    obtain ⟨vs, q, r⟩ := src_seq R e l W1 s
    rw [enumD_length] at hi
    exact (walk_enum (xs := vs)).goes i H1 (by rw [r.length]; exact hi) q
  stops := fun w1 st1 H1 l W1 s => by
    obtain ⟨vs, q, r⟩ := src_seq R e l W1 s
    rw [enumD_length, ← r.length]
    exact (walk_enum (xs := vs)).stops H1 q
  yields := fun i w1 st1 H1 v H2 hi l W1 s y => by
    obtain ⟨vs, q, r⟩ := src_seq R e l W1 s
    rw [enumD_length] at hi
    obtain ⟨T, x, y, rfl, hT, rfl, h1, h2⟩ := (walk_enum (xs := vs)).yields i H1 v H2 (by rw [r.length]; exact hi) q y
    cases h1
    obtain ⟨d', g1, g2⟩ := r.getv h2
    obtain ⟨w2, l2, W2, R2⟩ := pair_put W1 hT (rep_int (a := (i : Nat))) g2
    refine ⟨w2, _, l2, W2, ?_, R2⟩
    rw [enumD_get 0 xs i d' g1, Nat.zero_add]
theorem wk_enumT {d : D} {a : Addr} {xs : List D} (R : Rep K w d (.ref a)) (e : deref st d = .tup xs) : DWk K (IteT K a) w (enumD 0 xs) [] where
  goes := fun i w1 st1 H1 hi l W1 s => by
    obtain ⟨vs, q, r⟩ := tup_seq R e l W1
    rw [enumD_length] at hi
    exact ⟨vs, vs[i]'(by rw [r.length]; exact hi), q, List.getElem?_eq_getElem _⟩
  stops := fun w1 st1 H1 l W1 s => by
    obtain ⟨vs, q, r⟩ := tup_seq R e l W1
    rw [enumD_length, ← r.length]
    exact ⟨vs, q, rfl⟩
  yields := fun i w1 st1 H1 v H2 hi l W1 s y => by
    obtain ⟨vs, q, r⟩ := tup_seq R e l W1
    rw [enumD_length] at hi
    obtain ⟨T, y, rfl, hT, rfl, h2⟩ := y
    obtain ⟨d', g1, g2⟩ := r.getv (h2 vs q)
    obtain ⟨w2, l2, W2, R2⟩ := pair_put W1 hT (rep_int (a := (i : Nat))) g2
    refine ⟨w2, _, l2, W2, ?_, R2⟩
    rw [enumD_get 0 xs i d' g1, Nat.zero_add]
theorem SrcOk.split {a b : List (Nat × List D)} {st : Sto} : SrcOk (a ++ b) st → SrcOk a st ∧ SrcOk b st := by
  induction a with
  | nil => intro h; exact ⟨trivial, h⟩
  | cons p r ih => intro h; exact ⟨⟨h.1, (ih h.2).1⟩, (ih h.2).2⟩
end
section
variable {X : Cx} {tg e e2 : Expr} {pos p : Pos} {ta tb : DE}
def rIt (K : PySem.W.Frag) (x : V) (H : Hp) (R : It → Hp → Prop) : Prop :=
  (∃ a xs, x = .ref a ∧ SqL K H a xs ∧ R (Itl K a) H) ∨ (∃ a xs, x = .ref a ∧ SqT K H a xs ∧ R (Itt K a) H) ∨ ∃ z, x = .str z ∧ R (Its z) H
theorem pi_any {tl : TE} (hl : PE X e tl) : PI X tg e (fun σ H R => tl σ H fun x H1 => rIt X.K x H1 R) := by
  refine ⟨fun pins s σ H R I h => thn (hl.run pins s σ H _ I h) fun v s1 ⟨x, H1, I1, r1, q1⟩ => ?_⟩
  rcases q1 with ⟨a, xs, rfl, hq, q⟩ | ⟨a, xs, rfl, hq, q⟩ | ⟨z, rfl, q⟩
  · cases r1
    obtain ⟨its, rv, pl, hz⟩ := I1.list hq
    exact wpAny_pyIter_list pl.isList (pi_one (tk := s1.toks) I1 _ (turn_list a _) ⟨_, Heap.get?_push_size _ rfl, rfl, rfl⟩ q)
  · cases r1
    obtain ⟨its, rv, pl, hz⟩ := I1.tuple hq
    exact wpAny_pyIter_tuple (show s1.heap.IsTuple a its.toArray from pl) (pi_one (tk := s1.toks) I1 _ (turn_tuple a _) ⟨_, Heap.get?_push_size _ rfl, rfl, rfl⟩ q)
  · obtain ⟨t, rfl⟩ := r1
    by_cases ha : z.cps.all (· < 128) = true
    · exact wpAny_pyIter_ascii ha (pi_one (tk := s1.toks) I1 _ (turn_str _ z t "str_ascii_iterator" (.inl rfl)) ⟨_, Heap.get?_push_size _ rfl, rfl, rfl⟩ q)
    · exact wpAny_pyIter_wide (by simpa using ha) (pi_one (tk := s1.toks) I1 _ (turn_str _ z t "str_iterator" (.inr rfl)) ⟨_, Heap.get?_push_size _ rfl, rfl, rfl⟩ q)
def dIter (t : DE) : DI := fun env st kk => t env st fun d s1 => match deref s1 d with
  | .lst xs => xs.length ≤ 16777216 → kk xs (srcOf d xs) s1
  | .tup xs => xs.length ≤ 16777216 → kk xs [] s1
  | .str z => kk (signs z) [] s1
  | _ => False
theorem line_of {n : Nat} (h : n ≤ sizeLine) : n ≤ 16777216 := by rw [sizeLine_eq] at h; exact h
theorem pdi_any (h : PD X e ta) : PDI X tg e (dIter ta) := by
  refine (pi_any h).wk fun σ H R ⟨w, env, st, kk, W, E, h, fo⟩ => ?_
  refine ⟨w, env, st, _, W, E, h, fun d st1 v w1 H1 h1 l1 W1 R1 => ?_⟩
  split at h1
  · rename_i xs hd
    obtain ⟨a, vs, rfl, q, r, n⟩ := rep_lst W1 R1 hd
    exact .inl ⟨a, vs, rfl, q, fo _ _ _ _ _ _ (h1 (by rw [← r.length]; exact line_of n)) l1 W1 (wk_list R1 hd)⟩
  · rename_i xs hd
    obtain ⟨a, vs, rfl, q, r, n⟩ := rep_tup W1 R1 hd
    exact .inr (.inl ⟨a, vs, rfl, q, fo _ _ _ _ _ _ (h1 (by rw [← r.length]; exact line_of n)) l1 W1 (wk_tup R1 hd)⟩)
  · rename_i z hd
    have e0 := deref_self hd (fun _ z => by cases z) (fun _ z => by cases z)
    subst e0
    simp only [Rep] at R1
    exact .inr (.inr ⟨z, R1, fo _ _ _ _ _ _ h1 l1 W1 wk_str⟩)
  · exact h1.elim
def dRng1 (t : DE) : DI := fun env st kk => t env st fun d s1 => match d with
  | .int j => (-(2 ^ 62) ≤ j ∧ j < 2 ^ 62) ∧ kk (rangeD 0 j.toNat) [] s1
  | _ => False
def dRng2 (t u : DE) : DI := fun env st kk => t env st fun d s1 => u env s1 fun e s2 => match d, e with
  | .int i, .int j => (-(2 ^ 62) ≤ i ∧ i < 2 ^ 62 ∧ -(2 ^ 62) ≤ j ∧ j < 2 ^ 62) ∧ kk (rangeD i (j - i).toNat) [] s2
  | _, _ => False
theorem pdi_range1 (hm : X.mg "range" = none) (ha : PD X e ta) (hg : Gl X "range" := by rfl) (hs : starEach [e] X.env = [(false, eval e X.env)] := by rfl) : PDI X tg (.Call (.Name "range" p) [e] [] pos) (dRng1 ta) := by
  refine (pi_range1 hg hm (pa_cons ha pa_nil hs) hs).wk fun σ H R ⟨w, env, st, kk, W, E, h, fo⟩ => ?_
  refine ⟨w, env, st, _, W, E, h, fun d st1 v w1 H1 h1 l1 W1 R1 => ?_⟩
  split at h1
  · simp only [Rep] at R1
    subst R1
    exact ⟨_, rfl, h1.1.1, h1.1.2, fo _ _ _ _ _ _ h1.2 l1 W1 wk_range⟩
  · exact h1.elim
theorem pdi_range2 (hm : X.mg "range" = none) (ha : PD X e ta) (hb : PD X e2 tb) (hg : Gl X "range" := by rfl) (hs : starEach [e, e2] X.env = [(false, eval e X.env), (false, eval e2 X.env)] := by rfl) (hs2 : starEach [e2] X.env = [(false, eval e2 X.env)] := by rfl) : PDI X tg (.Call (.Name "range" p) [e, e2] [] pos) (dRng2 ta tb) := by
  refine (pi_range2 hg hm (pa_cons ha (pa_cons hb pa_nil hs2) (hs.trans (by rw [hs2]))) hs hs2).wk fun σ H R ⟨w, env, st, kk, W, E, h, fo⟩ => ?_
  refine ⟨w, env, st, _, W, E, h, fun d st1 v w1 H1 h1 l1 W1 R1 => ⟨w1, env, st1, _, W1, E.mono l1, h1, fun e' st2 u w2 H2 h2 l2 W2 R2 => ?_⟩⟩
  split at h2
  · simp only [Rep] at R1 R2
    subst R1 R2
    exact ⟨_, _, rfl, h2.1, fo _ _ _ _ _ _ h2.2 (l1.trans l2) W2 wk_range⟩
  · exact h2.elim
def dEnum (t : DE) : DI := fun env st kk => t env st fun d s1 => match deref s1 d with
  | .lst xs => xs.length ≤ 16777216 → kk (enumD 0 xs) (srcOf d xs) s1
  | .tup xs => xs.length ≤ 16777216 → kk (enumD 0 xs) [] s1
  | _ => False
theorem pdi_enum {elts : List Expr} {k : Nat} {tpos : Pos} (hm : X.mg "enumerate" = none) (ha : PD X e ta) (hg : Gl X "enumerate" := by rfl) (hs : starEach [e] X.env = [(false, eval e X.env)] := by rfl) :
    PDI X (.Tuple elts k tpos) (.Call (.Name "enumerate" p) [e] [] pos) (dEnum ta) := by
  refine (piEnumA hg hm (pa_cons ha pa_nil hs) hs).wk fun σ H R ⟨w, env, st, kk, W, E, h, fo⟩ => ?_
  refine ⟨w, env, st, _, W, E, h, fun d st1 v w1 H1 h1 l1 W1 Rv => ?_⟩
  split at h1
  · rename_i xs hd
    obtain ⟨a, vs, rfl, q, r, n⟩ := rep_lst W1 Rv hd
    exact ⟨a, vs, rfl, .inl ⟨q, fo _ _ _ _ _ _ (h1 (by rw [← r.length]; exact line_of n)) l1 W1 (wk_enum Rv hd)⟩⟩
  · rename_i xs hd
    obtain ⟨a, vs, rfl, q, r, n⟩ := rep_tup W1 Rv hd
    exact ⟨a, vs, rfl, .inr ⟨q, fo _ _ _ _ _ _ (h1 (by rw [← r.length]; exact line_of n)) l1 W1 (wk_enumT Rv hd)⟩⟩
  · exact h1.elim
/-! ### loops -/
def goFor (src : List (Nat × List D)) (g : DG) (b : DS) (E : DEnds) : List D → Env → Sto → Prop
  | [], env, st => SrcOk src st ∧ E.nx env st
  | x :: r, env, st => SrcOk src st ∧ g x env st fun env' st' => b { E with nx := fun env2 st2 => goFor src g b E r env2 st2 } env' st'
def dFor (di : DI) (g : DG) (b : DS) : DS := fun E env st => di env st fun xs src s1 => goFor src g b E xs env s1
theorem pds_for {iter : Expr} {body : List Stmt} {di : DI} {g : DG} {b : DS} (hp : PassesOwn (model X.prog X.w) X.A X.env X.xe) (hc : X.calm = true) (hi : PDI X tg iter di) (hg : PDG X tg g) (hb : PDSs X body b)
    (hs : ∀ x, foldedSetIterable iter X.env x = pure x := by intro _; rfl) : PDS X (.For tg iter body [] pos) (dFor di g b) := by
  refine (ps_for hp hc hi hg hb hs).wk fun Ed σ H ⟨w, env, st, E0, W, E, h, fn, fr⟩ => ?_
  refine ⟨w, env, st, _, W, E, h, fun xs src st1 w1 H1 J h1 l1 W1 wk => ?_⟩
  refine ⟨fun i m σ2 H2 => m = xs.length - i ∧ i ≤ xs.length ∧ ∃ w2 env2 st2, Le w1 w2 ∧ Wld X.K w2 st2 H2 ∧ EnvR X.K w2 env2 σ2 ∧ goFor src g b E0 (xs.drop i) env2 st2,
    ⟨xs.length, by simp, Nat.zero_le _, w1, env, st1, .refl _, W1, E.mono l1, by simpa using h1⟩, ?_⟩
  rintro i m σ2 H2 ⟨rfl, hi, w2, env2, st2, l2, W2, E2, q⟩
  by_cases hlt : i < xs.length
  · rw [List.drop_eq_getElem_cons hlt] at q
    obtain ⟨so, q⟩ := q
    refine .inr ⟨wk.goes i w2 st2 H2 hlt l2.toLe0 W2 so, fun σ' H' => ∃ w3 env3 st3, Le w1 w3 ∧ Wld X.K w3 st3 H' ∧ EnvR X.K w3 env3 σ' ∧ goFor src g b E0 (xs.drop (i + 1)) env3 st3, fun σ' H' pv => ⟨xs.length - (i + 1), by omega, rfl, hlt, pv⟩, fun v H3 y => ?_⟩
    obtain ⟨w3, d, l3, W3, e3, R3⟩ := wk.yields i w2 st2 H2 v H3 hlt l2.toLe0 W2 so y
    have ed : d = xs[i] := by
      rw [List.getElem?_eq_getElem hlt] at e3
      exact (Option.some.inj e3).symm
    rw [← ed] at q
    refine ⟨w3, env2, st2, d, _, W3, E2.mono l3, R3, q, fun env4 st4 σ4 w4 H4 h4 l4 W4 E4 => ?_⟩
    have l14 := (l2.trans l3).trans l4
    exact ⟨w4, env4, st4, _, W4, E4, h4, fun env5 st5 σ5 w5 H5 h5 l5 W5 E5 => ⟨w5, env5, st5, l14.trans l5, W5, E5, h5⟩, fr.le (l1.trans l14)⟩
  · have hie : i = xs.length := by omega
    subst hie
    rw [List.drop_length] at q
    exact .inl ⟨wk.stops w2 st2 H2 l2.toLe0 W2 q.1, fn _ _ _ _ _ q.2 (l1.trans l2) W2 E2⟩
def dWhile (c : DT) (b : DS) : DS := fun E env st => ∃ I : Nat → Env → Sto → Prop, (∃ m, I m env st) ∧ ∀ m env st, I m env st →
  c env st fun k s1 => if k = true then b { E with nx := fun env2 st2 => ∃ m', m' < m ∧ I m' env2 st2 } env s1 else E.nx env s1
theorem pds_while {c : Expr} {body : List Stmt} {tc : DT} {b : DS} (hp : PassesOwn (model X.prog X.w) X.A X.env X.xe) (hc : PDT X c tc) (hb : PDSs X body b) : PDS X (.While c body [] pos) (dWhile tc b) := by
  refine (ps_while hp hc hb).wk fun Ed σ H ⟨w, env, st, E0, W, E, ⟨I, ⟨m0, h0⟩, turn⟩, fn, fr⟩ => ?_
  refine ⟨fun m σ2 H2 => ∃ w2 env2 st2, Le w w2 ∧ Wld X.K w2 st2 H2 ∧ EnvR X.K w2 env2 σ2 ∧ I m env2 st2, ⟨m0, w, env, st, .refl _, W, E, h0⟩, ?_⟩
  rintro m σ2 H2 ⟨w2, env2, st2, l2, W2, E2, q⟩
  refine ⟨w2, env2, st2, _, W2, E2, turn m env2 st2 q, fun k st3 w3 H3 h3 l3 W3 => ?_⟩
  cases k with
  | true =>
    simp only [↓reduceIte] at h3 ⊢
    refine ⟨fun σ' H' => ∃ m', m' < m ∧ ∃ w4 env4 st4, Le w w4 ∧ Wld X.K w4 st4 H' ∧ EnvR X.K w4 env4 σ' ∧ I m' env4 st4, fun σ' H' pv => pv, ?_⟩
    exact ⟨w3, env2, st3, _, W3, E2.mono l3, h3, fun env5 st5 σ5 w5 H5 ⟨m', hm, h5⟩ l5 W5 E5 => ⟨m', hm, w5, env5, st5, (l2.trans l3).trans l5, W5, E5, h5⟩, fr.le (l2.trans l3)⟩
  | false =>
    simp only [Bool.false_eq_true, ↓reduceIte] at h3 ⊢
    exact fn _ _ _ _ _ h3 (l2.trans l3) W3 (E2.mono l3)

/-! ### list comprehensions -/
def wipeE (env : Env) : List Nat → Env
  | [] => env
  | v :: vs => (wipeE env vs).set v none
theorem EnvR.wipe {K : PySem.W.Frag} {w : Wd} {env : Env} {σ : L2.St} (h : EnvR K w env σ) : ∀ vs : List Nat, EnvR K w (wipeE env vs) (wipe σ vs)
  | [] => h
  | v :: vs => (h.wipe vs).unset v
def goLc (src : List (Nat × List D)) (g : DG) (tt : DT) (te : DE) (vs : List Nat) (env : Env) (k : List D → Sto → Prop) : List D → List D → Sto → Prop
  | [], acc, st => SrcOk src st ∧ k acc st
  | x :: r, acc, st => SrcOk src st ∧ g x (wipeE env vs) st fun env' st' => tt env' st' fun b s1 =>
      if b = true then te env' s1 fun d s2 => goLc src g tt te vs env k r (acc ++ [d]) s2 else goLc src g tt te vs env k r acc s1
/-- a comprehension's list: nobody changes it -/
def dLc (di : DI) (g : DG) (tt : DT) (te : DE) (vs : List Nat) : DE := fun env st k => di env st fun xs src s1 => xs.length ≤ 16777216 ∧ goLc src g tt te vs env (fun acc s2 => k (.lst acc) s2) xs [] s1
/-- .. a list of the store -/
def dLcNew (di : DI) (g : DG) (tt : DT) (te : DE) (vs : List Nat) : DE := fun env st k => di env st fun xs src s1 => xs.length ≤ 16777216 ∧ goLc src g tt te vs env (fun acc s2 => k (.obj s2.length) (s2 ++ [acc])) xs [] s1
theorem Reps.rh {K : PySem.W.Frag} {w : Wd} {ds : List D} {vs : List V} (h : Reps K w ds vs) (l : List (Addr × List V)) : Reps K ⟨w.G, w.as, l, w.dk, w.lk⟩ ds vs := Reps.mono' (w := w) (w' := ⟨w.G, w.as, l, w.dk, w.lk⟩) (Same.refl w.G) (.eq rfl rfl) _ _ h
theorem Rep.rh {K : PySem.W.Frag} {w : Wd} {d : D} {v : V} (h : Rep K w d v) (l : List (Addr × List V)) : Rep K ⟨w.G, w.as, l, w.dk, w.lk⟩ d v := Rep.mono' (w := w) (w' := ⟨w.G, w.as, l, w.dk, w.lk⟩) (Same.refl w.G) (.eq rfl rfl) _ _ h
theorem EntR.rh {K : PySem.W.Frag} {w : Wd} {k : Option Kd} {L : Lk} {xs : List D} {o : HO} (h : EntR K w k L xs o) (l : List (Addr × List V)) : EntR K ⟨w.G, w.as, l, w.dk, w.lk⟩ k L xs o := EntR.mono' (w := w) (w' := ⟨w.G, w.as, l, w.dk, w.lk⟩) (Same.refl w.G) (.eq rfl rfl) h
theorem EntR.rg {K : PySem.W.Frag} {w : Wd} {k : Option Kd} {L : Lk} {xs : List D} {o : HO} (h : EntR K w k L xs o) {G : Hp} (s : Same w.G G) (l : List (Addr × List V)) : EntR K ⟨G, w.as, l, w.dk, w.lk⟩ k L xs o := EntR.mono' (w := w) (w' := ⟨G, w.as, l, w.dk, w.lk⟩) s (.eq rfl rfl) h
theorem Reps.rg {K : PySem.W.Frag} {w : Wd} {ds : List D} {vs : List V} (h : Reps K w ds vs) {G : Hp} (s : Same w.G G) (l : List (Addr × List V)) : Reps K ⟨G, w.as, l, w.dk, w.lk⟩ ds vs := Reps.mono' (w := w) (w' := ⟨G, w.as, l, w.dk, w.lk⟩) s (.eq rfl rfl) _ _ h
/-- a list in the making is laid -/
theorem Wld.hide {K : PySem.W.Frag} {w : Wd} {st : Sto} {H : Hp} (W : Wld K w st H) {p : Addr} {vs : List V} (h : H p = none) : Wld K ⟨w.G, w.as, (p, vs) :: w.hid, w.dk, w.lk⟩ st (upd H p (.lst vs)) where
  same := fun b u e => by
    have ne : b ≠ p := fun z => by
      have e' : w.G b = some u := e
      rw [z, W.free h] at e'
      cases e'
    rw [upd_ne ne]
    exact W.same b u e
  len := W.len
  nd := W.nd
  at_ := fun i a e => by
    obtain ⟨g, xs, us, h1, h2, h3⟩ := W.at_ i a e
    have ne : a ≠ p := fun z => by rw [z, h] at h2; cases h2
    exact ⟨g, xs, us, h1, by rw [upd_ne ne]; exact h2, h3.rh _⟩
  small := W.small
  hidd := fun a us m => by
    rcases List.mem_cons.mp m with z | z
    · cases z
      exact ⟨W.free h, W.nas h, upd_same⟩
    · obtain ⟨g, n, h1⟩ := W.hidd a us z
      have ne : a ≠ p := fun z => by rw [z, h] at h1; cases h1
      exact ⟨g, n, by rw [upd_ne ne]; exact h1⟩
  hnd := by
    show (p :: w.hid.map (·.1)).Nodup
    refine List.nodup_cons.mpr ⟨fun m => ?_, W.hnd⟩
    obtain ⟨⟨a, us⟩, m1, m2⟩ := List.mem_map.mp m
    have m2' : a = p := m2
    subst m2'
    have := (W.hidd a us m1).2.2
    rw [h] at this
    cases this
/-- the list in the making has grown -/
theorem Wld.regrow {K : PySem.W.Frag} {w : Wd} {st : Sto} {H : Hp} {p : Addr} {vs us : List V} {r : List (Addr × List V)} (W : Wld K w st H) (hh : w.hid = (p, vs) :: r) : Wld K ⟨w.G, w.as, (p, us) :: r, w.dk, w.lk⟩ st (upd H p (.lst us)) := by
  obtain ⟨g0, n0, h0⟩ := W.hidd p vs (by rw [hh]; exact List.mem_cons_self)
  have hnd := W.hnd
  rw [hh] at hnd
  have hnd' : (p :: r.map (·.1)).Nodup := hnd
  refine ⟨fun b u e => ?_, W.len, W.nd, fun i a e => ?_, W.small, fun a zs m => ?_, hnd'⟩
  · have ne : b ≠ p := fun z => by
      have e' : w.G b = some u := e
      rw [z, g0] at e'
      cases e'
    rw [upd_ne ne]
    exact W.same b u e
  · obtain ⟨g, xs, zs, h1, h2, h3⟩ := W.at_ i a e
    have ne : a ≠ p := fun z => n0 (by rw [← z]; exact List.mem_of_getElem? e)
    exact ⟨g, xs, zs, h1, by rw [upd_ne ne]; exact h2, h3.rh _⟩
  · rcases List.mem_cons.mp m with z | z
    · cases z
      exact ⟨g0, n0, upd_same⟩
    · obtain ⟨g, n, h1⟩ := W.hidd a zs (by rw [hh]; exact List.mem_cons_of_mem _ z)
      have ne : a ≠ p := fun q => (List.nodup_cons.mp hnd').1 (by rw [← q]; exact List.mem_map.mpr ⟨_, z, rfl⟩)
      exact ⟨g, n, by rw [upd_ne ne]; exact h1⟩
/-- the list in the making is done: frozen -/
theorem Wld.done {K : PySem.W.Frag} {w : Wd} {st : Sto} {H : Hp} {p : Addr} {vs : List V} {r : List (Addr × List V)} (W : Wld K w st H) (hh : w.hid = (p, vs) :: r) (n : vs.length ≤ sizeLine) : Wld K ⟨upd w.G p (.lst vs), w.as, r, w.dk, w.lk⟩ st H := by
  obtain ⟨g0, n0, h0⟩ := W.hidd p vs (by rw [hh]; exact List.mem_cons_self)
  have hnd := W.hnd
  rw [hh] at hnd
  have hnd' : (p :: r.map (·.1)).Nodup := hnd
  have s : Same w.G (upd w.G p (.lst vs)) := fun b u e => by
    rw [upd_ne (ne_of_none e g0)]
    exact e
  refine ⟨fun b u e => ?_, W.len, W.nd, fun i a e => ?_, fun a u e => ?_, fun a zs m => ?_, (List.nodup_cons.mp hnd').2⟩
  · have e' : upd w.G p (.lst vs) b = some u := e
    by_cases hb : b = p
    · subst hb
      rw [upd_same] at e'
      cases e'
      exact h0
    · rw [upd_ne hb] at e'
      exact W.same b u e'
  · obtain ⟨g, xs, zs, h1, h2, h3⟩ := W.at_ i a e
    have ne : a ≠ p := fun z => n0 (by rw [← z]; exact List.mem_of_getElem? e)
    refine ⟨?_, xs, zs, h1, h2, h3.rg s _⟩
    show upd w.G p (.lst vs) a = none
    rw [upd_ne ne]
    exact g
  · have e' : upd w.G p (.lst vs) a = some u := e
    by_cases ha : a = p
    · subst ha
      rw [upd_same] at e'
      cases e'
      exact n
    · rw [upd_ne ha] at e'
      exact W.small a u e'
  · obtain ⟨g, n, h1⟩ := W.hidd a zs (by rw [hh]; exact List.mem_cons_of_mem _ m)
    have ne : a ≠ p := fun q => (List.nodup_cons.mp hnd').1 (by rw [← q]; exact List.mem_map.mpr ⟨_, m, rfl⟩)
    refine ⟨?_, n, h1⟩
    show upd w.G p (.lst vs) a = none
    rw [upd_ne ne]
    exact g
/-- .. a list of the store now -/
theorem Wld.doneNew {K : PySem.W.Frag} {w : Wd} {st : Sto} {H : Hp} {p : Addr} {xs : List D} {vs : List V} {r : List (Addr × List V)} (W : Wld K w st H) (hh : w.hid = (p, vs) :: r) (n : vs.length ≤ sizeLine) (R : Reps K w xs vs) : Wld K ⟨w.G, w.as ++ [p], r, fun b => if b = p then none else w.dk b, fun b => if b = p then none else w.lk b⟩ (st ++ [xs]) H := by
  obtain ⟨g0, n0, h0⟩ := W.hidd p vs (by rw [hh]; exact List.mem_cons_self)
  have hnd := W.hnd
  rw [hh] at hnd
  have hnd' : (p :: r.map (·.1)).Nodup := hnd
  have pr : Pre w ⟨w.G, w.as ++ [p], r, fun b => if b = p then none else w.dk b, fun b => if b = p then none else w.lk b⟩ := ⟨⟨[p], rfl⟩, fun a ha => if_neg fun (z : a = p) => n0 (z ▸ ha)⟩
  have sm : Same w.G (Wd.G ⟨w.G, w.as ++ [p], r, fun b => if b = p then none else w.dk b, fun b => if b = p then none else w.lk b⟩) := Same.refl w.G
  refine ⟨W.same, ?_, ?_, fun i a e => ?_, W.small, fun a zs m => ?_, (List.nodup_cons.mp hnd').2⟩
  · show (w.as ++ [p]).length = (st ++ [xs]).length
    rw [List.length_append, List.length_append, W.len]
    rfl
  · show (w.as ++ [p]).Nodup
    refine List.nodup_append.mpr ⟨W.nd, by simp, fun a ha b hb z => ?_⟩
    have hbp : b = p := by simpa using hb
    rw [z, hbp] at ha
    exact n0 ha
  · have e' : (w.as ++ [p])[i]? = some a := e
    by_cases hi : i < w.as.length
    · rw [List.getElem?_append_left hi] at e'
      obtain ⟨g, ys, us, h1, h2, h3⟩ := W.at_ i a e'
      refine ⟨g, ys, us, by rw [List.getElem?_append_left (by rw [← W.len]; exact hi)]; exact h1, h2, ?_⟩
      rw [pr.dk a (List.mem_of_getElem? e')]
      have el : Wd.lk ⟨w.G, w.as ++ [p], r, fun b => if b = p then none else w.dk b, fun b => if b = p then none else w.lk b⟩ a = w.lk a := if_neg fun (z : a = p) => n0 (z ▸ List.mem_of_getElem? e')
      rw [el]
      exact h3.mono' sm pr
    · have hi2 : i = w.as.length := by
        have := (List.getElem?_eq_some_iff.mp e').1
        simp at this
        omega
      subst hi2
      rw [List.getElem?_concat_length] at e'
      cases e'
      refine ⟨g0, xs, _, by rw [W.len, List.getElem?_concat_length], h0, ?_⟩
      rw [show Wd.dk ⟨w.G, w.as ++ [p], r, fun b => if b = p then none else w.dk b, fun b => if b = p then none else w.lk b⟩ p = none from if_pos rfl]
      exact .inl ⟨if_pos rfl, vs, rfl, n, Reps.mono' sm pr _ _ R⟩
  · obtain ⟨g, n, h1⟩ := W.hidd a zs (by rw [hh]; exact List.mem_cons_of_mem _ m)
    have ne : a ≠ p := fun q => (List.nodup_cons.mp hnd').1 (by rw [← q]; exact List.mem_map.mpr ⟨_, m, rfl⟩)
    refine ⟨g, fun m' => ?_, h1⟩
    rcases List.mem_append.mp m' with z | z
    · exact n z
    · exact ne (by simpa using z)
theorem wipe_get (σ : L2.St) (j : Nat) : ∀ vs : List Nat, (wipe σ vs)[j]? = if j ∈ vs then σ[j]?.map (fun _ => none) else σ[j]?
  | [] => by simp [wipe]
  | v :: vs => by
    show ((wipe σ vs).set v none)[j]? = _
    by_cases hj : v = j
    · subst hj
      rw [if_pos List.mem_cons_self]
      by_cases hl : v < σ.length
      · rw [List.getElem?_set_self (by rw [wipe_length]; exact hl), List.getElem?_eq_getElem hl]
        rfl
      · rw [List.getElem?_eq_none (by simp [wipe_length]; omega), List.getElem?_eq_none (by omega)]
        rfl
    · rw [List.getElem?_set_ne hj, wipe_get σ j vs]
      by_cases hm : j ∈ vs
      · rw [if_pos hm, if_pos (List.mem_cons_of_mem _ hm)]
      · rw [if_neg hm, if_neg (fun z => by rcases List.mem_cons.mp z with z | z; exact hj z.symm; exact hm z)]
theorem wipe_set {σ : L2.St} {i : Nat} {x : Option V} {vs : List Nat} (h : i ∈ vs) : wipe (σ.set i x) vs = wipe σ vs := by
  refine List.ext_getElem? fun j => ?_
  rw [wipe_get, wipe_get]
  by_cases hj : j = i
  · subst hj
    rw [if_pos h, if_pos h]
    by_cases hl : j < σ.length
    · rw [List.getElem?_set_self hl, List.getElem?_eq_getElem hl]
      rfl
    · rw [List.getElem?_eq_none (by simp; omega), List.getElem?_eq_none (by omega)]
  · rw [List.getElem?_set_ne (Ne.symm hj)]
theorem wipe_wipe (σ : L2.St) (vs : List Nat) : wipe (wipe σ vs) vs = wipe σ vs := by
  refine List.ext_getElem? fun j => ?_
  rw [wipe_get, wipe_get]
  split
  · cases σ[j]? <;> rfl
  · rfl
/-- a target that is the block's own -/
def tDGo (K : PySem.W.Frag) (vs : List Nat) (g : DG) : TG := fun v σ H Q => ∃ w env st d nx, Wld K w st H ∧ EnvR K w env σ ∧ Rep K w d v ∧ g d env st nx ∧
  ∀ env' st' σ' w' H', nx env' st' → Le w w' → Wld K w' st' H' → EnvR K w' env' σ' → wipe σ' vs = wipe σ vs → Q σ' H'
def tDGso (K : PySem.W.Frag) (vs : List Nat) (g : DGs) : TGs := fun us σ H Q => ∃ w env st ds nx, Wld K w st H ∧ EnvR K w env σ ∧ Reps K w ds us ∧ g ds env st nx ∧
  ∀ env' st' σ' w' H', nx env' st' → Le w w' → Wld K w' st' H' → EnvR K w' env' σ' → wipe σ' vs = wipe σ vs → Q σ' H'
abbrev PDGo (X : Cx) (vs : List Nat) (e : Expr) (g : DG) : Prop := PG X e (tDGo X.K vs g)
abbrev PDGso (X : Cx) (vs : List Nat) (e : List Expr) (g : DGs) : Prop := PGs X e (tDGso X.K vs g)
theorem pdgo_name (i : Nat) {vs : List Nat} {x : Str} (hN : X.N.Nodup) (hi : X.N[i]? = some x := by rfl) (hx : Loc X.env.scope x := by first | exact Or.inl rfl | exact Or.inr rfl) (hf : X.fn x = true ∨ X.env.scope.names.lookup x = some .local := by first | exact .inl rfl | exact .inr rfl | assumption) (hv : i ∈ vs := by decide) : PDGo X vs (.Name x pos) (dgName i) := by
  refine L2.PG.wk (pg_name hN hi hx hf) fun v σ H Q ⟨w, env, st, d, nx, W, E, R, h, fn⟩ => ?_
  exact fn _ _ _ _ _ h (.refl _) W (E.set i R) (wipe_set hv)
theorem pdgso_nil {vs : List Nat} : PDGso X vs [] dgNil := by
  refine L2.PGs.wk pgs_nil fun v σ H Q ⟨w, env, st, ds, nx, W, E, R, h, fn⟩ => ?_
  cases ds with
  | nil => exact ⟨R.inv0, fn _ _ _ _ _ h (.refl _) W E rfl⟩
  | cons _ _ => exact h.elim
theorem pdgso_cons {vs : List Nat} {es : List Expr} {t : DG} {u : DGs} (h1 : PDGo X vs e t) (h2 : PDGso X vs es u)
    (hs : (assignEach (e :: es) X.env).map (·.2) = assign e X.env :: (assignEach es X.env).map (·.2) := by rfl) : PDGso X vs (e :: es) (dgCons t u) := by
  refine L2.PGs.wk (pgs_cons h1 h2 hs) fun v σ H Q ⟨w, env, st, ds, nx, W, E, R, h, fn⟩ => ?_
  cases ds with
  | nil => exact h.elim
  | cons d r =>
    obtain ⟨v, vr, rfl, R1, R2⟩ := R.inv
    exact ⟨v, vr, rfl, w, env, st, d, _, W, E, R1, h, fun env1 st1 σ1 w1 H1 h1 l1 W1 E1 ew => ⟨w1, env1, st1, r, nx, W1, E1, Reps.mono l1 _ _ R2, h1,
      fun env2 st2 σ2 w2 H2 h2 l2 W2 E2 ew2 => fn _ _ _ _ _ h2 (l1.trans l2) W2 E2 (ew2.trans ew)⟩⟩
theorem pdgo_tup {vs : List Nat} {es : List Expr} {kk : Nat} {t : DGs} {n : Nat} (hc : X.calm = true) (h : PDGso X vs es t)
    (hn : (assignEach es X.env).length = n := by rfl) (hst : (assignEach es X.env).findIdx? (·.1) = none := by rfl) : PDGo X vs (.Tuple es kk pos) (dgTup n t) := by
  refine L2.PG.wk (pg_tup hc h hn hst) fun v σ H Q ⟨w, env, st, d, nx, W, E, R, h, fn⟩ => ?_
  unfold dgTup at h
  split at h
  · rename_i xs e
    obtain ⟨a, us, rfl, q, r, _⟩ := rep_tup W R e
    exact ⟨a, us, rfl, q, by rw [r.length]; exact h.1, w, env, st, xs, nx, W, E, r, h.2, fn⟩
  · exact h.elim
def dYes : DT := fun _ st k => k true st
abbrev PDTs (X : Cx) (ifs : List Expr) (t : DT) : Prop := PTs X ifs (tDT X.K t)
theorem pdts_nil : PDTs X [] dYes := ⟨fun pins s σ H Q I ⟨w, env, st, kk, W, E, h, fo⟩ => pts_nil.run pins s σ H Q I (fo _ _ _ _ h (.refl _) W)⟩
theorem pdts_one {c : Expr} {t : DT} (h : PDT X c t) : PDTs X [c] t := pts_one h
theorem lc_in {K : PySem.W.Frag} {di : DI} {g : DG} {tt : DT} {te : DE} {vs : List Nat} {σ : L2.St} {H : Hp} {Q : VK} {w : Wd} {env : Env} {st : Sto} {k : List D → Sto → Prop} (W : Wld K w st H) (E : EnvR K w env σ)
    (h : di env st fun xs src s1 => xs.length ≤ 16777216 ∧ goLc src g tt te vs env k xs [] s1)
    (fin : ∀ (acc : List D) (st2 : Sto) (D : Addr) (us : List V) (w2 : Wd) (H2 : Hp), w2.hid = (D, us) :: w.hid → Le0 w w2 → Wld K w2 st2 H2 → Reps K w2 acc us → us.length ≤ sizeLine → k acc st2 → Q (.ref D) H2) :
    tLc (tDI K di) (tDGo K vs g) (tDT K tt) (tD K te) vs σ H Q := by
  refine ⟨w, env, st, _, W, E, h, fun xs src st1 w1 H1 J ⟨hlen, h1⟩ l1 W1 wk D hD => ?_⟩
  refine ⟨fun i m H2 => m = xs.length - i ∧ i ≤ xs.length ∧ ∃ w2 st2 acc us, w2.hid = (D, us) :: w.hid ∧ Le0 w1 w2 ∧ Wld K w2 st2 H2 ∧ Reps K w2 acc us ∧ us.length ≤ i ∧ goLc src g tt te vs env k (xs.drop i) acc st2,
    ⟨xs.length, by simp, Nat.zero_le _, ⟨w1.G, w1.as, (D, []) :: w1.hid, w1.dk, w1.lk⟩, st1, [], [], by rw [← l1.hid], ⟨Same.refl w1.G, .eq rfl rfl, fun _ _ => rfl⟩, W1.hide (vs := []) hD, .nil, Nat.le_refl _, by simpa using h1⟩, ?_⟩
  rintro i m H2 ⟨rfl, hi, w2, st2, acc, us, hh, l2, W2, R2, hu, q⟩
  by_cases hlt : i < xs.length
  · rw [List.drop_eq_getElem_cons hlt] at q
    obtain ⟨so, q⟩ := q
    refine .inr ⟨wk.goes i w2 st2 H2 hlt l2 W2 so, fun H' => ∃ w3 st3 acc us, w3.hid = (D, us) :: w.hid ∧ Le0 w1 w3 ∧ Wld K w3 st3 H' ∧ Reps K w3 acc us ∧ us.length ≤ i + 1 ∧ goLc src g tt te vs env k (xs.drop (i + 1)) acc st3, fun H' pv => ⟨xs.length - (i + 1), by omega, rfl, hlt, pv⟩, fun v H3 y => ?_⟩
    obtain ⟨w3, d, l3, W3, e3, R3⟩ := wk.yields i w2 st2 H2 v H3 hlt l2 W2 so y
    have ed : d = xs[i] := by
      rw [List.getElem?_eq_getElem hlt] at e3
      exact (Option.some.inj e3).symm
    rw [← ed] at q
    have l03 : Le0 w w3 := (l1.toLe0.trans l2).trans l3.toLe0
    refine ⟨w3, wipeE env vs, st2, d, _, W3, (E.mono0 l03).wipe vs, R3, q, fun env4 st4 σ4 w4 H4 h4 l4 W4 E4 ew => ⟨ew.trans (wipe_wipe σ vs), ?_⟩⟩
    refine ⟨w4, env4, st4, _, W4, E4, h4, fun b st5 w5 H5 h5 l5 W5 => ?_⟩
    have l25 := (l3.trans l4).trans l5
    cases b with
    | true =>
      simp only [↓reduceIte] at h5 ⊢
      refine ⟨w5, env4, st5, _, W5, E4.mono l5, h5, fun d6 st6 v6 w6 H6 h6 l6 W6 R6 => ?_⟩
      have l26 := l25.trans l6
      have h6h : w6.hid = (D, us) :: w.hid := l26.hid.trans hh
      refine ⟨us, (W6.hidd D us (by rw [h6h]; exact List.mem_cons_self)).2.2, by rw [sizeLine_eq]; omega, ⟨w6.G, w6.as, (D, us ++ [v6]) :: w.hid, w6.dk, w6.lk⟩, st6, acc ++ [d6], us ++ [v6], rfl, ?_, W6.regrow h6h, ?_, by simp; omega, h6⟩
      · exact ⟨(l2.trans l26.toLe0).same, ⟨(l2.trans l26.toLe0).pre.as, (l2.trans l26.toLe0).pre.dk⟩, (l2.trans l26.toLe0).lk⟩
      · exact ((Reps.mono l26 _ _ R2).rh _).append (.cons (R6.rh _) .nil)
    | false =>
      simp only [Bool.false_eq_true, ↓reduceIte] at h5 ⊢
      exact ⟨w5, st5, acc, us, l25.hid.trans hh, l2.trans l25.toLe0, W5, Reps.mono l25 _ _ R2, Nat.le_succ_of_le hu, h5⟩
  · have hie : i = xs.length := by omega
    subst hie
    rw [List.drop_length] at q
    exact .inl ⟨wk.stops w2 st2 H2 l2 W2 q.1, fin acc st2 D us w2 H2 hh (l1.toLe0.trans l2) W2 R2 (by rw [sizeLine_eq]; omega) q.2⟩
theorem lc_fin {K : PySem.W.Frag} {w : Wd} {kk : DK} {Q : VK} (fo : Fol K w kk Q) (acc : List D) (st2 : Sto) (p : Addr) (us : List V) (w2 : Wd) (H2 : Hp) (hh : w2.hid = (p, us) :: w.hid) (l : Le0 w w2) (W2 : Wld K w2 st2 H2) (R : Reps K w2 acc us) (n : us.length ≤ sizeLine) (k : kk (.lst acc) st2) : Q (.ref p) H2 := by
  have g0 := (W2.hidd p us (by rw [hh]; exact List.mem_cons_self)).1
  have s : Same w2.G (upd w2.G p (.lst us)) := fun b u e => by
    rw [upd_ne (ne_of_none e g0)]
    exact e
  refine fo _ _ _ ⟨upd w2.G p (.lst us), w2.as, w.hid, w2.dk, w2.lk⟩ _ k ⟨⟨l.same.trans s, ⟨l.pre.as, l.pre.dk⟩, l.lk⟩, rfl⟩ (W2.done hh n) ?_
  simp only [Rep]
  exact ⟨p, us, rfl, upd_same, R.rg s _⟩
theorem lc_finNew {K : PySem.W.Frag} {w : Wd} {kk : DK} {Q : VK} (fo : Fol K w kk Q) (acc : List D) (st2 : Sto) (p : Addr) (us : List V) (w2 : Wd) (H2 : Hp) (hh : w2.hid = (p, us) :: w.hid) (l : Le0 w w2) (W2 : Wld K w2 st2 H2) (R : Reps K w2 acc us) (n : us.length ≤ sizeLine) (k : kk (.obj st2.length) (st2 ++ [acc])) : Q (.ref p) H2 := by
  have n0 := (W2.hidd p us (by rw [hh]; exact List.mem_cons_self)).2.1
  have l2 : Le0 w2 ⟨w2.G, w2.as ++ [p], w.hid, fun b => if b = p then none else w2.dk b, fun b => if b = p then none else w2.lk b⟩ :=
    ⟨Same.refl w2.G, ⟨⟨[p], rfl⟩, fun a ha => if_neg fun (z : a = p) => n0 (z ▸ ha)⟩, fun a ha => if_neg fun (z : a = p) => n0 (z ▸ ha)⟩
  refine fo _ _ _ ⟨w2.G, w2.as ++ [p], w.hid, fun b => if b = p then none else w2.dk b, fun b => if b = p then none else w2.lk b⟩ _ k ⟨⟨l.same, (l.trans l2).pre, (l.trans l2).lk⟩, rfl⟩ (W2.doneNew hh n R) ?_
  simp only [Rep]
  refine ⟨p, rfl, ?_, if_pos rfl⟩
  show (w2.as ++ [p])[st2.length]? = some p
  rw [← W2.len, List.getElem?_concat_length]
variable {elt iter : Expr} {ifs : List Expr} {scope : Scope} {own : List (Str × Nat)} {di : DI} {g : DG} {tt : DT} {te : DE}
theorem pd_lc (own : List (Str × Nat)) (hc : X.calm = true) (hN : X.N.Nodup) (hi : PDI X tg iter di) (ok : BlkOk X.N X.env.scope scope own)
    (hg : ∀ (s : Shared) (H : Hp) (C : Addr) (cl : List (Str × Addr)) (fp : List Addr), PDGo (X.blk s H scope (compEnvC scope cl C X.env) fp) (own.map (·.2)) tg g) (ht : ∀ (s : Shared) (H : Hp) (C : Addr) (cl : List (Str × Addr)) (fp : List Addr), PDTs (X.blk s H scope (compEnvC scope cl C X.env) fp) ifs tt)
    (he : ∀ (s : Shared) (H : Hp) (C : Addr) (cl : List (Str × Addr)) (fp : List Addr), PD (X.blk s H scope (compEnvC scope cl C X.env) fp) elt te) (hs : ∀ x, foldedSetIterable iter X.env x = pure x := by intro _; rfl) :
    PD X (.ListComp elt [⟨tg, iter, ifs, 0⟩] scope pos) (dLc di g tt te (own.map (·.2))) :=
  (L2.pe_lc hc hN hi ok hg ht he hs).wk fun σ H Q ⟨w, env, st, kk, W, E, h, fo⟩ => lc_in W E h (lc_fin fo)
theorem pd_lcNew (own : List (Str × Nat)) (hc : X.calm = true) (hN : X.N.Nodup) (hi : PDI X tg iter di) (ok : BlkOk X.N X.env.scope scope own)
    (hg : ∀ (s : Shared) (H : Hp) (C : Addr) (cl : List (Str × Addr)) (fp : List Addr), PDGo (X.blk s H scope (compEnvC scope cl C X.env) fp) (own.map (·.2)) tg g) (ht : ∀ (s : Shared) (H : Hp) (C : Addr) (cl : List (Str × Addr)) (fp : List Addr), PDTs (X.blk s H scope (compEnvC scope cl C X.env) fp) ifs tt)
    (he : ∀ (s : Shared) (H : Hp) (C : Addr) (cl : List (Str × Addr)) (fp : List Addr), PD (X.blk s H scope (compEnvC scope cl C X.env) fp) elt te) (hs : ∀ x, foldedSetIterable iter X.env x = pure x := by intro _; rfl) :
    PD X (.ListComp elt [⟨tg, iter, ifs, 0⟩] scope pos) (dLcNew di g tt te (own.map (·.2))) :=
  (L2.pe_lc hc hN hi ok hg ht he hs).wk fun σ H Q ⟨w, env, st, kk, W, E, h, fo⟩ => lc_in W E h (lc_finNew fo)
/-- y = [..], y a local -/
theorem pds_setLc (i : Nat) (own : List (Str × Nat)) {y : Str} {py spos : Pos} (hc : X.calm = true) (hN : X.N.Nodup) (hi : PDI X tg iter di) (ok : BlkOk X.N X.env.scope scope own)
    (hg : ∀ (s : Shared) (H : Hp) (C : Addr) (cl : List (Str × Addr)) (fp : List Addr), PDGo (X.blk s H scope (compEnvC scope cl C X.env) fp) (own.map (·.2)) tg g) (ht : ∀ (s : Shared) (H : Hp) (C : Addr) (cl : List (Str × Addr)) (fp : List Addr), PDTs (X.blk s H scope (compEnvC scope cl C X.env) fp) ifs tt)
    (he : ∀ (s : Shared) (H : Hp) (C : Addr) (cl : List (Str × Addr)) (fp : List Addr), PD (X.blk s H scope (compEnvC scope cl C X.env) fp) elt te)
    (hsw : swapsWith (.ListComp elt [⟨tg, iter, ifs, 0⟩] scope pos) (some (.Name y py)) spos.line X.env = pure true) (hy : X.N[i]? = some y := by rfl) (hyl : X.env.scope.names.lookup y = some .local := by rfl) (hs : ∀ x, foldedSetIterable iter X.env x = pure x := by intro _; rfl) :
    PDS X (.Assign [.Name y py] (.ListComp elt [⟨tg, iter, ifs, 0⟩] scope pos) spos) (dAsg (dLc di g tt te (own.map (·.2))) (dgName i)) := by
  refine (L2.ps_setLc (g := tDGo X.K (own.map (·.2)) g) (tt := tDT X.K tt) (te := tD X.K te) hc hN hy hyl hsw hi ok hg ht he hs).wk fun Ed σ H ⟨w, env, st, E0, W, E, h, fn, fr⟩ => ?_
  exact lc_in W E h (lc_fin (kk := fun d s1 => dgName i d env s1 E0.nx) fun d st1 v w1 H1 h1 l1 W1 R1 => fn _ _ _ _ _ h1 l1 W1 ((E.mono l1).set i R1))
end
end DL

namespace DL
open PySem PySem.Spec PyProof.Rows L2
section
variable {X : Cx} {tg e e2 o i : Expr} {es : List Expr} {pos p : Pos} {ta tb to ti : DE}
/-! ### methods of lists -/
abbrev FM := D → List D → Sto → DK → Prop
def rDM (K : PySem.W.Frag) (f : FM) : V → List V → Hp → VK → Prop := fun x vs H Q => ∃ w st d ds kk, Wld K w st H ∧ Rep K w d x ∧ Reps K w ds vs ∧ f d ds st kk ∧ Fol K w kk Q
def isLst (st : Sto) (d : D) : Bool := match deref st d with
  | .lst _ => true
  | _ => false
def dMeth (f : FM) (to : DE) (ta : DA) : DE := fun env st k => to env st fun d s1 => isLst s1 d = true ∧ ta env s1 fun ds s2 => f d ds s2 k
theorem isLst_rep {K : PySem.W.Frag} {w : Wd} {st : Sto} {H : Hp} {d : D} {v : V} (W : Wld K w st H) (R : Rep K w d v) (h : isLst st d = true) : tyV K "list" v H := by
  unfold isLst at h
  split at h
  · rename_i xs hd
    obtain ⟨a, vs, rfl, q, _⟩ := rep_lst W R hd
    exact .inl ⟨rfl, vs, q⟩
  · cases h
theorem pd_bm {nm : Str} {idn : String} {apos cpos : Pos} {f : FM} {t : DA} (slot : Slot "list" nm idn) (hty : typeOf (.builtin idn) = pure (.type "method_descriptor")) (hm : MtR X idn (rDM X.K f)) (ho : PD X o to) (ha : PDA X (e :: es) t)
    (hbase : attributeBase o nm X.env (eval o X.env) = eval o X.env := by rfl)
    (hfew : ((backTo cpos (starEach (e :: es) X.env)).all (fun x => !x.1) && (backToKw cpos (keywordEach [] X.env)).all (fun x => x.1.isSome)
      && decide ((e :: es).length + ([] : List Keyword).length + (if ([] : List Keyword).isEmpty then 0 else 1) < 30)) = true := by rfl)
    (hline : (apos.endLine == cpos.line) = true := by rfl) (hs : starEach (e :: es) X.env = (false, eval e X.env) :: starEach es X.env := by rfl) (hplain : (backTo cpos (starEach es X.env)).any (·.1) = false := by rfl) :
    PD X (.Call (.Attribute o nm apos) (e :: es) [] cpos) (dMeth f to t) := by
  refine (pe_bm PySem.F.plainAttrs_list slot hty hm ho ha hbase hfew hline hs hplain).wk fun σ H Q ⟨w, env, st, kk, W, E, h, fo⟩ => ?_
  refine ⟨w, env, st, _, W, E, h, fun d st1 v w1 H1 h1 l1 W1 R1 => ⟨isLst_rep W1 R1 h1.1, ?_⟩⟩
  exact ⟨w1, env, st1, _, W1, E.mono l1, h1.2, fun ds st2 vs w2 H2 h2 l2 W2 R2 => ⟨w2, st2, d, ds, kk, W2, Rep.mono l2 _ _ R1, R2, h2, fo.le (l1.trans l2)⟩⟩
def mAppend : FM := fun d ds st k => match d, ds with
  | .obj i, [x] => match st[i]? with
    | some xs => xs.length < 16777216 ∧ k .non (st.set i (xs ++ [x]))
    | none => False
  | _, _ => False
theorem obj_rep {K : PySem.W.Frag} {w : Wd} {st : Sto} {H : Hp} {i : Nat} {v : V} {xs : List D} (W : Wld K w st H) (R : Rep K w (.obj i) v) (h : st[i]? = some xs) :
    ∃ a vs, v = .ref a ∧ (w.as[i]? = some a ∧ w.dk a = none) ∧ H a = some (.lst vs) ∧ Reps K w xs vs ∧ vs.length ≤ sizeLine := by
  simp only [Rep] at R
  obtain ⟨a, e1, q, q2⟩ := R
  obtain ⟨g, ys, o, h1, h2, h3⟩ := W.at_ i a q
  rw [h] at h1
  cases h1
  rw [q2] at h3
  obtain ⟨vs, rfl, n3, h4⟩ := h3.lst
  exact ⟨a, vs, e1, ⟨q, q2⟩, h2, h4, n3⟩
theorem md_append : MtR X "list.append" (rDM X.K mAppend) := by
  rintro pins s σ H x xs v us Q I rx rs ⟨w, st, d, ds, kk, W, R1, R2, q, fo⟩
  unfold mAppend at q
  split at q
  · rename_i j y
    split at q
    · rename_i ys hj
      obtain ⟨a, vs, rfl, ha, hH, r, n⟩ := obj_rep W R1 hj
      obtain ⟨yv, rfl, ry⟩ := one_rep R2
      have n' : vs.length < sizeLine := by rw [r.length, sizeLine_eq]; exact q.1
      refine mt_append pins s σ H _ _ v us Q I rx rs ⟨a, vs, yv, rfl, rfl, hH, n', ?_⟩
      exact fo _ _ _ _ _ q.2 (.refl _) (W.wr ha.1 ha.2 (r.append (.cons ry .nil)) (by rw [List.length_append]; exact n')) rep_non
    · exact q.elim
  · exact q.elim
/-! ### o[i] = v -/
def setD (o i v : D) (st : Sto) (k : Sto → Prop) : Prop := match o, i with
  | .obj j, .int n => match st[j]? with
    | some xs => ∃ m, ixN xs.length n = some m ∧ k (st.set j (xs.set m v))
    | none => False
  | _, _ => False
def dgSub (to ti : DE) : DG := fun v env st k => to env st fun o s1 => ti env s1 fun i s2 => setD o i v s2 fun s3 => k env s3
theorem pdg_sub (ho : PD X o to) (hi : PD X i ti)
    (ha : ∀ v, assign (.Subscript o i pos) X.env v = (do
      let ov ← holding [v] (eval o X.env)
      let iv ← holding [v, ov] (eval i X.env)
      standAt pos
      holding [v, ov, iv] (setItem ov iv v)
      release [v, ov, iv] []) := by intro _; rfl) : PDG X (.Subscript o i pos) (dgSub to ti) := by
  refine L2.PG.wk (pg_sub ho hi set_list ha) fun v σ H Q ⟨w, env, st, d, nx, W, E, R, h, fn⟩ => ?_
  refine ⟨w, env, st, _, W, E, h, fun d1 st1 v1 w1 H1 h1 l1 W1 R1 => ⟨w1, env, st1, _, W1, E.mono l1, h1, fun d2 st2 v2 w2 H2 h2 l2 W2 R2 => ?_⟩⟩
  unfold setD at h2
  split at h2
  · rename_i j n
    split at h2
    · rename_i xs hj
      obtain ⟨m, hm, h2⟩ := h2
      obtain ⟨a, vs, rfl, ha, hH, r, nn⟩ := obj_rep W2 (Rep.mono l2 _ _ R1) hj
      simp only [Rep] at R2
      subst R2
      refine ⟨a, vs, n, m, rfl, rfl, hH, by rw [r.length]; exact hm, ?_⟩
      refine fn _ _ _ _ _ h2 (l1.trans l2) (W2.wr ha.1 ha.2 (r.set m (Rep.mono (l1.trans l2) _ _ R)) (by rw [List.length_set]; exact nn)) (E.mono (l1.trans l2))
    · exact h2.elim
  · exact h2.elim
/-! ### isinstance -/
def tyD : D → String
  | .non => "NoneType"
  | .bl _ => "bool"
  | .int _ => "int"
  | .str _ => "str"
  | .lst _ => "list"
  | .klst _ => "list"
  | .tup _ => "tuple"
  | .obj _ => "list"
  | .dic _ _ => "dict"
  | .fdic _ _ => "dict"
  | .gtup _ => "tuple"
/-- is a value of the type a one of the type b -/
def subTy (a b : String) : Bool := a == b || (a == "bool" && b == "int")
theorem kit_all : (["NoneType", "bool", "int", "str", "list", "tuple", "dict"].all fun a => okTy.all fun b => kitB a b == some (subTy a b)) = true := by decide +kernel
theorem kit_at (d : D) {b : String} (hb : b ∈ okTy) : kitB (tyD d) b = some (subTy (tyD d) b) := by
  have h := List.all_eq_true.mp kit_all (tyD d) (by cases d <;> simp [tyD])
  exact eq_of_beq (List.all_eq_true.mp h b hb)
/-- a value's type, as isinstance needs it -/
def TyI (K : PySem.W.Frag) (H : Hp) (v : V) (y : String) : Prop := ∃ t, TyX K H v t ∧ ∀ b ∈ okTy, PySem.W.kitOne K t (.type b) = some (subTy y b)
theorem tyI_of {K : PySem.W.Frag} {H : Hp} {v : V} (d : D) (h : TyX K H v (.type (tyD d))) : TyI K H v (tyD d) := ⟨_, h, fun _ hb => kit_ty (kit_at d hb)⟩
theorem dict_no : ∀ b ∈ okTy, subTy "dict" b = false := by decide +kernel
theorem tyI_ins {K : PySem.W.Frag} {H : Hp} {a dx : Addr} {fs : List (Str × V)} {c : Str} (h : H a = some (.ins (He.ga K c) dx fs)) (q : ClsT K c) : TyI K H (.ref a) "dict" :=
  ⟨_, .base (.ins h q.cls q.ha q.hn q.htk q.hm), fun b hb => by rw [q.no b hb, dict_no b hb]⟩
theorem tyX_rep {K : PySem.W.Frag} {w : Wd} {st : Sto} {H : Hp} {d : D} {v : V} (W : Wld K w st H) (R : Rep K w d v) : TyI K H v (tyD d) := by
  have lst : ∀ {a : Addr} {vs : List V}, SqL K H a vs → TyX K H (.ref a) (.type "list") := fun {a vs} q => by
    rcases q with (h | ⟨o, h⟩) | ⟨o, its, n, h, hc, _⟩
    · exact .base (.lst h)
    · exact .base (.frz h)
    · exact .kList h hc
  cases d with
  | non => simp only [Rep] at R; subst R; exact tyI_of .non (.base .non)
  | bl b => simp only [Rep] at R; subst R; exact tyI_of (.bl b) (.base (.bl b))
  | int b => simp only [Rep] at R; subst R; exact tyI_of (.int b) (.base (.int b))
  | str b => simp only [Rep] at R; subst R; exact tyI_of (.str b) (.base (.str b))
  | lst xs => simp only [Rep] at R; obtain ⟨a, vs, rfl, q, _⟩ := R; exact tyI_of (.lst xs) (.base (.lst (W.same _ _ q)))
  | klst xs => simp only [Rep] at R; obtain ⟨a, vs, rfl, q, _⟩ := R; exact tyI_of (.klst xs) (lst (W.same.seq q))
  | tup xs =>
    simp only [Rep] at R
    obtain ⟨a, vs, rfl, q, _⟩ := R
    exact tyI_of (.tup xs) (.base (.tup (W.same _ _ q)))
  | gtup xs =>
    simp only [Rep] at R
    obtain ⟨a, vs, rfl, q, _⟩ := R
    rcases seqT_mono W.same q with (h | ⟨o, h⟩) | ⟨o, its, n, h, hc, _⟩
    · exact tyI_of (.gtup xs) (.base (.tup h))
    · exact tyI_of (.gtup xs) (.fTuple h)
    · exact tyI_of (.gtup xs) (.kTuple h hc)
  | obj i =>
    simp only [Rep] at R
    obtain ⟨a, rfl, q, q2⟩ := R
    obtain ⟨_, _, o, _, h, h3⟩ := W.at_ i a q
    rw [q2] at h3
    obtain ⟨vs, rfl, _⟩ := h3.lst
    exact tyI_of (.obj i) (.base (.lst h))
  | dic t i =>
    simp only [Rep] at R
    obtain ⟨a, rfl, q, q2, q3⟩ := R
    obtain ⟨_, _, o, _, h, h3⟩ := W.at_ i a q
    rw [q2] at h3
    rcases t with (_ | _) | c
    · rcases h3 with ⟨_, vs, rfl, _⟩ | ⟨_, _, _, _, _, _, rfl, _⟩
      · exact tyI_of (.dic false i) (.base (.dK h))
      · exact tyI_of (.dic false i) (.fDict h)
    · obtain ⟨vs, rfl, _⟩ := h3.dT
      exact tyI_of (.dic true i) (.base (.dT h))
    · obtain ⟨dx, kvs, rfl, _⟩ := h3.ins
      exact tyI_ins h q3
  | fdic t rows =>
    rcases t with (_ | _) | c
    · simp only [Rep] at R
      obtain ⟨a, kvs, rfl, q, _⟩ := R
      exact tyI_of (.fdic false rows) (.base (.dK (W.same _ _ q)))
    · simp only [Rep] at R
      obtain ⟨a, kvs, rfl, q, _⟩ := R
      exact tyI_of (.fdic true rows) (.base (.dT (W.same _ _ q)))
    · simp only [Rep] at R
      obtain ⟨a, dx, kvs, rfl, q, q3, _⟩ := R
      exact tyI_ins (W.same _ _ q) q3
def dIsi (t : DE) (ts : List String) : DE := fun env st k => t env st fun d s1 => k (.bl (ts.any (subTy (tyD d)))) s1
theorem pd_isi {x : Str} {T : String} {q1 q2 : Pos} (hm : X.mg "isinstance" = none) (ha : PD X e ta) (hmx : X.mg x = none) (hv : bootBuiltins x = some (.type T)) (hT : T ∈ okTy := by decide)
    (hg : Gl X "isinstance" := by rfl) (hgx : Gl X x := by rfl) (hn : x ≠ "__name__" := by decide) (hdb : (x == ("__debug__" : Str)) = false := by decide)
    (he : starEach [e, .Name x q1] X.env = (false, eval e X.env) :: starEach [.Name x q1] X.env := by rfl) (he2 : starEach [.Name x q1] X.env = [(false, eval (.Name x q1) X.env)] := by rfl) (hpl : (backTo pos (starEach [.Name x q1] X.env)).any (·.1) = false := by rfl) :
    PD X (.Call (.Name "isinstance" q2) [e, .Name x q1] [] pos) (dIsi ta [T]) := by
  refine (pe_callB call_isi hg hm (by decide +kernel) (pa_cons ha (pa_cons (pe_bltn (v := .ty T) hgx hmx hv rfl hn hdb) pa_nil he2) he) (by decide) (by decide) he hpl).wk fun σ H Q ⟨w, env, st, kk, W, E, h, fo⟩ => ?_
  refine ⟨w, env, st, _, W, E, h, fun d st1 v w1 H1 h1 l1 W1 R1 => ?_⟩
  obtain ⟨ty, hty, hto⟩ := tyX_rep W1 R1
  refine ⟨v, .ty T, _, _, _, rfl, .ty T, hty, hto T hT, ?_⟩
  have h2 : kk (.bl (subTy (tyD d) T || false)) st1 := h1
  rw [Bool.or_false] at h2
  exact fo _ _ _ _ _ h2 l1 W1 rep_bl
theorem Wld.other {K : PySem.W.Frag} {w : Wd} {st : Sto} {H : Hp} (W : Wld K w st H) {p : Addr} {o : HO} (h : H p = none) : Wld K w st (upd H p o) where
  same := fun b u e => by rw [upd_ne (ne_of_none (W.same b u e) h)]; exact W.same b u e
  len := W.len
  nd := W.nd
  at_ := fun i a e => by
    obtain ⟨g, xs, vs, h1, h2, h3⟩ := W.at_ i a e
    exact ⟨g, xs, vs, h1, by rw [upd_ne (ne_of_none h2 h)]; exact h2, h3⟩
  small := W.small
  hidd := fun a vs m => by
    obtain ⟨g, n, h1⟩ := W.hidd a vs m
    exact ⟨g, n, by rw [upd_ne (ne_of_none h1 h)]; exact h1⟩
  hnd := W.hnd
/-! ### calls with keywords -/
/-- the values in the parameters' order: the written ones, then the keywords' -/
def kperm {α : Type} (ix : List Nat) (us ws : List α) : List α := ix.filterMap fun i => (us ++ ws)[i]?
theorem _root_.L2.PK.wk {X : Cx} {kws : List Keyword} {t t' : TA} (h : PK X kws t) (i : ∀ σ H Q, t' σ H Q → t σ H Q) : PK X kws t' := ⟨fun ps pins s σ H Q I q => h.run ps pins s σ H Q I (i σ H Q q)⟩
variable {k : Nat} {f : Addr} {fd : FuncData} {ps ks : List Str} {sp : SpD} {x : Str} {kws : List Keyword}
end

/-! ### behind a def: its own lists are frozen -/
mutual
def sub (n : Nat) (a : List D) : D → D
  | .non => .non
  | .bl b => .bl b
  | .int b => .int b
  | .str b => .str b
  | .lst xs => .lst (subs n a xs)
  | .klst xs => .klst (subs n a xs)
  | .tup xs => .tup (subs n a xs)
  | .obj i => if i = n then .lst a else .obj i
  | .dic t i => if i = n then .fdic t a else .dic t i
  | .fdic t rows => .fdic t (subs n a rows)
  | .gtup xs => .gtup (subs n a xs)
def subs (n : Nat) (a : List D) : List D → List D
  | [] => []
  | x :: xs => sub n a x :: subs n a xs
end
mutual
def below (n : Nat) : D → Bool
  | .lst xs => belows n xs
  | .klst xs => belows n xs
  | .tup xs => belows n xs
  | .obj i => decide (i < n)
  | .dic _ i => decide (i < n)
  | .fdic _ rows => okRows rows && belows n rows
  | .gtup xs => belows n xs
  | _ => true
def belows (n : Nat) : List D → Bool
  | [] => true
  | x :: xs => below n x && belows n xs
end
theorem subs_map (n : Nat) (a : List D) : ∀ xs : List D, subs n a xs = xs.map (sub n a)
  | [] => rfl
  | x :: xs => by simp only [subs, List.map_cons, subs_map n a xs]
mutual
theorem sub_below {n : Nat} {a : List D} : ∀ d : D, below n d = true → sub n a d = d
  | .non, _ => by simp only [sub]
  | .bl _, _ => by simp only [sub]
  | .int _, _ => by simp only [sub]
  | .str _, _ => by simp only [sub]
  | .lst xs, h => by simp only [below] at h; simp only [sub, subs_below xs h]
  | .klst xs, h => by simp only [below] at h; simp only [sub, subs_below xs h]
  | .tup xs, h => by simp only [below] at h; simp only [sub, subs_below xs h]
  | .obj i, h => by
    simp only [below, decide_eq_true_eq] at h
    simp only [sub]
    rw [if_neg (by omega)]
  | .dic t i, h => by
    simp only [below, decide_eq_true_eq] at h
    simp only [sub]
    rw [if_neg (by omega)]
  | .fdic t rows, h => by simp only [below, Bool.and_eq_true] at h; simp only [sub, subs_below rows h.2]
  | .gtup rows, h => by simp only [below] at h; simp only [sub, subs_below rows h]
theorem subs_below {n : Nat} {a : List D} : ∀ ds : List D, belows n ds = true → subs n a ds = ds
  | [], _ => by simp only [subs]
  | x :: xs, h => by
    simp only [belows, Bool.and_eq_true] at h
    simp only [subs, sub_below x h.1, subs_below xs h.2]
end
mutual
theorem below_mono {n m : Nat} (l : n ≤ m) : ∀ d : D, below n d = true → below m d = true
  | .non, _ => by simp only [below]
  | .bl _, _ => by simp only [below]
  | .int _, _ => by simp only [below]
  | .str _, _ => by simp only [below]
  | .lst xs, h => by simp only [below] at h ⊢; exact belows_mono l xs h
  | .klst xs, h => by simp only [below] at h ⊢; exact belows_mono l xs h
  | .tup xs, h => by simp only [below] at h ⊢; exact belows_mono l xs h
  | .obj i, h => by
    simp only [below, decide_eq_true_eq] at h ⊢
    omega
  | .dic t i, h => by
    simp only [below, decide_eq_true_eq] at h ⊢
    omega
  | .fdic t rows, h => by simp only [below, Bool.and_eq_true] at h ⊢; exact ⟨h.1, belows_mono l rows h.2⟩
  | .gtup rows, h => by simp only [below] at h ⊢; exact belows_mono l rows h
theorem belows_mono {n m : Nat} (l : n ≤ m) : ∀ ds : List D, belows n ds = true → belows m ds = true
  | [], _ => by simp only [belows]
  | x :: xs, h => by
    simp only [belows, Bool.and_eq_true] at h ⊢
    exact ⟨below_mono l x h.1, belows_mono l xs h.2⟩
end
theorem rowsK_okRows {K : PySem.W.Frag} {w : Wd} : ∀ {ds : List D} {kvs : List (Key × V)}, RowsK K w ds kvs → okRows ds = true
  | [], _, _ => rfl
  | .tup [k, d] :: ds, kvs, h => by
    simp only [RowsK] at h
    obtain ⟨y, v, r, _, _, _, h3⟩ := h
    simp only [okRows]
    exact rowsK_okRows h3
  | .tup [] :: _, _, h => by simp only [RowsK] at h
  | .tup [_] :: _, _, h => by simp only [RowsK] at h
  | .tup (_ :: _ :: _ :: _) :: _, _, h => by simp only [RowsK] at h
  | .non :: _, _, h => by simp only [RowsK] at h
  | .bl _ :: _, _, h => by simp only [RowsK] at h
  | .int _ :: _, _, h => by simp only [RowsK] at h
  | .str _ :: _, _, h => by simp only [RowsK] at h
  | .lst _ :: _, _, h => by simp only [RowsK] at h
  | .klst _ :: _, _, h => by simp only [RowsK] at h
  | .obj _ :: _, _, h => by simp only [RowsK] at h
  | .dic _ _ :: _, _, h => by simp only [RowsK] at h
  | .fdic _ _ :: _, _, h => by simp only [RowsK] at h
  | .gtup _ :: _, _, h => by simp only [RowsK] at h
theorem rowsT_okRows {K : PySem.W.Frag} {w : Wd} : ∀ {ds : List D} {kvs : List (List Key × V)}, RowsT K w ds kvs → okRows ds = true
  | [], _, _ => rfl
  | .tup [k, d] :: ds, kvs, h => by
    simp only [RowsT] at h
    obtain ⟨y, v, r, _, _, _, h3⟩ := h
    simp only [okRows]
    exact rowsT_okRows h3
  | .tup [] :: _, _, h => by simp only [RowsT] at h
  | .tup [_] :: _, _, h => by simp only [RowsT] at h
  | .tup (_ :: _ :: _ :: _) :: _, _, h => by simp only [RowsT] at h
  | .non :: _, _, h => by simp only [RowsT] at h
  | .bl _ :: _, _, h => by simp only [RowsT] at h
  | .int _ :: _, _, h => by simp only [RowsT] at h
  | .str _ :: _, _, h => by simp only [RowsT] at h
  | .lst _ :: _, _, h => by simp only [RowsT] at h
  | .klst _ :: _, _, h => by simp only [RowsT] at h
  | .obj _ :: _, _, h => by simp only [RowsT] at h
  | .dic _ _ :: _, _, h => by simp only [RowsT] at h
  | .fdic _ _ :: _, _, h => by simp only [RowsT] at h
  | .gtup _ :: _, _, h => by simp only [RowsT] at h
theorem key_below {n : Nat} {d : D} {y : Key} (h : keyD d = some y) : below n d = true := by
  cases d <;> first | rfl | (simp only [below]; done) | simp [keyD] at h
theorem keys_below {n : Nat} : ∀ {ds : List D} {ys : List Key}, keysD ds = some ys → belows n ds = true
  | [], _, _ => rfl
  | d :: r, ys, h => by
    unfold keysD at h
    cases h1 : keyD d with
    | none => rw [h1] at h; cases h
    | some y =>
      cases h2 : keysD r with
      | none => rw [h1, h2] at h; cases h
      | some zs => simp only [belows, key_below h1, keys_below h2, Bool.and_true]
theorem tkey_below {n : Nat} {d : D} {y : List Key} (h : tkeyD d = some y) : below n d = true := by
  cases d with
  | tup xs => simp only [below]; exact keys_below h
  | _ => cases h
section
variable {K : PySem.W.Frag} {w w' : Wd} {st : Sto} {H : Hp}
mutual
theorem rep_below : ∀ (d : D) (v : V), Rep K w d v → below w.as.length d = true
  | .non, _, _ => by simp only [below]
  | .bl _, _, _ => by simp only [below]
  | .int _, _, _ => by simp only [below]
  | .str _, _, _ => by simp only [below]
  | .lst xs, v, h => by
    simp only [Rep] at h
    obtain ⟨a, vs, _, _, r⟩ := h
    simp only [below]
    exact reps_below xs vs r
  | .klst xs, v, h => by
    simp only [Rep] at h
    obtain ⟨a, vs, _, _, r⟩ := h
    simp only [below]
    exact reps_below xs vs r
  | .tup xs, v, h => by
    simp only [Rep] at h
    obtain ⟨a, vs, _, _, r⟩ := h
    simp only [below]
    exact reps_below xs vs r
  | .gtup xs, v, h => by
    simp only [Rep] at h
    obtain ⟨a, vs, _, _, r⟩ := h
    simp only [below]
    exact reps_below xs vs r
  | .obj i, v, h => by
    simp only [Rep] at h
    obtain ⟨a, _, q, _⟩ := h
    simp only [below, decide_eq_true_eq]
    exact (List.getElem?_eq_some_iff.mp q).1
  | .dic t i, v, h => by
    simp only [Rep] at h
    obtain ⟨a, _, q, _⟩ := h
    simp only [below, decide_eq_true_eq]
    exact (List.getElem?_eq_some_iff.mp q).1
  | .fdic (.ins c) rows, v, h => by
    simp only [Rep] at h
    obtain ⟨a, dx, kvs, _, _, _, r⟩ := h
    simp only [below, Bool.and_eq_true]
    exact ⟨rowsK_okRows r, rowsK_below rows kvs r⟩
  | .fdic (.b false) rows, v, h => by
    simp only [Rep] at h
    obtain ⟨a, kvs, _, _, _, r⟩ := h
    simp only [below, Bool.and_eq_true]
    exact ⟨rowsK_okRows r, rowsK_below rows kvs r⟩
  | .fdic (.b true) rows, v, h => by
    simp only [Rep] at h
    obtain ⟨a, kvs, _, _, _, r⟩ := h
    simp only [below, Bool.and_eq_true]
    exact ⟨rowsT_okRows r, rowsT_below rows kvs r⟩
theorem rowsK_below : ∀ (ds : List D) (kvs : List (Key × V)), RowsK K w ds kvs → belows w.as.length ds = true
  | [], _, _ => by simp only [belows]
  | .tup [k, d] :: ds, kvs, h => by
    simp only [RowsK] at h
    obtain ⟨y, v, r, _, h1, h2, h3⟩ := h
    simp only [belows, below, Bool.and_true, Bool.and_eq_true]
    exact ⟨⟨key_below h1, rep_below d v h2⟩, rowsK_below ds r h3⟩
  | .tup [] :: _, _, h => by simp only [RowsK] at h
  | .tup [_] :: _, _, h => by simp only [RowsK] at h
  | .tup (_ :: _ :: _ :: _) :: _, _, h => by simp only [RowsK] at h
  | .non :: _, _, h => by simp only [RowsK] at h
  | .bl _ :: _, _, h => by simp only [RowsK] at h
  | .int _ :: _, _, h => by simp only [RowsK] at h
  | .str _ :: _, _, h => by simp only [RowsK] at h
  | .lst _ :: _, _, h => by simp only [RowsK] at h
  | .klst _ :: _, _, h => by simp only [RowsK] at h
  | .obj _ :: _, _, h => by simp only [RowsK] at h
  | .dic _ _ :: _, _, h => by simp only [RowsK] at h
  | .fdic _ _ :: _, _, h => by simp only [RowsK] at h
  | .gtup _ :: _, _, h => by simp only [RowsK] at h
theorem rowsT_below : ∀ (ds : List D) (kvs : List (List Key × V)), RowsT K w ds kvs → belows w.as.length ds = true
  | [], _, _ => by simp only [belows]
  | .tup [k, d] :: ds, kvs, h => by
    simp only [RowsT] at h
    obtain ⟨y, v, r, _, h1, h2, h3⟩ := h
    simp only [belows, below, Bool.and_true, Bool.and_eq_true]
    exact ⟨⟨tkey_below h1, rep_below d v h2⟩, rowsT_below ds r h3⟩
  | .tup [] :: _, _, h => by simp only [RowsT] at h
  | .tup [_] :: _, _, h => by simp only [RowsT] at h
  | .tup (_ :: _ :: _ :: _) :: _, _, h => by simp only [RowsT] at h
  | .non :: _, _, h => by simp only [RowsT] at h
  | .bl _ :: _, _, h => by simp only [RowsT] at h
  | .int _ :: _, _, h => by simp only [RowsT] at h
  | .str _ :: _, _, h => by simp only [RowsT] at h
  | .lst _ :: _, _, h => by simp only [RowsT] at h
  | .klst _ :: _, _, h => by simp only [RowsT] at h
  | .obj _ :: _, _, h => by simp only [RowsT] at h
  | .dic _ _ :: _, _, h => by simp only [RowsT] at h
  | .fdic _ _ :: _, _, h => by simp only [RowsT] at h
  | .gtup _ :: _, _, h => by simp only [RowsT] at h
theorem reps_below : ∀ (ds : List D) (vs : List V), Reps K w ds vs → belows w.as.length ds = true
  | [], _, _ => by simp only [belows]
  | x :: xs, vs, h => by
    obtain ⟨v, r, rfl, h1, h2⟩ := h.inv
    simp only [belows, Bool.and_eq_true]
    exact ⟨rep_below x v h1, reps_below xs r h2⟩
end
theorem entR_ok {k : Option Kd} {L : Lk} {xs : List D} {o : HO} (h : EntR K w k L xs o) : ∀ d ∈ xs, below w.as.length d = true ∨ d = lockD := by
  have mem : ∀ {xs : List D} {d : D}, belows w.as.length xs = true → d ∈ xs → below w.as.length d = true := by
    intro xs
    induction xs with
    | nil => intro d _ m; cases m
    | cons x xs ih =>
      intro d h m
      simp only [belows, Bool.and_eq_true] at h
      rcases List.mem_cons.mp m with e | m
      · rw [e]; exact h.1
      · exact ih h.2 m
  intro d hd
  rcases h with ⟨_, h⟩ | ⟨_, rows, ob, kvs, _, e, _, _, r⟩
  · left
    refine mem ?_ hd
    match k, h with
    | none, ⟨vs, _, _, r⟩ => exact reps_below _ _ r
    | some (.b false), ⟨vs, _, _, r⟩ => exact rowsK_below _ _ r
    | some (.b true), ⟨vs, _, _, r⟩ => exact rowsT_below _ _ r
    | some (.ins c), ⟨dx, vs, _, r⟩ => exact rowsK_below _ _ r
  · rw [e] at hd
    rcases List.mem_append.mp hd with z | z
    · exact .inl (mem (rowsK_below _ _ r) z)
    · exact .inr (List.mem_singleton.mp z)
theorem belows_lock {n : Nat} {rows : List D} : belows n (rows ++ [lockD]) = false := by
  induction rows with
  | nil => simp only [List.nil_append, belows, lockD, below, okRows, Bool.false_and]
  | cons x r ih => simp only [List.cons_append, belows, ih, Bool.and_false]
mutual
/-- the last object of the store frozen: what is represented -/
theorem rep_sub {p : Addr} {o : HO} {a : List D} {as : List Addr} (e : w.as = as ++ [p]) (e' : w'.as = as) (ed : w'.dk = w.dk) (s : Same w.G w'.G) (g : w'.G p = some o) (r : EntP K w' (w.dk p) a o) : ∀ (d : D) (v : V), Rep K w d v → Rep K w' (sub as.length a d) v
  | .non, _, h => by simpa only [Rep, sub] using h
  | .bl _, _, h => by simpa only [Rep, sub] using h
  | .int _, _, h => by simpa only [Rep, sub] using h
  | .str _, _, h => by simpa only [Rep, sub] using h
  | .lst xs, v, h => by
    simp only [Rep] at h
    obtain ⟨b, vs, e1, q, r1⟩ := h
    simp only [sub, Rep]
    exact ⟨b, vs, e1, s _ _ q, reps_sub e e' ed s g r xs vs r1⟩
  | .klst xs, v, h => by
    simp only [Rep] at h
    obtain ⟨b, vs, e1, q, r1⟩ := h
    simp only [sub, Rep]
    exact ⟨b, vs, e1, s.seq q, reps_sub e e' ed s g r xs vs r1⟩
  | .tup xs, v, h => by
    simp only [Rep] at h
    obtain ⟨b, vs, e1, q, r1⟩ := h
    simp only [sub, Rep]
    exact ⟨b, vs, e1, s _ _ q, reps_sub e e' ed s g r xs vs r1⟩
  | .gtup xs, v, h => by
    simp only [Rep] at h
    obtain ⟨b, vs, e1, q, r1⟩ := h
    simp only [sub, Rep]
    exact ⟨b, vs, e1, seqT_mono s q, reps_sub e e' ed s g r xs vs r1⟩
  | .obj i, v, h => by
    simp only [Rep] at h
    obtain ⟨b, e1, q, q2⟩ := h
    simp only [sub]
    rw [e] at q
    by_cases hi : i = as.length
    · subst hi
      rw [List.getElem?_concat_length] at q
      cases q
      rw [if_pos rfl]
      rw [q2] at r
      obtain ⟨us, rfl, _, r⟩ := r
      simp only [Rep]
      exact ⟨p, us, e1, g, r⟩
    · rw [if_neg hi]
      simp only [Rep]
      refine ⟨b, e1, ?_, by rw [ed]; exact q2⟩
      have hlt : i < (as ++ [p]).length := (List.getElem?_eq_some_iff.mp q).1
      rw [List.length_append, List.length_singleton] at hlt
      rw [List.getElem?_append_left (by omega)] at q
      rw [e']
      exact q
  | .dic t i, v, h => by
    simp only [Rep] at h
    obtain ⟨b, e1, q, q2, q3⟩ := h
    simp only [sub]
    rw [e] at q
    by_cases hi : i = as.length
    · subst hi
      rw [List.getElem?_concat_length] at q
      cases q
      rw [if_pos rfl]
      rw [q2] at r
      rcases t with (_ | _) | c
      · obtain ⟨kvs, rfl, n, r⟩ := r
        simp only [Rep]
        exact ⟨p, kvs, e1, g, n, r⟩
      · obtain ⟨kvs, rfl, n, r⟩ := r
        simp only [Rep]
        exact ⟨p, kvs, e1, g, n, r⟩
      · obtain ⟨dx, kvs, rfl, r⟩ := r
        simp only [Rep]
        exact ⟨p, dx, kvs, e1, g, q3, r⟩
    · rw [if_neg hi]
      simp only [Rep]
      refine ⟨b, e1, ?_, by rw [ed]; exact q2, q3⟩
      have hlt : i < (as ++ [p]).length := (List.getElem?_eq_some_iff.mp q).1
      rw [List.length_append, List.length_singleton] at hlt
      rw [List.getElem?_append_left (by omega)] at q
      rw [e']
      exact q
  | .fdic (.ins c) rows, v, h => by
    simp only [Rep] at h
    obtain ⟨b, dx, kvs, e1, q, n, r1⟩ := h
    simp only [sub, Rep]
    exact ⟨b, dx, kvs, e1, s _ _ q, n, rowsK_sub e e' ed s g r rows kvs r1⟩
  | .fdic (.b false) rows, v, h => by
    simp only [Rep] at h
    obtain ⟨b, kvs, e1, q, n, r1⟩ := h
    simp only [sub, Rep]
    exact ⟨b, kvs, e1, s _ _ q, n, rowsK_sub e e' ed s g r rows kvs r1⟩
  | .fdic (.b true) rows, v, h => by
    simp only [Rep] at h
    obtain ⟨b, kvs, e1, q, n, r1⟩ := h
    simp only [sub, Rep]
    exact ⟨b, kvs, e1, s _ _ q, n, rowsT_sub e e' ed s g r rows kvs r1⟩
theorem rowsK_sub {p : Addr} {o : HO} {a : List D} {as : List Addr} (e : w.as = as ++ [p]) (e' : w'.as = as) (ed : w'.dk = w.dk) (s : Same w.G w'.G) (g : w'.G p = some o) (r : EntP K w' (w.dk p) a o) : ∀ (ds : List D) (kvs : List (Key × V)), RowsK K w ds kvs → RowsK K w' (subs as.length a ds) kvs
  | [], _, h => by simpa only [RowsK, subs] using h
  | .tup [k, d] :: ds, kvs, h => by
    simp only [RowsK] at h
    obtain ⟨y, v, r1, e1, h1, h2, h3⟩ := h
    simp only [subs, sub, RowsK]
    exact ⟨y, v, r1, e1, by rw [sub_below k (key_below h1)]; exact h1, rep_sub e e' ed s g r d v h2, rowsK_sub e e' ed s g r ds r1 h3⟩
  | .tup [] :: _, _, h => by simp only [RowsK] at h
  | .tup [_] :: _, _, h => by simp only [RowsK] at h
  | .tup (_ :: _ :: _ :: _) :: _, _, h => by simp only [RowsK] at h
  | .non :: _, _, h => by simp only [RowsK] at h
  | .bl _ :: _, _, h => by simp only [RowsK] at h
  | .int _ :: _, _, h => by simp only [RowsK] at h
  | .str _ :: _, _, h => by simp only [RowsK] at h
  | .lst _ :: _, _, h => by simp only [RowsK] at h
  | .klst _ :: _, _, h => by simp only [RowsK] at h
  | .obj _ :: _, _, h => by simp only [RowsK] at h
  | .dic _ _ :: _, _, h => by simp only [RowsK] at h
  | .fdic _ _ :: _, _, h => by simp only [RowsK] at h
  | .gtup _ :: _, _, h => by simp only [RowsK] at h
theorem rowsT_sub {p : Addr} {o : HO} {a : List D} {as : List Addr} (e : w.as = as ++ [p]) (e' : w'.as = as) (ed : w'.dk = w.dk) (s : Same w.G w'.G) (g : w'.G p = some o) (r : EntP K w' (w.dk p) a o) : ∀ (ds : List D) (kvs : List (List Key × V)), RowsT K w ds kvs → RowsT K w' (subs as.length a ds) kvs
  | [], _, h => by simpa only [RowsT, subs] using h
  | .tup [k, d] :: ds, kvs, h => by
    simp only [RowsT] at h
    obtain ⟨y, v, r1, e1, h1, h2, h3⟩ := h
    simp only [subs, sub, RowsT]
    exact ⟨y, v, r1, e1, by rw [sub_below k (tkey_below h1)]; exact h1, rep_sub e e' ed s g r d v h2, rowsT_sub e e' ed s g r ds r1 h3⟩
  | .tup [] :: _, _, h => by simp only [RowsT] at h
  | .tup [_] :: _, _, h => by simp only [RowsT] at h
  | .tup (_ :: _ :: _ :: _) :: _, _, h => by simp only [RowsT] at h
  | .non :: _, _, h => by simp only [RowsT] at h
  | .bl _ :: _, _, h => by simp only [RowsT] at h
  | .int _ :: _, _, h => by simp only [RowsT] at h
  | .str _ :: _, _, h => by simp only [RowsT] at h
  | .lst _ :: _, _, h => by simp only [RowsT] at h
  | .klst _ :: _, _, h => by simp only [RowsT] at h
  | .obj _ :: _, _, h => by simp only [RowsT] at h
  | .dic _ _ :: _, _, h => by simp only [RowsT] at h
  | .fdic _ _ :: _, _, h => by simp only [RowsT] at h
  | .gtup _ :: _, _, h => by simp only [RowsT] at h
theorem reps_sub {p : Addr} {o : HO} {a : List D} {as : List Addr} (e : w.as = as ++ [p]) (e' : w'.as = as) (ed : w'.dk = w.dk) (s : Same w.G w'.G) (g : w'.G p = some o) (r : EntP K w' (w.dk p) a o) : ∀ (ds : List D) (vs : List V), Reps K w ds vs → Reps K w' (subs as.length a ds) vs
  | [], _, h => by simpa only [Reps, subs] using h
  | x :: xs, vs, h => by
    obtain ⟨v, r1, rfl, h1, h2⟩ := h.inv
    simp only [subs]
    exact .cons (rep_sub e e' ed s g r x v h1) (reps_sub e e' ed s g r xs r1 h2)
end
mutual
theorem rep_low {as m : List Addr} (e : w.as = as ++ m) (e' : w'.as = as) (ed : w'.dk = w.dk) (s : Same w.G w'.G) : ∀ (d : D) (v : V), below as.length d = true → Rep K w d v → Rep K w' d v
  | .non, _, _, h => by simpa only [Rep] using h
  | .bl _, _, _, h => by simpa only [Rep] using h
  | .int _, _, _, h => by simpa only [Rep] using h
  | .str _, _, _, h => by simpa only [Rep] using h
  | .lst xs, v, l, h => by
    simp only [below] at l
    simp only [Rep] at h ⊢
    obtain ⟨b, vs, e1, q, r1⟩ := h
    exact ⟨b, vs, e1, s _ _ q, reps_low e e' ed s xs vs l r1⟩
  | .klst xs, v, l, h => by
    simp only [below] at l
    simp only [Rep] at h ⊢
    obtain ⟨b, vs, e1, q, r1⟩ := h
    exact ⟨b, vs, e1, s.seq q, reps_low e e' ed s xs vs l r1⟩
  | .tup xs, v, l, h => by
    simp only [below] at l
    simp only [Rep] at h ⊢
    obtain ⟨b, vs, e1, q, r1⟩ := h
    exact ⟨b, vs, e1, s _ _ q, reps_low e e' ed s xs vs l r1⟩
  | .gtup xs, v, l, h => by
    simp only [below] at l
    simp only [Rep] at h ⊢
    obtain ⟨b, vs, e1, q, r1⟩ := h
    exact ⟨b, vs, e1, seqT_mono s q, reps_low e e' ed s xs vs l r1⟩
  | .obj i, v, l, h => by
    simp only [below, decide_eq_true_eq] at l
    simp only [Rep] at h ⊢
    obtain ⟨b, e1, q, q2⟩ := h
    refine ⟨b, e1, ?_, by rw [ed]; exact q2⟩
    rw [e, List.getElem?_append_left l] at q
    rw [e']
    exact q
  | .dic t i, v, l, h => by
    simp only [below, decide_eq_true_eq] at l
    simp only [Rep] at h ⊢
    obtain ⟨b, e1, q, q2, q3⟩ := h
    refine ⟨b, e1, ?_, by rw [ed]; exact q2, q3⟩
    rw [e, List.getElem?_append_left l] at q
    rw [e']
    exact q
  | .fdic (.ins c) rows, v, l, h => by
    simp only [below, Bool.and_eq_true] at l
    simp only [Rep] at h ⊢
    obtain ⟨b, dx, kvs, e1, q, n, r1⟩ := h
    exact ⟨b, dx, kvs, e1, s _ _ q, n, rowsK_low e e' ed s rows kvs l.2 r1⟩
  | .fdic (.b false) rows, v, l, h => by
    simp only [below, Bool.and_eq_true] at l
    simp only [Rep] at h ⊢
    obtain ⟨b, kvs, e1, q, n, r1⟩ := h
    exact ⟨b, kvs, e1, s _ _ q, n, rowsK_low e e' ed s rows kvs l.2 r1⟩
  | .fdic (.b true) rows, v, l, h => by
    simp only [below, Bool.and_eq_true] at l
    simp only [Rep] at h ⊢
    obtain ⟨b, kvs, e1, q, n, r1⟩ := h
    exact ⟨b, kvs, e1, s _ _ q, n, rowsT_low e e' ed s rows kvs l.2 r1⟩
theorem rowsK_low {as m : List Addr} (e : w.as = as ++ m) (e' : w'.as = as) (ed : w'.dk = w.dk) (s : Same w.G w'.G) : ∀ (ds : List D) (kvs : List (Key × V)), belows as.length ds = true → RowsK K w ds kvs → RowsK K w' ds kvs
  | [], _, _, h => by simpa only [RowsK] using h
  | .tup [k, d] :: ds, kvs, l, h => by
    simp only [belows, below, Bool.and_true, Bool.and_eq_true] at l
    simp only [RowsK] at h ⊢
    obtain ⟨y, v, r1, e1, h1, h2, h3⟩ := h
    exact ⟨y, v, r1, e1, h1, rep_low e e' ed s d v l.1.2 h2, rowsK_low e e' ed s ds r1 l.2 h3⟩
  | .tup [] :: _, _, _, h => by simp only [RowsK] at h
  | .tup [_] :: _, _, _, h => by simp only [RowsK] at h
  | .tup (_ :: _ :: _ :: _) :: _, _, _, h => by simp only [RowsK] at h
  | .non :: _, _, _, h => by simp only [RowsK] at h
  | .bl _ :: _, _, _, h => by simp only [RowsK] at h
  | .int _ :: _, _, _, h => by simp only [RowsK] at h
  | .str _ :: _, _, _, h => by simp only [RowsK] at h
  | .lst _ :: _, _, _, h => by simp only [RowsK] at h
  | .klst _ :: _, _, _, h => by simp only [RowsK] at h
  | .obj _ :: _, _, _, h => by simp only [RowsK] at h
  | .dic _ _ :: _, _, _, h => by simp only [RowsK] at h
  | .fdic _ _ :: _, _, _, h => by simp only [RowsK] at h
  | .gtup _ :: _, _, _, h => by simp only [RowsK] at h
theorem rowsT_low {as m : List Addr} (e : w.as = as ++ m) (e' : w'.as = as) (ed : w'.dk = w.dk) (s : Same w.G w'.G) : ∀ (ds : List D) (kvs : List (List Key × V)), belows as.length ds = true → RowsT K w ds kvs → RowsT K w' ds kvs
  | [], _, _, h => by simpa only [RowsT] using h
  | .tup [k, d] :: ds, kvs, l, h => by
    simp only [belows, below, Bool.and_true, Bool.and_eq_true] at l
    simp only [RowsT] at h ⊢
    obtain ⟨y, v, r1, e1, h1, h2, h3⟩ := h
    exact ⟨y, v, r1, e1, h1, rep_low e e' ed s d v l.1.2 h2, rowsT_low e e' ed s ds r1 l.2 h3⟩
  | .tup [] :: _, _, _, h => by simp only [RowsT] at h
  | .tup [_] :: _, _, _, h => by simp only [RowsT] at h
  | .tup (_ :: _ :: _ :: _) :: _, _, _, h => by simp only [RowsT] at h
  | .non :: _, _, _, h => by simp only [RowsT] at h
  | .bl _ :: _, _, _, h => by simp only [RowsT] at h
  | .int _ :: _, _, _, h => by simp only [RowsT] at h
  | .str _ :: _, _, _, h => by simp only [RowsT] at h
  | .lst _ :: _, _, _, h => by simp only [RowsT] at h
  | .klst _ :: _, _, _, h => by simp only [RowsT] at h
  | .obj _ :: _, _, _, h => by simp only [RowsT] at h
  | .dic _ _ :: _, _, _, h => by simp only [RowsT] at h
  | .fdic _ _ :: _, _, _, h => by simp only [RowsT] at h
  | .gtup _ :: _, _, _, h => by simp only [RowsT] at h
theorem reps_low {as m : List Addr} (e : w.as = as ++ m) (e' : w'.as = as) (ed : w'.dk = w.dk) (s : Same w.G w'.G) : ∀ (ds : List D) (vs : List V), belows as.length ds = true → Reps K w ds vs → Reps K w' ds vs
  | [], _, _, h => by simpa only [Reps] using h
  | x :: xs, vs, l, h => by
    simp only [belows, Bool.and_eq_true] at l
    obtain ⟨v, r1, rfl, h1, h2⟩ := h.inv
    exact .cons (rep_low e e' ed s x v l.1 h1) (reps_low e e' ed s xs r1 l.2 h2)
end
theorem entR_low {as m : List Addr} (e : w.as = as ++ m) (e' : w'.as = as) (ed : w'.dk = w.dk) (s : Same w.G w'.G) {k : Option Kd} {L : Lk} {xs : List D} {o : HO} (l : belows as.length xs = true) (h : EntR K w k L xs o) : EntP K w' k xs o := by
  rcases h with ⟨_, h⟩ | ⟨_, rows, ob, kvs, _, e1, _⟩
  · match k, h with
    | none, ⟨vs, z, n, r⟩ => exact ⟨vs, z, n, reps_low e e' ed s _ _ l r⟩
    | some (.b false), ⟨vs, z, n, r⟩ => exact ⟨vs, z, n, rowsK_low e e' ed s _ _ l r⟩
    | some (.b true), ⟨vs, z, n, r⟩ => exact ⟨vs, z, n, rowsT_low e e' ed s _ _ l r⟩
    | some (.ins c), ⟨dx, vs, z, r⟩ => exact ⟨dx, vs, z, rowsK_low e e' ed s _ _ l r⟩
  · rw [e1, belows_lock] at l
    cases l
theorem entR_sub {p : Addr} {o : HO} {a : List D} {as : List Addr} (e : w.as = as ++ [p]) (e' : w'.as = as) (ed : w'.dk = w.dk) (s : Same w.G w'.G) (g : w'.G p = some o) (r : EntP K w' (w.dk p) a o) {k : Option Kd} {L : Lk} {xs : List D} {u : HO} (h : EntR K w k L xs u) : EntR K w' k L (xs.map (sub as.length a)) u := by
  rw [← subs_map]
  rcases h with ⟨hL, h⟩ | ⟨hk, rows, ob, kvs, e0, e1, e2, n, q⟩
  · refine .inl ⟨hL, ?_⟩
    match k, h with
    | none, ⟨vs, z, n, q⟩ => exact ⟨vs, z, n, reps_sub e e' ed s g r _ _ q⟩
    | some (.b false), ⟨vs, z, n, q⟩ => exact ⟨vs, z, n, rowsK_sub e e' ed s g r _ _ q⟩
    | some (.b true), ⟨vs, z, n, q⟩ => exact ⟨vs, z, n, rowsT_sub e e' ed s g r _ _ q⟩
    | some (.ins c), ⟨dx, vs, z, q⟩ => exact ⟨dx, vs, z, rowsK_sub e e' ed s g r _ _ q⟩
  · refine .inr ⟨hk, subs as.length a rows, ob, kvs, e0, ?_, e2, n, rowsK_sub e e' ed s g r _ _ q⟩
    rw [e1, subs_map, List.map_append, ← subs_map, List.map_singleton]
    simp only [lockD, sub, subs]
theorem entR_small {k : Option Kd} {L : Lk} {xs : List D} {o : HO} (h : EntR K w k L xs o) : SizeOk o := by
  rcases h with ⟨_, h⟩ | ⟨_, _, _, _, _, _, rfl, _⟩
  · cases k with
    | none =>
      obtain ⟨vs, rfl, n, _⟩ := h
      exact n
    | some t =>
      rcases t with (_ | _) | c
      · obtain ⟨vs, rfl, _⟩ := h
        trivial
      · obtain ⟨vs, rfl, _⟩ := h
        trivial
      · obtain ⟨dx, vs, rfl, _⟩ := h
        trivial
  · trivial
theorem frz_one {sx : Sto} {b : List D} (W : Wld K w (sx ++ [b]) H) (hb : belows sx.length b = true) :
    ∃ w', (∃ m, w.as = w'.as ++ m) ∧ Same w.G w'.G ∧ (w'.hid = w.hid ∧ w'.dk = w.dk ∧ w'.lk = w.lk) ∧ Wld K w' (sx.map (List.map (sub sx.length b))) H ∧ ∀ d v, Rep K w d v → Rep K w' (sub sx.length b d) v := by
  have hlen : w.as.length = sx.length + 1 := by rw [W.len, List.length_append, List.length_singleton]
  obtain ⟨as, p, e⟩ : ∃ as p, w.as = as ++ [p] := by
    refine ⟨w.as.dropLast, w.as.getLast (fun z => by rw [z] at hlen; simp at hlen), ?_⟩
    rw [List.dropLast_concat_getLast]
  have elen : as.length = sx.length := by
    rw [e, List.length_append, List.length_singleton] at hlen
    omega
  obtain ⟨g, xs, us, h1, h2, h3⟩ := W.at_ as.length p (by rw [e, List.getElem?_concat_length])
  have exs : xs = b := by
    rw [elen, List.getElem?_concat_length] at h1
    exact (Option.some.inj h1).symm
  subst exs
  have s : Same w.G (upd w.G p us) := fun c u q => by
    rw [upd_ne (ne_of_none q g)]
    exact q
  have R0 : EntP K ⟨upd w.G p us, as, w.hid, w.dk, w.lk⟩ (w.dk p) xs us := entR_low (w' := ⟨upd w.G p us, as, w.hid, w.dk, w.lk⟩) e rfl rfl s (by rw [elen]; exact hb) h3
  have conv : ∀ d v, Rep K w d v → Rep K ⟨upd w.G p us, as, w.hid, w.dk, w.lk⟩ (sub sx.length xs d) v := fun d v h => by
    rw [← elen]
    exact rep_sub (w' := ⟨upd w.G p us, as, w.hid, w.dk, w.lk⟩) e rfl rfl s upd_same R0 d v h
  have convs : ∀ {k : Option Kd} {L : Lk} {ds : List D} {u : HO}, EntR K w k L ds u → EntR K ⟨upd w.G p us, as, w.hid, w.dk, w.lk⟩ k L (ds.map (sub sx.length xs)) u := fun h => by
    rw [← elen]
    exact entR_sub (w' := ⟨upd w.G p us, as, w.hid, w.dk, w.lk⟩) e rfl rfl s upd_same R0 h
  have nd : (as ++ [p]).Nodup := by rw [← e]; exact W.nd
  have pas : p ∉ as := fun z => (List.nodup_append.mp nd).2.2 p z p (by simp) rfl
  have inas : p ∈ w.as := by rw [e]; simp
  refine ⟨⟨upd w.G p us, as, w.hid, w.dk, w.lk⟩, ⟨[p], e⟩, s, ⟨rfl, rfl, rfl⟩, ⟨fun c u q => ?_, by rw [List.length_map]; exact elen, (List.nodup_append.mp nd).1, fun i a q => ?_, fun c u q => ?_, fun c vs m => ?_, W.hnd⟩, conv⟩
  · have q' : upd w.G p us c = some u := q
    by_cases hc : c = p
    · subst hc
      rw [upd_same] at q'
      cases q'
      exact h2
    · rw [upd_ne hc] at q'
      exact W.same c u q'
  · have hlt : i < as.length := (List.getElem?_eq_some_iff.mp q).1
    obtain ⟨g', ys, vs, k1, k2, k3⟩ := W.at_ i a (by rw [e, List.getElem?_append_left hlt]; exact q)
    have ne : a ≠ p := fun z => pas (by rw [← z]; exact List.mem_of_getElem? q)
    rw [List.getElem?_append_left (by omega)] at k1
    refine ⟨?_, ys.map (sub sx.length xs), vs, by rw [List.getElem?_map, k1]; rfl, k2, convs k3⟩
    show upd w.G p us a = none
    rw [upd_ne ne]
    exact g'
  · have q' : upd w.G p us c = some u := q
    by_cases hc : c = p
    · subst hc
      rw [upd_same] at q'
      cases q'
      exact entR_small h3
    · rw [upd_ne hc] at q'
      exact W.small c u q'
  · obtain ⟨g', n, k1⟩ := W.hidd c vs m
    have ne : c ≠ p := fun z => n (by rw [z]; exact inas)
    refine ⟨?_, fun z => n (by rw [e]; exact List.mem_append_left _ z), k1⟩
    show upd w.G p us c = none
    rw [upd_ne ne]
    exact g'
/-- the store's lists from place n on, frozen in what is told -/
def frzs : Nat → List (List D) → D → D
  | _, [], d => d
  | n, a :: r, d => sub n (a.map (frzs (n + 1) r)) (frzs (n + 1) r d)
def SafeLoc : Nat → List (List D) → Prop
  | _, [] => True
  | n, a :: r => belows n (a.map (frzs (n + 1) r)) = true ∧ SafeLoc (n + 1) r
theorem frz_loc : ∀ (loc : List (List D)) (w : Wd) (s1 : Sto), Wld K w (s1 ++ loc) H → SafeLoc s1.length loc →
    ∃ w', (∃ m, w.as = w'.as ++ m) ∧ Same w.G w'.G ∧ (w'.hid = w.hid ∧ w'.dk = w.dk ∧ w'.lk = w.lk) ∧ Wld K w' (s1.map (List.map (frzs s1.length loc))) H ∧ ∀ d v, Rep K w d v → Rep K w' (frzs s1.length loc d) v
  | [], w, s1, W, _ => by
    refine ⟨w, ⟨[], by simp⟩, Same.refl _, ⟨rfl, rfl, rfl⟩, ?_, fun d v h => h⟩
    have e : s1.map (List.map (frzs s1.length [])) = s1 := by
      have : List.map (frzs s1.length []) = id := by
        funext xs
        show xs.map (fun d => d) = xs
        simp
      rw [this, List.map_id]
    rw [e]
    rw [List.append_nil] at W
    exact W
  | a :: r, w, s1, W, h => by
    have W' : Wld K w ((s1 ++ [a]) ++ r) H := by rw [List.append_assoc]; exact W
    have n1 : (s1 ++ [a]).length = s1.length + 1 := by simp
    obtain ⟨w1, p1, g1, hd1, W1, c1⟩ := frz_loc r w (s1 ++ [a]) W' (by rw [n1]; exact h.2)
    rw [n1] at W1 c1
    rw [List.map_append, List.map_singleton] at W1
    have n2 : (s1.map (List.map (frzs (s1.length + 1) r))).length = s1.length := by simp
    obtain ⟨w2, p2, g2, hd2, W2, c2⟩ := frz_one W1 (by rw [n2]; exact h.1)
    rw [n2] at W2 c2
    refine ⟨w2, ?_, g1.trans g2, ⟨hd2.1.trans hd1.1, hd2.2.1.trans hd1.2.1, hd2.2.2.trans hd1.2.2⟩, ?_, fun d v q => c2 _ _ (c1 d v q)⟩
    · obtain ⟨m1, e1⟩ := p1
      obtain ⟨m2, e2⟩ := p2
      exact ⟨m2 ++ m1, by rw [e1, e2, List.append_assoc]⟩
    · have e : s1.map (List.map (frzs s1.length (a :: r))) = (s1.map (List.map (frzs (s1.length + 1) r))).map (List.map (sub s1.length (a.map (frzs (s1.length + 1) r)))) := by
        rw [List.map_map]
        congr 1
        funext xs
        show xs.map (frzs s1.length (a :: r)) = (xs.map (frzs (s1.length + 1) r)).map (sub s1.length (a.map (frzs (s1.length + 1) r)))
        rw [List.map_map]
        rfl
      rw [e]
      exact W2
theorem frzs_below : ∀ (loc : List (List D)) (n : Nat) (d : D), below n d = true → frzs n loc d = d
  | [], _, _, _ => rfl
  | a :: r, n, d, h => by
    show sub n _ (frzs (n + 1) r d) = d
    rw [frzs_below r (n + 1) d (below_mono (Nat.le_succ n) d h)]
    exact sub_below d h
theorem frzs_lock : ∀ (loc : List (List D)) (n : Nat), frzs n loc lockD = lockD
  | [], _ => rfl
  | a :: r, n => by
    show sub n _ (frzs (n + 1) r lockD) = lockD
    rw [frzs_lock r (n + 1)]
    simp only [lockD, sub, subs]
theorem belows_mem {n : Nat} : ∀ {xs : List D} {d : D}, belows n xs = true → d ∈ xs → below n d = true
  | [], _, _, m => by cases m
  | x :: xs, d, h, m => by
    simp only [belows, Bool.and_eq_true] at h
    rcases List.mem_cons.mp m with rfl | m
    · exact h.1
    · exact belows_mem h.2 m
/-- what a def leaves: st1 in the place of the callers' store, loc its own lists -/
def Frz (st : Sto) (d : D) (st' : Sto) (kk : DK) : Prop := ∃ st1 loc, st' = st1 ++ loc ∧ st1.length = st.length ∧ (∀ (i : Nat) (xs : List D), st1[i]? = some xs → st[i]? = some xs ∨ belows st.length xs = true) ∧ SafeLoc st.length loc ∧ kk (frzs st.length loc d) st1
theorem Frz.none {st : Sto} {d : D} {kk : DK} (h : kk d st) : Frz st d st kk := ⟨st, [], by simp, rfl, fun _ _ e => .inl e, trivial, h⟩
theorem Frz.one {st : Sto} {a : List D} {d : D} {kk : DK} (hb : belows st.length a = true) (h : kk (sub st.length a d) st) : Frz st d (st ++ [a]) kk := by
  have e : a.map (frzs (st.length + 1) []) = a := by
    show a.map (fun d => d) = a
    simp
  refine ⟨st, [a], rfl, rfl, fun _ _ e => .inl e, ⟨?_, trivial⟩, ?_⟩
  · rw [e]; exact hb
  · show kk (sub st.length (a.map (frzs (st.length + 1) [])) d) st
    rw [e]
    exact h
theorem fol_frz {kk : DK} {Q : VK} (W : Wld K w st H) (fo : Fol K w kk Q) : Fol K w (fun d st' => Frz st d st' kk) Q := by
  rintro d st' v w1 H' ⟨st1, loc, rfl, hl, hs, hloc, k⟩ l1 W1 R1
  rw [← hl] at hloc
  obtain ⟨w2, p2, g2, hd2, W2, c2⟩ := frz_loc loc w1 st1 W1 hloc
  have low : ∀ xs ∈ st1, ∀ d ∈ xs, below st1.length d = true ∨ d = lockD := fun xs m => by
    obtain ⟨i, hi⟩ := List.getElem?_of_mem m
    rcases hs i xs hi with h | h
    · have hi' : i < w.as.length := by
        rw [W.len, ← hl]
        exact (List.getElem?_eq_some_iff.mp hi).1
      obtain ⟨_, ys, vs, k1, _, k4⟩ := W.at_ i w.as[i] (by rw [List.getElem?_eq_getElem hi'])
      rw [h] at k1
      cases k1
      rw [hl, ← W.len]
      exact entR_ok k4
    · rw [hl]; exact fun d md => .inl (belows_mem h md)
  have est : st1.map (List.map (frzs st1.length loc)) = st1 := by
    have : ∀ xs ∈ st1, List.map (frzs st1.length loc) xs = xs := fun xs m => by
      have : ∀ d ∈ xs, frzs st1.length loc d = d := fun d md => by
        rcases low xs m d md with z | z
        · exact frzs_below loc _ d z
        · rw [z]
          exact frzs_lock loc _
      rw [List.map_congr_left this]
      simp
    rw [List.map_congr_left this]
    simp
  rw [est] at W2
  have eas : w2.as = w.as := by
    obtain ⟨m1, e1⟩ := l1.pre.as
    obtain ⟨m2, e2⟩ := p2
    have n2 : w2.as.length = w.as.length := by rw [W2.len, hl, W.len]
    have h : w2.as ++ m2 = w.as ++ m1 := by rw [← e2, e1]
    exact (List.append_inj h n2).1
  refine fo _ _ v w2 H' k ⟨⟨l1.same.trans g2, ⟨⟨[], by rw [eas]; simp⟩, fun a ha => by rw [hd2.2.1]; exact l1.pre.dk a ha⟩, fun a ha => by rw [hd2.2.2]; exact l1.lk a ha⟩, hd2.1.trans l1.hid⟩ W2 ?_
  rw [← hl]
  exact c2 d v R1
end

/-! ### a def keeps its promise -/
def startD (N : List Str) (ds : List D) : Env := ds.map some ++ List.replicate (N.length - ds.length) none
theorem startD_rep {K : PySem.W.Frag} {w : Wd} {N : List Str} {ds : List D} {vs : List V} (R : Reps K w ds vs) : EnvR K w (startD N ds) (L2.start N vs) := by
  unfold startD L2.start
  refine ⟨by simp [R.length], fun i d e => ?_⟩
  by_cases hi : i < ds.length
  · rw [List.getElem?_append_left (by simpa using hi), List.getElem?_map, List.getElem?_eq_getElem hi] at e
    obtain ⟨v, h1, h2⟩ := R.get (i := i) (d := d) (by rw [List.getElem?_eq_getElem hi]; simpa using e)
    refine ⟨v, ?_, h2⟩
    rw [List.getElem?_append_left (by rw [List.length_map, R.length]; exact hi), List.getElem?_map, h1]
    rfl
  · rw [List.getElem?_append_right (by simpa using hi), List.getElem?_replicate] at e
    split at e <;> cases e
section
variable {P : Program} {wo : World} {K : PySem.W.Frag} {mg : Str → Option Value} {base : Heap} {x qual : Str} {params : Arguments} {body : List Stmt} {scope : Scope} {kws : List (Str × V)} {f : Addr} {fd : FuncData} {N ps : List Str} {k : Nat} {sp : SpD} {t : DS}
/-- what the body reads to: frozen (fz) or as it stands -/
def BodyD (fz : Bool) (N : List Str) (sp : SpD) (t : DS) : Prop := ∀ ds st kk, sp ds st kk →
  t ⟨fun _ st' => if fz = true then Frz st .non st' kk else kk .non st', fun d st' => if fz = true then Frz st d st' kk else kk d st'⟩ (startD N ds) st
theorem fnD (fz : Bool) (F : FunD K x qual params body scope [] kws f fd) (S : FnScope N ps scope) (len : ∀ ds st kk, sp ds st kk → ds.length = ps.length)
    (hd : ∀ (cdv : Value) (A : Around) (outer : List PySem.Env) (s : Shared) (H : Hp) (E : XK), RoomG k (A.deeper (envOfC qual scope s.heap.objs.size f cdv)) → PDSs (cxOf CX0 P wo K mg base N qual scope f cdv A outer s H E).nox body t)
    (hp : BodyD fz N sp t) : FnG P wo K mg base CX0 (k + 1) f fd ps (spD K sp) := by
  refine fnG_body F S (fun vs H Q E ⟨w, st, ds, kk, W, R, q, fo⟩ => R.length.trans (len ds st kk q)) fun cdv A outer s H vs Q E hr ⟨w, st, ds, kk, W, R, q, fo⟩ => ?_
  refine ⟨_, PSs.nox (hd cdv A outer s H E hr), w, startD N ds, st, _, W, startD_rep R, hp ds st kk q, ?_, ?_⟩
  · intro env' st' σ' w' H' h l W' E'
    cases fz with
    | true => exact fol_frz W fo _ _ _ _ _ h l W' rep_non
    | false => exact fo _ _ _ _ _ h l W' rep_non
  · cases fz with
    | true => exact fol_frz W fo
    | false => exact fo
end

/-! ### the law -/
/-- what is promised of a law: True, whatever numbers the script has -/
def spLaw : SpD := fun ds st kk => ∃ ns : List Int, ds = [.klst (ns.map D.int)] ∧ ns.length ≤ 63 ∧ (∀ z ∈ ns, Builtin.Int.intBits z ≤ 1048576) ∧ st = [] ∧ ∀ st', kk (.bl true) st'
theorem law_start {K : PySem.W.Frag} {H : Hp} {a : Addr} {ns : List Int} (hn : ns.length ≤ 63) (hb : ∀ z ∈ ns, Builtin.Int.intBits z ≤ 1048576) (hS : SqL K H a (ns.map V.int)) : spD K spLaw [.ref a] H (fun v _ => v = .bl true) fun _ _ _ => False := by
  have small : (ns.map V.int).length ≤ sizeLine := by rw [List.length_map, sizeLine_eq]; omega
  have fin : ∀ G : Hp, Same G H → (∀ a u, G a = some u → SizeOk u) → SqL K G a (ns.map V.int) → spD K spLaw [.ref a] H (fun v _ => v = .bl true) fun _ _ _ => False := fun G s sm q => by
    refine ⟨⟨G, [], [], fun _ => none, fun _ => none⟩, [], [.klst (ns.map D.int)], fun d _ => d = .bl true, ⟨s, rfl, List.nodup_nil, fun i a e => (by simp at e), sm, fun a vs m => (by cases m), List.nodup_nil⟩, .cons ?_ .nil, ⟨ns, rfl, hn, hb, rfl, fun _ => rfl⟩, fun d st' v w' H' e _ _ R => ?_⟩
    · simp only [Rep]
      exact ⟨a, _, rfl, q, Reps.of_ints ns⟩
    · subst e
      simpa only [Rep] using R
  rcases hS with (h | ⟨o, h⟩) | h
  · refine fin (fun b => if b = a then some (.lst (ns.map V.int)) else none) (fun b u e => ?_) (fun b u e => ?_) (.of (if_pos rfl))
    · by_cases hb : b = a
      · subst hb
        have e' := (if_pos rfl).symm.trans e
        cases e'
        exact h
      · have e' := (if_neg hb).symm.trans e
        cases e'
    · by_cases hb : b = a
      · have e' := (if_pos hb).symm.trans e
        cases e'
        exact small
      · have e' := (if_neg hb).symm.trans e
        cases e'
  · refine fin (fun b => if b = a then some (.frz o (.lst (ns.map V.int))) else none) (fun b u e => ?_) (fun b u e => ?_) (.inl (.inr ⟨o, if_pos rfl⟩))
    · by_cases hb : b = a
      · subst hb
        have e' := (if_pos rfl).symm.trans e
        cases e'
        exact h
      · have e' := (if_neg hb).symm.trans e
        cases e'
    · by_cases hb : b = a
      · have e' := (if_pos hb).symm.trans e
        cases e'
        exact small
      · have e' := (if_neg hb).symm.trans e
        cases e'
  · exact fin (fun _ => none) (fun b u e => by cases e) (fun b u e => by cases e) (.inr h)
/-- the end of a law's proof, the script's sizes told -/
theorem law_end {l : PySem.W.OpenLaw} {k : Nat} {q : Program} {loose : List Str} {XP : (Str → Option Value) → Heap → Prop} {YP : World → Heap → Prop} {d : DefRec} {x : Str}
    (hn : l.most = some 63) (hdf : d.params.defaults = []) (hr : RoomG k callerA)
    (F : ∀ (w : World) (mg : Str → Option Value) (fa : Addr) (h : Heap), YP w h → h.Ns mainGlobals mg → mg d.name = some (.ref fa) →
      ∃ (K : PySem.W.Frag) (fd : FuncData), K.In h ∧ (∀ (s : Shared) (u : Value), BindsTo s fd ⟨[u], []⟩ [(x, u)]) ∧
        ∀ base : Heap, K.In base → base.Ns mainGlobals mg → FnG l.prog w K mg base CX0 k fa fd [x] (spD K spLaw)) :
    PySem.W.WalkO q loose XP YP l.row.toRowW d [] (fun f vs => PySem.call f vs) := by
  refine Att.attach_callB hn hdf ?_
  intro w s₀ s₁ mg mb fa o pm cd doc a vs ns G Y ho hd hcd hmg hobj hints hlen hbits hg
  obtain ⟨K, fd, KX, hb, hF⟩ := F w mg fa _ Y G.T.g hmg
  refine law_callG KX G.T.g G.T.b G.T.builtins G.T.nolimit hg hobj hints (Nat.le_trans hlen (by decide)) hr hF hb ?_ ?_
  · exact fun H _ hS => law_start hlen hbits hS
  · exact fun H e s' z => z
end DL

namespace DL
open PySem PySem.Spec PyProof.Rows L2
/-! ### callees, as a def's derivation takes them -/
def Cal (P : Program) (wo : World) (K : PySem.W.Frag) (mg : Str → Option Value) (base : Heap) (k : Nat) (nm : Str) (ps : List Str) (sp : SpD) : Prop :=
  ∃ f fd, mg nm = some (.ref f) ∧ PySem.W.keepIn K (.ref f) = true ∧ FnG P wo K mg base CX0 k f fd ps (spD K sp) ∧ Binds K fd ps []
def Calk (P : Program) (wo : World) (K : PySem.W.Frag) (mg : Str → Option Value) (base : Heap) (k : Nat) (nm : Str) (ps : List Str) (sp : SpD) (n : Nat) (ks : List Str) (ix : List Nat) : Prop :=
  ∃ f fd, mg nm = some (.ref f) ∧ PySem.W.keepIn K (.ref f) = true ∧ FnG P wo K mg base CX0 k f fd ps (spD K sp) ∧ KBn K fd ps n ks (kperm ix) (kperm ix)
section
variable {P : Program} {wo : World} {K : PySem.W.Frag} {mg : Str → Option Value} {base : Heap} {k j : Nat} {nm : Str} {ps : List Str} {sp : SpD}
theorem Cal.up (c : Cal P wo K mg base k nm ps sp) (h : k ≤ j) : Cal P wo K mg base j nm ps sp :=
  let ⟨f, fd, a, b, F, d⟩ := c; ⟨f, fd, a, b, F.mono h, d⟩
theorem Calk.up {n : Nat} {ks : List Str} {ix : List Nat} (c : Calk P wo K mg base k nm ps sp n ks ix) (h : k ≤ j) : Calk P wo K mg base j nm ps sp n ks ix :=
  let ⟨f, fd, a, b, F, d⟩ := c; ⟨f, fd, a, b, F.mono h, d⟩
variable {X : Cx} {e : Expr} {es : List Expr} {p pos : Pos} {t tk : DA}
theorem pd_callC (c : Cal X.prog X.w X.K X.mg X.base k nm ps sp) (hr : RoomG j X.A)
    (ha : PDA X (e :: es) t) (hkj : k ≤ j := by decide) (hg : Gl X nm := by rfl) (hdb : (nm == ("__debug__" : Str)) = false := by decide) (he : starEach (e :: es) X.env = (false, eval e X.env) :: starEach es X.env := by rfl) (hpl : (backTo pos (starEach es X.env)).any (·.1) = false := by rfl) :
    PD X (.Call (.Name nm p) (e :: es) [] pos) (dCall sp t) := by
  obtain ⟨f, fd, a, b, F, d⟩ := c
  exact pd_call F (hr.mono hkj) a b d ha hg hdb he hpl
end
/-- a def without defaults as it stands behind the top -/
abbrev FnP (K : PySem.W.Frag) (x : Str) (st : Stmt) (f : Addr) (fd : FuncData) : Prop := FunD K x x (defArgs st) (defBody st) (defScope st) [] [] f fd
/-- a promise that is the body's own reading: nothing is said of it -/
def inl (fz : Bool) (N : List Str) (n : Nat) (t : DS) : SpD := fun ds st kk => ds.length = n ∧
  t ⟨fun _ st' => if fz = true then Frz st .non st' kk else kk .non st', fun d st' => if fz = true then Frz st d st' kk else kk d st'⟩ (startD N ds) st
theorem inl_body (fz : Bool) (N : List Str) (n : Nat) (t : DS) : BodyD fz N (inl fz N n t) t := fun _ _ _ h => h.2
end DL

/-! readings evaluated: one equation a form -/
namespace DL
open PySem PySem.Spec PyProof.Rows L2
def testK (k : Bool → Sto → Prop) : DK := fun d s1 => match d with
  | .bl b => k b s1
  | _ => False
def truK (k : Bool → Sto → Prop) : DK := fun d s1 => OkTru s1 d ∧ k (truD s1 d) s1
def andK (u : DE) (env : DL.Env) (k : DK) : DK := fun d s1 => match d with
  | .bl b => if b = true then u env s1 k else k (.bl false) s1
  | _ => False
def notK (k : DK) : DK := fun d s1 => match d with
  | .bl b => k (.bl (!b)) s1
  | _ => False
def someK (k : Option Int → Sto → Prop) : DK := fun d s1 => match d with
  | .int i => k (some i) s1
  | _ => False
def iterK (kk : DIk) : DK := fun d s1 => match deref s1 d with
  | .lst xs => xs.length ≤ 16777216 → kk xs (srcOf d xs) s1
  | .tup xs => xs.length ≤ 16777216 → kk xs [] s1
  | .str z => kk (signs z) [] s1
  | _ => False
def enumK (kk : DIk) : DK := fun d s1 => match deref s1 d with
  | .lst xs => xs.length ≤ 16777216 → kk (enumD 0 xs) (srcOf d xs) s1
  | .tup xs => xs.length ≤ 16777216 → kk (enumD 0 xs) [] s1
  | _ => False
def rng1K (kk : DIk) : DK := fun d s1 => match d with
  | .int j => (-(2 ^ 62) ≤ j ∧ j < 2 ^ 62) ∧ kk (rangeD 0 j.toNat) [] s1
  | _ => False
def rng2K (kk : DIk) (d : D) : DK := fun e s2 => match d, e with
  | .int i, .int j => (-(2 ^ 62) ≤ i ∧ i < 2 ^ 62 ∧ -(2 ^ 62) ≤ j ∧ j < 2 ^ 62) ∧ kk (rangeD i (j - i).toNat) [] s2
  | _, _ => False
def parK (i j : Nat) (env : DL.Env) (nx : DL.Env → Sto → Prop) : List D → Sto → Prop := fun ds s1 => match ds with
  | [d, e] => dgName i d env s1 fun env1 s2 => dgName j e env1 s2 nx
  | _ => False
section
variable {env r : DL.Env} {st : Sto} {k : DK} {kt : Bool → Sto → Prop} {ka : List D → Sto → Prop} {kg : DL.Env → Sto → Prop} {kk : DIk} {d e : D} {ds es : List D} {a : Option D} {n m i j : Nat} {t u v : DE} {c c2 : DT} {ta tb : DA} {f g : F2} {f1 : F1} {fb : FB} {fm : FM} {sp : SpD} {E : DEnds} {s1 s2 : DS} {tg : DG} {tgs : DGs} {di : DI} {o o2 : DO} {fc : D → Option Int → Option Int → Sto → DK → Prop}
theorem e_v0 : dVar 0 (some d :: r) st k = k d st := rfl
theorem e_vs : dVar (n + 1) (a :: r) st k = dVar n r st k := rfl
theorem e_c : dC d env st k = k d st := rfl
theorem e_op : dOp f t u env st k = t env st fun x s1 => u env s1 fun y s2 => f x y s2 k := rfl
theorem e_un : dUn f1 t env st k = t env st fun x s1 => f1 x s1 k := rfl
theorem e_test : dTest t env st kt = t env st (testK kt) := rfl
theorem e_testK {b : Bool} : testK kt (.bl b) st = kt b st := rfl
theorem e_tru : dTru t env st kt = t env st (truK kt) := rfl
theorem e_truL : truK kt (.lst ds) st = kt (!ds.isEmpty) st := by simp [truK, OkTru, truD, deref]
theorem e_truT : truK kt (.tup ds) st = kt (!ds.isEmpty) st := by simp [truK, OkTru, truD, deref]
theorem e_truB {b : Bool} : truK kt (.bl b) st = kt b st := by simp [truK, OkTru, truD, deref]
theorem e_truI {b : Int} : truK kt (.int b) st = kt (b != 0) st := by simp [truK, OkTru, truD, deref]
theorem e_truN : truK kt .non st = kt false st := by simp [truK, OkTru, truD, deref]
theorem e_truS {x : Str} : truK kt (.str x) st = (x.length ≤ sizeLine ∧ kt ((x.length : Int) != 0) st) := by simp [truK, OkTru, truD, deref]
theorem e_not : dNot c env st kt = c env st fun b s1 => kt (!b) s1 := rfl
theorem e_and : dAnd c c2 env st kt = c env st fun b s1 => if b = true then c2 env s1 kt else kt false s1 := rfl
theorem e_or : dOr c c2 env st kt = c env st fun b s1 => if b = true then kt true s1 else c2 env s1 kt := rfl
theorem e_andv : dAndV t u env st k = t env st (andK u env k) := rfl
theorem e_notv : dNotV t env st k = t env st (notK k) := rfl
theorem e_andK {b : Bool} : andK u env k (.bl b) st = if b = true then u env st k else k (.bl false) st := rfl
theorem e_notK {b : Bool} : notK k (.bl b) st = k (.bl (!b)) st := rfl
theorem e_if : dIf c t u env st k = c env st fun b s1 => if b = true then t env s1 k else u env s1 k := rfl
theorem e_nil : dNil env st ka = ka [] st := rfl
theorem e_cons : dCons t ta env st ka = t env st fun d s1 => ta env s1 fun ds s2 => ka (d :: ds) s2 := rfl
theorem e_tup : dTup ta env st k = ta env st fun ds s1 => ds.length ≤ 16777216 ∧ k (.tup ds) s1 := rfl
theorem e_lst : dLst ta env st k = ta env st fun ds s1 => ds.length ≤ 16777216 ∧ k (.lst ds) s1 := rfl
theorem e_new : dNew ta env st k = ta env st fun ds s1 => ds.length ≤ 16777216 ∧ k (.obj s1.length) (s1 ++ [ds]) := rfl
theorem e_call : dCall sp ta env st k = ta env st fun ds s1 => sp ds s1 k := rfl
theorem e_drop : dDrop t E env st = t env st fun _ s1 => E.nx env s1 := rfl
theorem e_ret : dRet t E env st = t env st E.rt := rfl
theorem e_pass : dPass E env st = E.nx env st := rfl
theorem e_ifS : dIfS c s1 s2 E env st = c env st fun b s => if b = true then s1 E env s else s2 E env s := rfl
theorem e_g0 : dgName 0 d (a :: r) st kg = kg (some d :: r) st := rfl
theorem e_gs : dgName (n + 1) d (a :: r) st kg = dgName n d r st fun env' st' => kg (a :: env') st' := rfl
theorem e_gnil : dgNil [] env st kg = kg env st := rfl
theorem e_gcons : dgCons tg tgs (d :: ds) env st kg = tg d env st fun env' st' => tgs ds env' st' kg := rfl
theorem e_gtup : dgTup n tgs (.tup ds) env st kg = (ds.length = n ∧ tgs ds env st kg) := rfl
theorem e_asg : dAsg t tg E env st = t env st fun d s1 => tg d env s1 E.nx := rfl
theorem e_par : dPar i j ta E env st = ta env st (parK i j env E.nx) := by
  unfold dPar
  congr 1
theorem e_parK : parK i j env kg [d, e] st = dgName i d env st fun env1 s2 => dgName j e env1 s2 kg := rfl
theorem e_no {ko : Option Int → Sto → Prop} : dNo env st ko = ko none st := rfl
theorem e_some {ko : Option Int → Sto → Prop} : dSome t env st ko = t env st (someK ko) := rfl
theorem e_someK {ko : Option Int → Sto → Prop} {b : Int} : someK ko (.int b) st = ko (some b) st := rfl
theorem e_cut : dCut fc t o o2 env st k = t env st fun d s1 => o env s1 fun lo s2 => o2 env s2 fun hi s3 => fc d lo hi s3 k := rfl
theorem e_b : dB fb ta env st k = ta env st fun ds s1 => fb ds s1 k := rfl
theorem e_iter : dIter t env st kk = t env st (iterK kk) := rfl
theorem e_iterL : iterK kk (.lst ds) st = (ds.length ≤ 16777216 → kk ds [] st) := rfl
theorem e_iterT : iterK kk (.tup ds) st = (ds.length ≤ 16777216 → kk ds [] st) := rfl
theorem e_iterS {x : Str} : iterK kk (.str x) st = kk (signs x) [] st := rfl
theorem e_iterO {xs : List D} (h : st[i]? = some xs) : iterK kk (.obj i) st = (xs.length ≤ 16777216 → kk xs [(i, xs)] st) := by simp [iterK, deref, srcOf, h]
theorem e_rng1 : dRng1 t env st kk = t env st (rng1K kk) := rfl
theorem e_rng1K {b : Int} : rng1K kk (.int b) st = ((-(2 ^ 62) ≤ b ∧ b < 2 ^ 62) ∧ kk (rangeD 0 b.toNat) [] st) := rfl
theorem e_rng2 : dRng2 t u env st kk = t env st fun d s1 => u env s1 (rng2K kk d) := rfl
theorem e_rng2K {a b : Int} : rng2K kk (.int a) (.int b) st = ((-(2 ^ 62) ≤ a ∧ a < 2 ^ 62 ∧ -(2 ^ 62) ≤ b ∧ b < 2 ^ 62) ∧ kk (rangeD a (b - a).toNat) [] st) := rfl
theorem e_enum : dEnum t env st kk = t env st (enumK kk) := rfl
theorem e_enumL : enumK kk (.lst ds) st = (ds.length ≤ 16777216 → kk (enumD 0 ds) [] st) := rfl
theorem e_enumT : enumK kk (.tup ds) st = (ds.length ≤ 16777216 → kk (enumD 0 ds) [] st) := rfl
theorem e_for : dFor di tg s1 E env st = di env st fun xs src s => goFor src tg s1 E xs env s := rfl
theorem e_lc {vs : List Nat} : dLc di tg c t vs env st k = di env st fun xs src s1 => xs.length ≤ 16777216 ∧ goLc src tg c t vs env (fun acc s2 => k (.lst acc) s2) xs [] s1 := rfl
theorem e_lcNew {vs : List Nat} : dLcNew di tg c t vs env st k = di env st fun xs src s1 => xs.length ≤ 16777216 ∧ goLc src tg c t vs env (fun acc s2 => k (.obj s2.length) (s2 ++ [acc])) xs [] s1 := rfl
theorem e_forN {src : List (Nat × List D)} : goFor src tg s1 E [] env st = (SrcOk src st ∧ E.nx env st) := rfl
theorem e_forC {src : List (Nat × List D)} {x : D} {xs : List D} : goFor src tg s1 E (x :: xs) env st = (SrcOk src st ∧ tg x env st fun env' st' => s1 ⟨fun env2 st2 => goFor src tg s1 E xs env2 st2, E.rt⟩ env' st') := rfl
theorem e_lcN {src : List (Nat × List D)} {vs : List Nat} : goLc src tg c t vs env ka [] ds st = (SrcOk src st ∧ ka ds st) := rfl
theorem e_lcC {src : List (Nat × List D)} {vs : List Nat} {x : D} {xs : List D} : goLc src tg c t vs env ka (x :: xs) ds st = (SrcOk src st ∧ tg x (wipeE env vs) st fun env' st' => c env' st' fun b s1 =>
      if b = true then t env' s1 fun d s2 => goLc src tg c t vs env ka xs (ds ++ [d]) s2 else goLc src tg c t vs env ka xs ds s1) := rfl
theorem e_srcN : SrcOk [] st = True := rfl
theorem e_srcC {p : Nat × List D} {r : List (Nat × List D)} : SrcOk (p :: r) st = (st[p.1]? = some p.2 ∧ SrcOk r st) := rfl
theorem e_meth : dMeth fm t ta env st k = t env st fun d s1 => isLst s1 d = true ∧ ta env s1 fun ds s2 => fm d ds s2 k := rfl
theorem e_isL : isLst st (.lst ds) = true := rfl
theorem e_isO {xs : List D} (h : st[i]? = some xs) : isLst st (.obj i) = true := by simp [isLst, deref, h]
theorem e_app {xs : List D} (h : st[i]? = some xs) : mAppend (.obj i) [d] st k = (xs.length < 16777216 ∧ k .non (st.set i (xs ++ [d]))) := by simp [mAppend, h]
theorem e_sub {to ti : DE} : dgSub to ti d env st kg = to env st fun o s1 => ti env s1 fun i s2 => setD o i d s2 fun s3 => kg env s3 := rfl
theorem e_setO {xs : List D} {b : Int} {ks : Sto → Prop} (h : st[i]? = some xs) : setD (.obj i) (.int b) d st ks = ∃ m, ixN xs.length b = some m ∧ ks (st.set i (xs.set m d)) := by simp [setD, h]
theorem e_isi {ts : List String} : dIsi t ts env st k = t env st fun d s1 => k (.bl (ts.any (subTy (tyD d)))) s1 := rfl
theorem e_yes : dYes env st kt = kt true st := rfl
-- operators
theorem e_addI {a b : Int} : addD (.int a) (.int b) st k = k (.int (a + b)) st := rfl
theorem e_addB {a : Int} {b : Bool} : addD (.int a) (.bl b) st k = k (.int (a + b2i b)) st := rfl
theorem e_addBI {a : Bool} {b : Int} : addD (.bl a) (.int b) st k = k (.int (b2i a + b)) st := rfl
theorem e_subBI {a : Bool} {b : Int} : subD (.bl a) (.int b) st k = k (.int (b2i a - b)) st := rfl
theorem e_subIB {a : Int} {b : Bool} : subD (.int a) (.bl b) st k = k (.int (a - b2i b)) st := rfl
theorem e_addS {a b : Str} : addD (.str a) (.str b) st k = (a.length + b.length ≤ 16777216 ∧ k (.str (a ++ b)) st) := rfl
theorem e_addT {a b : List D} : addD (.tup a) (.tup b) st k = (a.length + b.length ≤ 16777216 ∧ k (.tup (a ++ b)) st) := rfl
theorem e_addL {a b : List D} : addD (.lst a) (.lst b) st k = (a.length + b.length ≤ 16777216 ∧ k (.lst (a ++ b)) st) := rfl
theorem e_subI {a b : Int} : subD (.int a) (.int b) st k = k (.int (a - b)) st := rfl
theorem e_mulI {a b : Int} : mulD (.int a) (.int b) st k = (MulOk a b ∧ k (.int (a * b)) st) := rfl
theorem e_mulT {a : List D} {b : Int} : mulD (.tup a) (.int b) st k = (a ≠ [] ∧ 1 ≤ b ∧ b ≤ 1000 ∧ a.length ≤ 1000 ∧ k (.tup (List.replicate b.toNat a).flatten) st) := rfl
theorem e_mulL {a : List D} {b : Int} : mulD (.lst a) (.int b) st k = (-(2 ^ 63) ≤ b ∧ b < 2 ^ 63 ∧ a.length * b.toNat ≤ 16777216 ∧ k (.lst (List.replicate b.toNat a).flatten) st) := rfl
theorem e_divI {a b : Int} : divD (.int a) (.int b) st k = (DivOk b ∧ k (.int (a / b)) st) := rfl
theorem e_modI {a b : Int} : modD (.int a) (.int b) st k = (0 < b ∧ k (.int (a % b)) st) := rfl
theorem e_powI {a b : Int} : powD (.int a) (.int b) st k = (PowOk a b ∧ k (.int (a ^ b.toNat)) st) := rfl
theorem e_negI {a : Int} : negD (.int a) st k = k (.int (-a)) st := rfl
theorem e_cmpI {p : Int → Int → Bool} {a b : Int} : cmpI p (.int a) (.int b) st k = k (.bl (p a b)) st := rfl
theorem e_eq : eqOp false d e st k = (okD 60 (deref st d) = true ∧ okD 60 (deref st e) = true ∧ k (.bl (eqD (deref st d) (deref st e))) st) := rfl
theorem e_ne : eqOp true d e st k = (okD 60 (deref st d) = true ∧ okD 60 (deref st e) = true ∧ k (.bl (!eqD (deref st d) (deref st e))) st) := rfl
theorem e_isn : isOp false d .non st k = k (.bl (isNon d)) st := rfl
theorem e_isb {a b neg : Bool} : isOp neg (.bl a) (.bl b) st k = k (.bl (if neg then !(a == b) else a == b)) st := rfl
theorem e_isnn : isOp true d .non st k = k (.bl (!isNon d)) st := rfl
theorem e_ixL {a : List D} {b : Int} : ixD (.lst a) (.int b) st k = ∃ x, atI a b = some x ∧ k x st := rfl
theorem e_ixKL {a : List D} {b : Int} : ixD (.klst a) (.int b) st k = ∃ x, atI a b = some x ∧ k x st := rfl
theorem e_ixT {a : List D} {b : Int} : ixD (.tup a) (.int b) st k = ∃ x, atI a b = some x ∧ k x st := rfl
theorem e_ixO {a : List D} {b : Int} (h : st[i]? = some a) : ixD (.obj i) (.int b) st k = ∃ x, atI a b = some x ∧ k x st := by simp [ixD, deref, h]
theorem e_cutL {a : List D} {lo hi : Option Int} : cutOp (.lst a) lo hi st k = k (.lst (cutD a lo hi)) st := rfl
theorem e_cutKL {a : List D} {lo hi : Option Int} : cutOp (.klst a) lo hi st k = k (.lst (cutD a lo hi)) st := rfl
theorem e_cutT {a : List D} {lo hi : Option Int} : cutOp (.tup a) lo hi st k = k (.tup (cutD a lo hi)) st := rfl
theorem e_lenL : bLen [.lst ds] st k = k (.int ds.length) st := rfl
theorem e_lenKL : bLen [.klst ds] st k = k (.int ds.length) st := rfl
theorem e_lenT : bLen [.tup ds] st k = k (.int ds.length) st := rfl
theorem e_lenO {xs : List D} (h : st[i]? = some xs) : bLen [.obj i] st k = k (.int xs.length) st := by simp [bLen, deref, h]
theorem e_abs {a : Int} : bAbs [.int a] st k = k (.int (if a < 0 then -a else a)) st := rfl
theorem e_intI {a : Int} : bInt [.int a] st k = k (.int a) st := rfl
theorem e_intB {b : Bool} : bInt [.bl b] st k = k (.int (if b = true then 1 else 0)) st := rfl
theorem e_max2 {a b : Int} : bMax2 [.int a, .int b] st k = k (.int (if b > a then b else a)) st := rfl
theorem e_listNL : bListNew [.lst ds] st k = k (.obj st.length) (st ++ [ds]) := rfl
theorem e_listNT : bListNew [.tup ds] st k = k (.obj st.length) (st ++ [ds]) := rfl
theorem e_tupL : bTuple [.lst ds] st k = k (.tup ds) st := rfl
theorem e_tupT : bTuple [.tup ds] st k = k (.tup ds) st := rfl
theorem e_tupO {xs : List D} (h : st[i]? = some xs) : bTuple [.obj i] st k = k (.tup xs) st := by simp [bTuple, deref, h]
theorem e_drI {b : Int} : deref st (.int b) = .int b := rfl
theorem e_drB {b : Bool} : deref st (.bl b) = .bl b := rfl
theorem e_drS {b : Str} : deref st (.str b) = .str b := rfl
theorem e_drN : deref st .non = .non := rfl
theorem e_drL : deref st (.lst ds) = .lst ds := rfl
theorem e_drT : deref st (.tup ds) = .tup ds := rfl
theorem e_seq : dSeq s1 s2 E env st = s1 ⟨s2 E, E.rt⟩ env st := rfl
end
theorem okDs_int (n : Nat) : ∀ xs : List Int, okDs n (xs.map D.int) = true
  | [] => by simp only [List.map_nil, okDs]
  | x :: r => by simp only [List.map_cons, okDs, okD, Bool.true_and]; exact okDs_int n r
end DL

/-! tests by chains of any length -/
namespace DL
open PySem PySem.Spec PyProof.Rows L2
abbrev DCh := D → DL.Env → Sto → (Bool → Sto → Prop) → Prop
section
variable {X : Cx} {a b : Expr} {ta tb : DE}
end
section
variable {env : DL.Env} {st : Sto} {k : Bool → Sto → Prop} {f : F2} {t : DE} {c : DCh} {x : D} {b : Bool}
theorem q_okI {n : Nat} {i : Int} : okD n (.int i) = true := by cases n <;> rfl
theorem q_okB {n : Nat} {i : Bool} : okD n (.bl i) = true := by cases n <;> rfl
theorem q_okN {n : Nat} : okD n .non = true := by cases n <;> rfl
theorem q_okS {n : Nat} {s : Str} : okD n (.str s) = PyData.strOk s := by cases n <;> rfl
theorem q_okL {n : Nat} {ds : List D} : okD (n + 1) (.lst ds) = okDs n ds := by simp only [okD]
theorem q_okT {n : Nat} {ds : List D} : okD (n + 1) (.tup ds) = okDs n ds := by simp only [okD]
theorem q_oks0 {n : Nat} : okDs n [] = true := by simp only [okDs]
theorem q_oks1 {n : Nat} {d : D} {ds : List D} : okDs n (d :: ds) = (okD n d && okDs n ds) := by simp only [okDs]
theorem q_eqII {i j : Int} : eqD (.int i) (.int j) = (i == j) := by simp only [eqD]
theorem q_eqBB {i j : Bool} : eqD (.bl i) (.bl j) = (i == j) := by simp only [eqD]
theorem q_eqSS {i j : Str} : eqD (.str i) (.str j) = (i == j) := by simp only [eqD]
theorem q_eqLL {i j : List D} : eqD (.lst i) (.lst j) = eqDs i j := by simp only [eqD]
theorem q_eqTT {i j : List D} : eqD (.tup i) (.tup j) = eqDs i j := by simp only [eqD]
theorem q_eqNN : eqD .non .non = true := by simp only [eqD]
theorem q_eqNI {i : Int} : eqD .non (.int i) = false := by simp only [eqD]
theorem q_eqIN {i : Int} : eqD (.int i) .non = false := by simp only [eqD]
theorem q_eqs0 : eqDs [] [] = true := by simp only [eqDs]
theorem q_eqs1 {d e : D} {ds es : List D} : eqDs (d :: ds) (e :: es) = (eqD d e && eqDs ds es) := by simp only [eqDs]
end
end DL

/-! sum, max, min of a list or a tuple of ints -/
namespace DL
open PySem PySem.Spec PyProof.Rows L2
section
variable {prog : Program} {w : World} {A : Around} {E : Value → Shared → Prop} {s : Shared} {l : Addr} {its : List Value} {ns : List Int} {Q : Value → Shared → Prop}
theorem sumTup (hh : A.handled = none) (hl : s.heap.IsTuple l its.toArray) (hi : IntsAre its ns)
    (h : ∀ h' tk t', (∀ b o, s.heap.get? b = some o → h'.get? b = some o) → Q (.int ns.sum t') { s with heap := h', toks := tk }) : wpAny (model prog w) A (call (.builtin "sum") [.ref l]) Q E s := by
  obtain ⟨ys, e⟩ := hi.allInts.items
  have hn : numsOf (intItems ys).toList = ns := by
    rw [← e]
    exact hi.numsOf
  rw [nums_intItems] at hn
  rw [e] at hl
  refine PySem.W.ktm_sumG hh hl fun h' tk t' hk => ?_
  have hq := h h' tk t' hk
  rw [preSum_eq, List.take_of_length_le (by simp), hn]
  exact hq
theorem bestTup (hh : A.handled = none) {ys : Array (Int × Tok)} (hl : s.heap.IsTuple l (intItems ys)) {P : Value → Shared → Prop}
    (h : ∀ s₂ I, I = s.heap.objs.size → s₂.heap.IsTupleIter I l 0 → s₂.heap.IsTuple l (intItems ys) → (∀ b ∈ [I, l], b < s₂.heap.objs.size) → l ≠ I → (∀ b o, s.heap.get? b = some o → s₂.heap.get? b = some o) → s₂ = { s with heap := s₂.heap } → P (.ref I) s₂) :
    wpAny (model prog w) A (pyIter (.ref l)) P E s := by
  obtain ⟨o, ho, _⟩ := id hl
  refine wpAny_pyIter_tuple hl (h _ _ rfl ⟨_, Heap.get?_push_size _ rfl, rfl, rfl⟩ (hl.at fun o e => Heap.get?_push_of_some _ e) (fun b hb => ?_) (Nat.ne_of_lt (Heap.lt_size ho)) (fun b o e => Heap.get?_push_of_some _ e) rfl)
  have hb' : b = s.heap.objs.size ∨ b = l := by simpa using hb
  rcases hb' with rfl | rfl
  · exact Heap.lt_size (Heap.get?_push_size _ rfl)
  · exact Heap.lt_size (Heap.get?_push_of_some _ ho)
theorem maxTup (hh : A.handled = none) (hl : s.heap.IsTuple l its.toArray) (hi : IntsAre its ns) (hne : 0 < ns.length)
    (h : ∀ h' tk M t', (∀ b o, s.heap.get? b = some o → h'.get? b = some o) → M ∈ ns → (∀ a, a ∈ ns → a ≤ M) → Q (.int M t') { s with heap := h', toks := tk }) : wpAny (model prog w) A (call (.builtin "max") [.ref l]) Q E s := by
  obtain ⟨ys, e⟩ := hi.allInts.items
  have hn : numsOf (intItems ys).toList = ns := by
    rw [← e]
    exact hi.numsOf
  rw [nums_intItems] at hn
  subst hn
  rw [e] at hl
  have hsz : 0 < ys.size := by simpa using hne
  refine call_max_walk (bestTup (A := A.in1) (show A.in1.handled = none from hh) hl fun s₂ I eI st ht hfp hlI old es => ?_)
  refine ⟨_, _, _, _, _, _, _, rfl, Walks.tuple (A := A.in1) hh I l hlI (intItems ys), ⟨st, ht⟩, hfp, by simpa [intItems] using hsz, CmpOf.ints_gt (numAt ys) (fun _ _ => intItems_at), fun v h' tk hP hk => ?_⟩
  obtain ⟨t, rfl⟩ := intItems_at (by simpa [intItems] using hP)
  obtain ⟨h1, h2⟩ := argBest_gt (numAt ys) (ys.size - 1)
  rw [es]
  have hsz2 : (intItems ys).size = ys.size := by simp [intItems]
  rw [hsz2] at *
  refine h h' tk _ t (fun b o q => hk b o (fun z => ?_) (old b o q)) ?_ fun a ha => ?_
  · have hlt := Heap.lt_size q
    have z' : b = I := by simpa using z
    rw [z', eI] at hlt
    exact absurd hlt (Nat.lt_irrefl _)
  · rw [numAt_eq]
    exact PySem.getD_mem (by rw [List.length_map, Array.length_toList]; exact Nat.lt_of_le_of_lt h1 (by omega))
  · obtain ⟨j, hj, rfl⟩ := mem_getD ha
    rw [List.length_map, Array.length_toList] at hj
    rw [← numAt_eq]
    exact h2 j (by omega)
end
section
variable {X : Cx}
def rSumT (K : PySem.W.Frag) : List V → Hp → VK → Prop := fun vs H Q => ∃ (a : Addr) (ns : List Int), vs = [V.ref a] ∧ SqT K H a (ns.map V.int) ∧ Q (.int ns.sum) H
def rMaxT (K : PySem.W.Frag) : List V → Hp → VK → Prop := fun vs H Q => ∃ (a : Addr) (ns : List Int), vs = [V.ref a] ∧ SqT K H a (ns.map V.int) ∧ 0 < ns.length ∧ ∀ m, m ∈ ns → (∀ y, y ∈ ns → y ≤ m) → Q (.int m) H
theorem crSumT (hc : X.calm = true) : CallR X (.builtin "sum") (rSumT X.K) := by
  intro pins s σ H vs us Q I r h
  obtain ⟨a, ns, rfl, hs, q⟩ := h
  obtain ⟨its, rv, hl, _⟩ := I.tuple hs
  rw [Vals.ref1 r]
  exact sumTup (I.ok.hd hc) hl rv.ints fun h' tk t' hk => ⟨.int _, H, I.kept hk, ⟨_, rfl⟩, q⟩
theorem crMaxT (hc : X.calm = true) : CallR X (.builtin "max") (rMaxT X.K) := by
  intro pins s σ H vs us Q I r h
  obtain ⟨a, ns, rfl, hs, hne, q⟩ := h
  obtain ⟨its, rv, hl, _⟩ := I.tuple hs
  rw [Vals.ref1 r]
  exact maxTup (I.ok.hd hc) hl rv.ints hne fun h' tk m t' hk h1 h2 => ⟨.int _, H, I.kept hk, ⟨_, rfl⟩, q m h1 h2⟩
/-- of a list, a tuple of ints -/
def intsOf (st : Sto) (d : D) : Option (List Int) := match deref st d with
  | .lst xs => intsD xs
  | .tup xs => intsD xs
  | _ => none
def bSum1 : FB := fun ds st k => match ds with
  | [d] => match intsOf st d with
    | some ns => k (.int ns.sum) st
    | none => False
  | _ => False
def bMax1 : FB := fun ds st k => match ds with
  | [d] => match intsOf st d with
    | some ns => 0 < ns.length ∧ ∀ m, m ∈ ns → (∀ y, y ∈ ns → y ≤ m) → k (.int m) st
    | none => False
  | _ => False
theorem intsOf_rep {K : PySem.W.Frag} {w : Wd} {st : Sto} {H : Hp} {d : D} {v : V} {ns : List Int} (W : Wld K w st H) (R : Rep K w d v) (h : intsOf st d = some ns) :
    ∃ a, v = .ref a ∧ (SqL K H a (ns.map V.int) ∨ SqT K H a (ns.map V.int)) := by
  unfold intsOf at h
  split at h
  · rename_i xs hd
    obtain ⟨a, us, rfl, q1, r1, _⟩ := rep_lst W R hd
    rw [intsD_eq h] at r1
    exact ⟨a, rfl, .inl (by rw [← r1.ints]; exact q1)⟩
  · rename_i xs hd
    obtain ⟨a, us, rfl, q1, r1, _⟩ := rep_tup W R hd
    rw [intsD_eq h] at r1
    exact ⟨a, rfl, .inr (by rw [← r1.ints]; exact q1)⟩
  · cases h
theorem cb_sum1 (hc : X.calm = true) : CallR X (.builtin "sum") (rDB X.K bSum1) := by
  refine CallR.by_ fun vs H Q w st ds kk W R q fo => ?_
  unfold bSum1 at q
  split at q
  · obtain ⟨v, rfl, R1⟩ := one_rep R
    split at q
    · rename_i ns hb
      obtain ⟨a, rfl, q1 | q1⟩ := intsOf_rep W R1 hb
      · exact ⟨_, cr_sum hc, a, ns, rfl, q1, fo.id q W rep_int⟩
      · exact ⟨_, crSumT hc, a, ns, rfl, q1, fo.id q W rep_int⟩
    · exact q.elim
  · exact q.elim
theorem cb_max1 (hc : X.calm = true) : CallR X (.builtin "max") (rDB X.K bMax1) := by
  refine CallR.by_ fun vs H Q w st ds kk W R q fo => ?_
  unfold bMax1 at q
  split at q
  · obtain ⟨v, rfl, R1⟩ := one_rep R
    split at q
    · rename_i ns hb
      obtain ⟨a, rfl, q1 | q1⟩ := intsOf_rep W R1 hb
      · exact ⟨_, cr_max hc, a, ns, rfl, q1, q.1, fun m h1 h2 => fo.id (q.2 m h1 h2) W rep_int⟩
      · exact ⟨_, crMaxT hc, a, ns, rfl, q1, q.1, fun m h1 h2 => fo.id (q.2 m h1 h2) W rep_int⟩
    · exact q.elim
  · exact q.elim
variable {st : Sto} {k : DK} {ns : List Int}
theorem intsOf_T : intsOf st (.tup (ns.map D.int)) = some ns := intsD_map ns
theorem intsOf_L : intsOf st (.lst (ns.map D.int)) = some ns := intsD_map ns
theorem e_sum1T : bSum1 [.tup (ns.map D.int)] st k = k (.int ns.sum) st := by simp only [bSum1, intsOf_T]
theorem e_sum1L : bSum1 [.lst (ns.map D.int)] st k = k (.int ns.sum) st := by simp only [bSum1, intsOf_L]
theorem e_max1T : bMax1 [.tup (ns.map D.int)] st k = (0 < ns.length ∧ ∀ m, m ∈ ns → (∀ y, y ∈ ns → y ≤ m) → k (.int m) st) := by simp only [bMax1, intsOf_T]
theorem e_max1L : bMax1 [.lst (ns.map D.int)] st k = (0 < ns.length ∧ ∀ m, m ∈ ns → (∀ y, y ∈ ns → y ≤ m) → k (.int m) st) := by simp only [bMax1, intsOf_L]
end
section
variable {X : Cx} {tg e e2 e3 : Expr} {ta tb tc : DE} {p pos : Pos}
def rng3K (kk : DIk) (d e : D) : DK := fun f s3 => match d, e, f with
  | .int i, .int j, .int c => ∃ n, RgC i j c n ∧ kk (stepD i c n) [] s3
  | _, _, _ => False
def dRng3 (t u v : DE) : DI := fun env st kk => t env st fun d s1 => u env s1 fun e s2 => v env s2 (rng3K kk d e)
theorem pdi_range3 (hm : X.mg "range" = none) (ha : PD X e ta) (hb : PD X e2 tb) (hc : PD X e3 tc) (hg : Gl X "range" := by rfl) (hs : starEach [e, e2, e3] X.env = (false, eval e X.env) :: starEach [e2, e3] X.env := by rfl) (hpl : (backTo pos (starEach [e2, e3] X.env)).any (·.1) = false := by rfl)
    (hs2 : starEach [e2, e3] X.env = (false, eval e2 X.env) :: starEach [e3] X.env := by rfl) (hs3 : starEach [e3] X.env = [(false, eval e3 X.env)] := by rfl) : PDI X tg (.Call (.Name "range" p) [e, e2, e3] [] pos) (dRng3 ta tb tc) := by
  refine (pi_range3 hg hm (pa_cons ha (pa_cons hb (pa_cons hc pa_nil hs3) hs2) hs) hs hpl).wk fun σ H R ⟨w, env, st, kk, W, E, h, fo⟩ => ?_
  refine ⟨w, env, st, _, W, E, h, fun d st1 v w1 H1 h1 l1 W1 R1 => ⟨w1, env, st1, _, W1, E.mono l1, h1, fun e' st2 u w2 H2 h2 l2 W2 R2 => ⟨w2, env, st2, _, W2, (E.mono l1).mono l2, h2, fun f' st3 x w3 H3 h3 l3 W3 R3 => ?_⟩⟩⟩
  unfold rng3K at h3
  split at h3
  · simp only [Rep] at R1 R2 R3
    subst R1 R2 R3
    obtain ⟨n, hn, h3⟩ := h3
    exact ⟨_, _, _, n, rfl, hn, fo _ _ _ _ _ _ h3 ((l1.trans l2).trans l3) W3 wk_step⟩
  · exact h3.elim
variable {env : DL.Env} {st : Sto} {kk : DIk} {i j c : Int}
theorem e_rng3 : dRng3 ta tb tc env st kk = ta env st fun d s1 => tb env s1 fun e s2 => tc env s2 (rng3K kk d e) := rfl
theorem e_rng3K : rng3K kk (.int i) (.int j) (.int c) st = ∃ n, RgC i j c n ∧ kk (stepD i c n) [] st := rfl
end
end DL

/-! bit_length; reversed -/
namespace DL
open PySem PySem.Spec PyProof.Rows L2
section
variable {X : Cx} {o : Expr} {to : DE}
variable {env : DL.Env} {st : Sto} {k : DK} {i : Int}
end
def par3K (i j l : Nat) (env : DL.Env) (nx : DL.Env → Sto → Prop) : List D → Sto → Prop := fun ds s1 => match ds with
  | [d, e, f] => dgName i d env s1 fun env1 s2 => dgName j e env1 s2 fun env2 s3 => dgName l f env2 s3 nx
  | _ => False
def dPar3 (i j l : Nat) (t : DA) : DS := fun E env st => t env st (par3K i j l env E.nx)
section
variable {X : Cx} {a b c : Expr} {pos : Pos}
theorem pds_par3 (i j l : Nat) {x y z : Str} {t : DA} {px py pz pt : Pos} {kt k2 pt2} (hc : X.calm = true) (hN : X.N.Nodup) (ha : PDA X [a, b, c] t) (hi : X.N[i]? = some x := by rfl) (hj : X.N[j]? = some y := by rfl) (hl : X.N[l]? = some z := by rfl) (hij : i ≠ j := by decide) (hil : i ≠ l := by decide) (hjl : j ≠ l := by decide)
    (hx : X.env.scope.names.lookup x = some .local := by rfl) (hy : X.env.scope.names.lookup y = some .local := by rfl) (hz : X.env.scope.names.lookup z = some .local := by rfl)
    (hw : swappedStores [.Tuple [.Name x px, .Name y py, .Name z pz] kt pt] (.Tuple [a, b, c] k2 pt2) X.env = pure (some [x, y, z]) := by rfl)
    (hs : swapsWithSole [.Tuple [.Name x px, .Name y py, .Name z pz] kt pt] (.Tuple [a, b, c] k2 pt2) pos.line X.env = pure false := by rfl) :
    PDS X (.Assign [.Tuple [.Name x px, .Name y py, .Name z pz] kt pt] (.Tuple [a, b, c] k2 pt2) pos) (dPar3 i j l t) := by
  refine (ps_par3 hc hN hi hj hl hij hil hjl hx hy hz ha hw hs).wk fun Ed σ H ⟨w, env, st, D, W, E, h, fn, fr⟩ => ?_
  refine ⟨w, env, st, _, W, E, h, fun ds st1 vs w1 H1 h1 l1 W1 R1 => ?_⟩
  match ds, h1, R1 with
  | [d, e, f], h1, R1 =>
    obtain ⟨v, r, rfl, Rv, R2⟩ := R1.inv
    obtain ⟨u, r', rfl, Ru, R3⟩ := R2.inv
    obtain ⟨q, r'', rfl, Rq, R4⟩ := R3.inv
    rw [R4.inv0]
    exact ⟨v, u, q, rfl, fn _ _ _ _ _ h1 l1 W1 ((((E.mono l1).set i Rv).set j Ru).set l Rq)⟩
  | [], h1, _ => exact h1.elim
  | [_], h1, _ => exact h1.elim
  | [_, _], h1, _ => exact h1.elim
  | _ :: _ :: _ :: _ :: _, h1, _ => exact h1.elim
variable {i j l : Nat} {t : DA} {E : DEnds} {env : DL.Env} {st : Sto} {d e f : D} {kg : DL.Env → Sto → Prop}
theorem e_par3 : dPar3 i j l t E env st = t env st (par3K i j l env E.nx) := rfl
theorem e_par3K : par3K i j l env kg [d, e, f] st = dgName i d env st fun env1 s2 => dgName j e env1 s2 fun env2 s3 => dgName l f env2 s3 kg := rfl
end
end DL

/-! zip(.., strict=True) of a list and a tuple of one length -/
namespace DL
open PySem PySem.Spec PyProof.Rows L2
section
variable {pr : Program} {w : World} {A : Around} {E : Value → Shared → Prop} {z : Shared} {zz TI TO j1 j2 : Addr} {f1 f2 : List Addr} {m1 m2 i : Nat} {P1 P2 : Nat → Value → Prop} {S1 S2 : Nat → Heap → Prop} {c1 c2 : Value}
end
end DL

/-! for .. in zip(a, b, strict=True), by data -/
namespace DL
open PySem PySem.Spec PyProof.Rows L2
section
variable {K : PySem.W.Frag} {w : Wd} {st : Sto}
end
section
variable {X : Cx} {e e2 : Expr} {ta tb : DE} {p pos kp : Pos}
variable {env : DL.Env} {st : Sto} {kk : DIk} {ds es : List D} {i : Nat}
end
end DL

/-! zip of a list and a tuple, not strict -/
namespace DL
open PySem PySem.Spec PyProof.Rows L2
section
variable {K : PySem.W.Frag} {w : Wd} {st : Sto}
end
section
variable {X : Cx} {e e2 : Expr} {ta tb : DE} {p pos : Pos}
variable {env : DL.Env} {st : Sto} {kk : DIk} {ds es : List D} {i : Nat}
end
end DL

/-! The data layer: what is taken backwards, sorted lists and sets of ints, lists of ranges, divmod, ranges backwards. -/
namespace DLA
open PySem PySem.Spec PyProof.Rows L2 HT
section
variable {prog : Program} {w : World} {A : Around} {E : Value → Shared → Prop} {s : Shared}
theorem back_adjust (n : Nat) : Builtin.Slice.sliceAdjust none none (-1) (n : Int) = ((n : Int) - 1, -1) := by
  unfold Builtin.Slice.sliceAdjust
  simp
theorem back_places (n : Nat) : Builtin.Slice.slicePlaces ((n : Int) - 1) (-1) (-1) = n := by
  unfold Builtin.Slice.slicePlaces
  rw [if_neg (by decide)]
  by_cases h : (n : Int) - 1 > -1
  · rw [if_pos h, show (-(-1) : Int) = 1 by decide, Int.ediv_one]
    omega
  · rw [if_neg h]
    omega
theorem back_pick (its : Array Value) : ((List.range its.size).filterMap fun (k : Nat) => its[((its.size : Int) - 1 + (k : Int) * -1).toNat]?) = its.toList.reverse := by
  have e : (List.range its.size).filterMap (fun (k : Nat) => its[((its.size : Int) - 1 + (k : Int) * -1).toNat]?) = (List.range its.size).filterMap (fun k => its[its.size - 1 - k]?) := by
    congr 1
    funext k
    congr 1
    omega
  rw [e]
  have h2 : (List.range its.size).filterMap (fun k => its[its.size - 1 - k]?) = ((List.range its.size).map fun k => its.size - 1 - k).filterMap (its[·]?) := by
    rw [List.filterMap_map]
    rfl
  rw [h2, PySem.W.krv_range, List.filterMap_reverse, PySem.W.krv_all]
theorem applied_back {sl : Addr} {vl vu vs : Value} {n : Nat} {Q : Int × Int × Nat → Shared → Prop} (hs : s.heap.IsSliceOf sl vl vu vs) (pl : IsPart vl none) (pu : IsPart vu none) (ps : IsPart vs (some (-1)))
    (h : Q ((n : Int) - 1, -1, n) s) : wpAny (model prog w) A (Builtin.Slice.sliceApplied (.ref sl) (pure (n : Int))) Q E s := by
  obtain ⟨os, g1, _, g2⟩ := hs
  cases pl
  cases pu
  cases ps
  unfold Builtin.Slice.sliceApplied Builtin.Slice.sliceFields
  refine wpAny_bind (wpAny_bind (wpAny_field g1 g2 rfl ?_))
  refine wpAny_bind (wpAny_field g1 g2 rfl ?_)
  refine wpAny_bind (wpAny_field g1 g2 rfl (wpAny_pure ?_))
  refine wpAny_bind (slicePart_int ?_)
  show wpAny _ _ (if ((-1 : Int) == 0) = true then _ else _) _ _ s
  rw [if_neg (by decide)]
  refine wpAny_bind (slicePart_none ?_)
  refine wpAny_bind (slicePart_none ?_)
  refine wpAny_bind (wpAny_pure ?_)
  show wpAny _ _ (match Builtin.Slice.sliceAdjust none none (-1) (n : Int) with | (lo, hi) => pure (lo, (-1 : Int), Builtin.Slice.slicePlaces lo hi (-1))) _ _ s
  rw [back_adjust]
  show wpAny _ _ (pure (((n : Int) - 1), (-1 : Int), Builtin.Slice.slicePlaces ((n : Int) - 1) (-1) (-1))) _ _ s
  rw [back_places]
  exact wpAny_pure h
theorem tup_back {t sl : Addr} {its : Array Value} {vl vu vs : Value} {Q : Value → Shared → Prop} (ht : IsTup s.heap t its) (hs : s.heap.IsSliceOf sl vl vu vs) (pl : IsPart vl none) (pu : IsPart vu none) (ps : IsPart vs (some (-1)))
    (h : Q (.ref s.heap.objs.size) { s with heap := s.heap.push { cls := .type "tuple", data := .seq its.toList.reverse.toArray } }) (hz : its.size ≤ sizeLine) : wpAny (model prog w) A (getItem (.ref t) (.ref sl)) Q E s := by
  have small : sizeOk (.seq its.toList.reverse.toArray) := by
    show its.toList.reverse.toArray.size ≤ sizeLine
    rw [List.size_toArray, List.length_reverse, Array.length_toList]
    exact hz
  obtain ⟨os, g1, g3, g2⟩ := id hs
  have sT : s.TypeIs (.ref sl) "slice" := ⟨os, g1, g3⟩
  unfold getItem
  try with_reducible refine wpAny_holding ?_
  try refine wpAny_bind (wpAny_pure ?_)
  refine wpAny_bind (wpAny_sequenceKey ht.typeIs (by decide) ?_)
  have body : wpAny (model prog w) A (call (.builtin "tuple.__getitem__") [.ref t, .ref sl]) Q E s := by
    refine wpAny_call_entry PyProof.Rows.slot_tuple_getitem ht.typeIs entry_tuple_getitem ?_ (args_tuple_getitem _ _)
    show wpAny _ _ (Builtin.Tuple.tupleItemsOf (.ref t) >>= _) _ _ s
    refine wpAny_bind (tupleItemsOf_ ht ?_)
    refine wpAny_bind (wpAny_typeOf sT ?_)
    rw [if_pos (by decide)]
    refine wpAny_bind (applied_back (n := its.size) hs pl pu ps ?_)
    have no : ¬ ((((its.size : Int) - 1) == 0 && (-1 : Int) == 1 && its.size == its.size) = true) := by simp
    show wpAny _ _ (if ((((its.size : Int) - 1) == 0 && (-1 : Int) == 1 && its.size == its.size)) = true then _ else _) _ _ s
    rw [if_neg no, back_pick]
    first
      | exact wpAny_bind (m := Builtin.Tuple.tupleExact _) (wpAny_newObj_type (wpAny_pure ⟨_, rfl, h⟩) small)
      | exact wpAny_bind (m := Builtin.Tuple.tupleExact _) (wpAny_newObj_type (wpAny_bind (wpAny_pure (wpAny_pure ⟨_, rfl, h⟩))) small)
      | exact wpAny_bind (wpAny_bind (m := Builtin.Tuple.tupleExact _) (wpAny_newObj_type (wpAny_pure (wpAny_pure ⟨_, rfl, h⟩)) small))
  refine wpAny_bind (wpAny_callSpecial?_slot (name := Str.ofString "__getitem__") ht.typeIs PyProof.Rows.slot_tuple_getitem ?_)
  first
    | exact body
    | refine wpAny_mono body (fun v s' q => ?_) (fun _ _ q => q)
      exact wpAny_pure q
end
end DLA
namespace DLA
open PySem PySem.Spec PyProof.Rows L2
section
variable {P : Program} {w : World} {A : Around} {E : Value → Shared → Prop} {s : Shared}
end
end DLA
namespace DL
open PySem PySem.Spec PyProof.Rows L2
/-! ### sorted ints -/
def sortZ (ns : List Int) : List Int := ns.mergeSort (fun a b => decide (a ≤ b))
theorem sortZ_perm (ns : List Int) : (sortZ ns).Perm ns := List.mergeSort_perm _ _
theorem sortZ_le (ns : List Int) : (sortZ ns).Pairwise (· ≤ ·) := by
  have h := List.pairwise_mergeSort (le := fun a b : Int => decide (a ≤ b)) (fun a b c h1 h2 => by simp only [decide_eq_true_eq] at *; omega) (fun a b => by simp only [Bool.or_eq_true, decide_eq_true_eq]; omega) ns
  exact h.imp fun h => by simpa using h
theorem sorted_one : ∀ {xs ys : List Int}, xs.Perm ys → xs.Pairwise (· ≤ ·) → ys.Pairwise (· ≤ ·) → xs = ys
  | [], ys, p, _, _ => by rw [p.nil_eq]
  | x :: r, [], p, _, _ => by cases p.length_eq
  | x :: r, y :: s, p, h1, h2 => by
    have e : x = y := by
      have a : x ∈ y :: s := p.mem_iff.mp List.mem_cons_self
      have b : y ∈ x :: r := p.mem_iff.mpr List.mem_cons_self
      rcases List.mem_cons.mp a with a | a
      · exact a
      · rcases List.mem_cons.mp b with b | b
        · exact b.symm
        · have c1 := List.rel_of_pairwise_cons h2 a
          have c2 := List.rel_of_pairwise_cons h1 b
          omega
    subst e
    rw [sorted_one ((List.perm_cons _).mp p) h1.of_cons h2.of_cons]
theorem sortZ_of {xs ns : List Int} (p : xs.Perm ns) (h : xs.Pairwise (· ≤ ·)) : xs = sortZ ns := sorted_one (p.trans (sortZ_perm ns).symm) h (sortZ_le ns)
section
variable {X : Cx} {e e2 e3 : Expr} {ta tb tc : DE} {p p2 pos pos2 : Pos}
theorem sortZ_length (ns : List Int) : (sortZ ns).length = ns.length := (sortZ_perm ns).length_eq
variable {st : Sto} {k : DK} {ns : List Int} {env : DL.Env}
/-! ### divmod -/
theorem DivOk.plain {i j : Int} (h : DivOk j) : CDivP i j := by
  refine ⟨h.1, ?_⟩
  have h2 := h.2
  unfold Builtin.divisionGoesByPylong
  have e : ¬ (300 < if j = 0 then 0 else j.natAbs.log2 / 30 + 1) := by
    split <;> omega
  simp
  exact fun q => absurd q e
/-! ### what is taken backwards -/
end
end DL
namespace DLA
open PySem PySem.Spec PyProof.Rows L2
def tBack (K : PySem.W.Frag) (te : TE) : TE := fun σ H Q => te σ H fun x H1 => ∃ a xs, x = .ref a ∧ ((SqL K H1 a xs ∧ ∀ p, H1 p = none → Q (.ref p) (upd H1 p (.lst xs.reverse))) ∨ (SqT K H1 a xs ∧ ∀ p, H1 p = none → Q (.ref p) (upd H1 p (.tup xs.reverse))))
variable {X : Cx}
theorem pe_back {e : Expr} {te : TE} {k : Nat} {p1 p2 p3 pos : Pos} (he : PE X e te) : PE X (.Subscript e (.Slice none none (some (.UnaryOp .USub (.Constant (.int 1) k p1) p2)) p3) pos) (tBack X.K te) := by
  refine ⟨fun pins s σ H Q I h => ?_⟩
  refine Subscript_ (thn (he.run pins s σ H _ I h) fun v s1 ⟨x, H1, I1, r1, q1⟩ => ?_)
  obtain ⟨a, xs, ex, hx⟩ := q1
  subst ex
  cases r1
  have hst : PO X (some (.UnaryOp .USub (.Constant (.int 1) k p1) p2)) (tPart (tUn (rU fun i => .int (-i)) (tC (.int 1)))) := po_some (pe_un un_neg pe_int)
  refine wpAny_Slice (thn (po_none.run pins s1 σ H1 (fun o G => o = none ∧ G = H1) I1 ⟨rfl, rfl⟩) fun vl s2 ⟨_, _, I2, pl, g1, g2⟩ => ?_)
  subst g1 g2
  refine thn (po_none.run pins s2 σ _ (fun o G => o = none ∧ G = _) I2 ⟨rfl, rfl⟩) fun vu s3 ⟨_, _, I3, pu, g1, g2⟩ => ?_
  subst g1 g2
  refine thn (hst.run pins s3 σ _ (fun o G => o = some (-1) ∧ G = _) I3 ⟨1, rfl, -1, rfl, rfl, rfl⟩) fun vs s4 ⟨_, _, I4, ps, g1, g2⟩ => ?_
  subst g1 g2
  have I5 := I4.kept (h' := s4.heap.push { cls := .type "slice", data := .fields #[vl, vu, vs] }) (t' := s4.toks) fun b ob q => Heap.get?_push_of_some _ q
  have hsl := Heap.IsSliceOf.new s4.heap vl vu vs
  rcases hx with ⟨hx, q⟩ | ⟨hx, q⟩
  · obtain ⟨its, r, ht, hz⟩ := I5.list hx
    have hlen := r.length
    refine tail_any (ops := [.ref a, .ref s4.heap.objs.size]) ht.isList.typeIs (PySem.slot_list_getitem.lookup) ?_ (by with_unfolding_all rfl)
    refine wpAny_getItem_list_slice ht.isList hsl pl pu ps (by decide) ?_ (by rw [List.size_toArray]; omega)
    rw [PySem.W.krv_pick]
    exact ⟨.ref _, _, I5.laid (t' := s4.toks) (o := .lst xs.reverse) (fun b ob q => Heap.get?_push_of_some _ q) (Nat.le_refl _) ⟨by rw [List.length_reverse]; exact hz, _, 0, r.reverse, Heap.get?_push_size _ rfl⟩, rfl, q _ (I5.hok.fresh (Nat.le_refl _))⟩
  · obtain ⟨its, r, ht, hz⟩ := I5.tuple hx
    have hlen := r.length
    refine tail_any (ops := [.ref a, .ref s4.heap.objs.size]) ht.typeIs (PyProof.Rows.slot_tuple_getitem.lookup) ?_ (by with_unfolding_all rfl)
    refine tup_back ht hsl pl pu ps ?_ (by rw [List.size_toArray]; omega)
    exact ⟨.ref _, _, I5.laid (t' := s4.toks) (o := .tup xs.reverse) (fun b ob q => Heap.get?_push_of_some _ q) (Nat.le_refl _) ⟨by rw [List.length_reverse]; exact hz, _, r.reverse, ⟨_, Heap.get?_push_size _ rfl, rfl, 0, rfl⟩⟩, rfl, q _ (I5.hok.fresh (Nat.le_refl _))⟩
/-! ### lists of ranges with a step -/
end DLA
namespace DL
open PySem PySem.Spec PyProof.Rows L2
section
variable {X : Cx} {tg e e2 e3 : Expr} {ta tb tc : DE} {p p2 pos pos2 : Pos}
def backK (k : DK) : DK := fun d s1 => match deref s1 d with
  | .lst xs => k (.lst xs.reverse) s1
  | .tup xs => k (.tup xs.reverse) s1
  | _ => False
def dBack (t : DE) : DE := fun env st k => t env st (backK k)
theorem pd_back {j : Nat} {p1 p2 p3 : Pos} (ha : PD X e ta) : PD X (.Subscript e (.Slice none none (some (.UnaryOp .USub (.Constant (.int 1) j p1) p2)) p3) pos) (dBack ta) := by
  refine (DLA.pe_back ha).wk fun σ H Q ⟨w, env, st, kk, W, E, h, fo⟩ => ?_
  refine ⟨w, env, st, _, W, E, h, fun d st1 v w1 H1 h1 l1 W1 R1 => ?_⟩
  unfold backK at h1
  split at h1
  · rename_i xs hd
    obtain ⟨a, vs, rfl, q, r, n⟩ := rep_lst W1 R1 hd
    exact ⟨a, vs, rfl, .inl ⟨q, fol_lst W1 r.rev (by rw [List.length_reverse]; exact n) h1 (fo.le l1)⟩⟩
  · rename_i xs hd
    obtain ⟨a, vs, rfl, q, r, n⟩ := rep_tup W1 R1 hd
    exact ⟨a, vs, rfl, .inr ⟨q, fol_tup W1 r.rev (by rw [List.length_reverse]; exact n) h1 (fo.le l1)⟩⟩
  · exact h1.elim
variable {env : DL.Env} {st : Sto} {k : DK} {kk : DIk} {i j c : Int} {xs : List D} {ns : List Int}
theorem e_back : dBack ta env st k = ta env st (backK k) := rfl
theorem e_backL : backK k (.lst xs) st = k (.lst xs.reverse) st := rfl
theorem e_backT : backK k (.tup xs) st = k (.tup xs.reverse) st := rfl
theorem e_backO {i : Nat} (h : st[i]? = some xs) : backK k (.obj i) st = k (.lst xs.reverse) st := by simp [backK, deref, h]
/-! ### list(range(..)) -/
/-! ### reversed(range(n)) -/
/-! ### sorted(set(xs)), len(set(xs)) of a list of ints -/
end
end DL

/-! Loops by an invariant, comprehensions by what each turn tells, the tape of draws. -/
namespace DL
open PySem PySem.Spec PyProof.Rows L2
theorem set_same {st : Sto} {i : Nat} {xs : List D} (h : st[i]? = some xs) : st.set i xs = st := by
  obtain ⟨hi, e⟩ := List.getElem?_eq_some_iff.mp h
  rw [← e]
  exact List.set_getElem_self ..
def Tape (n : Nat) (xs : List D) : Prop := ∃ a b c : Int, xs = [.int a, .int b, .int c] ∧ 0 ≤ b ∧ b < 4611686018427387904 ∧ 0 ≤ c ∧ c ≤ n
def Tp (i n : Nat) (st : Sto) : Prop := ∃ xs, st[i]? = some xs ∧ Tape n xs
theorem Tp.mono {i n m : Nat} {st : Sto} (h : Tp i n st) (l : n ≤ m) : Tp i m st := by
  obtain ⟨xs, e, a, b, c, r, h1, h2, h3, h4⟩ := h
  exact ⟨xs, e, a, b, c, r, h1, h2, h3, by omega⟩
theorem Tp.app {i n : Nat} {st : Sto} (h : Tp i n st) (ys : Sto) : Tp i n (st ++ ys) := by
  obtain ⟨xs, e, t⟩ := h
  exact ⟨xs, by rw [List.getElem?_append_left (List.getElem?_eq_some_iff.mp e).1]; exact e, t⟩
theorem Tp.set {i n j : Nat} {st : Sto} (h : Tp i n st) (ys : List D) (ne : j ≠ i) : Tp i n (st.set j ys) := by
  obtain ⟨xs, e, t⟩ := h
  exact ⟨xs, by rw [List.getElem?_set_ne ne]; exact e, t⟩
theorem Tp.lt {i n : Nat} {st : Sto} (h : Tp i n st) : i < st.length := by
  obtain ⟨xs, e, _⟩ := h
  exact (List.getElem?_eq_some_iff.mp e).1
theorem Tp.same {i n : Nat} {st : Sto} (h : Tp i n st) : ∃ xs, st.set i xs = st := by
  obtain ⟨xs, e, _⟩ := h
  exact ⟨xs, set_same e⟩
section
variable {α β : Type} {src : List (Nat × List D)} {g : DG} {b : DS} {e : DE} {tt : DT} {own : List Nat} {env : DL.Env} {kk : DL.Env → Sto → Prop} {rt : DK} {k : List D → Sto → Prop}
/-- a loop by an invariant over what is left -/
theorem go_for (f : α → D) (I : List α → DL.Env → Sto → Prop)
    (step : ∀ x r env st (nx : DL.Env → Sto → Prop), I (x :: r) env st → (∀ e s, I r e s → nx e s) → SrcOk src st ∧ g (f x) env st fun e s => b ⟨nx, rt⟩ e s)
    (done : ∀ env st, I [] env st → SrcOk src st ∧ kk env st) : ∀ xs env st, I xs env st → goFor src g b ⟨kk, rt⟩ (xs.map f) env st
  | [], env, st, h => done env st h
  | x :: r, env, st, h => step x r env st _ h fun e s q => go_for f I step done r e s q
/-- a loop over 0, 1, .. by an invariant -/
theorem go_range (n : Nat) (I : Nat → DL.Env → Sto → Prop)
    (step : ∀ j env st (nx : DL.Env → Sto → Prop), j < n → I j env st → (∀ e s, I (j + 1) e s → nx e s) → SrcOk src st ∧ g (.int (j : Nat)) env st fun e s => b ⟨nx, rt⟩ e s)
    (done : ∀ env st, I n env st → SrcOk src st ∧ kk env st) (env : DL.Env) (st : Sto) (h : I 0 env st) : goFor src g b ⟨kk, rt⟩ (rangeD 0 n) env st := by
  have e : rangeD 0 n = (List.range n).map fun i => D.int (i : Nat) := by
    unfold rangeD
    refine List.map_congr_left fun x _ => ?_
    rw [Int.zero_add]
  rw [e]
  refine go_for (fun i : Nat => D.int (i : Nat)) (fun r env st => ∃ j, r = (List.range n).drop j ∧ j ≤ n ∧ I j env st) ?_ ?_ _ env st ⟨0, rfl, Nat.zero_le _, h⟩
  · rintro x r env st nx ⟨j, hr, hj, hI⟩ q
    have lt : j < n := by
      apply Nat.lt_of_not_le
      intro z
      rw [List.drop_eq_nil_of_le (by rw [List.length_range]; exact z)] at hr
      cases hr
    have hd := List.drop_eq_getElem_cons (l := List.range n) (i := j) (by rw [List.length_range]; exact lt)
    rw [hd] at hr
    injection hr with h1 h2
    rw [List.getElem_range] at h1
    subst h1
    exact step x env st nx lt hI fun e s hi => q e s ⟨x + 1, h2, lt, hi⟩
  · rintro env st ⟨j, hr, hj, hI⟩
    have : j = n := by
      have := congrArg List.length hr
      rw [List.length_nil, List.length_drop, List.length_range] at this
      omega
    subst this
    exact done env st hI
/-- each turn tells one thing, the store stays -/
theorem lc_eachD (st : Sto) (hs : SrcOk src st) : ∀ (xs ys acc : List D), xs.length = ys.length → (∀ x y, (x, y) ∈ xs.zip ys → ∀ kd : DK, kd y st → g x (wipeE env own) st fun e1 s1 => e e1 s1 kd) → k (acc ++ ys) st → goLc src g dYes e own env k xs acc st
  | [], [], acc, _, _, h => ⟨hs, by simpa using h⟩
  | [], _ :: _, _, q, _, _ => by cases q
  | _ :: _, [], _, q, _, _ => by cases q
  | x :: xs, y :: ys, acc, q, f, h => by
    refine ⟨hs, ?_⟩
    refine f x y (by simp) (fun d s2 => goLc src g dYes e own env k xs (acc ++ [d]) s2) ?_
    refine lc_eachD st hs xs ys (acc ++ [y]) (by simpa using q) (fun a b m => f a b (by simp [m])) ?_
    rw [List.append_assoc]
    exact h
theorem lc_map (f h : α → D) (xs : List α) (st : Sto) (hs : SrcOk src st) (acc : List D) (step : ∀ x ∈ xs, ∀ kd : DK, kd (h x) st → g (f x) (wipeE env own) st fun e1 s1 => e e1 s1 kd) (q : k (acc ++ xs.map h) st) : goLc src g dYes e own env k (xs.map f) acc st := by
  refine lc_eachD st hs _ _ _ (by rw [List.length_map, List.length_map]) (fun x y m kd hk => ?_) q
  rw [List.zip_map'] at m
  obtain ⟨a, ha, e⟩ := List.mem_map.mp m
  cases e
  exact step a ha kd hk
theorem lc_filter (f h : α → D) (p : α → Bool) (st : Sto) (hs : SrcOk src st) : ∀ (xs : List α) (acc : List D), (∀ x ∈ xs, ∀ (k1 : DK) (k2 : Sto → Prop), (p x = true → k1 (h x) st) → (p x = false → k2 st) → g (f x) (wipeE env own) st fun e1 s1 => tt e1 s1 fun b s2 => if b = true then e e1 s2 k1 else k2 s2) →
    k (acc ++ (xs.filter p).map h) st → goLc src g tt e own env k (xs.map f) acc st
  | [], acc, _, q => ⟨hs, by simpa using q⟩
  | x :: xs, acc, step, q => by
    refine ⟨hs, ?_⟩
    refine step x List.mem_cons_self (fun d s2 => goLc src g tt e own env k (xs.map f) (acc ++ [d]) s2) (fun s2 => goLc src g tt e own env k (xs.map f) acc s2) (fun hp => ?_) (fun hp => ?_)
    · refine lc_filter f h p st hs xs _ (fun y hy => step y (List.mem_cons_of_mem _ hy)) ?_
      rw [List.filter_cons, if_pos hp, List.map_cons] at q
      rw [List.append_assoc]
      exact q
    · refine lc_filter f h p st hs xs _ (fun y hy => step y (List.mem_cons_of_mem _ hy)) ?_
      rw [List.filter_cons, if_neg (by simp [hp])] at q
      exact q
/-- each turn draws -/
theorem lc_draws (f : α → D) (P : α → Prop) (i c B : Nat) (step : ∀ x n st (kd : DK), Tp i n st → n < B → (∀ a ys, P a → Tp i (n + c) (st.set i ys) → kd (f a) (st.set i ys)) → g x (wipeE env own) st fun e1 s1 => e e1 s1 kd) :
    ∀ (xs : List D) (n : Nat) (st : Sto) (acc : List D), Tp i n st → n + c * xs.length < B →
    (∀ (as : List α) ys, as.length = xs.length → (∀ a ∈ as, P a) → Tp i (n + c * xs.length) (st.set i ys) → k (acc ++ as.map f) (st.set i ys)) → goLc [] g dYes e own env k xs acc st
  | [], n, st, acc, ht, _, h => by
    obtain ⟨xs, hx, hT⟩ := id ht
    have q := set_same hx
    refine ⟨trivial, ?_⟩
    have := h [] xs rfl (fun _ m => by cases m) (by rw [q]; exact ht)
    rw [q] at this
    simpa using this
  | x :: r, n, st, acc, ht, hn, h => by
    simp only [List.length_cons, Nat.mul_add] at hn
    refine ⟨trivial, ?_⟩
    refine step x n st (fun d s2 => goLc [] g dYes e own env k r (acc ++ [d]) s2) ht (by omega) fun a ys ha t => ?_
    refine lc_draws f P i c B step r (n + c) _ _ t (by omega) fun as zs hl hp t' => ?_
    rw [List.set_set] at t' ⊢
    rw [List.append_assoc]
    refine h (a :: as) zs (by simp [hl]) (fun y hy => ?_) (t'.mono ?_)
    · rcases List.mem_cons.mp hy with rfl | hy
      · exact ha
      · exact hp y hy
    · rw [List.length_cons, Nat.mul_add]
      omega
theorem atI_pick {ns : List Int} {r : Int} (h0 : 0 ≤ r) (h1 : r < ns.length) : ∃ x ∈ ns, atI (ns.map D.int) r = some (.int x) := by
  refine ⟨ns[r.toNat]'(by omega), List.getElem_mem _, ?_⟩
  unfold atI ixN
  rw [if_pos h0, if_pos (by rw [List.length_map]; exact h1)]
  show (ns.map D.int)[r.toNat]? = _
  rw [List.getElem?_map, List.getElem?_eq_getElem (by omega)]
  rfl
end
end DL

/-! The plain law of a balance: falls, runs, what stays. No program in sight. -/
namespace DL
open PySem
def sd (s : Int) : Str := if s < 0 then "left" else "right"
def fallI (s w : Int) : Int := if s < 0 then s + 2 * w else s - 2 * w
theorem lr_ne : ¬ (("right" : Str) = "left") := by decide +kernel
theorem sd_lr (s : Int) : sd s = "left" ∨ sd s = "right" := by
  unfold sd
  split
  · exact .inl rfl
  · exact .inr rfl
theorem sd_left (s : Int) : (sd s = "left") ↔ s < 0 := by
  unfold sd
  split
  · simp_all
  · simp_all [lr_ne]
theorem sd_fall (s w : Int) : (if sd s = "left" then s + 2 * w else s - 2 * w) = fallI s w := by
  unfold fallI
  by_cases h : s < 0
  · rw [if_pos h, if_pos ((sd_left s).mpr h)]
  · rw [if_neg h, if_neg (fun z => h ((sd_left s).mp z))]
def foldR (r : Int × Int) (w : Int) : Int × Int :=
  if r.1 < 2 * w ∧ 2 * w < r.2 then (1, if r.2 - 2 * w > 2 * w - r.1 then r.2 - 2 * w else 2 * w - r.1)
  else if r.2 < 2 * w then (2 * w - r.2, 2 * w - r.1) else (r.1 - 2 * w, r.2 - 2 * w)
def foldsR : Int × Int → List Int → Int × Int
  | r, [] => r
  | r, w :: ws => foldsR (foldR r w) ws
def OkRun (r : Int × Int) : Prop := 1 ≤ r.1 ∧ r.1 ≤ r.2 ∧ r.1 % 2 = 1 ∧ r.2 % 2 = 1
def wholeR : Int × Int → List Int → Bool
  | _, [] => true
  | r, w :: ws => if r.1 < 2 * w ∧ 2 * w < r.2 then false else wholeR (foldR r w) ws
def MaxOf (m : Int) (ws : List Int) : Prop := m ∈ ws ∧ ∀ y ∈ ws, y ≤ m
theorem MaxOf.eq {m m' : Int} {ws : List Int} (h : MaxOf m ws) (h1 : m' ∈ ws) (h2 : ∀ y, y ∈ ws → y ≤ m') : m' = m := by
  have a1 := h.2 _ h1
  have a2 := h2 _ h.1
  omega
theorem MaxOf.pos {m : Int} {ws : List Int} (h : MaxOf m ws) : 0 < ws.length := List.length_pos_of_mem h.1
def spotR (r : Int × Int) : Int := (r.2 - r.1) / 2 + 1
def halvR (r : Int × Int) : Int := (r.1 - 1) / 2 + spotR r / 2
def ResetC : Int × Int → List Int → Prop
  | r, [] => ¬ 1 < spotR r
  | r, h :: hs => 1 < spotR r ∧ h = halvR r ∧ ResetC (foldR r h) hs
instance decReset : ∀ (hs : List Int) (r : Int × Int), Decidable (ResetC r hs)
  | [], r => inferInstanceAs (Decidable (¬ 1 < spotR r))
  | h :: hs, r => by
    have := decReset hs (foldR r h)
    exact inferInstanceAs (Decidable (1 < spotR r ∧ h = halvR r ∧ ResetC (foldR r h) hs))
/-! ### sizes, runs -/
def sz (s : Int) : Int := if s < 0 then -s else s
def Sub (r q : Int × Int) : Prop := q.1 ≤ r.1 ∧ r.2 ≤ q.2
theorem fold_ok {r : Int × Int} (h : OkRun r) (w : Int) : OkRun (foldR r w) := by
  obtain ⟨h1, h2, h3, h4⟩ := h
  unfold foldR
  split
  · refine ⟨?_, ?_, ?_, ?_⟩ <;> dsimp only
    · omega
    · split <;> omega
    · decide
    · split <;> omega
  · split
    · refine ⟨?_, ?_, ?_, ?_⟩ <;> (try dsimp only) <;> omega
    · refine ⟨?_, ?_, ?_, ?_⟩ <;> (try dsimp only) <;> omega
def WOk (m : Int) (ws : List Int) : Prop := MaxOf m ws ∧ ∀ w ∈ ws, 1 ≤ w
theorem WOk.all {m : Int} {ws : List Int} (h : WOk m ws) : ∀ w ∈ ws, 1 ≤ w ∧ w ≤ m := fun w hw => ⟨h.2 w hw, h.1.2 w hw⟩
theorem WOk.one {m : Int} {ws : List Int} (h : WOk m ws) : 1 ≤ m := h.2 m h.1.1
/-- a fold never makes more spots; fewer, where it parts -/
theorem spot_fold {r : Int × Int} (h : OkRun r) (w : Int) : spotR (foldR r w) ≤ spotR r ∧ (r.1 < 2 * w ∧ 2 * w < r.2 → spotR (foldR r w) < spotR r) := by
  obtain ⟨h1, h2, h3, h4⟩ := h
  unfold foldR spotR
  constructor
  · split
    · dsimp only
      split <;> omega
    · split <;> dsimp only <;> omega
  · intro p
    rw [if_pos p]
    dsimp only
    split <;> omega
theorem spot_folds : ∀ (ws : List Int) {r : Int × Int}, OkRun r → spotR (foldsR r ws) ≤ spotR r
  | [], _, _ => Int.le_refl _
  | w :: ws, _, h => Int.le_trans (spot_folds ws (fold_ok h w)) (spot_fold h w).1
theorem whole_of : ∀ (ws : List Int) {r : Int × Int}, OkRun r → spotR (foldsR r ws) = spotR r → wholeR r ws = true
  | [], _, _, _ => rfl
  | w :: ws, r, h, e => by
    have a := spot_folds ws (fold_ok h w)
    have b := spot_fold h w
    simp only [foldsR] at e
    unfold wholeR
    by_cases p : r.1 < 2 * w ∧ 2 * w < r.2
    · have := b.2 p
      omega
    · rw [if_neg p]
      exact whole_of ws (fold_ok h w) (by omega)
/-! ### rounds -/
/-- the run that stays -/
structure Stays (ws : List Int) (T : Int × Int) : Prop where
  ok : OkRun T
  fix : foldsR T ws = T
theorem Stays.whole {ws : List Int} {T : Int × Int} (h : Stays ws T) : wholeR T ws = true := whole_of ws h.ok (by rw [h.fix])
/-! ### far off -/
/-! ### pounds -/
/-! ### the sizes of a run, one by one -/
end DL

/-! x in xs, x not in xs: lists and tuples of data of any depth. -/
namespace DL
open PySem PySem.Spec PyProof.Rows L2
def inD (d : D) (ys : List D) : Bool := ys.any fun z => eqD z d
def inK (neg : Bool) (x : D) (ys : List D) (st : Sto) (k : DK) : Prop := okD 60 x = true ∧ okDs 59 ys = true ∧ k (.bl (if neg = true then !inD x ys else inD x ys)) st
section
variable {X : Cx}
theorem in_room {A : Around} {d : D} {n : Nat} (h : okD n d = true) (hn : n ≤ 60) (hu : A.units + 64 < cLine) (xs : List PyData) : A.units + 1 + min (PyData.depthAll xs) (toP d).depth < cLine := by
  have := (shape_toP n d h).2
  have := Nat.min_le_right (PyData.depthAll xs) (toP d).depth
  omega
variable {neg : Bool} {d : D} {ys : List D} {st : Sto} {k : DK} {i : Nat}
theorem e_inFlat : inK neg d ys st k = (okD 60 d = true ∧ okDs 59 ys = true ∧ k (.bl (if neg = true then !inD d ys else inD d ys)) st) := rfl
theorem e_drK : deref st (.klst ys) = .lst ys := rfl
end
section
variable {X : Cx} {es : List Expr} {pos : Pos}
/-- a list taken apart into names -/
def dgUnl (n : Nat) (g : DGs) : DG := fun d env st k => match deref st d with
  | .lst xs => xs.length = n ∧ g xs env st k
  | _ => False
theorem pdg_unl {kk : Nat} {t : DGs} {n : Nat} (hc : X.calm = true) (h : PDGs X es t)
    (hn : (assignEach es X.env).length = n := by rfl) (hst : (assignEach es X.env).findIdx? (·.1) = none := by rfl) : PDG X (.Tuple es kk pos) (dgUnl n t) := by
  refine L2.PG.wk (pg_unl hc h hn hst) fun v σ H Q ⟨w, env, st, d, nx, W, E, R, h, fn⟩ => ?_
  unfold dgUnl at h
  split at h
  · rename_i xs e
    obtain ⟨a, vs, rfl, q, r, _⟩ := rep_lst W R e
    exact ⟨a, vs, rfl, q, by rw [r.length]; exact h.1, w, env, st, xs, nx, W, E, r, h.2, fn⟩
  · exact h.elim
variable {n : Nat} {g : DGs} {xs : List D} {env : DL.Env} {st : Sto} {k : DL.Env → Sto → Prop} {i : Nat}
theorem e_unlL : dgUnl n g (.lst xs) env st k = (xs.length = n ∧ g xs env st k) := rfl
end
theorem all_true {α : Type} (xs : List α) (st : Sto) (k : DK) : bAll [.lst (xs.map fun _ => D.bl true)] st k = k (.bl true) st := by
  have e : ∀ xs : List α, blsD (xs.map fun _ => D.bl true) = some (xs.map fun _ => true) := by
    intro xs
    induction xs with
    | nil => rfl
    | cons x r ih =>
      show (blsD (r.map fun _ => D.bl true)).map (true :: ·) = _
      rw [ih]
      rfl
  have a : (xs.map fun _ => true).all id = true := by simp
  show (match deref st (.lst (xs.map fun _ => D.bl true)) with
    | .lst xs => match blsD xs with
      | some bs => k (.bl (bs.all id)) st
      | none => False
    | _ => False) = _
  show (match blsD (xs.map fun _ => D.bl true) with
      | some bs => k (.bl (bs.all id)) st
      | none => False) = _
  rw [e xs]
  show k (.bl ((xs.map fun _ => true).all id)) st = _
  rw [a]
end DL

/-! len(set(xs)), xs a list of tuples of ints. -/
namespace DL
open PySem PySem.Spec PyProof.Rows L2
section
variable {X : Cx}
variable {e : Expr} {ta : DE} {p p2 pos2 pos : Pos}
end
end DL

namespace DL
open PySem PySem.Spec PyProof.Rows L2

/-! ### a Hook with looks of one's own beside the head's facts -/
abbrev AlX : Type := Bool × He.AlD
def obsX (ex : List (PySem.W.Frag → Bool)) (fa : List He.Fa) (fn : List He.DefD) (K : PySem.W.Frag) : AlX := (ex.all fun g => g K, He.obsD fa fn K)
def valX (fn : List He.DefD) : AlX := (true, He.valD fn)
def SaysX (ex : List (PySem.W.Frag → Bool)) (fa : List He.Fa) (fn : List He.DefD) (K : PySem.W.Frag) : Prop := obsX ex fa fn K = valX fn
def obsXG (n : Nat) (ex : List (PySem.W.Frag → Bool)) (fa : List He.Fa) (fn : List He.DefD) (g : Addr → Option Obj) : AlX := obsX ex fa fn (He.frG g (He.asD g n))
def hookX (n : Nat) (ex : List (PySem.W.Frag → Bool)) (fa : List He.Fa) (fn : List He.DefD) : PySem.W.Hook where
  α := AlX
  obs := fun s => obsXG n ex fa fn s.heap.get?
  val := fun _ => valX fn
  says := fun _ h => ∃ K : PySem.W.Frag, K.In h ∧ SaysX ex fa fn K
  of := fun _ _ e => ⟨_, He.frG_in, e⟩
  keeps := fun _ _ _ ⟨K, inK, c⟩ kp => ⟨K, PySem.W.Frag.In.keeps inK kp, c⟩
theorem obsXG_eq {n : Nat} {ex : List (PySem.W.Frag → Bool)} {fa : List He.Fa} {fn : List He.DefD} {g : Addr → Option Obj} {s : Shared} (h : ∀ a, g a = s.heap.get? a) : obsXG n ex fa fn g = (hookX n ex fa fn).obs s := by
  rw [show g = s.heap.get? from funext h]
  rfl
section
variable {ex : List (PySem.W.Frag → Bool)} {fa : List He.Fa} {fn : List He.DefD} {K : PySem.W.Frag}
theorem SaysX.d (c : SaysX ex fa fn K) : He.SaysD fa fn K := congrArg (fun z : AlX => z.2) c
theorem SaysX.own (c : SaysX ex fa fn K) (i : Nat) {g : PySem.W.Frag → Bool} (h : ex[i]? = some g := by rfl) : g K = true := by
  have c1 : (ex.all fun g => g K) = true := congrArg (fun z : AlX => z.1) c
  exact List.all_eq_true.mp c1 g (List.mem_of_getElem? h)
end

/-! ### a tuple of the module's head -/
def dvD : He.Dv → D
  | .bl b => .bl b
  | .int i => .int i
  | .str x => .str x
  | _ => .non
def dvS : He.Dv → Bool
  | .non | .bl _ | .int _ | .str _ => true
  | _ => false
/-- the module's name x is a tuple of these -/
def GTup (K : PySem.W.Frag) (mg : Str → Option Value) (x : Str) (ds : List D) : Prop :=
  ∃ (a : Addr) (vs : List V), mg x = some (.ref a) ∧ (∀ H, SqT K H a vs) ∧ (∀ w : Wd, Reps K w ds vs) ∧ ∃ o, K.lookup a = some o ∧ o.cls = .type "tuple" ∧ o.dict = none
def noDct (K : PySem.W.Frag) (a : Addr) : Bool := match K.lookup a with
  | some ⟨.type c, none, _, _⟩ => decide (c = "tuple")
  | _ => false
theorem noDct_ok {K : PySem.W.Frag} {a : Addr} (h : noDct K a = true) : ∃ o, K.lookup a = some o ∧ o.cls = .type "tuple" ∧ o.dict = none := by
  unfold noDct at h
  split at h
  · rename_i c d s e
    exact ⟨_, e, by rw [of_decide_eq_true h], rfl⟩
  · cases h
def gtupB (x : Str) (vs : List He.Dv) (K : PySem.W.Frag) : Bool := (eqR (PySem.W.nsIn K mainGlobals x) (He.ga K x) && He.tupB K x vs) && noDct K (He.ga K x)
where eqR (a : Option (Option Value)) (b : Addr) : Bool := decide (a = some (some (.ref b)))
theorem dv_reps {K : PySem.W.Frag} {w : Wd} : ∀ vs : List He.Dv, vs.all dvS = true → Reps K w (vs.map dvD) (vs.map (He.Dv.v K))
  | [], _ => .nil
  | v :: vs, h => by
    rw [List.all_cons, Bool.and_eq_true] at h
    refine .cons ?_ (dv_reps vs h.2)
    cases v <;> first | (simp only [dvD, He.Dv.v, Rep]; done) | (cases h.1)
theorem gtup_ok {K : PySem.W.Frag} {h : Heap} {mg : Str → Option Value} (X : K.In h) (G : h.Ns mainGlobals mg) {x : Str} {vs : List He.Dv} (c : gtupB x vs K = true) (s : vs.all dvS = true) : GTup K mg x (vs.map dvD) := by
  have c3 := Bool.and_eq_true_iff.mp c
  have c2 := Bool.and_eq_true_iff.mp c3.1
  exact ⟨He.ga K x, vs.map (He.Dv.v K), PySem.W.mg_of X G (of_decide_eq_true c2.1), fun H => He.tupB_ok c2.2 H, fun w => dv_reps vs s, noDct_ok c3.2⟩
section
variable {X : Cx} {x : Str} {pos : Pos} {ds : List D}
end

/-! ### repr -/
section
variable {X : Cx}
end
/-! ### signs of a text that is shown are signs -/
section
variable {st : Sto} {k : DK} {xs : List D}
end
end DL

/-! enumerate(tuple, s0) -/
namespace DL
open PySem PySem.Spec PyProof.Rows L2
section
variable {K : PySem.W.Frag} {w : Wd} {st : Sto}
end
section
variable {X : Cx} {e : Expr} {ta : DE} {p pos : Pos}
end
end DL

/-! DLI: dicts of the store. -/
namespace DL
open PySem PySem.Spec PyProof.Rows L2
/-- a key, whatever the dict's kind -/
def ky (t : Bool) (d : D) : Option (List Key) := if t = true then tkeyD d else (keyD d).map fun k => [k]
def valR (t : Bool) : List D → D → Option D
  | .tup [k', d] :: r, k => if ky t k' = ky t k then some d else valR t r k
  | _, _ => none
def setR (t : Bool) (k d : D) : D → D
  | .tup [k', d'] => if ky t k' = ky t k then .tup [k', d] else .tup [k', d']
  | x => x
theorem setR_row {t : Bool} {k d k' d' : D} : setR t k d (.tup [k', d']) = if ky t k' = ky t k then .tup [k', d] else .tup [k', d'] := rfl
def putR (t : Bool) (rows : List D) (k d : D) : List D :=
  if (valR t rows k).isSome = true then rows.map (setR t k d) else rows ++ [.tup [k, d]]
def dicOf (st : Sto) : D → Option (Bool × List D)
  | .dic (.b t) i => (st[i]?).map fun xs => (t, xs)
  | .fdic (.b t) rows => some (t, rows)
  | _ => none
section
variable {K : PySem.W.Frag} {w : Wd} {st : Sto} {H : Hp}
def OptR (K : PySem.W.Frag) (w : Wd) : Option D → Option V → Prop
  | some d, some v => Rep K w d v
  | none, none => True
  | _, _ => False
theorem key_rep {d : D} {v : V} {q : Key} (R : Rep K w d v) (h : keyD d = some q) : v = kV q := by
  cases d with
  | int i => cases h; simp only [Rep] at R; subst R; rfl
  | str i => cases h; simp only [Rep] at R; subst R; rfl
  | _ => cases h
theorem keys_rep : ∀ {ds : List D} {vs : List V} {qs : List Key}, Reps K w ds vs → keysD ds = some qs → vs = qs.map kV
  | [], vs, qs, R, h => by
    cases h
    exact R.inv0
  | d :: r, vs, qs, R, h => by
    obtain ⟨v, u, rfl, R1, R2⟩ := R.inv
    unfold keysD at h
    cases h1 : keyD d with
    | none => rw [h1] at h; cases h
    | some y =>
      cases h2 : keysD r with
      | none => rw [h1, h2] at h; cases h
      | some zs =>
        rw [h1, h2] at h
        cases h
        rw [key_rep R1 h1, keys_rep R2 h2]
        rfl
theorem tkey_rep {d : D} {v : V} {q : List Key} (R : Rep K w d v) (h : tkeyD d = some q) : ∃ b, v = .ref b ∧ w.G b = some (.tup (q.map kV)) := by
  cases d with
  | tup xs =>
    simp only [Rep] at R
    obtain ⟨a, vs, rfl, g, r⟩ := R
    rw [keys_rep r h] at g
    exact ⟨a, rfl, g⟩
  | _ => cases h
theorem rowsK_val {k : D} {q : Key} (hk : keyD k = some q) : ∀ {rows : List D} {kvs : List (Key × V)}, RowsK K w rows kvs → OptR K w (valR false rows k) (valV kvs q)
  | [], kvs, h => by
    simp only [RowsK] at h
    subst h
    trivial
  | .tup [k', d] :: r, kvs, h => by
    simp only [RowsK] at h
    obtain ⟨y, v, s, rfl, h1, h2, h3⟩ := h
    unfold valR
    have e : (ky false k' = ky false k) ↔ y = q := by
      unfold ky
      rw [if_neg (by decide), if_neg (by decide), h1, hk]
      simp
    by_cases z : y = q
    · rw [if_pos (e.mpr z), valV_pos z]
      exact h2
    · rw [if_neg (fun x => z (e.mp x)), valV_neg z]
      exact rowsK_val hk h3
  | .tup [] :: _, _, h => by simp only [RowsK] at h
  | .tup [_] :: _, _, h => by simp only [RowsK] at h
  | .tup (_ :: _ :: _ :: _) :: _, _, h => by simp only [RowsK] at h
  | .non :: _, _, h => by simp only [RowsK] at h
  | .bl _ :: _, _, h => by simp only [RowsK] at h
  | .int _ :: _, _, h => by simp only [RowsK] at h
  | .str _ :: _, _, h => by simp only [RowsK] at h
  | .lst _ :: _, _, h => by simp only [RowsK] at h
  | .klst _ :: _, _, h => by simp only [RowsK] at h
  | .obj _ :: _, _, h => by simp only [RowsK] at h
  | .dic _ _ :: _, _, h => by simp only [RowsK] at h
  | .fdic _ _ :: _, _, h => by simp only [RowsK] at h
  | .gtup _ :: _, _, h => by simp only [RowsK] at h
theorem rowsT_val {k : D} {q : List Key} (hk : tkeyD k = some q) : ∀ {rows : List D} {kvs : List (List Key × V)}, RowsT K w rows kvs → OptR K w (valR true rows k) (valV kvs q)
  | [], kvs, h => by
    simp only [RowsT] at h
    subst h
    trivial
  | .tup [k', d] :: r, kvs, h => by
    simp only [RowsT] at h
    obtain ⟨y, v, s, rfl, h1, h2, h3⟩ := h
    unfold valR
    have e : (ky true k' = ky true k) ↔ y = q := by
      unfold ky
      rw [if_pos rfl, if_pos rfl, h1, hk]
      simp
    by_cases z : y = q
    · rw [if_pos (e.mpr z), valV_pos z]
      exact h2
    · rw [if_neg (fun x => z (e.mp x)), valV_neg z]
      exact rowsT_val hk h3
  | .tup [] :: _, _, h => by simp only [RowsT] at h
  | .tup [_] :: _, _, h => by simp only [RowsT] at h
  | .tup (_ :: _ :: _ :: _) :: _, _, h => by simp only [RowsT] at h
  | .non :: _, _, h => by simp only [RowsT] at h
  | .bl _ :: _, _, h => by simp only [RowsT] at h
  | .int _ :: _, _, h => by simp only [RowsT] at h
  | .str _ :: _, _, h => by simp only [RowsT] at h
  | .lst _ :: _, _, h => by simp only [RowsT] at h
  | .klst _ :: _, _, h => by simp only [RowsT] at h
  | .obj _ :: _, _, h => by simp only [RowsT] at h
  | .dic _ _ :: _, _, h => by simp only [RowsT] at h
  | .fdic _ _ :: _, _, h => by simp only [RowsT] at h
  | .gtup _ :: _, _, h => by simp only [RowsT] at h
theorem rowsK_map {k d : D} {q : Key} {v : V} (hk : keyD k = some q) (R : Rep K w d v) : ∀ {rows : List D} {kvs : List (Key × V)}, RowsK K w rows kvs → RowsK K w (rows.map (setR false k d)) (kvs.map fun kv => if kv.1 = q then (kv.1, v) else kv)
  | [], kvs, h => by
    simp only [RowsK] at h
    subst h
    simp only [List.map_nil, RowsK]
  | .tup [k', d'] :: r, kvs, h => by
    simp only [RowsK] at h
    obtain ⟨y, u, s, rfl, h1, h2, h3⟩ := h
    have e : (ky false k' = ky false k) ↔ y = q := by
      unfold ky
      rw [if_neg (by decide), if_neg (by decide), h1, hk]
      simp
    rw [List.map_cons, List.map_cons, setR_row]
    by_cases z : y = q
    · rw [if_pos (e.mpr z), if_pos z]
      simp only [RowsK]
      exact ⟨y, v, _, rfl, h1, R, rowsK_map hk R h3⟩
    · rw [if_neg (fun x => z (e.mp x)), if_neg z]
      simp only [RowsK]
      exact ⟨y, u, _, rfl, h1, h2, rowsK_map hk R h3⟩
  | .tup [] :: _, _, h => by simp only [RowsK] at h
  | .tup [_] :: _, _, h => by simp only [RowsK] at h
  | .tup (_ :: _ :: _ :: _) :: _, _, h => by simp only [RowsK] at h
  | .non :: _, _, h => by simp only [RowsK] at h
  | .bl _ :: _, _, h => by simp only [RowsK] at h
  | .int _ :: _, _, h => by simp only [RowsK] at h
  | .str _ :: _, _, h => by simp only [RowsK] at h
  | .lst _ :: _, _, h => by simp only [RowsK] at h
  | .klst _ :: _, _, h => by simp only [RowsK] at h
  | .obj _ :: _, _, h => by simp only [RowsK] at h
  | .dic _ _ :: _, _, h => by simp only [RowsK] at h
  | .fdic _ _ :: _, _, h => by simp only [RowsK] at h
  | .gtup _ :: _, _, h => by simp only [RowsK] at h
theorem rowsT_map {k d : D} {q : List Key} {v : V} (hk : tkeyD k = some q) (R : Rep K w d v) : ∀ {rows : List D} {kvs : List (List Key × V)}, RowsT K w rows kvs → RowsT K w (rows.map (setR true k d)) (kvs.map fun kv => if kv.1 = q then (kv.1, v) else kv)
  | [], kvs, h => by
    simp only [RowsT] at h
    subst h
    simp only [List.map_nil, RowsT]
  | .tup [k', d'] :: r, kvs, h => by
    simp only [RowsT] at h
    obtain ⟨y, u, s, rfl, h1, h2, h3⟩ := h
    have e : (ky true k' = ky true k) ↔ y = q := by
      unfold ky
      rw [if_pos rfl, if_pos rfl, h1, hk]
      simp
    rw [List.map_cons, List.map_cons, setR_row]
    by_cases z : y = q
    · rw [if_pos (e.mpr z), if_pos z]
      simp only [RowsT]
      exact ⟨y, v, _, rfl, h1, R, rowsT_map hk R h3⟩
    · rw [if_neg (fun x => z (e.mp x)), if_neg z]
      simp only [RowsT]
      exact ⟨y, u, _, rfl, h1, h2, rowsT_map hk R h3⟩
  | .tup [] :: _, _, h => by simp only [RowsT] at h
  | .tup [_] :: _, _, h => by simp only [RowsT] at h
  | .tup (_ :: _ :: _ :: _) :: _, _, h => by simp only [RowsT] at h
  | .non :: _, _, h => by simp only [RowsT] at h
  | .bl _ :: _, _, h => by simp only [RowsT] at h
  | .int _ :: _, _, h => by simp only [RowsT] at h
  | .str _ :: _, _, h => by simp only [RowsT] at h
  | .lst _ :: _, _, h => by simp only [RowsT] at h
  | .klst _ :: _, _, h => by simp only [RowsT] at h
  | .obj _ :: _, _, h => by simp only [RowsT] at h
  | .dic _ _ :: _, _, h => by simp only [RowsT] at h
  | .fdic _ _ :: _, _, h => by simp only [RowsT] at h
  | .gtup _ :: _, _, h => by simp only [RowsT] at h
theorem rowsK_snoc {k d : D} {q : Key} {v : V} (hk : keyD k = some q) (R : Rep K w d v) : ∀ {rows : List D} {kvs : List (Key × V)}, RowsK K w rows kvs → RowsK K w (rows ++ [.tup [k, d]]) (kvs ++ [(q, v)])
  | [], kvs, h => by
    simp only [RowsK] at h
    subst h
    simp only [List.nil_append, RowsK]
    exact ⟨q, v, [], rfl, hk, R, rfl⟩
  | .tup [k', d'] :: r, kvs, h => by
    simp only [RowsK] at h
    obtain ⟨y, u, s, rfl, h1, h2, h3⟩ := h
    simp only [List.cons_append, RowsK]
    exact ⟨y, u, _, rfl, h1, h2, rowsK_snoc hk R h3⟩
  | .tup [] :: _, _, h => by simp only [RowsK] at h
  | .tup [_] :: _, _, h => by simp only [RowsK] at h
  | .tup (_ :: _ :: _ :: _) :: _, _, h => by simp only [RowsK] at h
  | .non :: _, _, h => by simp only [RowsK] at h
  | .bl _ :: _, _, h => by simp only [RowsK] at h
  | .int _ :: _, _, h => by simp only [RowsK] at h
  | .str _ :: _, _, h => by simp only [RowsK] at h
  | .lst _ :: _, _, h => by simp only [RowsK] at h
  | .klst _ :: _, _, h => by simp only [RowsK] at h
  | .obj _ :: _, _, h => by simp only [RowsK] at h
  | .dic _ _ :: _, _, h => by simp only [RowsK] at h
  | .fdic _ _ :: _, _, h => by simp only [RowsK] at h
  | .gtup _ :: _, _, h => by simp only [RowsK] at h
theorem rowsT_snoc {k d : D} {q : List Key} {v : V} (hk : tkeyD k = some q) (R : Rep K w d v) : ∀ {rows : List D} {kvs : List (List Key × V)}, RowsT K w rows kvs → RowsT K w (rows ++ [.tup [k, d]]) (kvs ++ [(q, v)])
  | [], kvs, h => by
    simp only [RowsT] at h
    subst h
    simp only [List.nil_append, RowsT]
    exact ⟨q, v, [], rfl, hk, R, rfl⟩
  | .tup [k', d'] :: r, kvs, h => by
    simp only [RowsT] at h
    obtain ⟨y, u, s, rfl, h1, h2, h3⟩ := h
    simp only [List.cons_append, RowsT]
    exact ⟨y, u, _, rfl, h1, h2, rowsT_snoc hk R h3⟩
  | .tup [] :: _, _, h => by simp only [RowsT] at h
  | .tup [_] :: _, _, h => by simp only [RowsT] at h
  | .tup (_ :: _ :: _ :: _) :: _, _, h => by simp only [RowsT] at h
  | .non :: _, _, h => by simp only [RowsT] at h
  | .bl _ :: _, _, h => by simp only [RowsT] at h
  | .int _ :: _, _, h => by simp only [RowsT] at h
  | .str _ :: _, _, h => by simp only [RowsT] at h
  | .lst _ :: _, _, h => by simp only [RowsT] at h
  | .klst _ :: _, _, h => by simp only [RowsT] at h
  | .obj _ :: _, _, h => by simp only [RowsT] at h
  | .dic _ _ :: _, _, h => by simp only [RowsT] at h
  | .fdic _ _ :: _, _, h => by simp only [RowsT] at h
  | .gtup _ :: _, _, h => by simp only [RowsT] at h
theorem optR_some {o : Option D} {u : Option V} (h : OptR K w o u) : o.isSome = u.isSome := by
  cases o <;> cases u <;> first | rfl | exact h.elim
theorem rowsK_put {k d : D} {q : Key} {v : V} (hk : keyD k = some q) (R : Rep K w d v) {rows : List D} {kvs : List (Key × V)} (h : RowsK K w rows kvs) : RowsK K w (putR false rows k d) (putK kvs q v) := by
  unfold putR putK
  rw [valV_any, ← optR_some (rowsK_val hk h)]
  split
  · exact rowsK_map hk R h
  · exact rowsK_snoc hk R h
theorem rowsT_put {k d : D} {q : List Key} {v : V} (hk : tkeyD k = some q) (R : Rep K w d v) {rows : List D} {kvs : List (List Key × V)} (h : RowsT K w rows kvs) : RowsT K w (putR true rows k d) (putK kvs q v) := by
  unfold putR putK
  rw [valV_any, ← optR_some (rowsT_val hk h)]
  split
  · exact rowsT_map hk R h
  · exact rowsT_snoc hk R h
theorem rowsK_length : ∀ {rows : List D} {kvs : List (Key × V)}, RowsK K w rows kvs → rows.length = kvs.length
  | [], kvs, h => by
    simp only [RowsK] at h
    subst h
    rfl
  | .tup [k', d'] :: r, kvs, h => by
    simp only [RowsK] at h
    obtain ⟨y, u, s, rfl, h1, h2, h3⟩ := h
    rw [List.length_cons, List.length_cons, rowsK_length h3]
  | .tup [] :: _, _, h => by simp only [RowsK] at h
  | .tup [_] :: _, _, h => by simp only [RowsK] at h
  | .tup (_ :: _ :: _ :: _) :: _, _, h => by simp only [RowsK] at h
  | .non :: _, _, h => by simp only [RowsK] at h
  | .bl _ :: _, _, h => by simp only [RowsK] at h
  | .int _ :: _, _, h => by simp only [RowsK] at h
  | .str _ :: _, _, h => by simp only [RowsK] at h
  | .lst _ :: _, _, h => by simp only [RowsK] at h
  | .klst _ :: _, _, h => by simp only [RowsK] at h
  | .obj _ :: _, _, h => by simp only [RowsK] at h
  | .dic _ _ :: _, _, h => by simp only [RowsK] at h
  | .fdic _ _ :: _, _, h => by simp only [RowsK] at h
  | .gtup _ :: _, _, h => by simp only [RowsK] at h
theorem rowsT_length : ∀ {rows : List D} {kvs : List (List Key × V)}, RowsT K w rows kvs → rows.length = kvs.length
  | [], kvs, h => by
    simp only [RowsT] at h
    subst h
    rfl
  | .tup [k', d'] :: r, kvs, h => by
    simp only [RowsT] at h
    obtain ⟨y, u, s, rfl, h1, h2, h3⟩ := h
    rw [List.length_cons, List.length_cons, rowsT_length h3]
  | .tup [] :: _, _, h => by simp only [RowsT] at h
  | .tup [_] :: _, _, h => by simp only [RowsT] at h
  | .tup (_ :: _ :: _ :: _) :: _, _, h => by simp only [RowsT] at h
  | .non :: _, _, h => by simp only [RowsT] at h
  | .bl _ :: _, _, h => by simp only [RowsT] at h
  | .int _ :: _, _, h => by simp only [RowsT] at h
  | .str _ :: _, _, h => by simp only [RowsT] at h
  | .lst _ :: _, _, h => by simp only [RowsT] at h
  | .klst _ :: _, _, h => by simp only [RowsT] at h
  | .obj _ :: _, _, h => by simp only [RowsT] at h
  | .dic _ _ :: _, _, h => by simp only [RowsT] at h
  | .fdic _ _ :: _, _, h => by simp only [RowsT] at h
  | .gtup _ :: _, _, h => by simp only [RowsT] at h
/-- a dict's rows may be locked (walked): read so or so -/
theorem valR_lock : ∀ {rows : List D} {k : D}, valR false (rows ++ [lockD]) k = valR false rows k
  | [], _ => rfl
  | .tup [k', d] :: r, k => by simp only [List.cons_append, valR, valR_lock (rows := r)]
  | .tup [] :: _, _ => rfl
  | .tup [_] :: _, _ => rfl
  | .tup (_ :: _ :: _ :: _) :: _, _ => rfl
  | .non :: _, _ => rfl
  | .bl _ :: _, _ => rfl
  | .int _ :: _, _ => rfl
  | .str _ :: _, _ => rfl
  | .lst _ :: _, _ => rfl
  | .klst _ :: _, _ => rfl
  | .obj _ :: _, _ => rfl
  | .dic _ _ :: _, _ => rfl
  | .fdic _ _ :: _, _ => rfl
  | .gtup _ :: _, _ => rfl
theorem entK_rd {a : Addr} {L : Lk} {xs : List D} {o : HO} (h : H a = some o) (r : EntR K w (some (.b false)) L xs o) : ∃ kvs, Rd H a (.dK kvs) ∧ kvs.length ≤ sizeLine ∧ ∃ rows, RowsK K w rows kvs ∧ ∀ k, valR false xs k = valR false rows k := by
  rcases r with ⟨_, kvs, rfl, n, r⟩ | ⟨_, rows, ob, kvs, _, rfl, rfl, n, r⟩
  · exact ⟨kvs, .inl h, n, xs, r, fun _ => rfl⟩
  · exact ⟨kvs, .inr ⟨ob, h⟩, n, rows, r, fun _ => valR_lock⟩
/-- the object of a dict -/
theorem dic_obj {d : D} {v : V} {t : Bool} {rows : List D} (W : Wld K w st H) (R : Rep K w d v) (e : dicOf st d = some (t, rows)) : ∃ a o L, v = .ref a ∧ H a = some o ∧ EntR K w (some (.b t)) L rows o := by
  cases d with
  | dic kd i =>
    rcases kd with t' | c
    rotate_left
    · cases e
    simp only [Rep] at R
    obtain ⟨a, rfl, q, q2, _⟩ := R
    obtain ⟨g, ys, o, h1, h2, h3⟩ := W.at_ i a q
    have e' : (st[i]?).map (fun xs => (t', xs)) = some (t, rows) := e
    rw [h1] at e'
    cases e'
    rw [q2] at h3
    exact ⟨a, o, _, rfl, h2, h3⟩
  | fdic kd rs =>
    rcases kd with t' | c
    rotate_left
    · cases e
    cases e
    cases t with
    | false =>
      simp only [Rep] at R
      obtain ⟨a, kvs, rfl, q, n, r⟩ := R
      exact ⟨a, _, none, rfl, W.same _ _ q, .inl ⟨rfl, kvs, rfl, n, r⟩⟩
    | true =>
      simp only [Rep] at R
      obtain ⟨a, kvs, rfl, q, n, r⟩ := R
      exact ⟨a, _, none, rfl, W.same _ _ q, .inl ⟨rfl, kvs, rfl, n, r⟩⟩
  | _ => cases e
theorem dic_isD {d : D} {v : V} {t : Bool} {rows : List D} (W : Wld K w st H) (R : Rep K w d v) (e : dicOf st d = some (t, rows)) : ∃ a, v = .ref a ∧ IsD H a := by
  obtain ⟨a, o, L, rfl, h, r⟩ := dic_obj W R e
  cases t with
  | false =>
    obtain ⟨kvs, hr, _⟩ := entK_rd h r
    exact ⟨a, rfl, .inl ⟨kvs, hr⟩⟩
  | true =>
    obtain ⟨kvs, rfl, _⟩ := r.dT
    exact ⟨a, rfl, .inr ⟨kvs, .inl h⟩⟩
/-- what a dict holds at a key -/
theorem dic_get {d k : D} {v y : V} {t : Bool} {rows : List D} (W : Wld K w st H) (R : Rep K w d v) (e : dicOf st d = some (t, rows)) (Rk : Rep K w k y) (hk : (ky t k).isSome = true) : ∃ a o, v = .ref a ∧ DGet H a y o ∧ OptR K w (valR t rows k) o := by
  obtain ⟨a, o, L, rfl, h, r⟩ := dic_obj W R e
  cases t with
  | false =>
    obtain ⟨kvs, hr, _, rows', r, er⟩ := entK_rd h r
    cases hq : keyD k with
    | none =>
      unfold ky at hk
      rw [if_neg (by decide), hq] at hk
      cases hk
    | some q =>
      rw [key_rep Rk hq]
      exact ⟨a, _, rfl, .inl ⟨kvs, q, hr, rfl, rfl⟩, by rw [er]; exact rowsK_val hq r⟩
  | true =>
    obtain ⟨kvs, rfl, _, r⟩ := r.dT
    cases hq : tkeyD k with
    | none =>
      unfold ky at hk
      rw [if_pos rfl, hq] at hk
      cases hk
    | some q =>
      obtain ⟨b, rfl, g⟩ := tkey_rep Rk hq
      exact ⟨a, _, rfl, .t h (W.same _ _ g), rowsT_val hq r⟩
/-- the heap behind d[k] = x -/
theorem dic_put {k x : D} {v y u : V} {t : Bool} {i : Nat} {rows : List D} (W : Wld K w st H) (R : Rep K w (.dic t i) v) (e : st[i]? = some rows) (Rk : Rep K w k y) (hk : (ky t k).isSome = true) (Rx : Rep K w x u) (hn : rows.length < 16777216) (ok : okRows rows = true) :
    ∃ a H', v = .ref a ∧ DPut H a y u H' ∧ Wld K w (st.set i (putR t rows k x)) H' := by
  simp only [Rep] at R
  obtain ⟨a, rfl, q, q2, _⟩ := R
  obtain ⟨g, ys, o, h1, h2, h3⟩ := W.at_ i a q
  rw [e] at h1
  cases h1
  rw [q2] at h3
  have hl := h3.un (.inr ok)
  cases t with
  | false =>
    obtain ⟨kvs, rfl, _, r⟩ := h3.dK ok
    cases hq : keyD k with
    | none =>
      unfold ky at hk
      rw [if_neg (by decide), hq] at hk
      cases hk
    | some z =>
      rw [key_rep Rk hq]
      have hz : kvs.length < sizeLine := by rw [← rowsK_length r, sizeLine_eq]; exact hn
      refine ⟨a, _, rfl, .k h2 hz, W.wrK q ?_⟩
      rw [q2]
      exact .inl ⟨hl, _, rfl, by have := length_putK kvs z u; omega, rowsK_put hq Rx r⟩
  | true =>
    obtain ⟨kvs, rfl, _, r⟩ := h3.dT
    cases hq : tkeyD k with
    | none =>
      unfold ky at hk
      rw [if_pos rfl, hq] at hk
      cases hk
    | some z =>
      obtain ⟨b, rfl, gb⟩ := tkey_rep Rk hq
      have hz : kvs.length < sizeLine := by rw [← rowsT_length r, sizeLine_eq]; exact hn
      refine ⟨a, _, rfl, .t h2 (W.same _ _ gb) hz, W.wrK q ?_⟩
      rw [q2]
      exact .inl ⟨hl, _, rfl, by have := length_putK kvs z u; omega, rowsT_put hq Rx r⟩
end

/-! ### readings -/
/-- {} -/
def dNewD (t : Bool) : DE := fun _ st k => k (.dic t st.length) (st ++ [[]])
def getD (d y : D) (st : Sto) (k : DK) : Prop := match dicOf st d with
  | some (t, rows) => (ky t y).isSome = true ∧ ∃ x, valR t rows y = some x ∧ k x st
  | none => False
def getOrD (x : D) (d y : D) (st : Sto) (k : DK) : Prop := match dicOf st d with
  | some (t, rows) => (ky t y).isSome = true ∧ k ((valR t rows y).getD x) st
  | none => False
def putD (o i v : D) (st : Sto) (k : Sto → Prop) : Prop := match o with
  | .dic (.b t) j => match st[j]? with
    | some rows => (ky t i).isSome = true ∧ rows.length < 16777216 ∧ okRows rows = true ∧ k (st.set j (putR t rows i v))
    | none => False
  | _ => False
def dGet2 (td ty tx : DE) : DE := fun env st k => td env st fun d s1 => (dicOf s1 d).isSome = true ∧ ty env s1 fun y s2 => tx env s2 fun x s3 => getOrD x d y s3 k
def dgPut (to ti : DE) : DG := fun v env st k => to env st fun o s1 => ti env s1 fun i s2 => putD o i v s2 fun s3 => k env s3
section
variable {X : Cx} {o i e f : Expr} {pos apos cpos : Pos} {to ti td ty tx : DE}
theorem pd_dnewK : PD X (.Dict [] [] pos) (dNewD false) := by
  refine pe_dnewK.wk fun σ H Q ⟨w, env, st, kk, W, E, h, fo⟩ p hp => ?_
  refine fo _ _ _ _ _ h (Le.addK (W.nas hp)) (W.addK hp (k := some (.b false)) ⟨[], rfl, Nat.zero_le _, by simp only [RowsK]⟩) ?_
  simp only [Rep]
  refine ⟨p, rfl, ?_, if_pos rfl, trivial⟩
  show (w.as ++ [p])[st.length]? = some p
  rw [← W.len, List.getElem?_concat_length]
theorem pd_dnewT : PD X (.Dict [] [] pos) (dNewD true) := by
  refine pe_dnewT.wk fun σ H Q ⟨w, env, st, kk, W, E, h, fo⟩ p hp => ?_
  refine fo _ _ _ _ _ h (Le.addK (W.nas hp)) (W.addK hp (k := some (.b true)) ⟨[], rfl, Nat.zero_le _, by simp only [RowsT]⟩) ?_
  simp only [Rep]
  refine ⟨p, rfl, ?_, if_pos rfl, trivial⟩
  show (w.as ++ [p])[st.length]? = some p
  rw [← W.len, List.getElem?_concat_length]
theorem pd_dget (hu : X.A.units + 64 < cLine) (ho : PD X o to) (hi : PD X i ti) (hs : NoSl i := by exact fun _ _ => rfl) : PD X (.Subscript o i pos) (dOp getD to ti) := by
  refine (pe_dget (by omega) ho hi hs).wk fun σ H Q ⟨w, env, st, kk, W, E, h, fo⟩ => ?_
  refine ⟨w, env, st, _, W, E, h, fun d st1 v w1 H1 h1 l1 W1 R1 => ⟨w1, env, st1, _, W1, E.mono l1, h1, fun y st2 u w2 H2 h2 l2 W2 R2 => ?_⟩⟩
  unfold getD at h2
  split at h2
  · rename_i t rows hd
    obtain ⟨hk, x, hx, h2⟩ := h2
    obtain ⟨a, ov, rfl, g, r⟩ := dic_get W2 (Rep.mono l2 _ _ R1) hd R2 hk
    rw [hx] at r
    cases ov with
    | none => exact r.elim
    | some z => exact ⟨a, z, rfl, g, fo _ _ _ _ _ h2 (l1.trans l2) W2 r⟩
  · exact h2.elim
theorem isD_of {K : PySem.W.Frag} {w : Wd} {st : Sto} {H : Hp} {d : D} {v : V} (W : Wld K w st H) (R : Rep K w d v) (h : (dicOf st d).isSome = true) : ∃ a, v = .ref a ∧ IsD H a := by
  cases e : dicOf st d with
  | none => rw [e] at h; cases h
  | some p => exact dic_isD W R (t := p.1) (rows := p.2) e
theorem getD_optR {K : PySem.W.Frag} {w : Wd} {a : Option D} {b : Option V} {x : D} {z : V} (r : OptR K w a b) (R : Rep K w x z) : Rep K w (a.getD x) (b.getD z) := by
  cases a <;> cases b <;> first | exact R | exact r | exact r.elim
theorem pd_dget2 (hu : X.A.units + 64 < cLine) (ho : PD X o td) (he : PD X e ty) (hf : PD X f tx)
    (b : attributeBase o "get" X.env (eval o X.env) = eval o X.env := by rfl)
    (f1 : ((backTo cpos (starEach [e, f] X.env)).all (fun x => !x.1) && (backToKw cpos (keywordEach [] X.env)).all (fun x => x.1.isSome)
      && decide (([e, f] : List Expr).length + ([] : List Keyword).length + (if ([] : List Keyword).isEmpty then 0 else 1) < 30)) = true := by rfl)
    (l : (apos.endLine == cpos.line) = true := by rfl) (tr : backTo cpos (starEach [e, f] X.env) = [(false, eval e X.env), (false, eval f X.env)] := by rfl) : PD X (.Call (.Attribute o "get" apos) [e, f] [] cpos) (dGet2 td ty tx) := by
  refine (pe_dget2 (by omega) ho he hf ⟨b, f1, l, tr⟩).wk fun σ H Q ⟨w, env, st, kk, W, E, h, fo⟩ => ?_
  refine ⟨w, env, st, _, W, E, h, fun d st1 v w1 H1 ⟨hd1, h1⟩ l1 W1 R1 => ?_⟩
  obtain ⟨a, rfl, isd⟩ := isD_of W1 R1 hd1
  refine ⟨a, rfl, isd, w1, env, st1, _, W1, E.mono l1, h1, fun y st2 u w2 H2 h2 l2 W2 R2 => ⟨w2, env, st2, _, W2, (E.mono l1).mono l2, h2, fun x st3 z w3 H3 h3 l3 W3 R3 => ?_⟩⟩
  unfold getOrD at h3
  split at h3
  · rename_i t rows hd
    obtain ⟨a', ov, ea, g, r⟩ := dic_get W3 (Rep.mono (l2.trans l3) _ _ R1) hd (Rep.mono l3 _ _ R2) h3.1
    cases ea
    exact ⟨ov, g, fo _ _ _ _ _ h3.2 ((l1.trans l2).trans l3) W3 (getD_optR r R3)⟩
  · exact h3.elim
/-- the setter of a dict's items -/
def rSetD (K : PySem.W.Frag) : TSet := fun x y v H Q => ∃ a H', x = .ref a ∧ DPut H a y v H' ∧ Q H'
theorem set_dict (hu : X.A.units + 64 < cLine) : PSet X (rSetD X.K) := by
  rintro pins s σ H x y v xv yv u Q I rx ry rv ⟨a, H', rfl, g, q⟩
  cases rx
  exact d_setItem (by omega) I g ry rv fun s' I' => ⟨H', I', q⟩
theorem pdg_put (hu : X.A.units + 64 < cLine) (ho : PD X o to) (hi : PD X i ti)
    (ha : ∀ v, assign (.Subscript o i pos) X.env v = (do
      let ov ← holding [v] (eval o X.env)
      let iv ← holding [v, ov] (eval i X.env)
      standAt pos
      holding [v, ov, iv] (setItem ov iv v)
      release [v, ov, iv] []) := by intro _; rfl) : PDG X (.Subscript o i pos) (dgPut to ti) := by
  refine L2.PG.wk (pg_sub ho hi (set_dict hu) ha) fun v σ H Q ⟨w, env, st, d, nx, W, E, R, h, fn⟩ => ?_
  refine ⟨w, env, st, _, W, E, h, fun d1 st1 v1 w1 H1 h1 l1 W1 R1 => ⟨w1, env, st1, _, W1, E.mono l1, h1, fun d2 st2 v2 w2 H2 h2 l2 W2 R2 => ?_⟩⟩
  unfold putD at h2
  split at h2
  · split at h2
    · rename_i rows hj
      obtain ⟨hk, hn, hok, h2⟩ := h2
      obtain ⟨a, H', rfl, g, W3⟩ := dic_put W2 (Rep.mono l2 _ _ R1) hj R2 hk (Rep.mono (l1.trans l2) _ _ R) hn hok
      exact ⟨a, H', rfl, g, fn _ _ _ _ _ h2 (l1.trans l2) W3 (E.mono (l1.trans l2))⟩
    · exact h2.elim
  · exact h2.elim
end
end DL

/-! DLJ: sorted of a dict's keys and of its values. -/
namespace DL
open PySem PySem.Spec PyProof.Rows L2
def valsR : List D → List D
  | .tup [_, v] :: r => v :: valsR r
  | _ => []
theorem valsR_lock : ∀ {rows : List D}, valsR (rows ++ [lockD]) = valsR rows
  | [] => rfl
  | .tup [k, d] :: r => by simp only [List.cons_append, valsR, valsR_lock (rows := r)]
  | .tup [] :: _ => rfl
  | .tup [_] :: _ => rfl
  | .tup (_ :: _ :: _ :: _) :: _ => rfl
  | .non :: _ => rfl
  | .bl _ :: _ => rfl
  | .int _ :: _ => rfl
  | .str _ :: _ => rfl
  | .lst _ :: _ => rfl
  | .klst _ :: _ => rfl
  | .obj _ :: _ => rfl
  | .dic _ _ :: _ => rfl
  | .fdic _ _ :: _ => rfl
  | .gtup _ :: _ => rfl
section
variable {K : PySem.W.Frag} {w : Wd} {st : Sto} {H : Hp} {X : Cx}
/-! ### evaluation -/
variable {kk : DK} {i : Nat} {rows : List D} {y x d : D} {t : Bool}
theorem e_dnew : dNewD t env st kk = kk (.dic t st.length) (st ++ [[]]) := rfl
theorem e_dget (h : st[i]? = some rows) : getD (.dic t i) y st kk = ((ky t y).isSome = true ∧ ∃ x, valR t rows y = some x ∧ kk x st) := by simp [getD, dicOf, h]
theorem e_dgetF : getD (.fdic t rows) y st kk = ((ky t y).isSome = true ∧ ∃ x, valR t rows y = some x ∧ kk x st) := rfl
theorem e_dgetOr (h : st[i]? = some rows) : getOrD x (.dic t i) y st kk = ((ky t y).isSome = true ∧ kk ((valR t rows y).getD x) st) := by simp [getOrD, dicOf, h]
theorem e_dput {ks : Sto → Prop} (h : st[i]? = some rows) : putD (.dic t i) y x st ks = ((ky t y).isSome = true ∧ rows.length < 16777216 ∧ okRows rows = true ∧ ks (st.set i (putR t rows y x))) := by simp [putD, h]
theorem e_dsome (h : st[i]? = some rows) : (dicOf st (.dic t i)).isSome = true := by simp [dicOf, h]
theorem e_dget2 {td ty tx : DE} {env : Env} : dGet2 td ty tx env st kk = td env st fun d s1 => (dicOf s1 d).isSome = true ∧ ty env s1 fun y s2 => tx env s2 fun x s3 => getOrD x d y s3 kk := rfl
theorem e_dgPut {to ti : DE} {env : Env} {v : D} {ke : Env → Sto → Prop} : dgPut to ti v env st ke = to env st fun o s1 => ti env s1 fun i s2 => putD o i v s2 fun s3 => ke env s3 := rfl
theorem e_drG {ds : List D} : deref st (.gtup ds) = .tup ds := rfl
theorem e_kyI {n : Int} : (ky false (.int n)).isSome = true := rfl
theorem e_kyS {n : Str} : (ky false (.str n)).isSome = true := rfl
end
/-! ### tables -/
section
variable {κ α : Type} [DecidableEq κ]
def look : List (κ × α) → κ → Option α
  | [], _ => none
  | p :: r, k => if p.1 = k then some p.2 else look r k
/-- in its place, or at the end -/
def putL (ks : List (κ × α)) (k : κ) (a : α) : List (κ × α) := if (look ks k).isSome = true then ks.map (fun p => if p.1 = k then (p.1, a) else p) else ks ++ [(k, a)]
/-- keys as data -/
structure KeyE (t : Bool) (e : κ → D) : Prop where
  some : ∀ a, (ky t (e a)).isSome = true
  inj : ∀ a b, ky t (e a) = ky t (e b) → a = b
def tabR (e : κ → D) (f : α → D) (ks : List (κ × α)) : List D := ks.map fun p => .tup [e p.1, f p.2]
variable {t : Bool} {e : κ → D} {f : α → D}
theorem valR_tab (h : KeyE t e) (k : κ) : ∀ ks : List (κ × α), valR t (tabR e f ks) (e k) = (look ks k).map f
  | [] => rfl
  | p :: r => by
    show (if ky t (e p.1) = ky t (e k) then some (f p.2) else valR t (tabR e f r) (e k)) = _
    unfold look
    by_cases z : p.1 = k
    · rw [if_pos (by rw [z]), if_pos z]; rfl
    · rw [if_neg (fun q => z (h.inj _ _ q)), if_neg z]
      exact valR_tab h k r
theorem putR_tab (h : KeyE t e) (k : κ) (a : α) (ks : List (κ × α)) : putR t (tabR e f ks) (e k) (f a) = tabR e f (putL ks k a) := by
  unfold putR putL
  rw [valR_tab h, Option.isSome_map]
  by_cases z : (look ks k).isSome = true
  · rw [if_pos z, if_pos z]
    unfold tabR
    rw [List.map_map, List.map_map]
    refine List.map_congr_left fun p _ => ?_
    show setR t (e k) (f a) (.tup [e p.1, f p.2]) = _
    rw [setR_row]
    by_cases y : p.1 = k
    · rw [if_pos (by rw [y])]
      simp [y]
    · rw [if_neg (fun q => y (h.inj _ _ q))]
      simp [y]
  · rw [if_neg z, if_neg z]
    unfold tabR
    rw [List.map_append]
    rfl
theorem tabR_length (ks : List (κ × α)) : (tabR e f ks).length = ks.length := List.length_map _
theorem valsR_tab : ∀ ks : List (κ × α), valsR (tabR e f ks) = ks.map fun p => f p.2
  | [] => rfl
  | p :: r => congrArg (f p.2 :: ·) (valsR_tab r)
theorem look_app (ks ls : List (κ × α)) (k : κ) : look (ks ++ ls) k = match look ks k with
    | some a => some a
    | none => look ls k := by
  induction ks with
  | nil => rfl
  | cons p r ih =>
    show (if p.1 = k then some p.2 else look (r ++ ls) k) = match (if p.1 = k then some p.2 else look r k) with
      | some a => some a
      | none => look ls k
    by_cases z : p.1 = k
    · rw [if_pos z, if_pos z]
    · rw [if_neg z, if_neg z]
      exact ih
theorem look_map (k j : κ) (a : α) : ∀ ks : List (κ × α), look (ks.map (fun p => if p.1 = k then (p.1, a) else p)) j = if j = k then (look ks j).map (fun _ => a) else look ks j
  | [] => by simp [look]
  | p :: r => by
    have ih := look_map k j a r
    rw [List.map_cons]
    by_cases h : p.1 = k
    · rw [if_pos h]
      by_cases q : p.1 = j
      · have jk : j = k := q.symm.trans h
        simp [look, q, jk]
      · have : look ((p.1, a) :: r.map (fun p => if p.1 = k then (p.1, a) else p)) j = look (r.map (fun p => if p.1 = k then (p.1, a) else p)) j := if_neg q
        rw [this, ih]
        simp [look, q]
    · rw [if_neg h]
      by_cases q : p.1 = j
      · have : ¬ j = k := fun z => h (q.trans z)
        simp [look, q, this]
      · have : look (p :: r.map (fun p => if p.1 = k then (p.1, a) else p)) j = look (r.map (fun p => if p.1 = k then (p.1, a) else p)) j := if_neg q
        rw [this, ih]
        simp [look, q]
theorem look_put (ks : List (κ × α)) (k j : κ) (a : α) : look (putL ks k a) j = if j = k then some a else look ks j := by
  unfold putL
  by_cases z : (look ks k).isSome = true
  · rw [if_pos z, look_map]
    by_cases q : j = k
    · rw [if_pos q, if_pos q, q]
      cases h : look ks k with
      | none => rw [h] at z; cases z
      | some b => rfl
    · rw [if_neg q, if_neg q]
  · rw [if_neg z, look_app]
    have hn : look ks k = none := by
      cases h : look ks k with
      | none => rfl
      | some b => rw [h] at z; exact absurd rfl z
    by_cases q : j = k
    · rw [if_pos q, q, hn]
      simp [look]
    · rw [if_neg q]
      cases look ks j with
      | none => simp [look, Ne.symm q]
      | some b => rfl
theorem look_none {ks : List (κ × α)} {k : κ} : look ks k = none ↔ k ∉ ks.map (·.1) := by
  induction ks with
  | nil => exact ⟨fun _ => List.not_mem_nil, fun _ => rfl⟩
  | cons p r ih =>
    rw [List.map_cons, List.mem_cons, not_or, ← ih]
    show (if p.1 = k then some p.2 else look r k) = none ↔ _
    by_cases z : p.1 = k
    · rw [if_pos z]
      refine ⟨fun h => (by cases h), fun h => absurd z.symm h.1⟩
    · rw [if_neg z]
      refine ⟨fun h => ⟨fun q => z q.symm, h⟩, fun h => h.2⟩
theorem look_of_mem {ks : List (κ × α)} (nd : (ks.map (·.1)).Nodup) {p : κ × α} (h : p ∈ ks) : look ks p.1 = some p.2 := by
  induction ks with
  | nil => cases h
  | cons q r ih =>
    rw [List.map_cons, List.nodup_cons] at nd
    show (if q.1 = p.1 then some q.2 else look r p.1) = _
    rcases List.mem_cons.mp h with e | e
    · subst e
      rw [if_pos rfl]
    · have : ¬ q.1 = p.1 := fun z => nd.1 (by rw [z]; exact List.mem_map.mpr ⟨p, e, rfl⟩)
      rw [if_neg this]
      exact ih nd.2 e
theorem putL_new {ks : List (κ × α)} {k : κ} {a : α} (h : look ks k = none) : putL ks k a = ks ++ [(k, a)] := by
  unfold putL
  rw [h]
  exact if_neg (fun z => by cases z)
theorem putL_length (ks : List (κ × α)) (k : κ) (a : α) : (putL ks k a).length ≤ ks.length + 1 := by
  unfold putL
  split
  · rw [List.length_map]; omega
  · rw [List.length_append]; simp
end
/-! ### a def's own objects -/
theorem belows_0 {n : Nat} {xs : List D} (h : belows 0 xs = true) : belows n xs = true := belows_mono (Nat.zero_le n) xs h
theorem frzs_tup : ∀ (loc : List (List D)) (n : Nat) (xs : List D), frzs n loc (.tup xs) = .tup (xs.map (frzs n loc))
  | [], n, xs => by
    show D.tup xs = .tup (xs.map fun d => d)
    rw [List.map_id']
  | a :: r, n, xs => by
    show sub n (a.map (frzs (n + 1) r)) (frzs (n + 1) r (.tup xs)) = _
    rw [frzs_tup r (n + 1) xs]
    simp only [sub, subs_map, List.map_map]
    rfl
theorem frzs_closed {n : Nat} {loc : List (List D)} {d : D} (h : below 0 d = true) : frzs n loc d = d := frzs_below loc n d (below_mono (Nat.zero_le n) d h)
theorem map_closed {n : Nat} {loc : List (List D)} {xs : List D} (h : belows 0 xs = true) : xs.map (frzs n loc) = xs := by
  have : ∀ d ∈ xs, frzs n loc d = id d := fun d m => frzs_closed (belows_mem h m)
  rw [List.map_congr_left this, List.map_id]
theorem frzs_obj : ∀ (loc : List (List D)) (n a : Nat) (xs : List D), (∀ c ∈ loc, belows 0 c = true) → n ≤ a → loc[a - n]? = some xs → frzs n loc (.obj a) = .lst xs
  | [], n, a, xs, _, _, e => by simp at e
  | b :: r, n, a, xs, hc, l, e => by
    have hb := hc b List.mem_cons_self
    show sub n (b.map (frzs (n + 1) r)) (frzs (n + 1) r (.obj a)) = _
    rw [map_closed hb]
    by_cases z : a = n
    · subst z
      rw [Nat.sub_self] at e
      cases e
      rw [frzs_below r (a + 1) (.obj a) (by simp only [below, decide_eq_true_eq]; omega)]
      simp only [sub, if_true]
    · rw [show a - n = (a - (n + 1)) + 1 by omega, List.getElem?_cons_succ] at e
      rw [frzs_obj r (n + 1) a xs (fun c m => hc c (List.mem_cons_of_mem _ m)) (by omega) e]
      refine sub_below _ ?_
      simp only [below]
      exact belows_0 (hc xs (List.mem_cons_of_mem _ (List.mem_of_getElem? e)))
theorem safe_closed : ∀ (loc : List (List D)) (n : Nat), (∀ c ∈ loc, belows 0 c = true) → SafeLoc n loc
  | [], _, _ => trivial
  | b :: r, n, hc => by
    refine ⟨?_, safe_closed r (n + 1) fun c m => hc c (List.mem_cons_of_mem _ m)⟩
    have hb := hc b List.mem_cons_self
    rw [map_closed hb]
    exact belows_0 hb
theorem frz_locs {st loc : Sto} {d : D} {kk : DK} (hs : SafeLoc st.length loc) (h : kk (frzs st.length loc d) st) : Frz st d (st ++ loc) kk := ⟨st, loc, rfl, rfl, fun i xs e => .inl e, hs, h⟩
end DL

/-! DLK: len(set(xs)) of a list of numbers. -/
namespace DL
open PySem PySem.Spec PyProof.Rows L2
section
variable {X : Cx} {e : Expr} {ta : DE} {p p2 pos2 pos : Pos}
/-! a sum of lists that is changed later: a list of the store -/
def addNewD : F2 := fun d e st k => match derefM st d, derefM st e with
  | some a, some b => a.length + b.length ≤ 16777216 ∧ k (.obj st.length) (st ++ [a ++ b])
  | _, _ => False
theorem dop_addNew : OpR X (binaryOp .Add) (rD X.K addNewD) := by
  refine OpR.by_ fun x y H Q w st d e kk W R1 R2 q fo => ?_
  unfold addNewD at q
  split at q
  · rename_i a b h1 h2
    obtain ⟨p, vs, rfl, q1, r1, _⟩ := rep_lstM W R1 h1
    obtain ⟨p2, us, rfl, q2, r2, _⟩ := rep_lstM W R2 h2
    have n' : vs.length + us.length ≤ sizeLine := by rw [r1.length, r2.length]; exact line16 q.1
    exact ⟨rCat, op_cat, p, p2, vs, us, rfl, rfl, q1, q2, n', fol_new W (r1.append r2) (by rw [List.length_append]; exact n') q.2 fo⟩
  · exact q.elim
theorem e_addNewOL {i : Nat} {a b : List D} {st : Sto} {k : DK} (h : st[i]? = some a) : addNewD (.obj i) (.lst b) st k = (a.length + b.length ≤ 16777216 ∧ k (.obj st.length) (st ++ [a ++ b])) := by simp [addNewD, derefM, deref, h]
end
end DL

/-! DLL: texts joined. -/
namespace DL
open PySem PySem.Spec PyProof.Rows L2
section
variable {X : Cx} {o e : Expr} {td te : DE}
def strsD : List D → Option (List Str)
  | [] => some []
  | .str z :: r => (strsD r).map (z :: ·)
  | _ :: _ => none
theorem strsD_eq : ∀ {xs : List D} {zs : List Str}, strsD xs = some zs → xs = zs.map D.str
  | [], zs, h => by cases h; rfl
  | d :: r, zs, h => by
    cases d with
    | str z =>
      simp only [strsD] at h
      cases hr : strsD r with
      | none => rw [hr] at h; cases h
      | some ys =>
        rw [hr] at h
        cases h
        rw [strsD_eq hr]
        rfl
    | _ => simp only [strsD] at h; cases h
theorem strsD_map : ∀ zs : List Str, strsD (zs.map D.str) = some zs
  | [] => rfl
  | z :: r => by
    show (strsD (r.map D.str)).map (z :: ·) = _
    rw [strsD_map r]
    rfl
/-- a.join(xs), xs a list of texts -/
def joinK (a : D) (e : D) (st : Sto) (k : DK) : Prop := match a, deref st e with
  | .str a, .lst xs => match strsD xs with
    | some ys => (ys.map (·.length)).sum + ys.length * a.length ≤ 16777216 ∧ k (.str (Txt.join a ys)) st
    | none => False
  | _, _ => False
def dJoin (to te : DE) : DE := fun env st k => to env st fun d s1 => (∃ a, d = .str a) ∧ te env s1 fun e s2 => joinK d e s2 k
theorem pd_join {apos pos : Pos} (ho : PD X o td) (he : PD X e te) (hs : starEach [e] X.env = [(false, eval e X.env)] := by rfl) (hbase : attributeBase o "join" X.env (eval o X.env) = eval o X.env := by rfl) (hline : (apos.endLine == pos.line) = true := by rfl) :
    PD X (.Call (.Attribute o "join" apos) [e] [] pos) (dJoin td te) := by
  refine (pe_join ho he hs hbase hline).wk fun σ H Q ⟨w, env, st, kk, W, E, h, fo⟩ => ?_
  refine ⟨w, env, st, _, W, E, h, fun d st1 v w1 H1 ⟨hd1, h1⟩ l1 W1 R1 => ?_⟩
  obtain ⟨a, rfl⟩ := hd1
  simp only [Rep] at R1
  subst R1
  refine ⟨⟨a, rfl⟩, w1, env, st1, _, W1, E.mono l1, h1, fun y st2 u w2 H2 h2 l2 W2 R2 => ?_⟩
  unfold joinK at h2
  split at h2
  · rename_i a' xs ea hd
    cases ea
    split at h2
    · rename_i ys hy
      obtain ⟨p, us, rfl, q1, r1, n⟩ := rep_lst W2 R2 hd
      rw [strsD_eq hy] at r1
      rw [Reps.strs r1] at q1
      exact ⟨a, p, ys, rfl, rfl, .inl q1, h2.1, fo _ _ _ _ _ h2.2 (l1.trans l2) W2 rep_str⟩
    · exact h2.elim
  · exact h2.elim
theorem e_join {env : DL.Env} {st : Sto} {k : DK} : dJoin td te env st k = td env st fun d s1 => (∃ a, d = .str a) ∧ te env s1 fun e s2 => joinK d e s2 k := rfl
theorem e_joinL {a : Str} {zs : List Str} {st : Sto} {k : DK} : joinK (.str a) (.lst (zs.map D.str)) st k = ((zs.map (·.length)).sum + zs.length * a.length ≤ 16777216 ∧ k (.str (Txt.join a zs)) st) := by simp only [joinK, deref, strsD_map]
theorem e_cutS {a : Str} {lo hi : Option Int} {st : Sto} {k : DK} : cutOp (.str a) lo hi st k = (a.length ≤ 16777216 ∧ k (.str (L2.cutS a lo hi)) st) := rfl
theorem e_mulS {a : Str} {b : Int} {st : Sto} {k : DK} : mulD (.str a) (.int b) st k = (0 ≤ b ∧ b ≤ 1 ∧ k (.str (if b < 1 then Str.empty else a)) st) := rfl
theorem e_ixS {z : Str} {i : Int} {st : Sto} {k : DK} : ixD (.str z) (.int i) st k = (z.length ≤ 16777216 ∧ ∃ c, atI z.cps.toList i = some c ∧ k (.str ⟨#[c]⟩) st) := rfl
/-! texts compared, a sign in a text: readings that take either -/
end
end DL

/-! DLM: list.remove, sorted pairs, d.values() sorted and summed, dict(pairs), lists put together again and again, o[i] += e. -/
namespace DL
open PySem PySem.Spec PyProof.Rows L2
section
variable {X : Cx} {tg e e2 o i : Expr} {es : List Expr} {pos p : Pos} {ta tb to ti td : DE}
/-! ### xs.remove(y) -/
def findD (y : D) (xs : List D) : Option Nat := xs.findIdx? fun z => eqD z y
def mRemove : FM := fun d ds st k => match d, ds with
  | .obj i, [y] => match st[i]? with
    | some xs => okDs 59 xs = true ∧ okD 60 (deref st y) = true ∧ ∃ j, findD (deref st y) xs = some j ∧ k .non (st.set i (xs.eraseIdx j))
    | none => False
  | _, _ => False
theorem find_toP {n m : Nat} {y : D} (h : okD m y = true) : ∀ (xs : List D), okDs n xs = true → SeqAt.dataPlace (toPs xs) (toP y) = findD y xs := by
  unfold SeqAt.dataPlace findD
  intro xs
  induction xs with
  | nil => intro _; rfl
  | cons x r ih =>
    intro g
    simp only [okDs, Bool.and_eq_true] at g
    simp only [toPs, List.findIdx?_cons]
    rw [eqv_toP n m x y g.1 h, ih g.2]
theorem Reps.eraseIdx {K : PySem.W.Frag} {w : Wd} : ∀ {ds : List D} {vs : List V} (j : Nat), Reps K w ds vs → Reps K w (ds.eraseIdx j) (vs.eraseIdx j)
  | [], _, _, h => by rw [h.inv0]; exact .nil
  | _ :: _, _, 0, h => by
    obtain ⟨v, r, rfl, _, h2⟩ := h.inv
    exact h2
  | _ :: _, _, j + 1, h => by
    obtain ⟨v, r, rfl, h1, h2⟩ := h.inv
    exact .cons h1 (h2.eraseIdx j)
theorem md_remove (hu : X.A.units + 64 < cLine) : MtR X "list.remove" (rDM X.K mRemove) := by
  rintro pins s σ H x xs v us Q I rx rs ⟨w, st, d, ds, kk, W, R1, R2, q, fo⟩
  unfold mRemove at q
  split at q
  · rename_i j y
    split at q
    · rename_i ys hj
      obtain ⟨k1, k2, m, hm, q⟩ := q
      obtain ⟨a, vs, rfl, ha, hH, r, n⟩ := obj_rep W R1 hj
      obtain ⟨yv, rfl, ry⟩ := one_rep R2
      cases rx
      obtain ⟨u, rfl, ru⟩ := rs.one
      have ok2 : okD 60 (deref st (.obj j)) = true := by
        have : deref st (.obj j) = .lst ys := by simp [deref, hj]
        rw [this]
        exact k1
      have hp := dp_deref W R1 ok2
      have hd : deref st (.obj j) = .lst ys := by simp [deref, hj]
      rw [hd] at hp
      obtain ⟨bs, r2⟩ := Dp.reads I _ _ _ hp (show RelV (.ref a) (.ref a) from rfl)
      obtain ⟨as, r1⟩ := Dp.reads I _ yv u (dp_deref W ry k2) ru
      obtain ⟨z, its, nn, rv, hl, e⟩ := I.lstM hH
      cases r2 with
      | list h1 h2 h3 h4 =>
        rw [e] at h1
        cases h1
        cases h3
        have hsh := shape_toPs 59 ys k1
        refine SeqAt.remove_list_data (j := m) ⟨_, e, rfl, _, rfl⟩ h4 r1 (PyData.plainAll_of_canLay0 _ hsh.1) (PyData.plain_of_canLay0 _ (shape_toP 60 _ k2).1) (in_room k2 (Nat.le_refl _) hu _) (by rw [find_toP k2 ys k1]; exact hm) (by rw [List.size_toArray, ← hl]; exact n) ?_
        refine ⟨.non, _, I.lset (its' := its.eraseIdx m) (t' := s.toks) hH e ?_ (rv.eraseIdx m) ?_, rfl, ?_⟩
        · show its.toArray.eraseIdxIfInBounds m = (its.eraseIdx m).toArray
          rw [List.eraseIdxIfInBounds_toArray]
        · exact Nat.le_trans (List.length_eraseIdx_le ..) n
        · exact fo _ _ _ _ _ q (.refl _) (W.wr ha.1 ha.2 (r.eraseIdx m) (Nat.le_trans (List.length_eraseIdx_le ..) n)) rep_non
    · exact q.elim
  · exact q.elim
theorem e_remO {st : Sto} {i : Nat} {xs : List D} {y : D} {k : DK} (h : st[i]? = some xs) : mRemove (.obj i) [y] st k = (okDs 59 xs = true ∧ okD 60 (deref st y) = true ∧ ∃ j, findD (deref st y) xs = some j ∧ k .non (st.set i (xs.eraseIdx j))) := by simp [mRemove, h]
/-! ### sorted(xs), pairs of numbers: the same ones in some order -/
def isPairB : D → Bool
  | .tup [.int _, .int _] => true
  | _ => false
def bSortedP : FB := fun ds st k => match ds with
  | [d] => match deref st d with
    | .lst xs => xs.all isPairB = true ∧ ∀ ys : List D, ys.Perm xs → k (.lst ys) st
    | _ => False
  | _ => False
theorem reps_perm {K : PySem.W.Frag} {w : Wd} {us vs : List V} (p : us.Perm vs) : ∀ {ds : List D}, Reps K w ds vs → ∃ es, es.Perm ds ∧ Reps K w es us := by
  induction p with
  | nil => intro ds h; exact ⟨ds, .refl _, h⟩
  | cons x p ih =>
    intro ds h
    cases ds with
    | nil => rw [Reps] at h; cases h
    | cons d ds =>
      obtain ⟨v, r, e, h1, h2⟩ := h.inv
      cases e
      obtain ⟨es, p1, r1⟩ := ih h2
      exact ⟨d :: es, p1.cons d, .cons h1 r1⟩
  | swap x y l =>
    intro ds h
    match ds, h with
    | [], h => rw [Reps] at h; cases h
    | [d], h =>
      obtain ⟨v, r, e, h1, h2⟩ := h.inv
      cases e
      have := h2.inv0
      cases this
    | d :: d2 :: ds, h =>
      obtain ⟨v, r, e, h1, h2⟩ := h.inv
      cases e
      obtain ⟨v2, r2, e2, h3, h4⟩ := h2.inv
      cases e2
      exact ⟨d2 :: d :: ds, .swap _ _ _, .cons h3 (.cons h1 h4)⟩
  | trans p q ih1 ih2 =>
    intro ds h
    obtain ⟨es, p1, r1⟩ := ih2 h
    obtain ⟨fs, p2, r2⟩ := ih1 r1
    exact ⟨fs, p2.trans p1, r2⟩
theorem pairs_mem {K : PySem.W.Frag} {w : Wd} {H : Hp} (s : Same w.G H) : ∀ {ds : List D} {vs : List V}, Reps K w ds vs → ds.all isPairB = true → ∀ x ∈ vs, ∃ t i j, x = V.ref t ∧ H t = some (.tup [.int i, .int j])
  | [], vs, h, _ => by
    rw [h.inv0]
    intro x hx
    cases hx
  | d :: ds, vs, h, g => by
    obtain ⟨v, r, rfl, h1, h2⟩ := h.inv
    simp only [List.all_cons, Bool.and_eq_true] at g
    intro x hx
    rcases List.mem_cons.mp hx with rfl | hx
    · have g1 := g.1
      unfold isPairB at g1
      split at g1
      · rename_i i j
        simp only [Rep] at h1
        obtain ⟨a, us, rfl, q, r1⟩ := h1
        obtain ⟨v1, r2, rfl, e1, r3⟩ := r1.inv
        obtain ⟨v2, r4, rfl, e2, r5⟩ := r3.inv
        rw [r5.inv0] at q
        simp only [Rep] at e1 e2
        subst e1 e2
        exact ⟨a, i, j, rfl, s _ _ q⟩
      · cases g1
    · exact pairs_mem s h2 g.2 x hx
theorem cb_sortedP : CallR X (.builtin "sorted") (rDB X.K bSortedP) := by
  refine CallR.by_ fun vs H Q w st ds kk W R q fo => ?_
  unfold bSortedP at q
  split at q
  · obtain ⟨v, rfl, R1⟩ := one_rep R
    split at q
    · rename_i xs hd
      obtain ⟨a, us, rfl, q1, r1, n⟩ := rep_lst W R1 hd
      refine ⟨_, cr_sortedP, a, us, rfl, q1, pairs_mem W.same r1 q.1, fun ys p hp hn => ?_⟩
      obtain ⟨es, p1, r2⟩ := reps_perm hp r1
      exact fol_lst W r2 (by rw [hp.length_eq]; exact n) (q.2 es p1) fo p hn
    · exact q.elim
  · exact q.elim
theorem e_sortedPO {st : Sto} {i : Nat} {xs : List D} {k : DK} (h : st[i]? = some xs) : bSortedP [.obj i] st k = (xs.all isPairB = true ∧ ∀ ys : List D, ys.Perm xs → k (.lst ys) st) := by simp [bSortedP, deref, h]
theorem e_sortedPL {st : Sto} {xs : List D} {k : DK} : bSortedP [.lst xs] st k = (xs.all isPairB = true ∧ ∀ ys : List D, ys.Perm xs → k (.lst ys) st) := rfl
/-! ### [..] * n, a list of the store -/
def mulNewD : F2 := fun d e st k => match d, e with
  | d, .int b => match derefM st d with
    | some a => -(2 ^ 63) ≤ b ∧ b < 2 ^ 63 ∧ a.length * b.toNat ≤ 16777216 ∧ k (.obj st.length) (st ++ [(List.replicate b.toNat a).flatten])
    | none => False
  | _, _ => False
theorem dop_mulNew : OpR X (binaryOp .Mult) (rD X.K mulNewD) := by
  refine OpR.by_ fun x y H Q w st d e kk W R1 R2 q fo => ?_
  unfold mulNewD at q
  split at q
  · split at q
    · rename_i a ha
      simp only [Rep] at R2
      obtain ⟨p, vs, rfl, q1, r1, _⟩ := rep_lstM W R1 ha
      obtain ⟨h1, h2, h3, q⟩ := q
      have n' := line16 h3
      rw [← r1.length] at n'
      refine ⟨rRep, op_rep, p, _, vs, rfl, R2, q1, h1, h2, n', fol_new W (r1.rep _) ?_ q fo⟩
      rw [PyProof.Rows.lm_len_rep_flat, Nat.mul_comm]
      exact n'
    · exact q.elim
  · exact q.elim
theorem e_mulNewL {st : Sto} {a : List D} {b : Int} {k : DK} : mulNewD (.lst a) (.int b) st k = (-(2 ^ 63) ≤ b ∧ b < 2 ^ 63 ∧ a.length * b.toNat ≤ 16777216 ∧ k (.obj st.length) (st ++ [(List.replicate b.toNat a).flatten])) := rfl
/-! ### dict(pairs) -/
def mergeR (t : Bool) (rows : List D) (ps : List (D × D)) : List D := ps.foldl (fun r p => putR t r p.1 p.2) rows
def pairsOf : List D → Option (List (D × D))
  | [] => some []
  | .tup [k, v] :: r => match keyD k, pairsOf r with
    | some _, some ps => some ((k, v) :: ps)
    | _, _ => none
  | _ => none
def bDictNew : FB := fun ds st k => match ds with
  | [d] => match deref st d with
    | .lst xs => match pairsOf xs with
      | some ps => k (.dic false st.length) (st ++ [mergeR false [] ps])
      | none => False
    | _ => False
  | _ => False
theorem pairsOf_rep {K : PySem.W.Frag} {w : Wd} {H : Hp} (s : Same w.G H) : ∀ {xs : List D} {vs : List V} {ps : List (D × D)}, Reps K w xs vs → pairsOf xs = some ps →
    ∃ (as : List Addr) (kvs : List (Key × V)), vs = as.map V.ref ∧ Paired (fun p kv => SqT K H p [kV kv.1, kv.2]) as kvs ∧ ∀ (rows : List D) (k0 : List (Key × V)), RowsK K w rows k0 → RowsK K w (mergeR false rows ps) (mergeK k0 kvs)
  | [], vs, ps, h, e => by
    cases e
    rw [h.inv0]
    exact ⟨[], [], rfl, .nil, fun _ _ r => r⟩
  | x :: xs, vs, ps, h, e => by
    obtain ⟨v, r, rfl, h1, h2⟩ := h.inv
    match x, e, h1 with
    | .tup [k, d], e, h1 =>
      unfold pairsOf at e
      cases hk : keyD k with
      | none => rw [hk] at e; cases e
      | some y =>
        cases hp : pairsOf xs with
        | none => rw [hk, hp] at e; cases e
        | some qs =>
          rw [hk, hp] at e
          cases e
          obtain ⟨as, kvs, rfl, pr, m⟩ := pairsOf_rep s h2 hp
          simp only [Rep] at h1
          obtain ⟨a, us, rfl, q, r1⟩ := h1
          obtain ⟨v1, r2, rfl, e1, r3⟩ := r1.inv
          obtain ⟨v2, r4, rfl, e2, r5⟩ := r3.inv
          rw [r5.inv0] at q
          rw [key_rep e1 hk] at q
          refine ⟨a :: as, (y, v2) :: kvs, rfl, .cons (.inl (.inl (s _ _ q))) pr, fun rows k0 rr => ?_⟩
          exact m _ _ (rowsK_put hk e2 rr)
theorem cb_dictP (hc : X.calm = true) : CallR X (.type "dict") (rDB X.K bDictNew) := by
  refine CallR.by_ fun vs H Q w st ds kk W R q fo => ?_
  unfold bDictNew at q
  split at q
  · obtain ⟨v, rfl, R1⟩ := one_rep R
    split at q
    · rename_i xs hd
      split at q
      · rename_i ps hp
        obtain ⟨a, us, rfl, q1, r1, n⟩ := rep_lst W R1 hd
        obtain ⟨as, kvs, rfl, pr, m⟩ := pairsOf_rep W.same r1 hp
        refine ⟨_, call_dictP hc, a, as, kvs, rfl, q1, pr, fun p hn => ?_⟩
        have rr := m [] [] (by simp only [RowsK])
        have hl : kvs.length ≤ sizeLine := by
          have := Paired.length pr
          rw [List.length_map] at n
          omega
        refine fo _ _ _ _ _ q (Le.addK (W.nas hn)) (W.addK hn (k := some (.b false)) ⟨_, rfl, ?_, rr⟩) ?_
        · have := length_mergeK kvs ([] : List (Key × V))
          rw [List.length_nil] at this
          omega
        · simp only [Rep]
          refine ⟨p, rfl, ?_, if_pos rfl, trivial⟩
          show (w.as ++ [p])[st.length]? = some p
          rw [← W.len, List.getElem?_concat_length]
      · exact q.elim
    · exact q.elim
  · exact q.elim
theorem e_dictL {st : Sto} {xs : List D} {ps : List (D × D)} {k : DK} (h : pairsOf xs = some ps) : bDictNew [.lst xs] st k = k (.dic false st.length) (st ++ [mergeR false [] ps]) := by simp [bDictNew, deref, h]
/-! ### o[i] op= e -/
end

/-! ### d.values() -/
/-- the values of a dict are these numbers -/
def DVals (H : Hp) (a : Addr) (ns : List Int) : Prop := (∃ kvs, Rd H a (.dK kvs) ∧ kvs.map (·.2) = ns.map V.int) ∨ ∃ kvs, Rd H a (.dT kvs) ∧ kvs.map (·.2) = ns.map V.int
section
variable {X : Cx} {o : Expr} {p pos apos mpos : Pos} {td : TE}
theorem paired_at {α β : Type} {F : α → β → Prop} : ∀ {l₁ : List α} {l₂ : List β} {i : Nat} {b : β}, Paired F l₁ l₂ → l₂[i]? = some b → ∃ a, l₁[i]? = some a ∧ F a b
  | _, _, i, b, .nil, e => by simp at e
  | _, _, 0, b, .cons h t, e => by
    cases e
    exact ⟨_, rfl, h⟩
  | _, _, i + 1, b, .cons h t, e => by
    obtain ⟨a, h1, h2⟩ := paired_at t (i := i) (b := b) (by simpa using e)
    exact ⟨a, by simpa using h1, h2⟩
theorem raw_vals {pins : List (Addr × Obj)} {σ : L2.St} {H : Hp} {s : Shared} {a : Addr} {ns : List Int} (I : Inv X pins σ H s) (h : DVals H a ns) : ns.length ≤ sizeLine ∧ (a == sysModules) = false ∧ ∃ es ep, s.heap.DictRaw a es ep ∧ es.size = ns.length ∧ ∀ (i : Nat) (hi : i < es.size), ∃ (n : Int) (t : Tok), ns[i]? = some n ∧ es[i].val = .int n t := by
  rcases h with ⟨kvs, hd, hv⟩ | ⟨kvs, hd, hv⟩
  · obtain ⟨z, lo, vs, rel, dd⟩ := dk_rd I.hok hd
    obtain ⟨es, ep, hr, hs, he⟩ := dd.raw
    have hl : kvs.length = ns.length := by
      have := congrArg List.length hv
      simpa using this
    have hl2 : kvs.length = vs.length := Paired.length rel
    refine ⟨by omega, lo, es, ep, hr, by omega, fun i hi => ?_⟩
    have hi2 : i < vs.length := by omega
    obtain ⟨_, ev⟩ := he i hi vs[i].1 vs[i].2 (by rw [List.getElem?_eq_getElem hi2])
    obtain ⟨x, h1, h2⟩ := KV.at' rel (i := i) (k := vs[i].1) (v := vs[i].2) (by rw [List.getElem?_eq_getElem hi2])
    have e1 : (kvs.map (·.2))[i]? = some x := by rw [List.getElem?_map, h1] <;> rfl
    rw [hv, List.getElem?_map] at e1
    obtain ⟨j, hj, e2⟩ := Option.map_eq_some_iff.mp e1
    subst e2
    obtain ⟨t, e3⟩ := h2
    exact ⟨j, t, hj, by rw [ev, e3]⟩
  · obtain ⟨z, lo, vs, rel, dd⟩ := dt_rd I.hok hd
    obtain ⟨es, ep, hr, hs, he⟩ := dd.raw
    have hl : kvs.length = ns.length := by
      have := congrArg List.length hv
      simpa using this
    have hl2 : kvs.length = vs.length := Paired.length rel
    refine ⟨by omega, lo, es, ep, hr, by omega, fun i hi => ?_⟩
    obtain ⟨y, hy, _, ev, _⟩ := he i hi
    obtain ⟨x, h1, h2⟩ := paired_at rel hy
    have e1 : (kvs.map (·.2))[i]? = some x.2 := by rw [List.getElem?_map, h1] <;> rfl
    rw [hv, List.getElem?_map] at e1
    obtain ⟨j, hj, e2⟩ := Option.map_eq_some_iff.mp e1
    have h22 := h2.2.2
    rw [← e2] at h22
    obtain ⟨t, e3⟩ := h22
    exact ⟨j, t, hj, by rw [ev, e3]⟩
/-- the view -/
theorem vals_view {σ : L2.St} {H : Hp} {pins : List (Addr × Obj)} {s : Shared} {R : VK} {Q : Value → Shared → Prop} (hd : PE X o td) (hbase : attributeBase o "values" X.env (eval o X.env) = eval o X.env) (hline : (apos.endLine == mpos.line) = true)
    (I : Inv X pins σ H s) (h : td σ H R) (hR : ∀ x H1, R x H1 → ∃ a ns, x = V.ref a ∧ DVals H1 a ns ∧ ∀ (s' : Shared) (v : Addr) (es : Array DictEntry) (ep : Nat), Inv X pins σ H1 s' → s'.heap.IsValuesView v a → s'.heap.DictRaw a es ep → es.size = ns.length → ns.length ≤ sizeLine →
      (∀ (i : Nat) (hi : i < es.size), ∃ (n : Int) (t : Tok), ns[i]? = some n ∧ es[i].val = .int n t) → Q (.ref v) s') :
    wpAny (model X.prog X.w) X.A (eval (.Call (.Attribute o "values" apos) [] [] mpos) X.env) Q X.xe s := by
  refine wpAny_Call_method0_late hbase hline (thn (hd.run pins s σ H _ I h) fun v s1 ⟨x, H1, I1, r1, hx⟩ => ?_)
  obtain ⟨a, ns, ex, ha, q⟩ := hR _ _ hx
  subst ex
  obtain rfl : v = Value.ref a := r1
  obtain ⟨hz, hsys, es, ep, hr, hs, hv⟩ := raw_vals I1 ha
  obtain ⟨ob, ho, hx, hdat⟩ := id hr
  refine ⟨"dict", "dict.values", PySem.F.plainAttrs_dict, PySem.F.slot_dict_values, PySem.F.type_dict_values, ⟨ob, ho, hx.1⟩, fun b e => ?_, Calls.callWith_builtin rfl (PySem.evalArgs_none ?_)⟩
  · cases e
    exact ⟨ob, ho, hx.2.1⟩
  refine call_meetsIn PySem.F.slot_dict_values ⟨ob, ho, hx.1⟩ PySem.F.entry_dict_values (PySem.F.args_dict_values_1 _) (meets_dict_values_raw a hsys) ⟨⟨es, ep, hr⟩, ?_⟩
  exact q _ s1.heap.objs.size es ep (I1.kept (t' := s1.toks) fun b u e => Heap.get?_push_of_some _ e) ⟨_, Heap.get?_push_size _ rfl, rfl, rfl⟩ (hr.at fun o e => Heap.get?_push_of_some _ e) hs hz hv
/-- sorted(o.values()), numbers, fewer than 64 -/
def tSortV (td : TE) : TE := fun σ H Q => td σ H fun x H1 => ∃ a ns, x = V.ref a ∧ DVals H1 a ns ∧ ns.length < 64 ∧ ∀ (ys : List Int) (p : Addr), ys.Perm ns → ys.Pairwise (· ≤ ·) → H1 p = none → Q (.ref p) (upd H1 p (.lst (ys.map V.int)))
theorem pe_sortV (hc : X.calm = true) (hg : Gl X "sorted") (hm : X.mg "sorted" = none) (hd : PE X o td) (hbase : attributeBase o "values" X.env (eval o X.env) = eval o X.env := by rfl) (hline : (apos.endLine == mpos.line) = true := by rfl)
    (hse : starEach [Expr.Call (.Attribute o "values" apos) [] [] mpos] X.env = [(false, eval (Expr.Call (.Attribute o "values" apos) [] [] mpos) X.env)] := by rfl) :
    PE X (.Call (.Name "sorted" p) [.Call (.Attribute o "values" apos) [] [] mpos] [] pos) (tSortV td) := by
  refine ⟨fun pins s σ H Q I h => ?_⟩
  refine wpAny_Call_Name_kw (ld_blt I hg hm (u := .builtin "sorted") (by first | rfl | decide +kernel) ?_ (by first | decide +kernel | decide) (by first | decide +kernel | decide))
  rw [hse]
  refine PySem.callWith_builtin1 (vals_view hd hbase hline I h fun x H1 ⟨a, ns, ex, ha, h64, q⟩ => ⟨a, ns, ex, ha, fun s' v es ep I1 iv dr hs hz hv => ?_⟩)
  refine Calls.call_function_entry PyProof.Rows.kind_sorted PyProof.Rows.plain_sorted PyProof.Rows.entry_sorted (PyProof.Rows.args_sorted1 _) ?_
  unfold Builtin.«sorted»
  refine wpAny_bind (m := checkCount "sorted" 1 1 _) (wpAny_pure ?_)
  refine wpAny_bind (PySem.W.kdu_collect (A := X.A.in1) (KdlSrc.rawValues (es := es) (ep := ep)) (I1.ok.hd hc) ⟨iv, dr⟩ (by rw [hs]; exact hz) fun h' tk acc hk hacc => ?_)
  have hal : acc.toList.length = ns.length := by rw [Array.length_toList, hacc.1, hs]
  have hS : IntsAre acc.toList ns := ints_each hal fun j v e => by
    obtain ⟨hi, ev⟩ := hacc.2 j v (by rw [← Array.getElem?_toList]; exact e)
    obtain ⟨n, t, e1, e2⟩ := hv j hi
    exact ⟨n, t, e1, by rw [ev, e2]⟩
  have I2 : Inv X pins σ H1 { s' with heap := h', toks := tk } := I1.kept hk
  refine wpAny_bind (wpAny_newList ?_ (by rw [hal, sizeLine_eq]; omega))
  have hoL : (h'.push (seqObj "list" acc.toList.toArray 0)).get? h'.objs.size = some (seqObj "list" acc.toList.toArray 0) := Heap.get?_push_size _ rfl
  show wpAny _ _ _ _ _ { s' with heap := h'.push (seqObj "list" acc.toList.toArray 0), toks := tk }
  refine wpAny_bind (wpAny_holding (wpAny_call_entry PyProof.Rows.slot_list_sort ⟨_, hoL, rfl⟩ PyProof.Rows.entry_list_sort
    (PyProof.Rows.list_sort_tree (s := { s' with heap := h'.push (seqObj "list" acc.toList.toArray 0), toks := tk }) hoL hS (by rw [hal]; exact h64) fun out ys g1 g2 g3 => ⟨_, rfl, ?_⟩) (PyProof.Rows.args_list_sort _)))
  obtain ⟨e', he'⟩ := PyProof.Rows.sortedHeap_at (vs := acc.toList) (out := out) hoL
  have hlen : (ys.map V.int).length ≤ sizeLine := by
    rw [List.length_map, g2.length_eq]
    exact Nat.le_trans (Nat.le_of_lt h64) (by decide)
  refine wpAny_pure ⟨_, rfl, .ref h'.objs.size, upd H1 h'.objs.size (.lst (ys.map V.int)), I2.laid (t' := tk) (fun b u e => ?_) (Nat.le_refl _)
    (show ObjOk X.prog X.w _ _ _ (.lst (ys.map V.int)) from ⟨hlen, out.toList, e', vals_of_ints g1, by rw [Array.toArray_toList]; exact he'⟩), rfl, q ys _ g2 g3 (I2.hok.fresh (Nat.le_refl _))⟩
  have hb : b < h'.objs.size := Heap.lt_size e
  rw [PyProof.Rows.sortedHeap_old (Nat.ne_of_lt hb) (by rw [size_push']; exact Nat.lt_succ_of_lt hb)]
  exact Heap.get?_push_of_some _ e
end
/-! readings -/
def dSortV (td : DE) : DE := fun env st k => td env st fun d s1 => match dicOf s1 d with
  | some (_, rows) => match intsD (valsR rows) with
    | some ns => ns.length < 64 ∧ k (.lst ((sortZ ns).map D.int)) s1
    | none => False
  | none => False
section
variable {K : PySem.W.Frag} {w : Wd} {st : Sto} {H : Hp} {X : Cx} {o : Expr} {p pos apos mpos : Pos} {td : DE}
theorem rowsK_vals : ∀ {rows : List D} {kvs : List (Key × V)} {ns : List Int}, RowsK K w rows kvs → intsD (valsR rows) = some ns → kvs.map (·.2) = ns.map V.int
  | [], kvs, ns, h, e => by
    simp only [RowsK] at h
    subst h
    cases e
    rfl
  | x :: r, kvs, ns, h, e => by
    match x, h, e with
    | .tup [k', d'], h, e =>
      simp only [RowsK] at h
      obtain ⟨y, u, s, rfl, h1, h2, h3⟩ := h
      match d', e, h2 with
      | .int i, e, h2 =>
        have e' : (intsD (valsR r)).map (i :: ·) = some ns := e
        cases e2 : intsD (valsR r) with
        | none => rw [e2] at e'; cases e'
        | some ms =>
          rw [e2] at e'
          cases e'
          simp only [Rep] at h2
          subst h2
          rw [List.map_cons, List.map_cons, rowsK_vals h3 e2]
theorem rowsT_vals : ∀ {rows : List D} {kvs : List (List Key × V)} {ns : List Int}, RowsT K w rows kvs → intsD (valsR rows) = some ns → kvs.map (·.2) = ns.map V.int
  | [], kvs, ns, h, e => by
    simp only [RowsT] at h
    subst h
    cases e
    rfl
  | x :: r, kvs, ns, h, e => by
    match x, h, e with
    | .tup [k', d'], h, e =>
      simp only [RowsT] at h
      obtain ⟨y, u, s, rfl, h1, h2, h3⟩ := h
      match d', e, h2 with
      | .int i, e, h2 =>
        have e' : (intsD (valsR r)).map (i :: ·) = some ns := e
        cases e2 : intsD (valsR r) with
        | none => rw [e2] at e'; cases e'
        | some ms =>
          rw [e2] at e'
          cases e'
          simp only [Rep] at h2
          subst h2
          rw [List.map_cons, List.map_cons, rowsT_vals h3 e2]
theorem dvals_of {d : D} {v : V} {t : Bool} {rows : List D} {ns : List Int} (W : Wld K w st H) (R : Rep K w d v) (e : dicOf st d = some (t, rows)) (hn : intsD (valsR rows) = some ns) : ∃ a, v = .ref a ∧ DVals H a ns := by
  obtain ⟨a, o, L, rfl, h, r⟩ := dic_obj W R e
  cases t with
  | false =>
    rcases r with ⟨_, kvs, rfl, _, r⟩ | ⟨_, rows', ob, kvs, _, rfl, rfl, _, r⟩
    · exact ⟨a, rfl, .inl ⟨kvs, .inl h, rowsK_vals r hn⟩⟩
    · rw [valsR_lock] at hn
      exact ⟨a, rfl, .inl ⟨kvs, .inr ⟨ob, h⟩, rowsK_vals r hn⟩⟩
  | true =>
    obtain ⟨kvs, rfl, _, r⟩ := r.dT
    exact ⟨a, rfl, .inr ⟨kvs, .inl h, rowsT_vals r hn⟩⟩
theorem pd_sortV (hc : X.calm = true) (hm : X.mg "sorted" = none) (hd : PD X o td) (hg : Gl X "sorted" := by rfl) (hbase : attributeBase o "values" X.env (eval o X.env) = eval o X.env := by rfl) (hline : (apos.endLine == mpos.line) = true := by rfl)
    (hse : starEach [Expr.Call (.Attribute o "values" apos) [] [] mpos] X.env = [(false, eval (Expr.Call (.Attribute o "values" apos) [] [] mpos) X.env)] := by rfl) :
    PD X (.Call (.Name "sorted" p) [.Call (.Attribute o "values" apos) [] [] mpos] [] pos) (dSortV td) := by
  refine (pe_sortV hc hg hm hd hbase hline hse).wk fun σ H Q ⟨w, env, st, kk, W, E, h, fo⟩ => ?_
  refine ⟨w, env, st, _, W, E, h, fun d st1 v w1 H1 h1 l1 W1 R1 => ?_⟩
  split at h1
  · rename_i t rows hd
    split at h1
    · rename_i ns hn
      obtain ⟨a, rfl, dv⟩ := dvals_of W1 R1 hd hn
      refine ⟨a, ns, rfl, dv, h1.1, fun ys p g1 g2 hp => ?_⟩
      rw [sortZ_of g1 g2]
      refine fol_lst W1 (Reps.of_ints _) ?_ h1.2 (fo.le l1) p hp
      rw [List.length_map, sortZ_length, sizeLine_eq]
      have := h1.1
      omega
    · exact h1.elim
  · exact h1.elim
/-- what is said of a dict of the store -/
def sortVK (k : DK) (d : D) (s1 : Sto) : Prop := match dicOf s1 d with
  | some (_, rows) => match intsD (valsR rows) with
    | some ns => ns.length < 64 ∧ k (.lst ((sortZ ns).map D.int)) s1
    | none => False
  | none => False
theorem e_sortV {env : Env} {k : DK} : dSortV td env st k = td env st (sortVK k) := rfl
theorem e_sortVK {k : DK} {t : Bool} {j : Nat} {rows : List D} {ns : List Int} (h : st[j]? = some rows) (hn : intsD (valsR rows) = some ns) : sortVK k (.dic t j) st = (ns.length < 64 ∧ k (.lst ((sortZ ns).map D.int)) st) := by simp [sortVK, dicOf, h, hn]
end
end DL

/-! DLN: tuple.index of a text. -/
namespace DL
open PySem PySem.Spec PyProof.Rows L2
section
variable {X : Cx} {e : Expr} {x : Str} {p apos cpos : Pos} {te : DE} {ds : List D}
def strsOf : List D → Option (List Str)
  | [] => some []
  | .str z :: r => (strsOf r).map (z :: ·)
  | _ => none
theorem strsOf_eq : ∀ {ds : List D} {ys : List Str}, strsOf ds = some ys → ds = ys.map D.str
  | [], ys, h => by cases h; rfl
  | d :: r, ys, h => by
    match d, h with
    | .str z, h =>
      have h' : (strsOf r).map (z :: ·) = some ys := h
      cases e : strsOf r with
      | none => rw [e] at h'; cases h'
      | some zs =>
        rw [e] at h'
        cases h'
        rw [strsOf_eq e]
        rfl
/-- X.index(e), X a tuple of texts of the module's head -/
def tidxK (ds : List D) (k : DK) : DK := fun d s1 => match d, strsOf ds with
  | .str z, some ys => ∃ j, ys[j]? = some z ∧ (∀ m, m < j → ys[m]? ≠ some z) ∧ k (.int (j : Nat)) s1
  | _, _ => False
def dTIdx (ds : List D) (te : DE) : DE := fun env st k => te env st (tidxK ds k)
theorem pd_tidx (h : GTup X.K X.mg x ds) (he : PD X e te) (hg : Gl X x := by rfl) (hd : (x == ("__debug__" : Str)) = false := by decide)
    (hbase : attributeBase (.Name x p) "index" X.env (eval (.Name x p) X.env) = eval (.Name x p) X.env := by rfl)
    (hfew : ((backTo cpos (starEach [e] X.env)).all (fun x => !x.1) && (backToKw cpos (keywordEach [] X.env)).all (fun x => x.1.isSome)
      && decide (([e] : List Expr).length + ([] : List Keyword).length + (if ([] : List Keyword).isEmpty then 0 else 1) < 30)) = true := by rfl)
    (hline : (apos.endLine == cpos.line) = true := by rfl) (hs : starEach [e] X.env = (false, eval e X.env) :: starEach [] X.env := by rfl) (hpl : (backTo cpos (starEach [] X.env)).any (·.1) = false := by rfl) :
    PD X (.Call (.Attribute (.Name x p) "index" apos) [e] [] cpos) (dTIdx ds te) := by
  obtain ⟨a, vs, hm, hq, hr, o, hk, hc, hdn⟩ := h
  have ho : PE X (.Name x p) (tC (.ref a)) := pe_glob (v := .ref a) hg hm rfl hd
  refine (pe_bm PySem.F.plainAttrs_tuple PySem.F.slot_tuple_index PySem.F.type_tuple_index mt_tup_index ho (pa_cons he pa_nil hs) hbase hfew hline hs hpl).wk fun σ H Q ⟨w, env, st, kk, W, E, h, fo⟩ => ?_
  refine ⟨.inr (.inl ⟨rfl, o, hk, hc, hdn⟩), w, env, st, _, W, E, h, fun d st1 v w1 H1 h1 l1 W1 R1 => ?_⟩
  unfold tidxK at h1
  split at h1
  · rename_i z ys hy
    obtain ⟨j, hj, hno, h1⟩ := h1
    simp only [Rep] at R1
    subst R1
    have rr := hr w1
    rw [strsOf_eq hy] at rr
    have ev := rr.strs
    refine ⟨a, ys, z, j, rfl, rfl, ?_, hj, hno, fo _ _ _ _ _ h1 l1 W1 rep_int⟩
    rw [← ev]
    exact hq _
  · exact h1.elim
theorem e_tidx {env : Env} {st : Sto} {k : DK} : dTIdx ds te env st k = te env st (tidxK ds k) := rfl
theorem e_tidxK {st : Sto} {k : DK} {z : Str} {ys : List Str} (h : strsOf ds = some ys) : tidxK ds k (.str z) st = ∃ j, ys[j]? = some z ∧ (∀ m, m < j → ys[m]? ≠ some z) ∧ k (.int (j : Nat)) st := by simp [tidxK, h]
end
end DL

/-! DLP: sorted({e for x in xs for y in ys if ..}), the members texts. -/
namespace DL
open PySem PySem.Spec PyProof.Rows L2
open PySem.Froz (SD TxOk sObj addTx tailTx is_str)
/-! ### a set of texts -/
structure TPay (P : Program) (w : World) (D : SD) (ks : List Str) : Prop where
  tx : TxOk P w D ks
  ris : Ris D.2.2.place.toList
  led : w.params.followText "set-order" = true ∨ D.2.2.led = true
  nd : ks.Nodup
section
variable {P : Program} {w : World} {A : Around} {E : Value → Shared → Prop} {s : Shared} {a : Addr} {ks : List Str} {k : Str} {u : Tok}
theorem tail_keeps {ep : Nat} {es1 : Array (Int × Value)} {t2 : SetTable} {wd b : Bool} (r : Ris t2.place.toList) (l : b = true ∨ t2.led = true) : Ris (tailTx ep es1 t2 wd).2.2.place.toList ∧ (b = true ∨ (tailTx ep es1 t2 wd).2.2.led = true) := by
  unfold tailTx
  split
  · refine ⟨relayAll_ris _ _ _, l.imp id fun z => ?_⟩
    dsimp only
    rw [relayAll_led]
    exact z
  · exact ⟨r, l⟩
theorem TPay.more {D : SD} (T : TPay P w D ks) (u : Tok) (hk : k ∉ ks) : TPay P w (addTx (hashStr w k) (.str k u) D) (k :: ks) := by
  obtain ⟨es, ep, t⟩ := D
  have r1 := layNew_ris t es (hashStr w k) (.str k u) T.ris
  have l1 := T.led.imp id fun z => (layNew_led t es (hashStr w k) (.str k u)).trans z
  have q := tail_keeps (ep := ep) (es1 := (layNew t es (hashStr w k) (.str k u)).1) (wd := (layNew t es (hashStr w k) (.str k u)).2.2.1)
    (t2 := if (layNew t es (hashStr w k) (.str k u)).2.1.plain = true then { (layNew t es (hashStr w k) (.str k u)).2.1 with plain := false } else (layNew t es (hashStr w k) (.str k u)).2.1) (b := w.params.followText "set-order") (by split <;> exact r1) (by split <;> exact l1)
  exact ⟨PySem.Froz.add_ok u T.tx, q.1, q.2, List.nodup_cons.mpr ⟨hk, T.nd⟩⟩
end
/-! ### the comprehension of two clauses -/
section
variable {prog : Program} {w : World} {A : Around} {R : Result → Shared → Prop} {s : Shared} {elt t0 i0 t1 i1 : Expr} {c0 c1 : List Expr} {sc : Scope} {pos : Pos} {it acc : Value} {env : PySem.Env}
end
/-! ### over data -/
theorem _root_.L2.FpOk.more {X : Cx} {pins pins' : List (Addr × Obj)} {H : Hp} {b : Addr} (h : FpOk X pins H b) (n : ∀ p ∈ pins', p.1 ≠ b) : FpOk X pins' H b :=
  ⟨h.1, h.2.1, h.2.2.1, h.2.2.2.1, h.2.2.2.2.1, fun p hp => (List.mem_append.mp hp).elim (fun z => h.2.2.2.2.2 p (List.mem_append_left _ z)) (n p)⟩
theorem _root_.L2.FpOk.pins {X : Cx} {pins pins' : List (Addr × Obj)} {H : Hp} {b : Addr} (h : FpOk X pins H b) (n : ∀ p ∈ pins', p.1 ≠ b) : FpOk X pins' H b := h.more n
theorem _root_.L2.FpOk.at {X : Cx} {pins : List (Addr × Obj)} {H H' : Hp} {b : Addr} (h : FpOk X pins H b) (n : H' b = none) : FpOk X pins H' b := ⟨n, h.2⟩
theorem _root_.L2.Inv.only {X : Cx} {pins pins' : List (Addr × Obj)} {σ : L2.St} {H : Hp} {s : Shared} (I : Inv X pins σ H s) (h : ∀ p ∈ pins', p ∈ pins) : Inv X pins' σ H s := I.pins_of fun p hp => I.pin p (List.mem_append_right _ (h p hp))
section
variable {X : Cx} {elt tg iter tg1 iter1 : Expr} {ifs ifs1 : List Expr} {scope : Scope} {own : List (Str × Nat)} {di di1 : DI} {g g1 : DG} {tt tt1 : DT} {te : DE} {vs1 : List Nat} {pos p cpos : Pos}
end
/-! ### sorted(set(xs)) of a list of texts -/
section
variable {P : Program} {w : World} {A : Around} {E : Value → Shared → Prop} {s : Shared} {a : Addr} {ks : List Str} {k : Str} {u : Tok}
end
section
variable {X : Cx} {e : Expr} {te : DE} {p p2 q pos : Pos} {env : DL.Env} {st : Sto} {k : DK} {zs : List Str}
end
/-! ### a sorted list of different texts is one -/
end DL

/-! zip of a tuple and a list, not strict -/
namespace DL
open PySem PySem.Spec PyProof.Rows L2
section
variable {K : PySem.W.Frag} {w : Wd} {st : Sto}
end
section
variable {X : Cx} {e e2 : Expr} {ta tb : DE} {p pos : Pos}
variable {env : DL.Env} {st : Sto} {kk : DIk} {ds es : List D} {i : Nat}
end
end DL

/-! DLR: dicts walked (locked), displayed, copied, made by comprehension; their text keys sorted. -/
namespace DL
open PySem PySem.Spec PyProof.Rows L2
theorem okRows_tab {κ α : Type} {e : κ → D} {f : α → D} {ks : List (κ × α)} : okRows (tabR e f ks) = true := okRows_map (fun p : κ × α => e p.1) (fun p => f p.2) ks
/-! ### a dict is locked -/
section
variable {K : PySem.W.Frag} {w w1 : Wd} {st : Sto} {H : Hp}
end
section
variable {X : Cx}
/-! ### what is walked of a locked dict -/
/-! ### sorted(d), keys texts -/
/-! ### dict(d) -/
/-! ### {k: v, ..} -/
/-! ### {k: v for x in xs} -/
variable {tg iter kx vx : Expr} {ifs : List Expr} {scope : Scope} {own : List (Str × Nat)} {pos : Pos} {di : DI} {g : DG} {tt : DT} {tk tv : DE}
end
/-! ### equations -/
section
variable {env : DL.Env} {st : Sto} {k : DK}
end
end DL

/-! DLS: set(xs) != set([c]) of ints. -/
namespace DL
open PySem PySem.Spec PyProof.Rows L2
section
variable {prog : Program} {w : World} {A : Around} {E : Value → Shared → Prop} {s : Shared}
end
end DL
namespace DLA
open PySem PySem.Spec PyProof.Rows L2
section
variable {prog : Program} {w : World} {A : Around} {E : Value → Shared → Prop} {s : Shared}
end
end DLA
namespace DL
open PySem PySem.Spec PyProof.Rows L2
section
variable {X : Cx} {e e2 : Expr} {ta : DE} {te : TE} {p p2 p3 pos2 pos3 pos4 pos : Pos} {c : Int}
/-! lists of lists of the store, shown -/
end
end DL

/-! DLU: instances of one's own classes: fields, methods, new ones. -/
namespace DL
open PySem PySem.Spec PyProof.Rows L2
section
variable {K : PySem.W.Frag} {w : Wd}
end
section
variable {X : Cx} {e o value : Expr} {es : List Expr} {pos pos' apos p : Pos} {t to tv : DE} {ta tk : DA} {c f m x : Str} {k : Nat} {g : Addr} {fd : FuncData} {ps ks : List Str} {sp : SpD} {kws : List Keyword}
/-- the world with a new instance -/
theorem Wld.ins {K : PySem.W.Frag} {w : Wd} {st : Sto} {H : Hp} (W : Wld K w st H) {x dx : Addr} (hx : H x = none) (hd : H dx = none) (ne : dx ≠ x) (q : ClsT K c) :
    Wld K (w.addK x (some (.ins c))) (st ++ [[]]) (upd (upd H dx (.own x)) x (.ins (He.ga K c) dx [])) ∧ Le w (w.addK x (some (.ins c))) ∧ Rep K (w.addK x (some (.ins c))) (.dic (.ins c) st.length) (.ref x) := by
  have W1 := W.other (o := .own x) hd
  have hx1 : upd H dx (.own x) x = none := by rw [upd_ne (Ne.symm ne)]; exact hx
  refine ⟨W1.addK hx1 ⟨dx, [], rfl, by simp only [RowsK]⟩, Le.addK (W.nas hx), ?_⟩
  simp only [Rep]
  refine ⟨x, rfl, ?_, if_pos rfl, q⟩
  show (w.as ++ [x])[st.length]? = some x
  rw [← W.len, List.getElem?_concat_length]
end
/-! ### packages -/
section
variable {X : Cx} {e o : Expr} {es : List Expr} {pos apos p : Pos} {to : DE} {ta tk : DA} {c m : Str} {k j : Nat} {ps ks : List Str} {sp : SpD} {kws : List Keyword}
/-! ### equations -/
variable {env : Env} {st : Sto} {kk : DK} {f : Str} {i : Nat} {rows : List D} {t u : DE} {dd : DEnds} {dfl : List D}
end
end DL

/-! DLV: sorted(d.items()) of texts and numbers, shifts. -/
namespace DL
open PySem PySem.Spec PyProof.Rows L2
section
variable {X : Cx}
/-! ### shifts -/
end
/-! ### sorted(d.items()) -/
section
variable {X : Cx} {o : Expr} {p pos apos mpos : Pos} {td : TE}
end
/-! readings -/
section
variable {K : PySem.W.Frag} {w : Wd} {st : Sto} {H : Hp} {X : Cx} {o : Expr} {p pos apos mpos : Pos} {td : DE}
end
end DL

/-! DLW: a dict that lies in a list is walked. -/
namespace DL
open PySem PySem.Spec PyProof.Rows L2
section
variable {K : PySem.W.Frag} {w : Wd} {st : Sto} {H : Hp}
end
section
variable {X : Cx}
/-! ### the walk -/
end

/-! ### y = {k: v for x in xs}, y a local -/
section
variable {X : Cx}
variable {tg iter kx vx : Expr} {ifs : List Expr} {scope : Scope} {own : List (Str × Nat)} {pos : Pos} {di : DI} {g : DG} {tt : DT} {tk tv : DE}
end
end DL

/-! DLO: every so manieth of a list; a dict put into a dict. -/
namespace DLO
open PySem PySem.Spec PyProof.Rows L2
variable {X : Cx}
/-! ### d.update(e) -/
end DLO
namespace DL
open PySem PySem.Spec PyProof.Rows L2
section
variable {X : Cx} {e o : Expr} {ta td te : DE}
/-! d.update(e) -/
variable {env : DL.Env} {st : Sto} {k : DK}
end
end DL

/-! DMA: sorted([(text, number), ..]), sorted([(text, (number, number)), ..]). -/
namespace DL
open PySem PySem.Spec PyProof.Rows L2
section
variable {X : Cx}
/-! readings -/
end
end DL

/-! DMB: [e for x in xs if .. for y in ys if ..], list.count. -/
namespace DL
open PySem PySem.Spec PyProof.Rows L2
section
variable {X : Cx} {elt tg iter tg1 iter1 : Expr} {ifs ifs1 : List Expr} {scope : Scope} {own : List (Str × Nat)} {di di1 : DI} {g g1 : DG} {tt tt1 : DT} {te : DE} {vs1 : List Nat} {pos p cpos : Pos}
end
end DL

/-! DMC: list.count, list.index of data. -/
namespace DL
open PySem PySem.Spec PyProof.Rows L2
section
variable {X : Cx}
theorem _root_.L2.Room.units65 {k : Nat} {A : Around} (r : L2.Room k A) : A.units + 65 < cLine := by have := r.un; omega
def mIndex : FM := fun d ds st k => match deref st d, ds with
  | .lst xs, [y] => okDs 59 xs = true ∧ okD 60 (deref st y) = true ∧ ∃ j, findD (deref st y) xs = some j ∧ k (.int (j : Nat)) st
  | _, _ => False
theorem shaped_toP {n : Nat} {d : D} (h : okD n d = true) (hn : n ≤ 60) : SeqAt.shaped (toP d) = true := by
  obtain ⟨h1, h2⟩ := shape_toP n d h
  unfold SeqAt.shaped
  rw [h1, Bool.true_and, decide_eq_true_eq]
  omega
theorem md_index (hu : X.A.units + 65 < cLine) : MtR X "list.index" (rDM X.K mIndex) := by
  rintro pins s σ H x xs v us Q I rx rs ⟨w, st, d, ds, kk, W, R1, R2, q, fo⟩
  unfold mIndex at q
  split at q
  · rename_i ys y hd
    obtain ⟨k1, k2, j, hj, q⟩ := q
    obtain ⟨a, vs, rfl, hs, r, n⟩ := rep_lst W R1 hd
    obtain ⟨yv, rfl, ry⟩ := one_rep R2
    have ok2 : okD 60 (deref st d) = true := by rw [hd]; exact k1
    have hp := dp_deref W R1 ok2
    have hsh := shaped_toP ok2 (Nat.le_refl _)
    rw [hd] at hp hsh
    simp only [toP] at hp hsh
    rw [← find_toP k2 ys k1] at hj
    unfold SeqAt.dataPlace at hj
    obtain ⟨hj1, hj2, hj3⟩ := List.findIdx?_eq_some_iff_getElem.mp hj
    refine mt_indexD hu pins s σ H _ _ v us Q I rx rs ⟨a, yv, _, _, j, (toPs ys)[j], rfl, rfl, hp, dp_deref W ry k2, hsh, shaped_toP k2 (Nat.le_refl _), List.getElem?_eq_getElem hj1, hj2, fun m z hm hz => ?_, ?_⟩
    · obtain ⟨hm2, rfl⟩ := List.getElem?_eq_some_iff.mp hz
      have := hj3 m hm
      simpa using this
    · exact fo _ _ _ _ _ q (.refl _) W rep_int
  · exact q.elim
theorem e_indexL {st : Sto} {xs : List D} {y : D} {k : DK} : mIndex (.lst xs) [y] st k = (okDs 59 xs = true ∧ okD 60 (deref st y) = true ∧ ∃ j, findD (deref st y) xs = some j ∧ k (.int (j : Nat)) st) := rfl
theorem e_indexO {st : Sto} {i : Nat} {xs : List D} {y : D} {k : DK} (h : st[i]? = some xs) : mIndex (.obj i) [y] st k = (okDs 59 xs = true ∧ okD 60 (deref st y) = true ∧ ∃ j, findD (deref st y) xs = some j ∧ k (.int (j : Nat)) st) := by simp [mIndex, deref, h]
/-! ### for v in d.values() -/
/-! ### a statement that is never reached -/
/-! ### xs.pop(k) -/
def mPopAt : FM := fun d ds st k => match d, ds with
  | .obj i, [.int j] => match st[i]? with
    | some xs => ∃ (n : Nat) (x : D), j = n ∧ xs[n]? = some x ∧ n < 16777216 ∧ k x (st.set i (xs.eraseIdx n))
    | none => False
  | _, _ => False
theorem md_popAt : MtR X "list.pop" (rDM X.K mPopAt) := by
  rintro pins s σ H x xs v us Q I rx rs ⟨w, st, d, ds, kk, W, R1, R2, q, fo⟩
  unfold mPopAt at q
  split at q
  · rename_i i j
    split at q
    · rename_i ys hj
      obtain ⟨n, y, rfl, hy, hn, q⟩ := q
      obtain ⟨a, vs, rfl, ha, hH, r, nn⟩ := obj_rep W R1 hj
      obtain ⟨yv, rfl, ry⟩ := one_rep R2
      simp only [Rep] at ry
      subst ry
      obtain ⟨zv, hzv, rz⟩ := r.get hy
      have hl := (List.getElem?_eq_some_iff.mp hzv).1
      refine mt_popAt pins s σ H _ _ v us Q I rx rs ⟨a, vs, _, n, zv, rfl, rfl, hH, by omega, by omega, ?_, hzv, ?_⟩
      · unfold seqIndex?
        have h1 : ¬ ((n : Int) < 0) := by omega
        have h2 : (n : Int) < (vs.length : Int) := by omega
        simp only [h1, if_false]
        rw [if_pos (by simp [h2])]
        simp
      · exact fo _ _ _ _ _ q (.refl _) (W.wr ha.1 ha.2 (r.eraseIdx n) (Nat.le_trans (List.length_eraseIdx_le ..) nn)) rz
    · exact q.elim
  · exact q.elim
theorem e_popAt {st : Sto} {i : Nat} {xs : List D} {j : Int} {k : DK} (h : st[i]? = some xs) : mPopAt (.obj i) [.int j] st k = ∃ (n : Nat) (x : D), j = n ∧ xs[n]? = some x ∧ n < 16777216 ∧ k x (st.set i (xs.eraseIdx n)) := by simp [mPopAt, h]
/-! ### max of three numbers -/
def bMax3 : FB := fun ds st k => match ds with
  | [.int i, .int j, .int l] => k (.int (max i (max j l))) st
  | _ => False
theorem call_max3 (hc : X.calm = true) : CallR X (.builtin "max") (fun xs H Q => ∃ i j l, xs = [.int i, .int j, .int l] ∧ Q (.int (max i (max j l))) H) := by
  intro pins s σ H xs us Q I r h
  obtain ⟨i, j, l, rfl, q⟩ := h
  cases r with
  | cons r1 r =>
    obtain ⟨u, w', rfl, ⟨t, rfl⟩, ⟨t', rfl⟩⟩ := vals2 r
    obtain ⟨t0, rfl⟩ := r1
    refine max_three_ints (I.ok.hd hc) fun h' tk k => ⟨_, H, I.kept k, ?_, q⟩
    by_cases h1 : j > i
    · rw [if_pos h1]
      by_cases h2 : l > j
      · rw [if_pos h2, show max i (max j l) = l by omega]; exact ⟨_, rfl⟩
      · rw [if_neg h2, show max i (max j l) = j by omega]; exact ⟨_, rfl⟩
    · rw [if_neg h1]
      by_cases h2 : l > i
      · rw [if_pos h2, show max i (max j l) = l by omega]; exact ⟨_, rfl⟩
      · rw [if_neg h2, show max i (max j l) = i by omega]; exact ⟨_, rfl⟩
theorem cb_max3 (hc : X.calm = true) : CallR X (.builtin "max") (rDB X.K bMax3) := by
  refine CallR.by_ fun vs H Q w st ds kk W R q fo => ?_
  unfold bMax3 at q
  split at q
  · obtain ⟨v, r, rfl, R1, R2⟩ := R.inv
    obtain ⟨u, y, rfl, R3, R4⟩ := two_rep R2
    simp only [Rep] at R1 R3 R4
    subst R1 R3 R4
    exact ⟨_, call_max3 hc, _, _, _, rfl, fo.id q W rep_int⟩
  · exact q.elim
theorem e_max3 {st : Sto} {i j l : Int} {k : DK} : bMax3 [.int i, .int j, .int l] st k = k (.int (max i (max j l))) st := rfl
end
end DL

/-! DMD: a text in a text. -/
namespace DL
open PySem PySem.Spec PyProof.Rows L2
section
variable {X : Cx}
end
end DL

namespace LW
open PySem PySem.Spec PyProof.Rows L2 DL
local macro_rules | `(tactic| walk_at "lw_dd0") => `(tactic| try simp only [BEq.rfl, ↓e_v0, ↓e_vs, ↓e_c, ↓e_op, ↓e_un, ↓e_test, ↓e_testK, ↓e_tru, ↓e_truL, ↓e_truT, ↓e_truB, ↓e_truI, ↓e_truN, ↓e_truS, ↓e_not, ↓e_and, ↓e_or, ↓e_andv, ↓e_notv, ↓e_andK, ↓e_notK, ↓e_if, ↓e_nil, ↓e_cons, ↓e_tup, ↓e_lst, ↓e_new, ↓e_call, ↓e_drop, ↓e_ret, ↓e_pass, ↓e_ifS, ↓e_g0, ↓e_gs, ↓e_gnil, ↓e_gcons, ↓e_gtup, ↓e_asg, ↓e_par, ↓e_parK, ↓e_par3, ↓e_par3K, ↓e_no, ↓e_some, ↓e_someK, ↓e_cut, ↓e_b, ↓e_iter, ↓e_iterL, ↓e_iterT, ↓e_iterS, ↓e_rng1, ↓e_rng1K, ↓e_rng2, ↓e_rng2K, ↓e_rng3, ↓e_rng3K, ↓e_enum, ↓e_enumL, ↓e_enumT, ↓e_for, ↓e_lc, ↓e_lcNew, ↓e_meth, ↓e_isL, ↓e_sub, ↓e_isi, ↓e_yes, ↓e_addI, ↓e_addB, ↓e_addS, ↓e_addT, ↓e_addL, ↓e_subI, ↓e_mulI, ↓e_mulT, ↓e_mulL, ↓e_divI, ↓e_modI, ↓e_powI, ↓e_negI, ↓e_cmpI, ↓e_eq, ↓e_ne, ↓e_isn, ↓e_isnn, ↓e_isb, ↓e_ixL, ↓e_ixKL, ↓e_ixT, ↓e_cutL, ↓e_cutKL, ↓e_cutT, ↓e_lenL, ↓e_lenKL, ↓e_lenT, ↓e_abs, ↓e_intI, ↓e_intB, ↓e_max2, ↓e_listNL, ↓e_listNT, ↓e_tupL, ↓e_tupT, ↓e_sum1T, ↓e_sum1L, ↓e_max1T, ↓e_max1L, ↓e_drI, ↓e_drB, ↓e_drS, ↓e_drN, ↓e_drL, ↓e_drT, ↓e_seq, ↓e_back, ↓e_backL, ↓e_backT, ↓e_unlL, ↓e_inFlat, ↓e_drK, ↓e_addBI, ↓e_subBI, ↓e_subIB, ↓e_drG, ↓e_dnew, ↓e_dgetF, ↓e_dget2, ↓e_dgPut, ↓e_join, ↓e_joinL, ↓e_cutS, ↓e_mulS, ↓e_sortV, ↓e_tidx, ↓e_mulNewL, ↓e_sortedPL, ↓e_indexL, ↓e_max3, e_kyI, e_kyS, Nat.reduceAdd, Nat.zero_add, List.length_cons, List.length_nil, List.length_map, Nat.reduceLeDiff, and_true, true_and, if_true, ite_true, decide_eq_true_eq, Bool.not_eq_true, Bool.false_eq_true, if_false, ite_false, ↓reduceIte, Int.reduceToNat, Int.reducePow, ne_eq, q_okI, q_okB, q_okN, q_okS, q_okL, q_okT, q_oks0, q_oks1, q_eqII, q_eqBB, q_eqSS, q_eqLL, q_eqTT, q_eqNN, q_eqNI, q_eqIN, q_eqs0, q_eqs1, Bool.true_and, Bool.and_true, beq_iff_eq, reduceCtorEq, wipeE, List.set_cons_zero, List.set_cons_succ, List.set_nil, Bool.not_true, Bool.not_false, List.getElem?_cons_zero, List.getElem?_cons_succ])
local macro_rules | `(tactic| walk_at "lw_dd") => `(tactic| try simp only [BEq.rfl, ↓e_v0, ↓e_vs, ↓e_c, ↓e_op, ↓e_un, ↓e_test, ↓e_testK, ↓e_tru, ↓e_truL, ↓e_truT, ↓e_truB, ↓e_truI, ↓e_truN, ↓e_truS, ↓e_not, ↓e_and, ↓e_or, ↓e_andv, ↓e_notv, ↓e_andK, ↓e_notK, ↓e_if, ↓e_nil, ↓e_cons, ↓e_tup, ↓e_lst, ↓e_new, ↓e_call, ↓e_drop, ↓e_ret, ↓e_pass, ↓e_ifS, ↓e_g0, ↓e_gs, ↓e_gnil, ↓e_gcons, ↓e_gtup, ↓e_asg, ↓e_par, ↓e_parK, ↓e_par3, ↓e_par3K, ↓e_no, ↓e_some, ↓e_someK, ↓e_cut, ↓e_b, ↓e_iter, ↓e_iterL, ↓e_iterT, ↓e_iterS, ↓e_rng1, ↓e_rng1K, ↓e_rng2, ↓e_rng2K, ↓e_rng3, ↓e_rng3K, ↓e_enum, ↓e_enumL, ↓e_enumT, ↓e_for, ↓e_lc, ↓e_lcNew, ↓e_forN, ↓e_forC, ↓e_lcN, ↓e_lcC, ↓e_srcN, ↓e_srcC, ↓e_meth, ↓e_isL, ↓e_sub, ↓e_isi, ↓e_yes, ↓e_addI, ↓e_addB, ↓e_addS, ↓e_addT, ↓e_addL, ↓e_subI, ↓e_mulI, ↓e_mulT, ↓e_mulL, ↓e_divI, ↓e_modI, ↓e_powI, ↓e_negI, ↓e_cmpI, ↓e_eq, ↓e_ne, ↓e_isn, ↓e_isnn, ↓e_isb, ↓e_ixL, ↓e_ixKL, ↓e_ixT, ↓e_cutL, ↓e_cutKL, ↓e_cutT, ↓e_lenL, ↓e_lenKL, ↓e_lenT, ↓e_abs, ↓e_intI, ↓e_intB, ↓e_max2, ↓e_listNL, ↓e_listNT, ↓e_tupL, ↓e_tupT, ↓e_sum1T, ↓e_sum1L, ↓e_max1T, ↓e_max1L, ↓e_drI, ↓e_drB, ↓e_drS, ↓e_drN, ↓e_drL, ↓e_drT, ↓e_seq, ↓e_back, ↓e_backL, ↓e_backT, ↓e_unlL, ↓e_inFlat, ↓e_drK, ↓e_addBI, ↓e_subBI, ↓e_subIB, ↓e_drG, ↓e_dnew, ↓e_dgetF, ↓e_dget2, ↓e_dgPut, ↓e_join, ↓e_joinL, ↓e_cutS, ↓e_mulS, ↓e_sortV, ↓e_tidx, ↓e_mulNewL, ↓e_sortedPL, ↓e_indexL, ↓e_max3, e_kyI, e_kyS, Nat.reduceAdd, Nat.zero_add, List.length_cons, List.length_nil, List.length_map, Nat.reduceLeDiff, and_true, true_and, if_true, ite_true, decide_eq_true_eq, Bool.not_eq_true, Bool.false_eq_true, if_false, ite_false, ↓reduceIte, Int.reduceToNat, Int.reducePow, ne_eq, q_okI, q_okB, q_okN, q_okS, q_okL, q_okT, q_oks0, q_oks1, q_eqII, q_eqBB, q_eqSS, q_eqLL, q_eqTT, q_eqNN, q_eqNI, q_eqIN, q_eqs0, q_eqs1, Bool.true_and, Bool.and_true, beq_iff_eq, reduceCtorEq, wipeE, List.set_cons_zero, List.set_cons_succ, List.set_nil, Bool.not_true, Bool.not_false, List.getElem?_cons_zero, List.getElem?_cons_succ])
local macro_rules | `(tactic| walk_at "lw_dk") => `(tactic| try simp -implicitDefEqProofs only [BEq.rfl, ↓e_v0, ↓e_vs, ↓e_c, ↓e_op, ↓e_un, ↓e_test, ↓e_testK, ↓e_tru, ↓e_truL, ↓e_truT, ↓e_truB, ↓e_truI, ↓e_truN, ↓e_truS, ↓e_not, ↓e_and, ↓e_or, ↓e_andv, ↓e_notv, ↓e_andK, ↓e_notK, ↓e_if, ↓e_nil, ↓e_cons, ↓e_tup, ↓e_lst, ↓e_new, ↓e_call, ↓e_drop, ↓e_ret, ↓e_pass, ↓e_ifS, ↓e_g0, ↓e_gs, ↓e_gnil, ↓e_gcons, ↓e_gtup, ↓e_asg, ↓e_par, ↓e_parK, ↓e_par3, ↓e_par3K, ↓e_no, ↓e_some, ↓e_someK, ↓e_cut, ↓e_b, ↓e_iter, ↓e_iterL, ↓e_iterT, ↓e_iterS, ↓e_rng1, ↓e_rng1K, ↓e_rng2, ↓e_rng2K, ↓e_rng3, ↓e_rng3K, ↓e_enum, ↓e_enumL, ↓e_enumT, ↓e_for, ↓e_lc, ↓e_lcNew, ↓e_meth, ↓e_isL, ↓e_sub, ↓e_isi, ↓e_yes, ↓e_addI, ↓e_addB, ↓e_addS, ↓e_addT, ↓e_addL, ↓e_subI, ↓e_mulI, ↓e_mulT, ↓e_mulL, ↓e_divI, ↓e_modI, ↓e_powI, ↓e_negI, ↓e_cmpI, ↓e_eq, ↓e_ne, ↓e_isn, ↓e_isnn, ↓e_isb, ↓e_ixL, ↓e_ixKL, ↓e_ixT, ↓e_cutL, ↓e_cutKL, ↓e_cutT, ↓e_lenL, ↓e_lenKL, ↓e_lenT, ↓e_abs, ↓e_intI, ↓e_intB, ↓e_max2, ↓e_listNL, ↓e_listNT, ↓e_tupL, ↓e_tupT, ↓e_sum1T, ↓e_sum1L, ↓e_max1T, ↓e_max1L, ↓e_drI, ↓e_drB, ↓e_drS, ↓e_drN, ↓e_drL, ↓e_drT, ↓e_seq, ↓e_back, ↓e_backL, ↓e_backT, ↓e_unlL, ↓e_inFlat, ↓e_drK, ↓e_addBI, ↓e_subBI, ↓e_subIB, ↓e_drG, ↓e_dnew, ↓e_dgetF, ↓e_dget2, ↓e_dgPut, ↓e_join, ↓e_joinL, ↓e_cutS, ↓e_mulS, ↓e_sortV, ↓e_tidx, ↓e_mulNewL, ↓e_sortedPL, ↓e_indexL, ↓e_max3, e_kyI, e_kyS, Nat.reduceAdd, Nat.zero_add, List.length_cons, List.length_nil, List.length_map, Nat.reduceLeDiff, and_true, true_and, if_true, ite_true, decide_eq_true_eq, Bool.not_eq_true, Bool.false_eq_true, if_false, ite_false, ↓reduceIte, Int.reduceToNat, Int.reducePow, ne_eq, q_okI, q_okB, q_okN, q_okS, q_okL, q_okT, q_oks0, q_oks1, q_eqII, q_eqBB, q_eqSS, q_eqLL, q_eqTT, q_eqNN, q_eqNI, q_eqIN, q_eqs0, q_eqs1, Bool.true_and, Bool.and_true, beq_iff_eq, reduceCtorEq, wipeE, List.set_cons_zero, List.set_cons_succ, List.set_nil, Bool.not_true, Bool.not_false, List.getElem?_cons_zero, List.getElem?_cons_succ])
def top (i : Nat) : Stmt := PySem.Challenge.pw_panfalls_k63_whole_alike_or_parted.main.body.getD i (.Pass ⟨0, 0, 0, 0⟩)
abbrev s_as_part : Stmt := top 2
abbrev N_as_part : List Str := ["standing", "left", "right"]
theorem sc_as_part : FnScope N_as_part ["standing", "left", "right"] (defScope s_as_part) := ⟨rfl, rfl, rfl, by decide +kernel, rfl, by decide +kernel, by decide +kernel⟩
abbrev s_part_of : Stmt := top 3
abbrev N_part_of : List Str := ["net", "standing", "found", "balance", "left", "right", "lead"]
theorem sc_part_of : FnScope N_part_of ["net", "standing"] (defScope s_part_of) := ⟨rfl, rfl, rfl, by decide +kernel, rfl, by decide +kernel, by decide +kernel⟩
abbrev s_alike : Stmt := top 4
abbrev N_alike : List Str := ["one", "its", "other", "others"]
theorem sc_alike : FnScope N_alike ["one", "its", "other", "others"] (defScope s_alike) := ⟨rfl, rfl, rfl, by decide +kernel, rfl, by decide +kernel, by decide +kernel⟩
abbrev s_grown : Stmt := top 5
abbrev N_grown : List Str := ["part", "weight", "size", "near", "far"]
theorem sc_grown : FnScope N_grown ["part", "weight"] (defScope s_grown) := ⟨rfl, rfl, rfl, by decide +kernel, rfl, by decide +kernel, by decide +kernel⟩
abbrev s_greatest : Stmt := top 6
abbrev N_greatest : List Str := ["part"]
theorem sc_greatest : FnScope N_greatest ["part"] (defScope s_greatest) := ⟨rfl, rfl, rfl, by decide +kernel, rfl, by decide +kernel, by decide +kernel⟩
abbrev s_names_in : Stmt := top 7
abbrev N_names_in : List Str := ["part"]
theorem sc_names_in : FnScope N_names_in ["part"] (defScope s_names_in) := ⟨rfl, rfl, rfl, by decide +kernel, rfl, by decide +kernel, by decide +kernel⟩
abbrev s_row_off : Stmt := top 8
abbrev N_row_off : List Str := ["part", "name", "size", "near", "far", "one", "row", "weight"]
theorem sc_row_off : FnScope N_row_off ["part", "name"] (defScope s_row_off) := ⟨rfl, rfl, rfl, by decide +kernel, rfl, by decide +kernel, by decide +kernel⟩
abbrev s_row_by_sizes : Stmt := top 9
abbrev N_row_by_sizes : List Str := ["one", "other", "size", "near", "far", "more", "weight", "row", "rest", "some", "grain"]
theorem sc_row_by_sizes : FnScope N_row_by_sizes ["one", "other"] (defScope s_row_by_sizes) := ⟨rfl, rfl, rfl, by decide +kernel, rfl, by decide +kernel, by decide +kernel⟩
abbrev s_row_apart : Stmt := top 10
abbrev N_row_apart : List Str := ["one", "other", "row", "weight"]
theorem sc_row_apart : FnScope N_row_apart ["one", "other"] (defScope s_row_apart) := ⟨rfl, rfl, rfl, by decide +kernel, rfl, by decide +kernel, by decide +kernel⟩
abbrev s_parting_word : Stmt := top 11
abbrev N_parting_word : List Str := ["one", "its", "other", "others", "first", "second"]
theorem sc_parting_word : FnScope N_parting_word ["one", "its", "other", "others"] (defScope s_parting_word) := ⟨rfl, rfl, rfl, by decide +kernel, rfl, by decide +kernel, by decide +kernel⟩
abbrev s_is_number : Stmt := top 16
abbrev N_is_number : List Str := ["thing"]
theorem sc_is_number : FnScope N_is_number ["thing"] (defScope s_is_number) := ⟨rfl, rfl, rfl, by decide +kernel, rfl, by decide +kernel, by decide +kernel⟩
abbrev s_lighter : Stmt := top 17
abbrev N_lighter : List Str := ["standing"]
theorem sc_lighter : FnScope N_lighter ["standing"] (defScope s_lighter) := ⟨rfl, rfl, rfl, by decide +kernel, rfl, by decide +kernel, by decide +kernel⟩
abbrev s_laid_on : Stmt := top 18
abbrev N_laid_on : List Str := ["standing", "side", "weight"]
theorem sc_laid_on : FnScope N_laid_on ["standing", "side", "weight"] (defScope s_laid_on) := ⟨rfl, rfl, rfl, by decide +kernel, rfl, by decide +kernel, by decide +kernel⟩
abbrev s_fall : Stmt := top 19
abbrev N_fall : List Str := ["standing", "weight", "side"]
theorem sc_fall : FnScope N_fall ["standing", "weight"] (defScope s_fall) := ⟨rfl, rfl, rfl, by decide +kernel, rfl, by decide +kernel, by decide +kernel⟩
abbrev s_lead_of : Stmt := top 21
abbrev N_lead_of : List Str := ["net", "pan", "balance", "side"]
theorem sc_lead_of : FnScope N_lead_of ["net", "pan"] (defScope s_lead_of) := ⟨rfl, rfl, rfl, by decide +kernel, rfl, by decide +kernel, by decide +kernel⟩
abbrev s_way_of : Stmt := top 23
abbrev N_way_of : List Str := ["net", "standing", "weight", "pans", "here", "left", "side"]
theorem sc_way_of : FnScope N_way_of ["net", "standing", "weight"] (defScope s_way_of) := ⟨rfl, rfl, rfl, by decide +kernel, rfl, by decide +kernel, by decide +kernel⟩
abbrev s_falls_of : Stmt := top 24
abbrev N_falls_of : List Str := ["net", "standing", "word", "found", "weight", "pans", "name"]
theorem sc_falls_of : FnScope N_falls_of ["net", "standing", "word"] (defScope s_falls_of) := ⟨rfl, rfl, rfl, by decide +kernel, rfl, by decide +kernel, by decide +kernel⟩
abbrev s__law_tape : Stmt := top 26
abbrev N__law_tape : List Str := ["_law_script", "_law_k", "_law_cell"]
theorem sc__law_tape : FnScope N__law_tape ["_law_script", "_law_k"] (defScope s__law_tape) := ⟨rfl, rfl, rfl, by decide +kernel, rfl, by decide +kernel, by decide +kernel⟩
abbrev s__law_draw : Stmt := top 27
abbrev N__law_draw : List Str := ["_law_tape_here", "_law_many", "_law_found", "_law_once", "_law_twice", "_law_wide"]
theorem sc__law_draw : FnScope N__law_draw ["_law_tape_here", "_law_many"] (defScope s__law_draw) := ⟨rfl, rfl, rfl, by decide +kernel, rfl, by decide +kernel, by decide +kernel⟩
abbrev s__law_folded : Stmt := top 28
abbrev N__law_folded : List Str := ["_law_script", "_law_many", "_law_cells", "_law_k", "_law_cell"]
theorem sc__law_folded : FnScope N__law_folded ["_law_script", "_law_many"] (defScope s__law_folded) := ⟨rfl, rfl, rfl, by decide +kernel, rfl, by decide +kernel, by decide +kernel⟩
abbrev s__law_names : Stmt := top 29
abbrev N__law_names : List Str := ["_law_tape_here", "_law_many", "_law_letters", "_law_shift", "_law_stem", "_law_k", "_law_at", "_law_step", "_law_found", "_law_head", "_law_tail", "_law_way", "_law_sign"]
theorem sc__law_names : FnScope N__law_names ["_law_tape_here", "_law_many"] (defScope s__law_names) := ⟨rfl, rfl, rfl, by decide +kernel, rfl, by decide +kernel, by decide +kernel⟩
abbrev s__law_standing : Stmt := top 30
abbrev N__law_standing : List Str := ["_law_tape_here", "_law_most"]
theorem sc__law_standing : FnScope N__law_standing ["_law_tape_here", "_law_most"] (defScope s__law_standing) := ⟨rfl, rfl, rfl, by decide +kernel, rfl, by decide +kernel, by decide +kernel⟩
abbrev s__law_levels : Stmt := top 31
abbrev N__law_levels : List Str := ["_law_net_here", "_law_found", "_law_k", "_law_leads", "_law_lead", "_law_one"]
theorem sc__law_levels : FnScope N__law_levels ["_law_net_here"] (defScope s__law_levels) := ⟨rfl, rfl, rfl, by decide +kernel, rfl, by decide +kernel, by decide +kernel⟩
abbrev s__law_net : Stmt := top 32
abbrev N__law_net : List Str := ["_law_tape_here", "_law_names_here", "_law_most", "_law_high", "_law_together", "_law_size", "_law_pans", "_law_high_of", "_law_leads", "_law_k", "_law_free", "_law_pan", "_law_there", "_law_later", "_law_number", "_law_at", "_law_side"]
theorem sc__law_net : FnScope N__law_net ["_law_tape_here", "_law_names_here", "_law_most", "_law_high", "_law_together"] (defScope s__law_net) := ⟨rfl, rfl, rfl, by decide +kernel, rfl, by decide +kernel, by decide +kernel⟩
abbrev s__law_gone : Stmt := top 33
abbrev N__law_gone : List Str := ["_law_net_here", "_law_standing_here", "_law_weight", "_law_here", "_law_row", "_law_way", "_law_side"]
theorem sc__law_gone : FnScope N__law_gone ["_law_net_here", "_law_standing_here", "_law_weight"] (defScope s__law_gone) := ⟨rfl, rfl, rfl, by decide +kernel, rfl, by decide +kernel, by decide +kernel⟩
abbrev s__law_out : Stmt := top 34
abbrev N__law_out : List Str := ["_law_net_here", "_law_standing_here", "_law_word", "_law_found", "_law_weight", "_law_way", "_law_out_here"]
theorem sc__law_out : FnScope N__law_out ["_law_net_here", "_law_standing_here", "_law_word"] (defScope s__law_out) := ⟨rfl, rfl, rfl, by decide +kernel, rfl, by decide +kernel, by decide +kernel⟩
abbrev s__law_crossed : Stmt := top 35
abbrev N__law_crossed : List Str := ["_law_net_here", "_law_standing_here", "_law_k", "_law_row", "_law_leads"]
theorem sc__law_crossed : FnScope N__law_crossed ["_law_net_here", "_law_standing_here", "_law_k"] (defScope s__law_crossed) := ⟨rfl, rfl, rfl, by decide +kernel, rfl, by decide +kernel, by decide +kernel⟩
abbrev s__law_put_at_exit : Stmt := top 36
abbrev N__law_put_at_exit : List Str := ["_law_tape_here", "_law_net_here", "_law_standing_here", "_law_most", "_law_at", "_law_k", "_law_pan", "_law_side", "_law_leads", "_law_one", "_law_pair", "_law_there", "_law_row", "_law_made"]
theorem sc__law_put_at_exit : FnScope N__law_put_at_exit ["_law_tape_here", "_law_net_here", "_law_standing_here", "_law_most"] (defScope s__law_put_at_exit) := ⟨rfl, rfl, rfl, by decide +kernel, rfl, by decide +kernel, by decide +kernel⟩
abbrev s__law_other_numbers : Stmt := top 37
abbrev N__law_other_numbers : List Str := ["_law_tape_here", "_law_net_here", "_law_standing_here", "_law_waiting", "_law_order", "_law_turn", "_law_here", "_law_one", "_law_leads", "_law_k"]
theorem sc__law_other_numbers : FnScope N__law_other_numbers ["_law_tape_here", "_law_net_here", "_law_standing_here"] (defScope s__law_other_numbers) := ⟨rfl, rfl, rfl, by decide +kernel, rfl, by decide +kernel, by decide +kernel⟩
abbrev s__law_tree : Stmt := top 38
abbrev N__law_tree : List Str := ["_law_tape_here", "_law_names_here", "_law_net_here", "_law_leads"]
theorem sc__law_tree : FnScope N__law_tree ["_law_tape_here", "_law_names_here"] (defScope s__law_tree) := ⟨rfl, rfl, rfl, by decide +kernel, rfl, by decide +kernel, by decide +kernel⟩
abbrev s__law_otherwise : Stmt := top 39
abbrev N__law_otherwise : List Str := ["_law_tape_here", "_law_net_here", "_law_standing_here", "_law_turn", "_law_k"]
theorem sc__law_otherwise : FnScope N__law_otherwise ["_law_tape_here", "_law_net_here", "_law_standing_here"] (defScope s__law_otherwise) := ⟨rfl, rfl, rfl, by decide +kernel, rfl, by decide +kernel, by decide +kernel⟩
abbrev s__law_rows : Stmt := top 40
abbrev N__law_rows : List Str := ["_law_tape_here", "_law_many", "_law_k"]
theorem sc__law_rows : FnScope N__law_rows ["_law_tape_here", "_law_many"] (defScope s__law_rows) := ⟨rfl, rfl, rfl, by decide +kernel, rfl, by decide +kernel, by decide +kernel⟩
abbrev s__law_near : Stmt := top 41
abbrev N__law_near : List Str := ["_law_tape_here", "_law_net_here", "_law_standing_here", "_law_names_here", "_law_way", "_law_k", "_law_row", "_law_leads", "_law_pair", "_law_ends_at", "_law_at", "_law_j", "_law_side"]
theorem sc__law_near : FnScope N__law_near ["_law_tape_here", "_law_net_here", "_law_standing_here", "_law_names_here"] (defScope s__law_near) := ⟨rfl, rfl, rfl, by decide +kernel, rfl, by decide +kernel, by decide +kernel⟩
abbrev s__law_is_weights : Stmt := top 42
abbrev N__law_is_weights : List Str := ["_law_thing", "_law_one"]
theorem sc__law_is_weights : FnScope N__law_is_weights ["_law_thing"] (defScope s__law_is_weights) := ⟨rfl, rfl, rfl, by decide +kernel, rfl, by decide +kernel, by decide +kernel⟩
abbrev s__law_pair_right : Stmt := top 43
abbrev N__law_pair_right : List Str := ["_law_tape_here", "_law_one", "_law_other", "_law_fine", "_law_word", "_law_some", "_law_row", "_law_outs", "_law_tree_here"]
theorem sc__law_pair_right : FnScope N__law_pair_right ["_law_tape_here", "_law_one", "_law_other"] (defScope s__law_pair_right) := ⟨rfl, rfl, rfl, by decide +kernel, rfl, by decide +kernel, by decide +kernel⟩
abbrev s__law_right : Stmt := top 44
abbrev N__law_right : List Str := ["_law_tape_here", "_law_names_here", "_law_turn", "_law_one", "_law_way", "_law_other"]
theorem sc__law_right : FnScope N__law_right ["_law_tape_here"] (defScope s__law_right) := ⟨rfl, rfl, rfl, by decide +kernel, rfl, by decide +kernel, by decide +kernel⟩
abbrev s_law : Stmt := top 45
abbrev N_law : List Str := ["_law_script", "_law_cells", "_law_k"]
theorem sc_law : FnScope N_law ["_law_script"] (defScope s_law) := ⟨rfl, rfl, rfl, by decide +kernel, rfl, by decide +kernel, by decide +kernel⟩
theorem ty_int {i : Int} : tyD (.int i) = "int" := rfl
theorem ty_str {z : Str} : tyD (.str z) = "str" := rfl
/-! the steps of a reading -/
theorem mul2 (w : Int) : MulOk 2 w := .inl ⟨by decide, by decide⟩
theorem in2 {r : Int} (h0 : 0 ≤ r) (h1 : r < 2) : r = 0 ∨ r = 1 := by omega
theorem app_get {st : Sto} {xs : List D} : (st ++ [xs])[st.length]? = some xs := List.getElem?_concat_length ..
theorem app_set {st : Sto} {xs ys : List D} : (st ++ [xs]).set st.length ys = st ++ [ys] := by simp
theorem belows_int (n : Nat) : ∀ xs : List Int, belows n (xs.map D.int) = true
  | [] => rfl
  | x :: r => by simp only [List.map_cons, belows, below, Bool.true_and]; exact belows_int n r
theorem atI_last {α : Type} (xs : List α) (x : α) : atI (xs ++ [x]) (-1) = some x := by
  unfold atI ixN
  rw [if_neg (by decide), if_pos (by rw [List.length_append, List.length_singleton]; omega)]
  show (xs ++ [x])[_]? = some x
  have : (-1 + ((xs ++ [x]).length : Int)).toNat = xs.length := by
    rw [List.length_append, List.length_singleton]
    omega
  rw [this]
  simp
theorem mulr (a b : Int) (h : -(2 ^ 64) < b) (h' : b < 2 ^ 64) : MulOk a b := .inr (.inl ⟨h, h'⟩)
theorem mulc (a b : Int) (h : -(2 ^ 64) < a) (h' : a < 2 ^ 64) : MulOk a b := .inl ⟨h, h'⟩
theorem mulb (a : Int) (b : Prop) [Decidable b] : MulOk a (if b then 1 else 0) := .inr (.inl (by split <;> exact ⟨by decide, by decide⟩))
theorem ixN_of {n : Nat} {i : Int} (h0 : 0 ≤ i) (h1 : i < n) : ixN n i = some i.toNat := by
  unfold ixN
  rw [if_pos h0, if_pos h1]
theorem atI_at {α : Type} {xs : List α} {i : Int} (h0 : 0 ≤ i) (h1 : i < xs.length) : atI xs i = some (xs[i.toNat]'(by omega)) := by
  unfold atI
  rw [ixN_of h0 h1]
  show xs[i.toNat]? = _
  rw [List.getElem?_eq_getElem]
theorem cutD_map {α β : Type} (f : α → β) (xs : List α) (lo hi : Option Int) : DL.cutD (xs.map f) lo hi = (DL.cutD xs lo hi).map f := by
  unfold DL.cutD
  rw [List.length_map, List.map_take, List.map_drop]
theorem cutD_to {α : Type} (xs : List α) (m : Nat) : DL.cutD xs none (some (m : Int)) = xs.take m := by
  unfold DL.cutD
  rw [HT.sIx_nat, HT.sIx_none, List.drop_zero, Nat.sub_zero]
  by_cases h : m ≤ xs.length
  · rw [Nat.min_eq_left h]
  · rw [Nat.min_eq_right (by omega), List.take_length, List.take_of_length_le (by omega)]
theorem cutD_from {α : Type} (xs : List α) (m k : Nat) : DL.cutD xs (some (m : Int)) (some (k : Int)) = (xs.drop m).take (k - m) := by
  unfold DL.cutD
  rw [HT.sIx_nat, HT.sIx_nat]
  by_cases h : m ≤ xs.length
  · rw [Nat.min_eq_left h]
    by_cases h2 : k ≤ xs.length
    · rw [Nat.min_eq_left h2]
    · rw [Nat.min_eq_right (by omega), List.take_of_length_le (by rw [List.length_drop]; omega), List.take_of_length_le (by rw [List.length_drop]; omega)]
  · rw [Nat.min_eq_right (show xs.length ≤ m by omega), List.drop_length, List.drop_eq_nil_of_le (show xs.length ≤ m by omega)]
    simp
theorem set_last (st : Sto) (a b : List D) : (st ++ [a]).set st.length b = st ++ [b] := by simp
theorem map_set_int (cs : List Int) (j : Nat) (v : Int) : (cs.map D.int).set j (.int v) = (cs.set j v).map D.int := by
  rw [List.map_set]
theorem at0 (a b c : D) : atI [a, b, c] 0 = some a := rfl
theorem at1 (a b c : D) : atI [a, b, c] 1 = some b := rfl
theorem at2 (a b c : D) : atI [a, b, c] 2 = some c := rfl
theorem pow5 {x : Int} (h0 : 0 ≤ x) (h1 : x < 18446744073709551616) : PowOk x 5 := ⟨by decide, by decide, by omega⟩
theorem ok_left : PyData.strOk ("left" : Str) = true := by decide +kernel
theorem ok_right : PyData.strOk ("right" : Str) = true := by decide +kernel
theorem ok_side {x : Str} (h : x = "left" ∨ x = "right") : PyData.strOk x = true := by
  rcases h with rfl | rfl
  · exact ok_left
  · exact ok_right
def Big (m : Int) : Prop := 1 ≤ m ∧ m < 1000000000000000000000000
theorem Big.div {m : Int} (h : Big m) : DivOk m := ⟨by have := h.1; omega, by
  have h2 : m.natAbs < 2 ^ 80 := by have := h.1; have := h.2; omega
  exact Nat.lt_of_lt_of_le (PySem.Flt.log2_lt_of (by decide) h2) (by decide)⟩
theorem div_small {m : Int} (h : 0 < m) (h' : m < 4611686018427387904) : DivOk m := ⟨h, by
  have h2 : m.natAbs < 2 ^ 62 := by omega
  exact Nat.lt_of_lt_of_le (PySem.Flt.log2_lt_of (by decide) h2) (by decide)⟩
def isNumB : D → Bool
  | .int _ => true
  | _ => false
/-- a text by its codes -/
def S (cs : List Nat) : Str := ⟨cs.toArray⟩
theorem S_cps (cs : List Nat) : (S cs).cps.toList = cs := by unfold S; simp
theorem S_len (cs : List Nat) : (S cs).length = cs.length := by unfold S; show cs.toArray.size = _; simp
theorem S_app (a b : List Nat) : S a ++ S b = S (a ++ b) := by
  show Str.mk (a.toArray ++ b.toArray) = Str.mk (a ++ b).toArray
  rw [List.append_toArray]
theorem S_inj {a b : List Nat} (h : S a = S b) : a = b := by rw [← S_cps a, ← S_cps b, h]
theorem S_cut (cs : List Nat) (lo hi : Option Int) : L2.cutS (S cs) lo hi = S (DL.cutD cs lo hi) := by
  unfold L2.cutS DL.cutD
  rw [S_len, S_cps]
  rfl
theorem S_nil : Str.ofString "" = S [] := by decide +kernel
theorem S_join : ∀ cs : List Nat, PySem.Txt.join (Str.ofString "") (cs.map fun c => S [c]) = S cs := by
  intro cs
  show Builtin.Str.glued (Str.ofString "") (cs.map fun c => S [c]) = S cs
  rw [PySem.StrLaws.glued_eq_join, S_nil]
  induction cs with
  | nil => rfl
  | cons c r ih =>
    cases r with
    | nil => rfl
    | cons d r =>
      show S [c] ++ S [] ++ Str.join (S []) ((d :: r).map fun c => S [c]) = _
      rw [ih, S_app, S_app]
      rfl
theorem S_ok {cs : List Nat} (h : ∀ c ∈ cs, c < 1000) : PyData.strOk (S cs) = true := by
  unfold PyData.strOk S
  rw [← Array.all_toList]
  simp only [List.all_eq_true, decide_eq_true_eq]
  intro c hc
  have := h c (by simpa using hc)
  omega
theorem S_sum : ∀ cs : List Nat, ((cs.map fun c => S [c]).map (·.length)).sum = cs.length
  | [] => rfl
  | c :: r => by
    simp only [List.map_cons, List.sum_cons, S_sum r, S_len, List.length_cons, List.length_nil]
    omega
def abcL : List Nat := (List.range 26).map (97 + ·)
theorem abc_eq : Str.ofString "abcdefghijklmnopqrstuvwxyz" = S abcL := by decide +kernel
/-- a letter -/
def Lt (c : Nat) : Prop := 97 ≤ c ∧ c ≤ 122
theorem abc_at {i : Int} (h0 : 0 ≤ i) (h1 : i < 26) : atI abcL i = some (97 + i.toNat) := by
  obtain ⟨n, rfl⟩ := Int.eq_ofNat_of_zero_le h0
  have hn : n < 26 := by omega
  have : ∀ n : Fin 26, atI abcL (n.val : Int) = some (97 + n.val) := by decide
  exact this ⟨n, hn⟩
/-- a name: one to eight letters -/
structure NameL (cs : List Nat) : Prop where
  one : 1 ≤ cs.length
  eight : cs.length ≤ 8
  all : ∀ c ∈ cs, Lt c
/-! ### nets -/
inductive Ld where
  | bal (n : Nat) | out (cs : List Nat)
instance : DecidableEq Ld := fun a b => match a, b with
  | .bal n, .bal m => if h : n = m then isTrue (by rw [h]) else isFalse (fun e => h (by cases e; rfl))
  | .out n, .out m => if h : n = m then isTrue (by rw [h]) else isFalse (fun e => h (by cases e; rfl))
  | .bal _, .out _ => isFalse (fun e => by cases e)
  | .out _, .bal _ => isFalse (fun e => by cases e)
def Ld.d : Ld → D
  | .bal n => .int (n : Nat)
  | .out cs => .str (S cs)
abbrev Web := List (Ld × Ld)
def ldsD (p : Ld × Ld) : D := .tup [p.1.d, p.2.d]
def webD (w : Web) : D := .tup (w.map ldsD)
def Ld.of (p : Ld × Ld) (s : Bool) : Ld := if s = true then p.2 else p.1
/-- where the pan (k, s) leads -/
def leadW (w : Web) (k : Nat) (s : Bool) : Option Ld := (w[k]?).map fun p => Ld.of p s
structure WebOk (names : List (List Nat)) (most high : Nat) (tog : Bool) (w : Web) : Prop where
  one : 1 ≤ w.length
  len : w.length ≤ most
  nm : ∀ k s cs, leadW w k s = some (.out cs) → cs ∈ names
  bal : ∀ k s j, leadW w k s = some (.bal j) → k < j ∧ j < w.length
  led : ∀ j, 1 ≤ j → j < w.length → ∃ k s, leadW w k s = some (.bal j)
  hts : ∃ ht : Nat → Int, ht 0 = 0 ∧ (∀ k, k < w.length → 0 ≤ ht k ∧ ht k < high) ∧ ∀ k s j, leadW w k s = some (.bal j) → ht k < ht j
  tree : tog = false → ∀ k s k' s' j, leadW w k s = some (.bal j) → leadW w k' s' = some (.bal j) → k = k' ∧ s = s'
theorem keyL : KeyE false Ld.d := ⟨fun a => by cases a <;> rfl, fun a b h => by
  cases a <;> cases b
  · have h' : some [(Sum.inl ((_ : Nat) : Int) : Key)] = some [Sum.inl ((_ : Nat) : Int)] := h
    simp only [Option.some.injEq, List.cons.injEq, Sum.inl.injEq, and_true] at h'
    rw [Int.ofNat_inj.mp h']
  · have h' : some [(Sum.inl ((_ : Nat) : Int) : Key)] = some [Sum.inr (S _)] := h
    cases h'
  · have h' : some [(Sum.inr (S _) : Key)] = some [Sum.inl ((_ : Nat) : Int)] := h
    cases h'
  · have h' : some [(Sum.inr (S _) : Key)] = some [Sum.inr (S _)] := h
    simp only [Option.some.injEq, List.cons.injEq, Sum.inr.injEq, and_true] at h'
    rw [S_inj h']⟩
abbrev Pn := Nat × Bool
def sideI (b : Bool) : Int := if b = true then 1 else 0
theorem sideI_inj {a b : Bool} (h : sideI a = sideI b) : a = b := by cases a <;> cases b <;> first | rfl | cases h
def pnD (p : Pn) : D := .tup [.int (p.1 : Nat), .int (sideI p.2)]
theorem keyN : KeyE true pnD := ⟨fun _ => rfl, fun a b h => by
  have h' : some [(Sum.inl ((a.1 : Nat) : Int) : Key), Sum.inl (sideI a.2)] = some [Sum.inl ((b.1 : Nat) : Int), Sum.inl (sideI b.2)] := h
  simp only [Option.some.injEq, List.cons.injEq, Sum.inl.injEq, and_true] at h'
  exact Prod.ext (Int.ofNat_inj.mp h'.1) (sideI_inj h'.2)⟩
theorem pn_eq (p q : Pn) : eqD (pnD p) (pnD q) = decide (p = q) := by
  unfold pnD
  simp only [eqD, eqDs, Bool.and_true]
  by_cases h : p = q
  · rw [h]; simp
  · rw [decide_eq_false h, Bool.and_eq_false_iff]
    by_cases h1 : p.1 = q.1
    · right
      have h2 : p.2 ≠ q.2 := fun z => h (Prod.ext h1 z)
      simp only [beq_eq_false_iff_ne, ne_eq]
      exact fun z => h2 (sideI_inj z)
    · left
      simp only [beq_eq_false_iff_ne, ne_eq]
      omega
theorem pn_find {p : Pn} : ∀ {ps : List Pn}, p ∈ ps → ∃ m, findD (pnD p) (ps.map pnD) = some m ∧ ps.eraseIdx m = ps.erase p := by
  intro ps
  induction ps with
  | nil => intro h; cases h
  | cons q r ih =>
    intro h
    unfold findD
    rw [List.map_cons, List.findIdx?_cons, pn_eq]
    by_cases e : q = p
    · refine ⟨0, by simp [e], ?_⟩
      rw [e]
      simp
    · obtain ⟨m, h1, h2⟩ := ih ((List.mem_cons.mp h).resolve_left (fun z => e z.symm))
      unfold findD at h1
      refine ⟨m + 1, by simp [e, h1], ?_⟩
      rw [List.eraseIdx_cons_succ, h2, List.erase_cons_tail (by simpa using e)]
theorem erase_map {α : Type} {f : α → D} : ∀ (xs : List α) (m : Nat), (xs.eraseIdx m).map f = (xs.map f).eraseIdx m
  | [], m => by simp
  | x :: r, 0 => by simp
  | x :: r, m + 1 => by simp [erase_map r m]
theorem pn_ok (n : Nat) : ∀ ps : List Pn, okDs (n + 1) (ps.map pnD) = true
  | [] => by simp only [List.map_nil, okDs]
  | p :: r => by
    simp only [List.map_cons, okDs, pnD, okD, Bool.true_and]
    exact pn_ok n r
theorem pn_below (n : Nat) : ∀ ps : List Pn, belows n (ps.map pnD) = true
  | [] => rfl
  | p :: r => by
    simp only [List.map_cons, belows, below, pnD, Bool.true_and]
    exact pn_below n r
theorem pn_pair : ∀ ps : List Pn, (ps.map pnD).all isPairB = true
  | [] => rfl
  | p :: r => by
    simp only [List.map_cons, List.all_cons, Bool.and_eq_true]
    exact ⟨rfl, pn_pair r⟩
theorem perm_map {α : Type} {f : α → D} {ps : List α} : ∀ {es : List D}, es.Perm (ps.map f) → ∃ qs : List α, es = qs.map f ∧ qs.Perm ps := by
  intro es h
  obtain ⟨qs, h1, h2⟩ : ∃ qs : List α, qs.Perm ps ∧ es = qs.map f := by
    generalize hx : ps.map f = xs at h
    induction h generalizing ps with
    | nil =>
      have : ps = [] := List.map_eq_nil_iff.mp hx
      exact ⟨[], by rw [this], rfl⟩
    | cons x p ih =>
      cases ps with
      | nil => cases hx
      | cons a r =>
        cases hx
        obtain ⟨qs, q1, q2⟩ := ih rfl
        exact ⟨a :: qs, q1.cons a, by rw [q2, List.map_cons]⟩
    | swap x y l =>
      match ps, hx with
      | a :: b :: r, hx =>
        cases hx
        exact ⟨b :: a :: r, .swap _ _ _, rfl⟩
    | trans p q ih1 ih2 =>
      obtain ⟨qs, q1, q2⟩ := ih2 hx
      obtain ⟨rs, r1, r2⟩ := ih1 q2.symm
      exact ⟨rs, r1.trans q1, r2⟩
  exact ⟨qs, h2, h1⟩
/-! a def's own lists behind the caller's -/
theorem sa_get {A L : Sto} {l a : Nat} (e : A.length = l) : (A ++ L)[l + a]? = L[a]? := by
  rw [List.getElem?_append_right (by omega)]
  congr 1
  omega
theorem sa_set {A L : Sto} {l a : Nat} {x : List D} (e : A.length = l) : (A ++ L).set (l + a) x = A ++ L.set a x := by
  rw [List.set_append_right _ _ (by omega)]
  congr 2
  omega
theorem sa_seti {A L : Sto} {l i : Nat} {x : List D} (e : A.length = l) (h : i < l) : (A ++ L).set i x = A.set i x ++ L := List.set_append_left _ _ (by omega)
theorem go_from {src : List (Nat × List D)} {g : DG} {b : DS} {kk : DL.Env → Sto → Prop} {rt : DK} (a n : Nat) (I : Nat → DL.Env → Sto → Prop)
    (step : ∀ j env st (nx : DL.Env → Sto → Prop), j < n → I j env st → (∀ e s, I (j + 1) e s → nx e s) → SrcOk src st ∧ g (.int ((a + j : Nat) : Int)) env st fun e s => b ⟨nx, rt⟩ e s)
    (done : ∀ env st, I n env st → SrcOk src st ∧ kk env st) (env : DL.Env) (st : Sto) (h : I 0 env st) : goFor src g b ⟨kk, rt⟩ (rangeD (a : Int) n) env st := by
  have e : rangeD (a : Int) n = (List.range n).map fun i => D.int ((a + i : Nat) : Int) := by
    unfold rangeD
    refine List.map_congr_left fun x _ => ?_
    rw [Int.natCast_add]
  rw [e]
  refine go_for (fun i : Nat => D.int ((a + i : Nat) : Int)) (fun r env st => ∃ j, r = (List.range n).drop j ∧ j ≤ n ∧ I j env st) ?_ ?_ _ env st ⟨0, rfl, Nat.zero_le _, h⟩
  · rintro x r env st nx ⟨j, hr, hj, hI⟩ q
    have lt : j < n := by
      apply Nat.lt_of_not_le
      intro z
      rw [List.drop_eq_nil_of_le (by rw [List.length_range]; exact z)] at hr
      cases hr
    have hd := List.drop_eq_getElem_cons (l := List.range n) (i := j) (by rw [List.length_range]; exact lt)
    rw [hd] at hr
    injection hr with h1 h2
    rw [List.getElem_range] at h1
    subst h1
    exact step x env st nx lt hI fun e s hi => q e s ⟨x + 1, h2, lt, hi⟩
  · rintro env st ⟨j, hr, hj, hI⟩
    have : j = n := by
      have := congrArg List.length hr
      rw [List.length_nil, List.length_drop, List.length_range] at this
      omega
    subst this
    exact done env st hI
theorem tabL_below (n : Nat) {f : Ld → D} (hf : ∀ v, below n (f v) = true) : ∀ ls : List (Pn × Ld), belows n (tabR pnD f ls) = true
  | [] => rfl
  | p :: r => by
    have ih := tabL_below n hf r
    unfold tabR at ih ⊢
    simp only [List.map_cons, belows, below, pnD, Bool.true_and, Bool.and_true, hf]
    exact ih
theorem atI_int {hs : List Int} {k : Nat} (h : k < hs.length) : atI (hs.map D.int) (k : Int) = some (.int (hs.getD k 0)) := by
  unfold atI
  rw [ixN_of (by omega) (by rw [List.length_map]; omega)]
  show (hs.map D.int)[(k : Int).toNat]? = _
  rw [Int.toNat_natCast, List.getElem?_map, List.getElem?_eq_getElem h, List.getD_eq_getElem?_getD, List.getElem?_eq_getElem h]
  rfl
theorem atI_map {α : Type} {f : α → D} {xs : List α} {r : Int} (h0 : 0 ≤ r) (h1 : r < xs.length) : ∃ x ∈ xs, atI (xs.map f) r = some (f x) := by
  refine ⟨xs[r.toNat]'(by omega), List.getElem_mem _, ?_⟩
  unfold atI
  rw [ixN_of h0 (by rw [List.length_map]; exact h1)]
  show (xs.map f)[r.toNat]? = _
  rw [List.getElem?_map, List.getElem?_eq_getElem (by omega)]
  rfl
theorem ld_below (n : Nat) (v : Ld) : below n v.d = true := by cases v <;> rfl
theorem Tp.left {i n : Nat} {A L : Sto} (h : Tp i n (A ++ L)) (l : i < A.length) : Tp i n A := by
  obtain ⟨xs, e, t⟩ := h
  rw [List.getElem?_append_left l] at e
  exact ⟨xs, e, t⟩
theorem frz_tapeN {st st2 : Sto} {i n : Nat} {d : D} {loc : List (List D)} {ys : List D} {kk : DK} (e : st2 = st.set i ys) (ht : Tp i n st2) (hb : ∀ c ∈ loc, belows 0 c = true) (h : kk (frzs st.length loc d) st2) : Frz st d (st2 ++ loc) kk := by
  refine ⟨st2, loc, rfl, by rw [e, List.length_set], fun j xs hj => ?_, safe_closed _ _ hb, h⟩
  by_cases z : j = i
  · subst z
    obtain ⟨zs, e1, x, y, w, rfl, _⟩ := ht
    rw [e1] at hj
    cases hj
    exact .inr rfl
  · rw [e, List.getElem?_set_ne (fun y => z y.symm)] at hj
    exact .inl hj
theorem putL_len_in {κ α : Type} [DecidableEq κ] {ks : List (κ × α)} {k : κ} {a : α} (h : (look ks k).isSome = true) : (putL ks k a).length = ks.length := by
  unfold putL
  rw [if_pos h, List.length_map]
theorem enum_nat : ∀ (xs : List Nat) (j : Nat), enumD j (xs.map fun k => D.int (k : Nat)) = (xs.zipIdx j).map fun p => D.tup [.int (p.2 : Nat), .int (p.1 : Nat)]
  | [], j => rfl
  | x :: r, j => by simp only [List.map_cons, enumD, List.zipIdx_cons, enum_nat r (j + 1)]
theorem merge_tab {κ α : Type} [DecidableEq κ] {t : Bool} {e : κ → D} {f : α → D} (h : KeyE t e) : ∀ (kvs acc : List (κ × α)), mergeR t (tabR e f acc) (kvs.map fun p => (e p.1, f p.2)) = tabR e f (kvs.foldl (fun r p => putL r p.1 p.2) acc)
  | [], acc => rfl
  | p :: r, acc => by
    have ih := merge_tab (f := f) h r (putL acc p.1 p.2)
    unfold mergeR at ih ⊢
    rw [List.map_cons, List.foldl_cons, List.foldl_cons, putR_tab h]
    exact ih
theorem fold_new {κ α : Type} [DecidableEq κ] : ∀ (kvs acc : List (κ × α)), (acc.map (·.1) ++ kvs.map (·.1)).Nodup → kvs.foldl (fun r p => putL r p.1 p.2) acc = acc ++ kvs
  | [], acc, _ => by simp
  | p :: r, acc, nd => by
    have hn : look acc p.1 = none := look_none.mpr fun z => by
      rw [List.nodup_append] at nd
      exact nd.2.2 p.1 z p.1 (by simp) rfl
    rw [List.foldl_cons, putL_new hn, fold_new r (acc ++ [(p.1, p.2)]) (by rw [List.map_append]; simpa [List.append_assoc] using nd)]
    simp
def numT (xs : List Nat) : List (Ld × Nat) := (xs.zipIdx 0).map fun p => (Ld.bal p.1, p.2)
theorem numT_keys (xs : List Nat) : (numT xs).map (·.1) = xs.map Ld.bal := by
  unfold numT
  rw [List.map_map]
  have : ∀ (xs : List Nat) (j : Nat), (xs.zipIdx j).map (Prod.fst ∘ fun p => (Ld.bal p.1, p.2)) = xs.map Ld.bal := by
    intro xs
    induction xs with
    | nil => intro j; rfl
    | cons x r ih => intro j; rw [List.zipIdx_cons, List.map_cons, List.map_cons, ih]; rfl
  exact this xs 0
theorem numT_nd {xs : List Nat} (h : xs.Nodup) : ((numT xs).map (·.1)).Nodup := by
  rw [numT_keys]
  unfold List.Nodup
  rw [List.pairwise_map]
  exact h.imp fun z e => z (by cases e; rfl)
theorem numT_bal {xs : List Nat} (h : xs.Nodup) {k : Nat} (hk : k ∈ xs) : look (numT xs) (.bal k) = some (xs.idxOf k) := by
  refine look_of_mem (numT_nd h) (p := (Ld.bal k, xs.idxOf k)) ?_
  unfold numT
  refine List.mem_map.mpr ⟨(k, xs.idxOf k), ?_, rfl⟩
  rw [List.mem_zipIdx_iff_getElem?]
  exact (List.getElem?_eq_getElem (List.idxOf_lt_length_iff.mpr hk)).trans (by rw [List.getElem_idxOf])
theorem numT_out {xs : List Nat} {cs : List Nat} : look (numT xs) (.out cs) = none := by
  rw [look_none, numT_keys]
  intro z
  obtain ⟨_, _, e⟩ := List.mem_map.mp z
  cases e
theorem pairs_numT (xs : List Nat) (j : Nat) : DL.pairsOf ((xs.zipIdx j).map fun p => D.tup [.int (p.1 : Nat), .int (p.2 : Nat)]) = some ((xs.zipIdx j).map fun p => (D.int (p.1 : Nat), D.int (p.2 : Nat))) := by
  induction xs generalizing j with
  | nil => rfl
  | cons x r ih => rw [List.zipIdx_cons, List.map_cons, List.map_cons, DL.pairsOf, ih]; rfl
/-! how a net is made -/
structure G1 (high : Int) (size j : Nat) (ps : List Pn) (hs : List Int) (ls : List (Pn × Ld)) (ks : List Nat) : Prop where
  vals : ls.map (·.2) = ks.map Ld.bal
  inc : (0 :: ks).Pairwise (· < ·)
  lt : ∀ k ∈ 0 :: ks, k < j
  nd : ps.Nodup
  kd : (ls.map (·.1)).Nodup
  pan : ∀ p : Pn, p ∈ ps ↔ p.1 ∈ 0 :: ks ∧ p ∉ ls.map (·.1)
  ed : ∀ p k, (p, Ld.bal k) ∈ ls → p.1 ∈ 0 :: ks ∧ p.1 < k ∧ hs.getD k 0 = hs.getD p.1 0 + 1
  hl : hs.length = size
  hh : ∀ k ∈ 0 :: ks, 0 ≤ hs.getD k 0 ∧ hs.getD k 0 < high
  len : ks.length < j
  h0 : hs.getD 0 0 = 0
  js : j ≤ size
  pl : ps.length ≤ j + 1
theorem G1.start {high : Int} {size : Nat} (h1 : 1 ≤ high) (hs : 1 ≤ size) : G1 high size 1 [(0, false), (0, true)] (List.replicate size 0) [] [] where
  vals := rfl
  inc := by simp
  lt := by simp
  nd := by decide
  kd := by simp
  pan := fun p => by
    obtain ⟨k, b⟩ := p
    cases b <;> simp
  ed := fun p k h => by cases h
  hl := by simp
  hh := fun k hk => by
    have : k = 0 := by simpa using hk
    subst this
    rw [List.getD_eq_getElem?_getD, List.getElem?_replicate]
    split <;> exact ⟨Int.le_refl 0, by show (0 : Int) < high; omega⟩
  len := by simp
  h0 := by
    rw [List.getD_eq_getElem?_getD, List.getElem?_replicate]
    split <;> rfl
  js := hs
  pl := by decide
theorem G1.skip {high : Int} {size j : Nat} {ps : List Pn} {hs : List Int} {ls : List (Pn × Ld)} {ks : List Nat} (h : G1 high size j ps hs ls ks) (q : j < size) : G1 high size (j + 1) ps hs ls ks :=
  { h with lt := fun k hk => by have := h.lt k hk; omega, len := by have := h.len; omega, js := q, pl := by have := h.pl; omega }
theorem getD_set_ne {hs : List Int} {j k : Nat} {x : Int} (h : j ≠ k) : (hs.set j x).getD k 0 = hs.getD k 0 := by
  rw [List.getD_eq_getElem?_getD, List.getD_eq_getElem?_getD, List.getElem?_set_ne h]
theorem getD_set_eq {hs : List Int} {j : Nat} {x : Int} (h : j < hs.length) : (hs.set j x).getD j 0 = x := by
  rw [List.getD_eq_getElem?_getD, List.getElem?_set_self h]
  rfl
theorem G1.put {high : Int} {size j : Nat} {ps : List Pn} {hs : List Int} {ls : List (Pn × Ld)} {ks : List Nat} (h : G1 high size j ps hs ls ks) (q : j < size) {p : Pn} (hp : p ∈ ps) (hf : hs.getD p.1 0 + 1 < high) :
    G1 high size (j + 1) (ps.erase p ++ [(j, false), (j, true)]) (hs.set j (hs.getD p.1 0 + 1)) (ls ++ [(p, .bal j)]) (ks ++ [j]) ∧ look ls p = none := by
  have p0 := (h.pan p).mp hp
  have hpj := h.lt p.1 p0.1
  have jn : j ∉ 0 :: ks := fun z => by have := h.lt j z; omega
  have mem : ∀ k, k ∈ 0 :: (ks ++ [j]) ↔ k ∈ 0 :: ks ∨ k = j := fun k => by
    rw [← List.cons_append, List.mem_append, List.mem_singleton]
  have j1 : 1 ≤ j := by have := h.lt 0 List.mem_cons_self; omega
  have pl : (ps.erase p ++ [(j, false), (j, true)]).length ≤ j + 1 + 1 := by
    rw [List.length_append, List.length_erase_of_mem hp]
    have := h.pl
    have := List.length_pos_of_mem hp
    simp only [List.length_cons, List.length_nil]
    omega
  refine ⟨⟨?_, ?_, ?_, ?_, ?_, ?_, ?_, ?_, ?_, ?_, ?_, q, pl⟩, look_none.mpr p0.2⟩
  · rw [List.map_append, List.map_append, h.vals]; rfl
  · rw [← List.cons_append, List.pairwise_append]
    exact ⟨h.inc, by simp, fun a ha b hb => by rw [List.mem_singleton.mp hb]; exact h.lt a ha⟩
  · intro k hk
    rcases (mem k).mp hk with z | z
    · have := h.lt k z; omega
    · omega
  · have h1 : (ps.erase p).Nodup := h.nd.erase p
    rw [List.nodup_append]
    refine ⟨h1, by simp, fun a ha b hb e => ?_⟩
    have h2 := (h.pan a).mp (List.mem_of_mem_erase ha)
    have h3 : b.1 = j := by
      rcases List.mem_cons.mp hb with z | z
      · rw [z]
      · rw [List.mem_singleton.mp z]
    rw [e, h3] at h2
    exact jn h2.1
  · rw [List.map_append, List.nodup_append]
    refine ⟨h.kd, by simp, fun a ha b hb e => ?_⟩
    have : b = p := by simpa using hb
    rw [e, this] at ha
    exact p0.2 ha
  · intro x
    rw [List.mem_append, h.nd.mem_erase_iff, h.pan x, mem, List.map_append, List.mem_append]
    obtain ⟨a, b⟩ := x
    have hj : (a, b) ∈ [(j, false), (j, true)] ↔ a = j := by
      cases b <;> simp
    rw [hj]
    have h4 : (a, b) ∈ [(p, Ld.bal j)].map (·.1) ↔ (a, b) = p := by simp
    rw [h4]
    constructor
    · rintro (⟨h1, h2, h3⟩ | h1)
      · exact ⟨.inl h2, fun z => z.elim h3 h1⟩
      · refine ⟨.inr h1, fun z => ?_⟩
        rcases z with z | z
        · obtain ⟨⟨p', v⟩, m, e⟩ := List.mem_map.mp z
          have hv : v ∈ ls.map (·.2) := List.mem_map.mpr ⟨_, m, rfl⟩
          rw [h.vals] at hv
          obtain ⟨k, hk, rfl⟩ := List.mem_map.mp hv
          have := (h.ed p' k m).1
          have e' : p' = (a, b) := e
          rw [e'] at this
          exact jn (h1 ▸ this)
        · rw [← z] at hpj
          exact absurd hpj (by rw [h1]; omega)
    · rintro ⟨h1 | h1, h2⟩
      · exact .inl ⟨fun z => h2 (.inr z), h1, fun z => h2 (.inl z)⟩
      · exact .inr h1
  · intro x k hm
    rcases List.mem_append.mp hm with z | z
    · obtain ⟨h1, h2, h3⟩ := h.ed x k z
      have hv : Ld.bal k ∈ ls.map (·.2) := List.mem_map.mpr ⟨_, z, rfl⟩
      rw [h.vals] at hv
      obtain ⟨k', hk, e⟩ := List.mem_map.mp hv
      cases e
      have hk' := h.lt k (List.mem_cons_of_mem _ hk)
      have hx' := h.lt x.1 h1
      refine ⟨(mem _).mpr (.inl h1), h2, ?_⟩
      rw [getD_set_ne (by omega), getD_set_ne (by omega)]
      exact h3
    · have e := List.mem_singleton.mp z
      cases e
      refine ⟨(mem _).mpr (.inl p0.1), hpj, ?_⟩
      rw [getD_set_eq (by rw [h.hl]; exact q), getD_set_ne (by omega)]
  · rw [List.length_set]; exact h.hl
  · intro k hk
    rcases (mem k).mp hk with z | z
    · have := h.lt k z
      rw [getD_set_ne (by omega)]
      exact h.hh k z
    · rw [z, getD_set_eq (by rw [h.hl]; exact q)]
      have := (h.hh p.1 p0.1).1
      omega
  · rw [List.length_append, List.length_singleton]
    have := h.len
    omega
  · rw [getD_set_ne (by omega)]
    exact h.h0
/-- a lead that pan p may get in the end -/
def Good (names : List (List Nat)) (tog : Bool) (hs : List Int) (there : List Nat) (p : Pn) (v : Ld) : Prop :=
  (∃ cs ∈ names, v = .out cs) ∨ tog = true ∧ ∃ k ∈ there, v = .bal k ∧ p.1 < k ∧ hs.getD p.1 0 < hs.getD k 0
/-- what is told: each lead by the place of its balance -/
def numL (there : List Nat) : Ld → Ld
  | .bal k => .bal (there.idxOf k)
  | .out cs => .out cs
def webOf (there : List Nat) (look2 : Pn → Option Ld) : Web := there.map fun k => (numL there ((look2 (k, false)).getD (.bal 0)), numL there ((look2 (k, true)).getD (.bal 0)))
theorem idx_at {xs : List Nat} (h : xs.Pairwise (· < ·)) {i : Nat} (hi : i < xs.length) : xs.idxOf xs[i] = i := by
  have m := List.getElem_mem hi
  have l := List.idxOf_lt_length_iff.mpr m
  have e : xs[xs.idxOf xs[i]] = xs[i] := List.getElem_idxOf l
  rcases Nat.lt_trichotomy (xs.idxOf xs[i]) i with z | z | z
  · have := List.pairwise_iff_getElem.mp h _ _ l hi z
    omega
  · exact z
  · have := List.pairwise_iff_getElem.mp h _ _ hi l z
    omega
theorem web_ok {names : List (List Nat)} {most high : Nat} {tog : Bool} {size j : Nat} {ps : List Pn} {hs : List Int} {ls : List (Pn × Ld)} {ks : List Nat} (h : G1 (high : Int) size j ps hs ls ks) (hm : size ≤ most) {look2 : Pn → Option Ld}
    (g1 : ∀ p ∈ ps, ∃ v, look2 p = some v ∧ Good names tog hs (0 :: ks) p v) (g2 : ∀ p ∉ ps, look2 p = look ls p) : WebOk names most high tog (webOf (0 :: ks) look2) := by
  have nd : (0 :: ks).Nodup := h.inc.imp fun z => by omega
  have len : (webOf (0 :: ks) look2).length = (0 :: ks).length := List.length_map _
  -- each pan of a balance leads somewhere
  have every : ∀ k ∈ 0 :: ks, ∀ s, ∃ v, look2 (k, s) = some v ∧ ((Good names tog hs (0 :: ks) (k, s) v) ∨ ((k, s), v) ∈ ls) := by
    intro k hk s
    by_cases q : (k, s) ∈ ps
    · obtain ⟨v, e1, e2⟩ := g1 _ q
      exact ⟨v, e1, .inl e2⟩
    · have : (k, s) ∈ ls.map (·.1) := by
        apply Classical.byContradiction
        intro z
        exact q ((h.pan _).mpr ⟨hk, z⟩)
      obtain ⟨⟨p, v⟩, m, e⟩ := List.mem_map.mp this
      have e' : p = (k, s) := e
      subst e'
      exact ⟨v, (g2 _ q).trans (look_of_mem h.kd m), .inr m⟩
  have lead : ∀ k s v, leadW (webOf (0 :: ks) look2) k s = some v ↔ ∃ (hk : k < (0 :: ks).length), v = numL (0 :: ks) ((look2 ((0 :: ks)[k], s)).getD (.bal 0)) := by
    intro k s v
    unfold leadW webOf
    rw [List.getElem?_map]
    by_cases hk : k < (0 :: ks).length
    · rw [List.getElem?_eq_getElem hk]
      simp only [Option.map_some, Option.some.injEq]
      constructor
      · intro e
        refine ⟨hk, ?_⟩
        rw [← e]
        cases s <;> rfl
      · rintro ⟨_, e⟩
        rw [e]
        cases s <;> rfl
    · rw [List.getElem?_eq_none (by omega)]
      simp only [Option.map_none, reduceCtorEq, false_iff]
      rintro ⟨hk', _⟩
      exact hk hk'
  have kin : ∀ {p : Pn} {v : Ld}, (p, v) ∈ ls → ∃ k ∈ ks, v = .bal k := by
    intro p v m
    have hv : v ∈ ls.map (·.2) := List.mem_map.mpr ⟨_, m, rfl⟩
    rw [h.vals] at hv
    obtain ⟨k, hk, rfl⟩ := List.mem_map.mp hv
    exact ⟨k, hk, rfl⟩
  -- a lead to a balance
  have toB : ∀ k s j, leadW (webOf (0 :: ks) look2) k s = some (.bal j) → ∃ (hk : k < (0 :: ks).length) (hj : j < (0 :: ks).length), look2 ((0 :: ks)[k], s) = some (.bal (0 :: ks)[j]) ∧ (0 :: ks)[k] < (0 :: ks)[j] ∧ hs.getD (0 :: ks)[k] 0 < hs.getD (0 :: ks)[j] 0 ∧
      (tog = false → (((0 :: ks)[k], s), Ld.bal (0 :: ks)[j]) ∈ ls) := by
    intro k s j e
    obtain ⟨hk, e⟩ := (lead _ _ _).mp e
    obtain ⟨v, e1, e2⟩ := every _ (List.getElem_mem hk) s
    rw [e1, Option.getD_some] at e
    cases v with
    | out cs => cases e
    | bal b =>
      injection e with e
      have main : b ∈ 0 :: ks ∧ (0 :: ks)[k] < b ∧ hs.getD (0 :: ks)[k] 0 < hs.getD b 0 ∧ (tog = false → (((0 :: ks)[k], s), Ld.bal b) ∈ ls) := by
        rcases e2 with (⟨cs, _, z⟩ | ⟨ht, b', hb, z, l1, l2⟩) | m
        · cases z
        · cases z
          exact ⟨hb, l1, l2, fun f => by rw [ht] at f; cases f⟩
        · obtain ⟨b', hb, z⟩ := kin m
          cases z
          obtain ⟨_, l1, l2⟩ := h.ed _ _ m
          exact ⟨List.mem_cons_of_mem _ hb, l1, by rw [l2]; exact Int.lt_succ _, fun _ => m⟩
      have lj := List.idxOf_lt_length_iff.mpr main.1
      have ej : (0 :: ks)[(0 :: ks).idxOf b] = b := List.getElem_idxOf lj
      subst e
      refine ⟨hk, lj, ?_, ?_, ?_, ?_⟩
      · rw [ej]; exact e1
      · rw [ej]; exact main.2.1
      · rw [ej]; exact main.2.2.1
      · rw [ej]; exact main.2.2.2
  refine ⟨by rw [len]; simp, ?_, ?_, ?_, ?_, ?_, ?_⟩
  · rw [len, List.length_cons]
    have := h.len
    have := h.js
    omega
  · intro k s cs e
    obtain ⟨hk, e⟩ := (lead _ _ _).mp e
    obtain ⟨v, e1, e2⟩ := every _ (List.getElem_mem hk) s
    rw [e1, Option.getD_some] at e
    cases v with
    | bal b => cases e
    | out c =>
      cases e
      rcases e2 with (⟨cs, hc, z⟩ | ⟨ht, b', hb, z, l1, l2⟩) | m
      · cases z
        exact hc
      · cases z
      · obtain ⟨b', hb, z⟩ := kin m
        cases z
  · intro k s j e
    obtain ⟨hk, hj, _, l, _⟩ := toB k s j e
    refine ⟨?_, by rw [len]; exact hj⟩
    apply Nat.lt_of_not_le
    intro z
    rcases Nat.lt_or_eq_of_le z with z | z
    · have := List.pairwise_iff_getElem.mp h.inc _ _ hj hk z
      omega
    · subst z
      omega
  · intro j j1 jl
    rw [len] at jl
    have hb : (0 :: ks)[j] ∈ ks := by
      obtain ⟨i, rfl⟩ : ∃ i, j = i + 1 := ⟨j - 1, by omega⟩
      rw [List.getElem_cons_succ]
      exact List.getElem_mem _
    have hv : Ld.bal (0 :: ks)[j] ∈ ls.map (·.2) := by rw [h.vals]; exact List.mem_map.mpr ⟨_, hb, rfl⟩
    obtain ⟨⟨p, v⟩, m, e⟩ := List.mem_map.mp hv
    have e' : v = Ld.bal (0 :: ks)[j] := e
    subst e'
    obtain ⟨p1, _, _⟩ := h.ed _ _ m
    have pn : p ∉ ps := fun z => ((h.pan p).mp z).2 (List.mem_map.mpr ⟨_, m, rfl⟩)
    have lp := List.idxOf_lt_length_iff.mpr p1
    refine ⟨(0 :: ks).idxOf p.1, p.2, (lead _ _ _).mpr ⟨lp, ?_⟩⟩
    rw [show ((0 :: ks)[(0 :: ks).idxOf p.1], p.2) = p by rw [List.getElem_idxOf lp], g2 p pn, look_of_mem h.kd m, Option.getD_some]
    show Ld.bal j = .bal ((0 :: ks).idxOf (0 :: ks)[j])
    rw [idx_at h.inc jl]
  · refine ⟨fun k => hs.getD ((0 :: ks).getD k 0) 0, h.h0, fun k hk => ?_, fun k s j e => ?_⟩
    · rw [len] at hk
      have : (0 :: ks).getD k 0 = (0 :: ks)[k] := by rw [List.getD_eq_getElem?_getD, List.getElem?_eq_getElem hk]; rfl
      show 0 ≤ hs.getD ((0 :: ks).getD k 0) 0 ∧ hs.getD ((0 :: ks).getD k 0) 0 < _
      rw [this]
      exact h.hh _ (List.getElem_mem hk)
    · obtain ⟨hk, hj, _, _, l, _⟩ := toB k s j e
      have ek : (0 :: ks).getD k 0 = (0 :: ks)[k] := by rw [List.getD_eq_getElem?_getD, List.getElem?_eq_getElem hk]; rfl
      have ej : (0 :: ks).getD j 0 = (0 :: ks)[j] := by rw [List.getD_eq_getElem?_getD, List.getElem?_eq_getElem hj]; rfl
      show hs.getD ((0 :: ks).getD k 0) 0 < hs.getD ((0 :: ks).getD j 0) 0
      rw [ek, ej]
      exact l
  · intro ht k s k' s' j e e'
    obtain ⟨hk, hj, _, _, _, m⟩ := toB k s j e
    obtain ⟨hk', _, _, _, _, m'⟩ := toB k' s' j e'
    have m := m ht
    have m' := m' ht
    -- one value, one key
    have nv : (ls.map (·.2)).Nodup := by
      rw [h.vals]
      unfold List.Nodup
      rw [List.pairwise_map]
      exact h.inc.of_cons.imp fun z e => by injection e with e; omega
    have same : ∀ {xs : List (Pn × Ld)} {p q : Pn} {v : Ld}, (xs.map (·.2)).Nodup → (p, v) ∈ xs → (q, v) ∈ xs → p = q := by
      intro xs p q v
      induction xs with
      | nil => intro _ h; cases h
      | cons x r ih =>
        intro nd h1 h2
        rw [List.map_cons, List.nodup_cons] at nd
        rcases List.mem_cons.mp h1 with e1 | e1
        · rcases List.mem_cons.mp h2 with e2 | e2
          · rw [← e1] at e2
            cases e2
            rfl
          · subst e1
            exact absurd (List.mem_map.mpr ⟨_, e2, rfl⟩) nd.1
        · rcases List.mem_cons.mp h2 with e2 | e2
          · subst e2
            exact absurd (List.mem_map.mpr ⟨_, e1, rfl⟩) nd.1
          · exact ih nd.2 e1 e2
    have e := same nv m m'
    injection e with e1 e2
    refine ⟨?_, e2⟩
    have i1 := idx_at h.inc hk
    have i2 := idx_at h.inc hk'
    rw [← i1, ← i2, e1]
/-! ### grains through a net -/
def sideS (b : Bool) : Str := if b = true then "right" else "left"
theorem sd_side {s : Int} (h : s % 2 = 1) : sd s = sideS (decide (0 < s)) := by
  unfold sd sideS
  by_cases z : 0 < s
  · rw [decide_eq_true z]
    show (if s < 0 then _ else _) = _
    rw [if_neg (by omega)]
    rfl
  · rw [decide_eq_false z, if_neg Bool.false_ne_true, if_pos (by omega)]
def panS (p : Pn) : D := .tup [.int (p.1 : Nat), .str (sideS p.2)]
def leadN (w : Web) (k : Nat) (s : Bool) : Ld := (leadW w k s).getD (.out [])
/-- a grain's pans from balance k on, where it goes out, what it leaves -/
def wayF (w : Web) (g : Int) : Nat → Nat → List Int → List Pn × List Nat × List Int
  | 0, _, row => ([], [], row)
  | f + 1, k, row =>
    match leadN w k (decide (0 < row.getD k 0)) with
    | .bal j => let r := wayF w g f j (row.set k (fallI (row.getD k 0) g)); ((k, decide (0 < row.getD k 0)) :: r.1, r.2)
    | .out cs => ([(k, decide (0 < row.getD k 0))], cs, row.set k (fallI (row.getD k 0) g))
def way (w : Web) (g : Int) (k : Nat) (row : List Int) : List Pn × List Nat × List Int := wayF w g (w.length - k) k row
/-- leads of a net: further on, or out -/
def Fwd (w : Web) : Prop := ∀ k s j, leadW w k s = some (.bal j) → k < j ∧ j < w.length
structure Nt (w : Web) : Prop where
  fwd : Fwd w
  one : 1 ≤ w.length
  few : w.length ≤ 1000
theorem WebOk.nt {names : List (List Nat)} {most high : Nat} {tog : Bool} {w : Web} (h : WebOk names most high tog w) (hm : most ≤ 1000) : Nt w := ⟨h.bal, h.one, Nat.le_trans h.len hm⟩
theorem leadW_some {w : Web} {k : Nat} (h : k < w.length) (s : Bool) : leadW w k s = some (leadN w k s) := by
  unfold leadN leadW
  rw [List.getElem?_eq_getElem h]
  rfl
theorem wayF_fuel {w : Web} (hw : Fwd w) (g : Int) : ∀ (f f' k : Nat) (row : List Int), k < w.length → w.length - k ≤ f → w.length - k ≤ f' → wayF w g f k row = wayF w g f' k row
  | 0, _, k, row, h, l, _ => by omega
  | _, 0, k, row, h, _, l => by omega
  | f + 1, f' + 1, k, row, h, l, l' => by
    unfold wayF
    have e := leadW_some h (decide (0 < row.getD k 0))
    cases hl : leadN w k (decide (0 < row.getD k 0)) with
    | out cs => rfl
    | bal j =>
      rw [hl] at e
      obtain ⟨h1, h2⟩ := hw _ _ _ e
      simp only
      rw [wayF_fuel hw g f f' j _ h2 (by omega) (by omega)]
theorem way_bal {w : Web} (hw : Fwd w) {g : Int} {k j : Nat} {row : List Int} (h : k < w.length) (e : leadN w k (decide (0 < row.getD k 0)) = .bal j) :
    way w g k row = ((k, decide (0 < row.getD k 0)) :: (way w g j (row.set k (fallI (row.getD k 0) g))).1, (way w g j (row.set k (fallI (row.getD k 0) g))).2) := by
  have e' := leadW_some h (decide (0 < row.getD k 0))
  rw [e] at e'
  obtain ⟨h1, h2⟩ := hw _ _ _ e'
  unfold way
  obtain ⟨f, hf⟩ : ∃ f, w.length - k = f + 1 := ⟨w.length - k - 1, by omega⟩
  rw [hf]
  conv => lhs; unfold wayF
  rw [e]
  simp only
  rw [wayF_fuel hw g f (w.length - j) j _ h2 (by omega) (by omega)]
theorem way_out {w : Web} {g : Int} {k : Nat} {cs : List Nat} {row : List Int} (h : k < w.length) (e : leadN w k (decide (0 < row.getD k 0)) = .out cs) :
    way w g k row = ([(k, decide (0 < row.getD k 0))], cs, row.set k (fallI (row.getD k 0) g)) := by
  unfold way
  obtain ⟨f, hf⟩ : ∃ f, w.length - k = f + 1 := ⟨w.length - k - 1, by omega⟩
  rw [hf]
  conv => lhs; unfold wayF
  rw [e]
/-- a standing of a net -/
structure Lies (w : Web) (row : List Int) : Prop where
  len : row.length = w.length
  odd : ∀ x ∈ row, x % 2 = 1
theorem Lies.at {w : Web} {row : List Int} (h : Lies w row) {k : Nat} (hk : k < w.length) : row.getD k 0 % 2 = 1 := by
  have : k < row.length := by rw [h.len]; exact hk
  rw [List.getD_eq_getElem?_getD, List.getElem?_eq_getElem this]
  exact h.odd _ (List.getElem_mem this)
theorem Lies.set {w : Web} {row : List Int} (h : Lies w row) {k : Nat} {x : Int} (hx : x % 2 = 1) : Lies w (row.set k x) where
  len := by rw [List.length_set]; exact h.len
  odd := fun y hy => by
    rcases List.mem_or_eq_of_mem_set hy with z | z
    · exact h.odd y z
    · rw [z]; exact hx
theorem odd_fall2 {s g : Int} (h : s % 2 = 1) : fallI s g % 2 = 1 := by unfold fallI; split <;> omega
theorem Lies.fall {w : Web} {row : List Int} (h : Lies w row) {k : Nat} (hk : k < w.length) (g : Int) : Lies w (row.set k (fallI (row.getD k 0) g)) := h.set (odd_fall2 (h.at hk))
/-- what holds behind a way: the standing stays one, the exit is an exit's name, the pans rise -/
theorem way_ok {w : Web} (hw : Fwd w) (g : Int) : ∀ (m k : Nat) (row : List Int), w.length - k = m → k < w.length → Lies w row →
    Lies w (way w g k row).2.2 ∧ (∃ j s, leadW w j s = some (.out (way w g k row).2.1)) ∧ (∀ p ∈ (way w g k row).1, k ≤ p.1 ∧ p.1 < w.length) ∧ ((way w g k row).1.map (·.1)).Pairwise (· < ·) := by
  intro m
  induction m using Nat.strongRecOn with
  | _ m ih =>
    intro k row hm hk hl
    have e := leadW_some hk (decide (0 < row.getD k 0))
    cases hd : leadN w k (decide (0 < row.getD k 0)) with
    | out cs =>
      rw [way_out hk hd]
      rw [hd] at e
      refine ⟨hl.fall hk g, ⟨k, _, e⟩, fun p hp => ?_, by simp⟩
      rw [List.mem_singleton.mp hp]
      exact ⟨Nat.le_refl _, hk⟩
    | bal j =>
      rw [hd] at e
      obtain ⟨h1, h2⟩ := hw _ _ _ e
      obtain ⟨i1, i2, i3, i4⟩ := ih (w.length - j) (by omega) j _ rfl h2 (hl.fall hk g)
      rw [way_bal hw hk hd]
      refine ⟨i1, i2, fun p hp => ?_, ?_⟩
      · rcases List.mem_cons.mp hp with z | z
        · rw [z]
          exact ⟨Nat.le_refl _, hk⟩
        · have := i3 p z
          exact ⟨by omega, this.2⟩
      · rw [List.map_cons, List.pairwise_cons]
        refine ⟨fun a ha => ?_, i4⟩
        obtain ⟨p, hp, rfl⟩ := List.mem_map.mp ha
        have := (i3 p hp).1
        show k < p.1
        omega
theorem atI_some {α : Type} {f : α → D} {xs : List α} {k : Nat} {x : α} (h : xs[k]? = some x) : atI (xs.map f) (k : Int) = some (f x) := by
  unfold atI
  have hk := (List.getElem?_eq_some_iff.mp h).1
  rw [ixN_of (by omega) (by rw [List.length_map]; omega)]
  show (xs.map f)[(k : Int).toNat]? = _
  rw [Int.toNat_natCast, List.getElem?_map, h]
  rfl
theorem NameL.ok {cs : List Nat} (h : NameL cs) : PyData.strOk (S cs) = true := S_ok fun c hc => by have := h.all c hc; unfold Lt at this; omega
/-- a lead that repr may be asked of -/
def LdFine : Ld → Prop
  | .bal j => j < 1000
  | .out cs => NameL cs
def WebFine (w : Web) : Prop := ∀ p ∈ w, LdFine p.1 ∧ LdFine p.2
theorem WebOk.fine {names : List (List Nat)} {most high : Nat} {tog : Bool} {w : Web} (h : WebOk names most high tog w) (hn : ∀ z ∈ names, NameL z) (hm : most ≤ 1000) : WebFine w := by
  intro p hp
  obtain ⟨k, hk, e⟩ := List.mem_iff_getElem.mp hp
  have one : ∀ s, LdFine (Ld.of p s) := fun s => by
    have e2 : leadW w k s = some (Ld.of p s) := by
      unfold leadW
      rw [List.getElem?_eq_getElem hk, e]
      rfl
    cases hl : Ld.of p s with
    | out cs => rw [hl] at e2; exact hn cs (h.nm _ _ _ e2)
    | bal j =>
      rw [hl] at e2
      have := (h.bal _ _ _ e2).2
      have := h.len
      show j < 1000
      omega
  exact ⟨one false, one true⟩
theorem ld_okD (n : Nat) {v : Ld} (h : LdFine v) : okD n v.d = true := by
  cases v with
  | bal j => simp [Ld.d, okD]
  | out cs => simp only [Ld.d, okD]; exact NameL.ok h
theorem lds_below (n : Nat) : ∀ w : Web, belows n (w.map ldsD) = true
  | [] => rfl
  | p :: r => by simp only [List.map_cons, belows, below, ldsD, ld_below, Bool.true_and, lds_below n r]
theorem ite_go {c a b : Prop} {i : Decidable c} (h : ¬ c) (q : b) : @ite Prop c i a b := by rw [if_neg h]; exact q
theorem ite_yes {c a b : Prop} {i : Decidable c} (h : c) (q : a) : @ite Prop c i a b := by rw [if_pos h]; exact q
/-- a row of grains: where each goes out, what they leave -/
def fallsN (w : Web) : List Int → List Int → List (List Nat) × List Int
  | [], row => ([], row)
  | g :: gs, row => ((way w g 0 row).2.1 :: (fallsN w gs (way w g 0 row).2.2).1, (fallsN w gs (way w g 0 row).2.2).2)
def txD (cs : List Nat) : D := .str (S cs)
theorem txD_below (n : Nat) : ∀ xs : List (List Nat), belows n (xs.map txD) = true
  | [] => rfl
  | x :: r => by
    simp only [List.map_cons, belows, below, txD, Bool.true_and]
    exact txD_below n r
theorem Nt.way {w : Web} (nt : Nt w) {row : List Int} (hl : Lies w row) (g : Int) : Lies w (LW.way w g 0 row).2.2 := (way_ok nt.fwd g _ 0 row rfl (by have := nt.one; omega) hl).1
theorem panS_below (n : Nat) : ∀ ps : List Pn, belows n (ps.map panS) = true
  | [] => rfl
  | p :: r => by
    simp only [List.map_cons, belows, below, panS, Bool.true_and]
    exact panS_below n r
/-! ### levels of nets -/
abbrev natsD (f : List Nat) : List D := f.map fun n => D.int (n : Nat)
theorem nats_nil (n : Nat) : natsD (List.replicate n 0) = List.replicate n (D.int 0) := by simp [natsD]
theorem nats_ints (f : List Nat) : natsD f = (f.map fun n : Nat => (n : Int)).map D.int := by simp [natsD]
def Ld.tx : Ld → Option Str
  | .bal _ => none
  | .out cs => some (S cs)
/-- what one lead does to the levels -/
def levL (k : Nat) (v : Ld) (f : List Nat) : List Nat := match v with
  | .bal j => f.set j (max (f.getD j 0) (f.getD k 0 + 1))
  | .out _ => f
def levR : Nat → Web → List Nat → List Nat
  | _, [], f => f
  | k, p :: r, f => levR (k + 1) r (levL k p.2 (levL k p.1 f))
def levN (w : Web) : List Nat := levR 0 w (List.replicate w.length 0)
theorem levR_len : ∀ (k : Nat) (r : Web) (f : List Nat), (levR k r f).length = f.length
  | _, [], _ => rfl
  | k, p :: r, f => by
    have h : ∀ (v : Ld) (f : List Nat), (levL k v f).length = f.length := fun v f => by cases v <;> simp [levL]
    unfold levR
    rw [levR_len, h, h]
theorem levN_len (w : Web) : (levN w).length = w.length := by
  unfold levN
  rw [levR_len, List.length_replicate]
def topN (f : List Nat) : Nat := f.foldr max 0
theorem topN_le : ∀ {f : List Nat} {a : Nat}, a ∈ f → a ≤ topN f
  | x :: r, a, h => by
    simp only [topN, List.foldr_cons]
    rcases List.mem_cons.mp h with e | h
    · rw [e]; exact Nat.le_max_left _ _
    · exact Nat.le_trans (topN_le h) (Nat.le_max_right _ _)
theorem topN_mem : ∀ f : List Nat, topN f = 0 ∨ topN f ∈ f
  | [] => .inl rfl
  | x :: r => by
    simp only [topN, List.foldr_cons]
    rcases topN_mem r with z | z
    · unfold topN at z
      rw [z, Nat.max_zero]
      exact .inr List.mem_cons_self
    · unfold topN at z
      rw [Nat.max_def]
      split
      · exact .inr (List.mem_cons_of_mem _ z)
      · exact .inr List.mem_cons_self
theorem cutL_from {α : Type} (xs : List α) (m : Nat) : DL.cutD xs (some (m : Int)) none = xs.drop m := by
  unfold DL.cutD
  rw [HT.sIx_nat, HT.sIx_none]
  by_cases h : m ≤ xs.length
  · rw [Nat.min_eq_left h, List.take_of_length_le (by rw [List.length_drop]; omega)]
  · rw [Nat.min_eq_right (show xs.length ≤ m by omega), List.drop_length, List.drop_eq_nil_of_le (show xs.length ≤ m by omega)]
    simp
theorem nats_closed (n : Nat) (f : List Nat) : belows n (natsD f) = true := by
  induction f with
  | nil => rfl
  | cons x r ih => simpa only [natsD, List.map_cons, belows, below, Bool.true_and] using ih
/-! ### fractions in lowest terms -/
/-! ### what comes to balances and exits -/
abbrev Tab := List (Ld × Nat)
def ledA (v : Ld) (h : Nat) (T : Tab) : Tab := putL T v ((look T v).getD 0 + h)
def amt (a : Nat) (T : Tab) (k : Nat) : Nat := if k = 0 then a else (look T (.bal k)).getD 0
theorem look_map {κ α β : Type} [DecidableEq κ] (g : α → β) (v : κ) : ∀ T : List (κ × α), look (T.map fun p => (p.1, g p.2)) v = (look T v).map g
  | [] => rfl
  | p :: r => by
    show (if p.1 = v then some (g p.2) else look (r.map fun p => (p.1, g p.2)) v) = (if p.1 = v then some p.2 else look r v).map g
    split
    · rfl
    · exact look_map g v r
def rk (n : Nat) : Ld → Nat
  | .bal j => n - j
  | .out _ => 0
/-- each balance but the first is led to -/
def LedW (w : Web) : Prop := ∀ j, 1 ≤ j → j < w.length → ∃ k s, leadW w k s = some (.bal j)
structure LedI (w : Web) (N : Nat) (k : Nat) (T : Tab) : Prop where
  pos : ∀ j, (look T (.bal j)).isSome = true → 0 < j
  nd : (T.map (·.1)).Nodup
  led : ∀ k' s v, k' < k → leadW w k' s = some v → (look T v).isSome = true
  only : ∀ v, (look T v).isSome = true → ∃ k' s, k' < k ∧ leadW w k' s = some v
  dv : ∀ v x, look T v = some x → 2 ^ (rk w.length v) ∣ x
  bnd : ∀ v x, look T v = some x → x + N ≤ 2 ^ (k + 1) * N
theorem ledA_look {v u : Ld} {h : Nat} {T : Tab} : look (ledA v h T) u = if u = v then some ((look T v).getD 0 + h) else look T u := by
  unfold ledA
  rw [look_put]
theorem putL_nd {κ α : Type} [DecidableEq κ] {T : List (κ × α)} {v : κ} {x : α} (h : (T.map (·.1)).Nodup) : ((putL T v x).map (·.1)).Nodup := by
  unfold putL
  split
  · rw [List.map_map]
    have : T.map ((fun x => x.1) ∘ fun p => if p.1 = v then (p.1, x) else p) = T.map (·.1) := by
      refine List.map_congr_left fun p _ => ?_
      simp only [Function.comp]
      split <;> rfl
    rw [this]
    exact h
  · rename_i z
    rw [List.map_append]
    refine List.nodup_append.mpr ⟨h, by simp, fun a ha b hb e => ?_⟩
    have hb' : b = v := by simpa using hb
    rw [e, hb'] at ha
    have : look T v ≠ none := fun q => look_none.mp q ha
    cases hl : look T v with
    | none => exact this hl
    | some _ => rw [hl] at z; exact z rfl
theorem pow_dvd_half {n k x : Nat} (hk : k < n) (h : 2 ^ (n - k) ∣ x) : x = 2 * (x / 2) ∧ 2 ^ (n - k - 1) ∣ x / 2 := by
  obtain ⟨c, rfl⟩ := h
  have e : 2 ^ (n - k) = 2 * 2 ^ (n - k - 1) := by
    rw [← Nat.pow_succ']
    congr 1
    omega
  rw [e, Nat.mul_assoc, Nat.mul_div_cancel_left _ (by decide : 0 < 2)]
  exact ⟨rfl, ⟨c, rfl⟩⟩
theorem amt_dvd {w : Web} {N a k : Nat} {T : Tab} (I : LedI w N k T) (ha : 2 ^ w.length ∣ a) : 2 ^ (w.length - k) ∣ amt a T k := by
  unfold amt
  split
  · rename_i e
    rw [e]
    exact ha
  · cases h : look T (.bal k) with
    | none => exact Nat.dvd_zero _
    | some x => exact I.dv _ _ h
theorem amt_bnd {w : Web} {N a k : Nat} {T : Tab} (I : LedI w N k T) (ha : a ≤ N) : amt a T k + N ≤ 2 ^ (k + 1) * N := by
  have p : 2 ≤ 2 ^ (k + 1) := by rw [Nat.pow_succ]; have := Nat.two_pow_pos k; omega
  have q : 2 * N ≤ 2 ^ (k + 1) * N := Nat.mul_le_mul_right N p
  unfold amt
  split
  · omega
  · cases h : look T (.bal k) with
    | none => show 0 + N ≤ _; omega
    | some x => exact I.bnd _ _ h
/-- a turn keeps all that -/
theorem LedI.next {w : Web} {N a m k : Nat} {T : Tab} {p : Ld × Ld} (I : LedI w N k T) (fw : Fwd w) (hp : w[k]? = some p) (hk : k < w.length) (ha : a ≤ N) (hm : m ≤ N) (da : 2 ^ w.length ∣ a) (dm : 2 ^ w.length ∣ m) :
    LedI w N (k + 1) (ledA p.2 ((amt a T k + m) / 2) (ledA p.1 ((amt a T k + m) / 2) T)) ∧ amt a T k + m = 2 * ((amt a T k + m) / 2) ∧ 2 ^ (w.length - k - 1) ∣ (amt a T k + m) / 2 := by
  have l1 : leadW w k false = some p.1 := by unfold leadW; rw [hp]; rfl
  have l2 : leadW w k true = some p.2 := by unfold leadW; rw [hp]; rfl
  have d0 : 2 ^ (w.length - k) ∣ amt a T k + m := Nat.dvd_add (amt_dvd I da) (Nat.dvd_trans (Nat.pow_dvd_pow 2 (by omega)) dm)
  obtain ⟨e2, d1⟩ := pow_dvd_half hk d0
  have b0 := amt_bnd I ha
  generalize (amt a T k + m) / 2 = h at e2 d1 ⊢
  have hb : h + h + N ≤ 2 ^ (k + 1) * N + N := by omega
  have hpw : 2 ^ (k + 1 + 1) * N = 2 ^ (k + 1) * N + 2 ^ (k + 1) * N := by rw [Nat.pow_succ, Nat.mul_comm _ 2, Nat.mul_assoc, Nat.two_mul]
  have hN : N ≤ 2 ^ (k + 1) * N := Nat.le_mul_of_pos_left N (Nat.two_pow_pos _)
  -- one lead
  have one : ∀ (v : Ld) (s : Bool) (U : Tab) (c : Nat), leadW w k s = some v → (∀ j, (look U (.bal j)).isSome = true → 0 < j) → (U.map (·.1)).Nodup → (∀ v x, look U v = some x → 2 ^ (rk w.length v) ∣ x) → (∀ v x, look U v = some x → x + N ≤ 2 ^ (k + 1) * N + c) →
      (∀ j, (look (ledA v h U) (.bal j)).isSome = true → 0 < j) ∧ ((ledA v h U).map (·.1)).Nodup ∧ (∀ u x, look (ledA v h U) u = some x → 2 ^ (rk w.length u) ∣ x) ∧ (∀ u x, look (ledA v h U) u = some x → x + N ≤ 2 ^ (k + 1) * N + c + h) := by
    intro v s U c lv u1 u2 u3 u4
    refine ⟨fun j hj => ?_, putL_nd u2, fun u x hx => ?_, fun u x hx => ?_⟩
    · rw [ledA_look] at hj
      by_cases z : Ld.bal j = v
      · rw [← z] at lv
        have := (fw _ _ _ lv).1
        omega
      · rw [if_neg z] at hj
        exact u1 j hj
    · rw [ledA_look] at hx
      by_cases z : u = v
      · rw [if_pos z] at hx
        cases hx
        rw [z]
        have hd : 2 ^ (rk w.length v) ∣ h := by
          cases v with
          | bal j => exact Nat.dvd_trans (Nat.pow_dvd_pow 2 (by have := (fw _ _ _ lv).1; show w.length - j ≤ _; omega)) d1
          | out cs => exact Nat.one_dvd _
        refine Nat.dvd_add ?_ hd
        cases hl : look U v with
        | none => exact Nat.dvd_zero _
        | some y => exact u3 _ _ hl
      · rw [if_neg z] at hx
        exact u3 _ _ hx
    · rw [ledA_look] at hx
      by_cases z : u = v
      · rw [if_pos z] at hx
        cases hx
        cases hl : look U v with
        | none => show 0 + h + N ≤ _; omega
        | some y =>
          have := u4 _ _ hl
          show y + h + N ≤ _
          omega
      · rw [if_neg z] at hx
        have := u4 _ _ hx
        omega
  obtain ⟨a1, a2, a3, a4⟩ := one p.1 false T 0 l1 I.pos I.nd I.dv (fun v x hx => I.bnd v x hx)
  obtain ⟨b1, b2, b3, b4⟩ := one p.2 true (ledA p.1 h T) (0 + h) l2 a1 a2 a3 (fun v x hx => by have := a4 v x hx; omega)
  refine ⟨⟨b1, b2, fun k' s v hk' lv => ?_, fun v hv => ?_, b3, fun v x hx => ?_⟩, e2, d1⟩
  · rw [ledA_look, ledA_look (v := p.1) (u := v)]
    by_cases e : k' = k
    · subst e
      cases s with
      | false =>
        rw [l1] at lv
        cases lv
        split
        · rfl
        · rw [if_pos rfl]; rfl
      | true =>
        rw [l2] at lv
        cases lv
        rw [if_pos rfl]; rfl
    · split
      · rfl
      · split
        · rfl
        · exact I.led k' s v (by omega) lv
  · rw [ledA_look, ledA_look (v := p.1) (u := v)] at hv
    by_cases e : v = p.2
    · exact ⟨k, true, by omega, by rw [e]; exact l2⟩
    · rw [if_neg e] at hv
      by_cases e' : v = p.1
      · exact ⟨k, false, by omega, by rw [e']; exact l1⟩
      · rw [if_neg e'] at hv
        obtain ⟨k', s, q1, q2⟩ := I.only v hv
        exact ⟨k', s, by omega, q2⟩
  · have := b4 v x hx
    rw [hpw]
    omega
theorem LedI.start {w : Web} {N : Nat} (hN : 0 < N) : LedI w N 0 [] := ⟨fun j h => (by cases h), List.nodup_nil, fun _ _ _ h => (by omega), fun v h => (by cases h), fun v x h => (by cases h), fun v x h => (by cases h)⟩
/-! ### trees with standings as parts in parts -/
inductive Prt where
  | ex (c : List Nat) | nd (s : Nat) (a b : Prt)
deriving DecidableEq
def sameEx : Prt → Prt → Bool
  | .ex c, .ex d => decide (c = d)
  | _, _ => false
theorem sameEx_iff {a b : Prt} : sameEx a b = true ↔ ∃ c, a = .ex c ∧ b = .ex c := by
  constructor
  · intro h
    match a, b, h with
    | .ex c, .ex d, h =>
      have h : decide (c = d) = true := h
      have h := of_decide_eq_true h
      exact ⟨c, rfl, by rw [h]⟩
  · rintro ⟨c, rfl, rfl⟩
    show decide (c = c) = true
    exact decide_eq_true rfl
theorem sameEx_comm (a b : Prt) : sameEx a b = sameEx b a := by
  cases h : sameEx a b with
  | true =>
    obtain ⟨c, rfl, rfl⟩ := sameEx_iff.mp h
    exact h.symm
  | false =>
    cases g : sameEx b a with
    | false => rfl
    | true =>
      obtain ⟨c, rfl, rfl⟩ := sameEx_iff.mp g
      rw [g] at h
      cases h
/-- a balance with two parts -/
def fold2 (s : Int) (a b : Prt) : Prt := if sameEx a b = true then a else if s < 0 then .nd s.natAbs a b else .nd s.natAbs b a
theorem fold2_flip {s : Int} (h : s ≠ 0) (a b : Prt) : fold2 (-s) b a = fold2 s a b := by
  unfold fold2
  rw [sameEx_comm b a, Int.natAbs_neg]
  by_cases e : sameEx a b = true
  · rw [if_pos e, if_pos e]
    obtain ⟨c, rfl, rfl⟩ := sameEx_iff.mp e
    rfl
  · rw [if_neg e, if_neg e]
    by_cases z : s < 0
    · rw [if_neg (by omega), if_pos z]
    · rw [if_pos (by omega), if_neg z]
theorem fold2_ex (s : Int) (c : List Nat) : fold2 s (.ex c) (.ex c) = .ex c := by simp [fold2, sameEx]
def partF (w : Web) (row : List Int) : Nat → Nat → Prt
  | 0, _ => .ex []
  | f + 1, k => fold2 (row.getD k 0) (match leadN w k false with | .out c => .ex c | .bal j => partF w row f j) (match leadN w k true with | .out c => .ex c | .bal j => partF w row f j)
def part (w : Web) (row : List Int) (k : Nat) : Prt := partF w row (w.length - k) k
def partL (w : Web) (row : List Int) : Ld → Prt
  | .out c => .ex c
  | .bal j => part w row j
theorem partF_fuel {w : Web} (fw : Fwd w) (row : List Int) : ∀ (f f' k : Nat), k < w.length → w.length - k ≤ f → w.length - k ≤ f' → partF w row f k = partF w row f' k
  | 0, _, k, h, l, _ => by omega
  | _, 0, k, h, _, l => by omega
  | f + 1, f' + 1, k, h, l, l' => by
    have one : ∀ s, (match leadN w k s with | .out c => Prt.ex c | .bal j => partF w row f j) = (match leadN w k s with | .out c => Prt.ex c | .bal j => partF w row f' j) := fun s => by
      have e := leadW_some h s
      cases hl : leadN w k s with
      | out c => rfl
      | bal j =>
        rw [hl] at e
        obtain ⟨h1, h2⟩ := fw _ _ _ e
        exact partF_fuel fw row f f' j h2 (by omega) (by omega)
    unfold partF
    rw [one false, one true]
theorem part_eq {w : Web} (fw : Fwd w) (row : List Int) {k : Nat} (h : k < w.length) : part w row k = fold2 (row.getD k 0) (partL w row (leadN w k false)) (partL w row (leadN w k true)) := by
  have one : ∀ s f, f = w.length - k - 1 → (match leadN w k s with | .out c => Prt.ex c | .bal j => partF w row f j) = partL w row (leadN w k s) := fun s f hf => by
    have e := leadW_some h s
    cases hl : leadN w k s with
    | out c => rfl
    | bal j =>
      rw [hl] at e
      obtain ⟨h1, h2⟩ := fw _ _ _ e
      exact partF_fuel fw row f (w.length - j) j h2 (by omega) (by omega)
  unfold part
  obtain ⟨f, hf⟩ : ∃ f, w.length - k = f + 1 := ⟨w.length - k - 1, by omega⟩
  rw [hf]
  conv => lhs; unfold partF
  rw [one false f (by omega), one true f (by omega)]
/-- a lead for a lead -/
def Same2 (w : Web) (row : List Int) (w' : Web) (row' : List Int) (P : Nat → Prop) (φ : Nat → Nat) (u v : Ld) : Prop :=
  (∃ j, u = .bal j ∧ P j ∧ v = .bal (φ j)) ∨ partL w row u = partL w' row' v
theorem part_map {w w' : Web} {row row' : List Int} (fw : Fwd w) (fw' : Fwd w') (P : Nat → Prop) (φ : Nat → Nat)
    (h : ∀ k, k < w.length → P k → φ k < w'.length ∧ row.getD k 0 ≠ 0 ∧ ((row'.getD (φ k) 0 = row.getD k 0 ∧ ∀ s, Same2 w row w' row' P φ (leadN w k s) (leadN w' (φ k) s)) ∨ (row'.getD (φ k) 0 = -row.getD k 0 ∧ ∀ s, Same2 w row w' row' P φ (leadN w k s) (leadN w' (φ k) (!s))))) :
    ∀ (m k : Nat), w.length - k = m → k < w.length → P k → part w' row' (φ k) = part w row k := by
  intro m
  induction m using Nat.strongRecOn with
  | _ m ih =>
    intro k hm hk hP
    obtain ⟨h1, h2, h3⟩ := h k hk hP
    have one : ∀ s v, Same2 w row w' row' P φ (leadN w k s) v → partL w' row' v = partL w row (leadN w k s) := fun s v q => by
      rcases q with ⟨j, e, hj, rfl⟩ | q
      · have l := leadW_some hk s
        rw [e] at l ⊢
        obtain ⟨g1, g2⟩ := fw _ _ _ l
        exact ih (w.length - j) (by omega) j rfl g2 hj
      · exact q.symm
    rw [part_eq fw row hk, part_eq fw' row' h1]
    rcases h3 with ⟨e, q⟩ | ⟨e, q⟩
    · rw [e, one false _ (q false), one true _ (q true)]
    · have q0 := one false _ (q false)
      have q1 := one true _ (q true)
      rw [Bool.not_false] at q0
      rw [Bool.not_true] at q1
      rw [e, q0, q1]
      exact fold2_flip h2 _ _
/-! trees -/
structure Tw (w : Web) (row : List Int) : Prop where
  nt : Nt w
  led : LedW w
  tree : ∀ k s k' s' j, leadW w k s = some (.bal j) → leadW w k' s' = some (.bal j) → k = k' ∧ s = s'
  lies : Lies w row
  fine : WebFine w
  few : w.length ≤ 20
theorem Tw.odd {w : Web} {row : List Int} (T : Tw w row) {k : Nat} (h : k < w.length) : row.getD k 0 ≠ 0 := by
  have := T.lies.at h
  omega
theorem leadN_of {w : Web} {k : Nat} {s : Bool} {v : Ld} (h : leadW w k s = some v) : leadN w k s = v := by
  unfold leadN
  rw [h]
  rfl
theorem leadW_lt {w : Web} {k : Nat} {s : Bool} {v : Ld} (h : leadW w k s = some v) : k < w.length := by
  unfold leadW at h
  obtain ⟨p, hp, _⟩ := Option.map_eq_some_iff.mp h
  exact (List.getElem?_eq_some_iff.mp hp).1
theorem lead_fineN {w : Web} (fine : WebFine w) {k : Nat} (hk : k < w.length) (s : Bool) : LdFine (leadN w k s) := by
  have e := leadW_some hk s
  unfold leadW at e
  obtain ⟨p, hp, e⟩ := Option.map_eq_some_iff.mp e
  have := fine p (List.mem_of_getElem? hp)
  rw [← e]
  cases s with
  | false => exact this.1
  | true => exact this.2
theorem Tw.bal {w : Web} {row : List Int} (T : Tw w row) {k : Nat} (hk : k < w.length) {s : Bool} {j : Nat} (e : leadN w k s = .bal j) : k < j ∧ j < w.length := T.nt.fwd k s j (by rw [leadW_some hk s, e])
/-! a balance taken out -/
def mvL (u : Ld) (j : Nat) (v : Ld) : Ld := match (if u = .bal j then v else u) with
  | .bal i => if j < i then .bal (i - 1) else .bal i
  | .out c => .out c
def woW (w : Web) (j : Nat) (v : Ld) : Web := (w.eraseIdx j).map fun p => (mvL p.1 j v, mvL p.2 j v)
def upN (j k : Nat) : Nat := if k < j then k else k + 1
def dnN (j k : Nat) : Nat := if k < j then k else k - 1
theorem wo_len {w : Web} {j : Nat} {v : Ld} (h : j < w.length) : (woW w j v).length = w.length - 1 := by
  unfold woW
  rw [List.length_map, List.length_eraseIdx, if_pos h]
theorem wo_lead {w : Web} {j k : Nat} {v : Ld} {s : Bool} : leadW (woW w j v) k s = (leadW w (upN j k) s).map fun u => mvL u j v := by
  unfold leadW woW upN
  rw [List.getElem?_map, List.getElem?_eraseIdx]
  split
  · cases w[k]? <;> first | rfl | (cases s <;> rfl)
  · cases w[k + 1]? <;> first | rfl | (cases s <;> rfl)
theorem wo_row {row : List Int} {j k : Nat} : (row.eraseIdx j).getD k 0 = row.getD (upN j k) 0 := by
  unfold upN
  rw [List.getD_eq_getElem?_getD, List.getD_eq_getElem?_getD, List.getElem?_eraseIdx]
  split <;> rfl
theorem up_dn {j k : Nat} (h : k ≠ j) : upN j (dnN j k) = k := by
  unfold upN dnN
  split <;> (try split) <;> omega
theorem mv_bal {u : Ld} {j i : Nat} {c : List Nat} (h : mvL u j (.out c) = .bal i) : ∃ i0, u = .bal i0 ∧ i0 ≠ j ∧ i = dnN j i0 := by
  unfold mvL at h
  by_cases e : u = .bal j
  · rw [if_pos e] at h
    cases h
  · rw [if_neg e] at h
    cases u with
    | out d => cases h
    | bal i0 =>
      have ne : i0 ≠ j := fun q => e (by rw [q])
      refine ⟨i0, rfl, ne, ?_⟩
      unfold dnN
      by_cases z : j < i0
      · simp only [if_pos z] at h
        rw [if_neg (by omega)]
        injection h with h
        exact h.symm
      · simp only [if_neg z] at h
        rw [if_pos (by omega)]
        injection h with h
        exact h.symm
theorem mv_of_bal {j i : Nat} {c : List Nat} (h : i ≠ j) : mvL (.bal i) j (.out c) = .bal (dnN j i) := by
  unfold mvL dnN
  rw [if_neg (by intro e; injection e with e; exact h e)]
  by_cases z : j < i
  · simp only [if_pos z]
    rw [if_neg (by omega)]
  · simp only [if_neg z]
    rw [if_pos (by omega)]
theorem mv_self {j : Nat} {c : List Nat} : mvL (.bal j) j (.out c) = .out c := by
  unfold mvL
  rw [if_pos rfl]
theorem mv_out {j : Nat} {c d : List Nat} : mvL (.out d) j (.out c) = .out d := by
  unfold mvL
  rw [if_neg (by intro e; cases e)]
theorem Tw.wo {w : Web} {row : List Int} (T : Tw w row) {j : Nat} (j0 : 0 < j) (hj : j < w.length) {c : List Nat} (e1 : leadN w j false = .out c) (e2 : leadN w j true = .out c) :
    Tw (woW w j (.out c)) (row.eraseIdx j) ∧ (∀ k, k < w.length → k ≠ j → part (woW w j (.out c)) (row.eraseIdx j) (dnN j k) = part w row k) := by
  have hl := wo_len (v := .out c) hj
  have fw := T.nt.fwd
  have lead : ∀ k s i, leadW (woW w j (.out c)) k s = some (.bal i) → ∃ i0, leadW w (upN j k) s = some (.bal i0) ∧ i0 ≠ j ∧ i = dnN j i0 := fun k s i h => by
    rw [wo_lead] at h
    obtain ⟨u, hu, hm⟩ := Option.map_eq_some_iff.mp h
    obtain ⟨i0, rfl, a, b⟩ := mv_bal hm
    exact ⟨i0, hu, a, b⟩
  have fw' : Fwd (woW w j (.out c)) := fun k s i h => by
    obtain ⟨i0, h0, ne, rfl⟩ := lead k s i h
    obtain ⟨g1, g2⟩ := fw _ _ _ h0
    rw [hl]
    unfold upN at g1
    unfold dnN
    split at g1 <;> split <;> omega
  have few := T.nt.few
  refine ⟨⟨⟨fw', by omega, by omega⟩, ?_, ?_, ?_, ?_, by have := T.few; omega⟩, ?_⟩
  · intro i i1 i2
    rw [hl] at i2
    have hne : upN j i ≠ j := by unfold upN; split <;> omega
    obtain ⟨k, s, q⟩ := T.led (upN j i) (by unfold upN; split <;> omega) (by unfold upN; split <;> omega)
    have kj : k ≠ j := fun z => by
      subst z
      have := leadN_of q
      cases s with
      | false => rw [e1] at this; cases this
      | true => rw [e2] at this; cases this
    refine ⟨dnN j k, s, ?_⟩
    rw [wo_lead, up_dn kj, q]
    show some (mvL _ _ _) = _
    rw [mv_of_bal hne]
    congr 2
    unfold dnN upN
    split <;> (try split) <;> omega
  · intro k s k' s' i h h'
    obtain ⟨i0, a1, a2, a3⟩ := lead k s i h
    obtain ⟨i1, b1, b2, b3⟩ := lead k' s' i h'
    have : i0 = i1 := by
      have x := up_dn a2
      have y := up_dn b2
      rw [← a3] at x
      rw [← b3] at y
      omega
    subst this
    obtain ⟨c1, c2⟩ := T.tree _ _ _ _ _ a1 b1
    refine ⟨?_, c2⟩
    unfold upN at c1
    split at c1 <;> split at c1 <;> omega
  · refine ⟨by rw [hl, List.length_eraseIdx, if_pos (by rw [T.lies.len]; exact hj), T.lies.len], fun x hx => T.lies.odd x (List.mem_of_mem_eraseIdx hx)⟩
  · have fo : LdFine (.out c) := by rw [← e1]; exact lead_fineN T.fine hj false
    have fm : ∀ u, LdFine u → LdFine (mvL u j (.out c)) := fun u hu => by
      unfold mvL
      by_cases e : u = .bal j
      · rw [if_pos e]
        exact fo
      · rw [if_neg e]
        cases u with
        | out d => exact hu
        | bal i =>
          have hu : i < 1000 := hu
          by_cases z : j < i
          · simp only [if_pos z]
            show i - 1 < 1000
            omega
          · simp only [if_neg z]
            exact hu
    intro p hp
    unfold woW at hp
    obtain ⟨q, hq, rfl⟩ := List.mem_map.mp hp
    have := T.fine q (List.mem_of_mem_eraseIdx hq)
    exact ⟨fm _ this.1, fm _ this.2⟩
  · intro k hk kj
    refine part_map (w := w) (w' := woW w j (.out c)) (row := row) (row' := row.eraseIdx j) fw fw' (fun k => k ≠ j) (dnN j) (fun k hk kj => ?_) _ k rfl hk kj
    refine ⟨by rw [hl]; unfold dnN; split <;> omega, T.odd hk, .inl ⟨by rw [wo_row, up_dn kj], fun s => ?_⟩⟩
    have e' : leadN (woW w j (.out c)) (dnN j k) s = mvL (leadN w k s) j (.out c) := by
      refine leadN_of ?_
      rw [wo_lead, up_dn kj, leadW_some hk s]
      rfl
    rw [e']
    cases hu : leadN w k s with
    | out d => exact .inr (by rw [mv_out]; rfl)
    | bal i =>
      by_cases z : i = j
      · subst z
        refine .inr ?_
        rw [mv_self]
        show part w row i = .ex c
        rw [part_eq fw row hj, e1, e2]
        exact fold2_ex _ _
      · exact .inl ⟨i, rfl, z, mv_of_bal z⟩
/-! a balance crossed -/
def crW (w : Web) (j : Nat) : Web := match w[j]? with
  | some p => w.set j (p.2, p.1)
  | none => w
def crR (row : List Int) (j : Nat) : List Int := row.set j (-row.getD j 0)
theorem cr_len (w : Web) (j : Nat) : (crW w j).length = w.length := by
  unfold crW
  split
  · rw [List.length_set]
  · rfl
theorem cr_lead {w : Web} {j : Nat} (hj : j < w.length) (k : Nat) (s : Bool) : leadW (crW w j) k s = leadW w k (if k = j then !s else s) := by
  unfold crW
  rw [List.getElem?_eq_getElem hj]
  simp only
  unfold leadW
  by_cases e : k = j
  · subst e
    rw [List.getElem?_set_self hj, if_pos rfl, List.getElem?_eq_getElem hj]
    cases s <;> rfl
  · rw [List.getElem?_set_ne (Ne.symm e), if_neg e]
theorem cr_row {row : List Int} {j : Nat} (hj : j < row.length) (k : Nat) : (crR row j).getD k 0 = if k = j then -row.getD k 0 else row.getD k 0 := by
  unfold crR
  rw [List.getD_eq_getElem?_getD]
  by_cases e : k = j
  · subst e
    rw [List.getElem?_set_self hj, if_pos rfl]
    rfl
  · rw [List.getElem?_set_ne (Ne.symm e), if_neg e, List.getD_eq_getElem?_getD]
theorem cr_leadN {w : Web} {j : Nat} (hj : j < w.length) (k : Nat) (s : Bool) : leadN (crW w j) k s = leadN w k (if k = j then !s else s) := by
  unfold leadN
  rw [cr_lead hj]
theorem Tw.cr {w : Web} {row : List Int} (T : Tw w row) {j : Nat} (hj : j < w.length) : Tw (crW w j) (crR row j) ∧ ∀ k, k < w.length → part (crW w j) (crR row j) k = part w row k := by
  have hr : j < row.length := by rw [T.lies.len]; exact hj
  have fw := T.nt.fwd
  have fw' : Fwd (crW w j) := fun k s i h => by
    rw [cr_lead hj] at h
    rw [cr_len]
    exact fw _ _ _ h
  refine ⟨⟨⟨fw', by rw [cr_len]; exact T.nt.one, by rw [cr_len]; exact T.nt.few⟩, ?_, ?_, ?_, ?_, by rw [cr_len]; exact T.few⟩, fun k hk => ?_⟩
  · intro i i1 i2
    rw [cr_len] at i2
    obtain ⟨k, s, q⟩ := T.led i i1 i2
    refine ⟨k, if k = j then !s else s, ?_⟩
    rw [cr_lead hj]
    by_cases e : k = j
    · simp only [if_pos e, Bool.not_not]
      exact q
    · simp only [if_neg e]
      exact q
  · intro k s k' s' i h h'
    rw [cr_lead hj] at h h'
    obtain ⟨rfl, c2⟩ := T.tree _ _ _ _ _ h h'
    refine ⟨rfl, ?_⟩
    split at c2
    · cases s <;> cases s' <;> first | rfl | cases c2
    · exact c2
  · refine ⟨by unfold crR; rw [List.length_set, cr_len, T.lies.len], fun x hx => ?_⟩
    unfold crR at hx
    rcases List.mem_or_eq_of_mem_set hx with q | q
    · exact T.lies.odd x q
    · have := T.lies.at hj
      omega
  · intro p hp
    unfold crW at hp
    rw [List.getElem?_eq_getElem hj] at hp
    simp only at hp
    rcases List.mem_or_eq_of_mem_set hp with q | q
    · exact T.fine p q
    · have := T.fine w[j] (List.getElem_mem hj)
      rw [q]
      exact ⟨this.2, this.1⟩
  · refine part_map (w := w) (w' := crW w j) (row := row) (row' := crR row j) fw fw' (fun _ => True) (fun k => k) (fun k hk _ => ⟨by rw [cr_len]; exact hk, T.odd hk, ?_⟩) _ k rfl hk trivial
    have sm : ∀ s, Same2 w row (crW w j) (crR row j) (fun _ => True) (fun k => k) (leadN w k s) (leadN w k s) := fun s => by
      cases h : leadN w k s with
      | out c => exact .inr rfl
      | bal i => exact .inl ⟨i, rfl, trivial, rfl⟩
    rw [cr_row hr]
    by_cases e : k = j
    · refine .inr ⟨if_pos e, fun s => ?_⟩
      rw [cr_leadN hj, if_pos e, Bool.not_not]
      exact sm s
    · refine .inl ⟨if_neg e, fun s => ?_⟩
      rw [cr_leadN hj, if_neg e]
      exact sm s
/-! from the first one on, those behind the left pan ahead -/
def preF (w : Web) : Nat → Nat → List Nat
  | 0, _ => []
  | f + 1, k => k :: ((match leadN w k false with | .out _ => [] | .bal j => preF w f j) ++ (match leadN w k true with | .out _ => [] | .bal j => preF w f j))
def pre (w : Web) (k : Nat) : List Nat := preF w (w.length - k) k
def preL (w : Web) : Ld → List Nat
  | .out _ => []
  | .bal j => pre w j
theorem preF_fuel {w : Web} (fw : Fwd w) : ∀ (f f' k : Nat), k < w.length → w.length - k ≤ f → w.length - k ≤ f' → preF w f k = preF w f' k
  | 0, _, k, h, l, _ => by omega
  | _, 0, k, h, _, l => by omega
  | f + 1, f' + 1, k, h, l, l' => by
    have one : ∀ s, (match leadN w k s with | .out _ => [] | .bal j => preF w f j) = (match leadN w k s with | .out _ => [] | .bal j => preF w f' j) := fun s => by
      have e := leadW_some h s
      cases hl : leadN w k s with
      | out c => rfl
      | bal j =>
        rw [hl] at e
        obtain ⟨h1, h2⟩ := fw _ _ _ e
        exact preF_fuel fw f f' j h2 (by omega) (by omega)
    unfold preF
    rw [one false, one true]
theorem pre_eq {w : Web} (fw : Fwd w) {k : Nat} (h : k < w.length) : pre w k = k :: (preL w (leadN w k false) ++ preL w (leadN w k true)) := by
  have one : ∀ s f, f = w.length - k - 1 → (match leadN w k s with | .out _ => [] | .bal j => preF w f j) = preL w (leadN w k s) := fun s f hf => by
    have e := leadW_some h s
    cases hl : leadN w k s with
    | out c => rfl
    | bal j =>
      rw [hl] at e
      obtain ⟨h1, h2⟩ := fw _ _ _ e
      exact preF_fuel fw f (w.length - j) j h2 (by omega) (by omega)
  unfold pre
  obtain ⟨f, hf⟩ : ∃ f, w.length - k = f + 1 := ⟨w.length - k - 1, by omega⟩
  rw [hf]
  conv => lhs; unfold preF
  rw [one false f (by omega), one true f (by omega)]
/-- what holds of all that is behind -/
theorem pre_ind {w : Web} (fw : Fwd w) (M : Nat → Prop) (h : ∀ k, k < w.length → (∀ s j, leadN w k s = .bal j → k < j ∧ j < w.length ∧ M j) → M k) : ∀ k, k < w.length → M k := by
  have key : ∀ (m k : Nat), w.length - k = m → k < w.length → M k := by
    intro m
    induction m using Nat.strongRecOn with
    | _ m ih =>
      intro k hm hk
      refine h k hk fun s j e => ?_
      have l := leadW_some hk s
      rw [e] at l
      obtain ⟨g1, g2⟩ := fw _ _ _ l
      exact ⟨g1, g2, ih (w.length - j) (by omega) j rfl g2⟩
  exact fun k hk => key _ k rfl hk
theorem preL_mem {w : Web} {u : Ld} {x : Nat} (h : x ∈ preL w u) : ∃ j, u = .bal j ∧ x ∈ pre w j := by
  cases u with
  | out c => cases h
  | bal j => exact ⟨j, rfl, h⟩
theorem pre_ge {w : Web} (fw : Fwd w) : ∀ k, k < w.length → ∀ x ∈ pre w k, k ≤ x ∧ x < w.length := by
  refine pre_ind fw _ fun k hk ih x hx => ?_
  rw [pre_eq fw hk] at hx
  rcases List.mem_cons.mp hx with e | hx
  · rw [e]
    exact ⟨Nat.le_refl _, hk⟩
  · have : ∀ s, x ∈ preL w (leadN w k s) → k ≤ x ∧ x < w.length := fun s h => by
      obtain ⟨j, e, h⟩ := preL_mem h
      obtain ⟨g1, g2, g3⟩ := ih s j e
      have := g3 x h
      omega
    rcases List.mem_append.mp hx with h | h
    · exact this false h
    · exact this true h
theorem pre_self {w : Web} (fw : Fwd w) {k : Nat} (h : k < w.length) : k ∈ pre w k := by
  rw [pre_eq fw h]
  exact List.mem_cons_self
theorem pre_child {w : Web} (fw : Fwd w) {k : Nat} (h : k < w.length) {s : Bool} {j : Nat} (e : leadN w k s = .bal j) {x : Nat} (hx : x ∈ pre w j) : x ∈ pre w k := by
  rw [pre_eq fw h]
  refine List.mem_cons_of_mem _ (List.mem_append.mpr ?_)
  cases s with
  | false => exact .inl (by rw [e]; exact hx)
  | true => exact .inr (by rw [e]; exact hx)
theorem pre_next {w : Web} (fw : Fwd w) {p s x} (e : leadW w p s = some (.bal x)) : ∀ a, a < w.length → p ∈ pre w a → x ∈ pre w a := by
  refine pre_ind fw _ fun k hk ih hp => ?_
  rw [pre_eq fw hk] at hp
  rcases List.mem_cons.mp hp with z | hp
  · subst z
    exact pre_child fw hk (leadN_of e) (pre_self fw (fw _ _ _ e).2)
  · have : ∀ s', p ∈ preL w (leadN w k s') → x ∈ pre w k := fun s' h => by
      obtain ⟨j, e', h⟩ := preL_mem h
      exact pre_child fw hk e' ((ih s' j e').2.2 h)
    rcases List.mem_append.mp hp with h | h
    · exact this false h
    · exact this true h
theorem pre_parent {w : Web} (fw : Fwd w) {x : Nat} : ∀ a, a < w.length → x ∈ pre w a → x ≠ a → ∃ p s, leadW w p s = some (.bal x) ∧ p ∈ pre w a := by
  refine pre_ind fw _ fun k hk ih hx ne => ?_
  rw [pre_eq fw hk] at hx
  rcases List.mem_cons.mp hx with z | hx
  · exact absurd z ne
  · have : ∀ s', x ∈ preL w (leadN w k s') → ∃ p s, leadW w p s = some (.bal x) ∧ p ∈ pre w k := fun s' h => by
      obtain ⟨j, e', h⟩ := preL_mem h
      by_cases z : x = j
      · subst z
        exact ⟨k, s', by rw [leadW_some hk s', e'], pre_self fw hk⟩
      · obtain ⟨p, s, q1, q2⟩ := (ih s' j e').2.2 h z
        exact ⟨p, s, q1, pre_child fw hk e' q2⟩
    rcases List.mem_append.mp hx with h | h
    · exact this false h
    · exact this true h
theorem pre_comp {w : Web} {row : List Int} (T : Tw w row) {a b : Nat} (ha : a < w.length) (hb : b < w.length) : ∀ x, x ∈ pre w a → x ∈ pre w b → a ∈ pre w b ∨ b ∈ pre w a := by
  intro x
  induction x using Nat.strongRecOn with
  | _ x ih =>
    intro h1 h2
    by_cases e1 : x = a
    · subst e1
      exact .inl h2
    by_cases e2 : x = b
    · subst e2
      exact .inr h1
    obtain ⟨p, s, q1, q2⟩ := pre_parent T.nt.fwd a ha h1 e1
    obtain ⟨p', s', r1, r2⟩ := pre_parent T.nt.fwd b hb h2 e2
    obtain ⟨rfl, _⟩ := T.tree _ _ _ _ _ q1 r1
    exact ih p (T.nt.fwd _ _ _ q1).1 q2 r2
theorem pre_nd {w : Web} {row : List Int} (T : Tw w row) : ∀ k, k < w.length → (pre w k).Nodup := by
  have fw := T.nt.fwd
  refine pre_ind fw _ fun k hk ih => ?_
  have no : ∀ s, k ∉ preL w (leadN w k s) := fun s h => by
    obtain ⟨j, e, h⟩ := preL_mem h
    obtain ⟨g1, g2, _⟩ := ih s j e
    have := (pre_ge fw j g2 k h).1
    omega
  have nd : ∀ s, (preL w (leadN w k s)).Nodup := fun s => by
    cases e : leadN w k s with
    | out c => exact List.nodup_nil
    | bal j => exact (ih s j e).2.2
  have far : ∀ s s' a b, s ≠ s' → leadN w k s = .bal a → leadN w k s' = .bal b → a ∉ pre w b := fun s s' a b ne e e' h => by
    have la := leadW_some hk s
    have lb := leadW_some hk s'
    rw [e] at la
    rw [e'] at lb
    by_cases z : a = b
    · subst z
      exact ne (T.tree _ _ _ _ _ la lb).2
    · obtain ⟨g1, g2, _⟩ := ih s' b e'
      obtain ⟨p, t, q1, q2⟩ := pre_parent fw b g2 h z
      obtain ⟨rfl, _⟩ := T.tree _ _ _ _ _ la q1
      have := (pre_ge fw b g2 _ q2).1
      omega
  rw [pre_eq fw hk, List.nodup_cons]
  refine ⟨fun h => ?_, List.nodup_append.mpr ⟨nd false, nd true, fun x hx y hy e => ?_⟩⟩
  · rcases List.mem_append.mp h with h | h
    · exact no false h
    · exact no true h
  · subst e
    obtain ⟨a, e1, h1⟩ := preL_mem hx
    obtain ⟨b, e2, h2⟩ := preL_mem hy
    rcases pre_comp T (ih _ a e1).2.1 (ih _ b e2).2.1 x h1 h2 with h | h
    · exact far false true a b (by decide) e1 e2 h
    · exact far true false b a (by decide) e2 e1 h
theorem pre_all {w : Web} {row : List Int} (T : Tw w row) : ∀ x, x < w.length → x ∈ pre w 0 := by
  intro x
  induction x using Nat.strongRecOn with
  | _ x ih =>
    intro hx
    have w1 := T.nt.one
    by_cases z : x = 0
    · subst z
      exact pre_self T.nt.fwd (by omega)
    · obtain ⟨p, s, q⟩ := T.led x (by omega) hx
      obtain ⟨g1, g2⟩ := T.nt.fwd _ _ _ q
      exact pre_next T.nt.fwd q 0 (by omega) (ih p g1 (by omega))
theorem pre_len {w : Web} {row : List Int} (T : Tw w row) : (pre w 0).length = w.length := by
  have w1 := T.nt.one
  have h1 : (pre w 0).Perm (List.range w.length) := (List.perm_ext_iff_of_nodup (pre_nd T 0 (by omega)) List.nodup_range).mpr fun x => by
    rw [List.mem_range]
    exact ⟨fun h => (pre_ge T.nt.fwd 0 (by omega) x h).2, pre_all T x⟩
  rw [h1.length_eq, List.length_range]
theorem idx_mid {a : Nat} : ∀ {L R : List Nat}, (L ++ a :: R).Nodup → (L ++ a :: R).idxOf a = L.length
  | [], R, _ => by simp
  | x :: L, R, h => by
    rw [List.cons_append] at h ⊢
    obtain ⟨n1, n2⟩ := List.nodup_cons.mp h
    have ne : x ≠ a := fun e => n1 (by rw [e]; simp)
    rw [List.idxOf_cons, idx_mid n2]
    have : (x == a) = false := by simpa using ne
    rw [this]
    simp
/-! numbered otherwise -/
def renW (w : Web) (ord : List Nat) : Web := ord.map fun k => (numL ord (leadN w k false), numL ord (leadN w k true))
def renR (row : List Int) (ord : List Nat) : List Int := ord.map fun k => row.getD k 0
structure Ord (w : Web) (ord : List Nat) : Prop where
  nd : ord.Nodup
  mem : ∀ x, x ∈ ord ↔ x < w.length
  zero : ord[0]? = some 0
  up : ∀ k s j, leadW w k s = some (.bal j) → ord.idxOf k < ord.idxOf j
theorem Ord.len {w : Web} {ord : List Nat} (O : Ord w ord) : ord.length = w.length := by
  have h1 : ord.Perm (List.range w.length) := (List.perm_ext_iff_of_nodup O.nd List.nodup_range).mpr fun x => by
    rw [List.mem_range]
    exact O.mem x
  rw [h1.length_eq, List.length_range]
theorem Ord.at {w : Web} {ord : List Nat} (O : Ord w ord) {k : Nat} (hk : k < w.length) : ord[ord.idxOf k]? = some k ∧ ord.idxOf k < ord.length := by
  have hm := (O.mem k).mpr hk
  have hl := List.idxOf_lt_length_iff.mpr hm
  refine ⟨?_, hl⟩
  rw [List.getElem?_eq_getElem hl, List.getElem_idxOf hl]
theorem Ord.idx {w : Web} {ord : List Nat} (O : Ord w ord) {i k : Nat} (h : ord[i]? = some k) : ord.idxOf k = i := by
  obtain ⟨hi, e⟩ := List.getElem?_eq_some_iff.mp h
  have e2 : ord.take i ++ k :: ord.drop (i + 1) = ord := by rw [← e, ← List.drop_eq_getElem_cons hi, List.take_append_drop]
  have := idx_mid (L := ord.take i) (R := ord.drop (i + 1)) (a := k) (by rw [e2]; exact O.nd)
  rw [e2, List.length_take] at this
  omega
theorem ren_lead {w : Web} {ord : List Nat} {i : Nat} {s : Bool} : leadW (renW w ord) i s = (ord[i]?).map fun k => numL ord (leadN w k s) := by
  unfold leadW renW
  rw [List.getElem?_map]
  cases ord[i]? with
  | none => rfl
  | some k => cases s <;> rfl
theorem num_bal {ord : List Nat} {u : Ld} {i : Nat} (h : numL ord u = .bal i) : ∃ j, u = .bal j ∧ i = ord.idxOf j := by
  cases u with
  | out c => cases h
  | bal j =>
    injection h with h
    exact ⟨j, rfl, h.symm⟩
theorem Tw.ren {w : Web} {row : List Int} (T : Tw w row) {ord : List Nat} (O : Ord w ord) : Tw (renW w ord) (renR row ord) ∧ part (renW w ord) (renR row ord) 0 = part w row 0 := by
  have fw := T.nt.fwd
  have hl : (renW w ord).length = w.length := by unfold renW; rw [List.length_map, O.len]
  have few := T.nt.few
  have w1 := T.nt.one
  have lead : ∀ i s x, leadW (renW w ord) i s = some (.bal x) → ∃ k j, ord[i]? = some k ∧ leadW w k s = some (.bal j) ∧ x = ord.idxOf j ∧ k < w.length := fun i s x h => by
    rw [ren_lead] at h
    obtain ⟨k, hk, h⟩ := Option.map_eq_some_iff.mp h
    obtain ⟨j, e, rfl⟩ := num_bal h
    have kl := (O.mem k).mp (List.mem_of_getElem? hk)
    exact ⟨k, j, hk, by rw [leadW_some kl s, e], rfl, kl⟩
  have fw' : Fwd (renW w ord) := fun i s x h => by
    obtain ⟨k, j, hk, l, rfl, kl⟩ := lead i s x h
    have := O.up _ _ _ l
    rw [O.idx hk] at this
    rw [hl]
    refine ⟨this, ?_⟩
    have := (O.at (fw _ _ _ l).2).2
    rw [O.len] at this
    exact this
  have led' : LedW (renW w ord) := by
    intro i i1 i2
    rw [hl, ← O.len] at i2
    have hj : ord[i]? = some ord[i] := List.getElem?_eq_getElem i2
    generalize ord[i] = j at hj
    have jl := (O.mem j).mp (List.mem_of_getElem? hj)
    have j0 : j ≠ 0 := fun z => by
      subst z
      have a := O.idx hj
      have b := O.idx O.zero
      omega
    obtain ⟨k, s, q⟩ := T.led j (by omega) jl
    refine ⟨ord.idxOf k, s, ?_⟩
    have kl := leadW_lt q
    rw [ren_lead, (O.at kl).1]
    show some (numL ord (leadN w k s)) = _
    rw [leadN_of q]
    show some (Ld.bal (ord.idxOf j)) = _
    rw [O.idx hj]
  refine ⟨⟨⟨fw', by omega, by omega⟩, led', ?_, ?_, ?_, by rw [hl]; exact T.few⟩, ?_⟩
  · intro i s i' s' x h h'
    obtain ⟨k, j, a1, a2, a3, a4⟩ := lead i s x h
    obtain ⟨k', j', b1, b2, b3, b4⟩ := lead i' s' x h'
    have ej : j = j' := by
      have x1 := (O.at (fw _ _ _ a2).2).1
      have x2 := (O.at (fw _ _ _ b2).2).1
      rw [← a3] at x1
      rw [← b3] at x2
      rw [x1] at x2
      exact Option.some.inj x2
    subst ej
    obtain ⟨rfl, rfl⟩ := T.tree _ _ _ _ _ a2 b2
    exact ⟨by rw [← O.idx a1, ← O.idx b1], rfl⟩
  · refine ⟨by rw [hl]; unfold renR; rw [List.length_map, O.len], fun x hx => ?_⟩
    unfold renR at hx
    obtain ⟨k, hk, rfl⟩ := List.mem_map.mp hx
    exact T.lies.at ((O.mem k).mp hk)
  · intro p hp
    unfold renW at hp
    obtain ⟨k, hk, rfl⟩ := List.mem_map.mp hp
    have kl := (O.mem k).mp hk
    have one : ∀ s, LdFine (numL ord (leadN w k s)) := fun s => by
      have f := lead_fineN T.fine kl s
      cases e : leadN w k s with
      | out c => rw [e] at f; exact f
      | bal j =>
        have := (O.at (T.bal kl e).2).2
        rw [O.len] at this
        show ord.idxOf j < 1000
        omega
    exact ⟨one false, one true⟩
  · have z := part_map (w := w) (w' := renW w ord) (row := row) (row' := renR row ord) fw fw' (fun _ => True) (fun k => ord.idxOf k) (fun k hk _ => ?_) _ 0 rfl (by omega) trivial
    · rw [O.idx O.zero] at z
      exact z
    · obtain ⟨a1, a2⟩ := O.at hk
      refine ⟨by rw [hl, ← O.len]; exact a2, T.odd hk, .inl ⟨?_, fun s => ?_⟩⟩
      · unfold renR
        rw [List.getD_eq_getElem?_getD, List.getElem?_map, a1]
        rfl
      · have e' : leadN (renW w ord) (ord.idxOf k) s = numL ord (leadN w k s) := by
          refine leadN_of ?_
          rw [ren_lead, a1]
          rfl
        rw [e']
        cases e : leadN w k s with
        | out c => exact .inr rfl
        | bal j => exact .inl ⟨j, rfl, trivial, rfl⟩
/-! written down -/
def szP : Prt → Nat
  | .ex _ => 0
  | .nd _ a b => 1 + szP a + szP b
structure Canon (w : Web) (row : List Int) : Prop where
  tw : Tw w row
  neg : ∀ k, k < w.length → row.getD k 0 < 0
  ne : ∀ k, k < w.length → leadN w k false ≠ leadN w k true
theorem Canon.part {w : Web} {row : List Int} (C : Canon w row) : ∀ k, k < w.length → LW.part w row k = .nd (row.getD k 0).natAbs (partL w row (leadN w k false)) (partL w row (leadN w k true)) := by
  have fw := C.tw.nt.fwd
  refine pre_ind fw _ fun k hk ih => ?_
  rw [part_eq fw row hk]
  unfold fold2
  rw [if_neg, if_pos (C.neg k hk)]
  intro e
  obtain ⟨c, e1, e2⟩ := sameEx_iff.mp e
  have one : ∀ s, partL w row (leadN w k s) = .ex c → leadN w k s = .out c := fun s h => by
    cases hl : leadN w k s with
    | out d =>
      rw [hl] at h
      injection h with h
      rw [h]
    | bal j =>
      rw [hl] at h
      have g := (ih s j hl).2.2
      have h : LW.part w row j = .ex c := h
      rw [g] at h
      cases h
  exact C.ne k hk ((one false e1).trans (one true e2).symm)
/-! as data -/
def prtD : Prt → D
  | .ex c => .str (S c)
  | .nd s a b => .tup [.int (s : Nat), prtD a, prtD b]
def htP : Prt → Nat
  | .ex _ => 0
  | .nd _ a b => 1 + max (htP a) (htP b)
/-! a needless balance put in at an exit -/
def bmL (k : Nat) : Ld → Ld
  | .out c => .out c
  | .bal j => .bal (upN (k + 1) j)
def bmP (k : Nat) (p : Ld × Ld) : Ld × Ld := (bmL k p.1, bmL k p.2)
def setS2 (p : Ld × Ld) (s : Bool) (v : Ld) : Ld × Ld := if s = true then (p.1, v) else (v, p.2)
def piW (w : Web) (k : Nat) (s : Bool) (c : List Nat) : Web := (w.map (bmP k)).take k ++ [setS2 (bmP k (leadN w k false, leadN w k true)) s (.bal (k + 1)), (.out c, .out c)] ++ (w.map (bmP k)).drop (k + 1)
def piR (row : List Int) (k : Nat) (x : Int) : List Int := row.take (k + 1) ++ [x] ++ row.drop (k + 1)
theorem pi_len {w : Web} {k : Nat} (hk : k < w.length) (s : Bool) (c : List Nat) : (piW w k s c).length = w.length + 1 := by
  unfold piW
  simp only [List.length_append, List.length_take, List.length_drop, List.length_map, List.length_cons, List.length_nil]
  omega
theorem pi_new {w : Web} {k : Nat} (hk : k < w.length) (s : Bool) (c : List Nat) (s' : Bool) : leadW (piW w k s c) (k + 1) s' = some (.out c) := by
  unfold leadW piW
  rw [List.append_assoc, List.getElem?_append_right (by rw [List.length_take, List.length_map]; omega), List.length_take, List.length_map, show k + 1 - min k w.length = 1 by omega]
  cases s' <;> rfl
theorem pi_old {w : Web} {k : Nat} (hk : k < w.length) (s : Bool) (c : List Nat) (j : Nat) (s' : Bool) : leadW (piW w k s c) (upN (k + 1) j) s' = if j = k ∧ s' = s then some (.bal (k + 1)) else (leadW w j s').map (bmL k) := by
  have ge : ∀ i, (w.map (bmP k))[i]? = (w[i]?).map (bmP k) := fun i => List.getElem?_map ..
  have of_ : ∀ i, ((w[i]?).map (bmP k)).map (fun p => Ld.of p s') = (leadW w i s').map (bmL k) := fun i => by
    unfold leadW
    cases w[i]? with
    | none => rfl
    | some p => cases s' <;> rfl
  unfold upN
  by_cases z : j < k + 1
  · rw [if_pos z]
    by_cases y : j = k
    · subst y
      unfold leadW piW
      rw [List.append_assoc, List.getElem?_append_right (by rw [List.length_take, List.length_map]; omega), List.length_take, List.length_map, show j - min j w.length = 0 by omega]
      rw [List.cons_append, List.getElem?_cons_zero]
      have e : w[j]? = some (leadN w j false, leadN w j true) := by
        unfold leadN leadW
        rw [List.getElem?_eq_getElem hk]
        rfl
      rw [e]
      cases s <;> cases s' <;> first | rfl | simp [setS2, Ld.of, bmP]
    · rw [if_neg fun q => y q.1]
      rw [← of_]
      unfold leadW piW
      rw [List.append_assoc, List.getElem?_append_left (by rw [List.length_take, List.length_map]; omega), List.getElem?_take, if_pos (by omega), ge]
  · rw [if_neg z, if_neg (by omega), ← of_]
    unfold leadW piW
    have l2 : ((w.map (bmP k)).take k ++ [setS2 (bmP k (leadN w k false, leadN w k true)) s (.bal (k + 1)), (Ld.out c, Ld.out c)]).length = k + 2 := by
      rw [List.length_append, List.length_take, List.length_map]
      simp only [List.length_cons, List.length_nil]
      omega
    rw [List.getElem?_append_right (by rw [l2]; omega), l2, List.getElem?_drop, ge]
    congr 3
    omega
theorem pi_row {row : List Int} {k : Nat} (hk : k < row.length) (x : Int) (j : Nat) : (piR row k x).getD (upN (k + 1) j) 0 = row.getD j 0 := by
  unfold piR upN
  rw [List.getD_eq_getElem?_getD, List.getD_eq_getElem?_getD]
  have l1 : (row.take (k + 1)).length = k + 1 := by rw [List.length_take]; omega
  by_cases z : j < k + 1
  · rw [if_pos z, List.append_assoc, List.getElem?_append_left (by rw [l1]; exact z), List.getElem?_take, if_pos z]
  · rw [if_neg z, List.getElem?_append_right (by rw [List.length_append, l1, List.length_singleton]; omega), List.length_append, l1, List.length_singleton, List.getElem?_drop]
    congr 2
    omega
theorem up_inj {k a b : Nat} (h : upN k a = upN k b) : a = b := by
  unfold upN at h
  split at h <;> split at h <;> omega
theorem up_or (k i : Nat) : i = k ∨ ∃ j, i = upN k j := by
  by_cases z : i < k
  · exact .inr ⟨i, by unfold upN; rw [if_pos z]⟩
  · by_cases y : i = k
    · exact .inl y
    · exact .inr ⟨i - 1, by unfold upN; rw [if_neg (by omega)]; omega⟩
theorem Tw.pi {w : Web} {row : List Int} (T : Tw w row) {k : Nat} (hk : k < w.length) {s : Bool} {c : List Nat} (e : leadN w k s = .out c) {x : Int} (hx : x % 2 = 1) (few : w.length < 20) :
    Tw (piW w k s c) (piR row k x) ∧ part (piW w k s c) (piR row k x) 0 = part w row 0 := by
  have fw := T.nt.fwd
  have hl := pi_len hk s c
  have w1 := T.nt.one
  have rl : k < row.length := by rw [T.lies.len]; exact hk
  have lead : ∀ i s' j, leadW (piW w k s c) i s' = some (.bal j) → (i = k ∧ s' = s ∧ j = k + 1) ∨ ∃ i0 j0, i = upN (k + 1) i0 ∧ j = upN (k + 1) j0 ∧ leadW w i0 s' = some (.bal j0) := fun i s' j h => by
    rcases up_or (k + 1) i with rfl | ⟨i0, rfl⟩
    · rw [pi_new hk] at h
      cases h
    · rw [pi_old hk] at h
      by_cases z : i0 = k ∧ s' = s
      · rw [if_pos z] at h
        left
        refine ⟨by unfold upN; rw [if_pos (by omega)]; exact z.1, z.2, ?_⟩
        injection h with h
        injection h with h
        exact h.symm
      · rw [if_neg z] at h
        right
        obtain ⟨u, hu, h⟩ := Option.map_eq_some_iff.mp h
        cases u with
        | out d => cases h
        | bal j0 =>
          injection h with h
          exact ⟨i0, j0, rfl, h.symm, hu⟩
  have fw' : Fwd (piW w k s c) := fun i s' j h => by
    rw [hl]
    rcases lead i s' j h with ⟨rfl, _, rfl⟩ | ⟨i0, j0, rfl, rfl, q⟩
    · omega
    · obtain ⟨g1, g2⟩ := fw _ _ _ q
      unfold upN
      split <;> split <;> omega
  refine ⟨⟨⟨fw', by omega, by have := T.nt.few; omega⟩, ?_, ?_, ?_, ?_, by omega⟩, ?_⟩
  · intro i i1 i2
    rcases up_or (k + 1) i with rfl | ⟨j, rfl⟩
    · refine ⟨upN (k + 1) k, s, ?_⟩
      rw [pi_old hk, if_pos ⟨rfl, rfl⟩]
    · obtain ⟨i0, s0, q⟩ := T.led j (by unfold upN at i1; split at i1 <;> omega) (by rw [hl] at i2; unfold upN at i2; split at i2 <;> omega)
      refine ⟨upN (k + 1) i0, s0, ?_⟩
      rw [pi_old hk, if_neg, q]
      · rfl
      · rintro ⟨rfl, rfl⟩
        rw [leadN_of q] at e
        cases e
  · intro a s1 b s2 j h1 h2
    rcases lead a s1 j h1 with ⟨rfl, rfl, rfl⟩ | ⟨a0, j0, rfl, rfl, q⟩
    · rcases lead b s2 _ h2 with ⟨rfl, rfl, _⟩ | ⟨b0, j1, rfl, q2, _⟩
      · exact ⟨rfl, rfl⟩
      · exfalso
        unfold upN at q2
        split at q2 <;> omega
    · rcases lead b s2 _ h2 with ⟨rfl, rfl, q2⟩ | ⟨b0, j1, rfl, q2, q3⟩
      · exfalso
        unfold upN at q2
        split at q2 <;> omega
      · have := up_inj q2
        subst this
        obtain ⟨rfl, rfl⟩ := T.tree _ _ _ _ _ q q3
        exact ⟨rfl, rfl⟩
  · refine ⟨?_, fun y hy => ?_⟩
    · rw [hl]
      unfold piR
      simp only [List.length_append, List.length_take, List.length_drop, List.length_singleton]
      rw [T.lies.len]
      omega
    · unfold piR at hy
      rcases List.mem_append.mp hy with hy | hy
      · rcases List.mem_append.mp hy with hy | hy
        · exact T.lies.odd y (List.mem_of_mem_take hy)
        · rw [List.mem_singleton.mp hy]; exact hx
      · exact T.lies.odd y (List.mem_of_mem_drop hy)
  · have fc : LdFine (.out c) := by rw [← e]; exact lead_fineN T.fine hk s
    have fb : ∀ u, LdFine u → (∀ j, u = .bal j → j < 20) → LdFine (bmL k u) := fun u hu hj => by
      cases u with
      | out d => exact hu
      | bal j =>
        have := hj j rfl
        show upN (k + 1) j < 1000
        unfold upN
        split <;> omega
    have fp : ∀ i, i < w.length → ∀ s', LdFine (bmL k (leadN w i s')) := fun i hi s' => fb _ (lead_fineN T.fine hi s') fun j ej => by
      have := (T.bal hi ej).2
      omega
    have mp : ∀ p ∈ w.map (bmP k), LdFine p.1 ∧ LdFine p.2 := fun p hp => by
      obtain ⟨q, hq, rfl⟩ := List.mem_map.mp hp
      obtain ⟨i, hi, eq⟩ := List.mem_iff_getElem.mp hq
      have a := fp i hi false
      have b := fp i hi true
      have : q = (leadN w i false, leadN w i true) := by
        rw [← eq]
        unfold leadN leadW
        rw [List.getElem?_eq_getElem hi]
        rfl
      rw [this]
      exact ⟨a, b⟩
    intro p hp
    unfold piW at hp
    rcases List.mem_append.mp hp with hp | hp
    · rcases List.mem_append.mp hp with hp | hp
      · exact mp p (List.mem_of_mem_take hp)
      · rcases List.mem_cons.mp hp with q | q
        · rw [q]
          have a := fp k hk false
          have b := fp k hk true
          have n : LdFine (.bal (k + 1)) := by show k + 1 < 1000; omega
          cases s with
          | false => exact ⟨n, b⟩
          | true => exact ⟨a, n⟩
        · rw [List.mem_singleton.mp q]
          exact ⟨fc, fc⟩
    · exact mp p (List.mem_of_mem_drop hp)
  · have key := part_map (w := w) (w' := piW w k s c) (row := row) (row' := piR row k x) fw fw' (fun _ => True) (fun j => upN (k + 1) j) (fun j hj _ => ?_) _ 0 rfl (by omega) trivial
    · rw [show upN (k + 1) 0 = 0 by unfold upN; rw [if_pos (by omega)]] at key
      exact key
    · refine ⟨by rw [hl]; unfold upN; split <;> omega, T.odd hj, .inl ⟨pi_row rl x j, fun s' => ?_⟩⟩
      by_cases z : j = k ∧ s' = s
      · obtain ⟨rfl, rfl⟩ := z
        have e' : leadN (piW w j s' c) (upN (j + 1) j) s' = .bal (j + 1) := by
          refine leadN_of ?_
          rw [pi_old hk, if_pos ⟨rfl, rfl⟩]
        rw [e', e]
        refine .inr ?_
        show Prt.ex c = part _ _ (j + 1)
        rw [part_eq fw' _ (by rw [hl]; omega), leadN_of (pi_new hk s' c false), leadN_of (pi_new hk s' c true)]
        exact (fold2_ex _ _).symm
      · have e' : leadN (piW w k s c) (upN (k + 1) j) s' = bmL k (leadN w j s') := by
          refine leadN_of ?_
          rw [pi_old hk, if_neg z, leadW_some hj s']
          rfl
        rw [e']
        cases h : leadN w j s' with
        | out d => exact .inr rfl
        | bal i => exact .inl ⟨i, rfl, trivial, rfl⟩
/-! an order by draws -/
structure OrdI (w : Web) (O W : List Nat) : Prop where
  perm : (O ++ W.flatMap (pre w)).Perm (pre w 0)
  zero : (O = [] ∧ W = [0]) ∨ O[0]? = some 0
  inO : ∀ k s j, leadW w k s = some (.bal j) → j ∈ O → O.idxOf k < O.idxOf j
  inW : ∀ k s j, leadW w k s = some (.bal j) → j ∈ W → k ∈ O
  lt : ∀ x ∈ W, x < w.length
theorem OrdI.start {w : Web} {row : List Int} (T : Tw w row) : OrdI w [] [0] := by
  refine ⟨by simp, .inl ⟨rfl, rfl⟩, fun k s j _ h => (by cases h), fun k s j e h => ?_, fun x hx => ?_⟩
  · rw [List.mem_singleton.mp h] at e
    have := (T.nt.fwd _ _ _ e).1
    omega
  · rw [List.mem_singleton.mp hx]
    have := T.nt.one
    omega
/-- what the balance's pans lead to -/
def kidsN (w : Web) (x : Nat) : List Nat := ([leadN w x false, leadN w x true].filter fun u => u.tx.isNone).map fun u => match u with | .bal j => j | .out _ => 0
theorem kids_pre (w : Web) (x : Nat) : (kidsN w x).flatMap (pre w) = preL w (leadN w x false) ++ preL w (leadN w x true) := by
  unfold kidsN
  cases leadN w x false <;> cases leadN w x true <;> simp [Ld.tx, preL]
theorem kids_mem {w : Web} {row : List Int} (T : Tw w row) {x : Nat} (hx : x < w.length) {j : Nat} (h : j ∈ kidsN w x) : ∃ s, leadW w x s = some (.bal j) := by
  unfold kidsN at h
  obtain ⟨u, hu, e⟩ := List.mem_map.mp h
  obtain ⟨h1, h2⟩ := List.mem_filter.mp hu
  cases u with
  | out c => cases h2
  | bal i =>
    have e : i = j := e
    subst e
    rcases List.mem_cons.mp h1 with q | q
    · exact ⟨false, by rw [leadW_some hx, ← q]⟩
    · exact ⟨true, by rw [leadW_some hx, ← List.mem_singleton.mp q]⟩
theorem idx_app {a : Nat} {L R : List Nat} (h : a ∈ L) : (L ++ R).idxOf a = L.idxOf a := by
  induction L with
  | nil => cases h
  | cons x L ih =>
    rw [List.cons_append, List.idxOf_cons, List.idxOf_cons]
    by_cases z : x = a
    · simp [z]
    · have : (x == a) = false := by simpa using z
      rw [this]
      simp only [cond_false]
      rw [ih ((List.mem_cons.mp h).resolve_left fun q => z q.symm)]
theorem idx_lt {a : Nat} {L : List Nat} (h : a ∈ L) : L.idxOf a < L.length := List.idxOf_lt_length_iff.mpr h
theorem idx_new {a : Nat} {L : List Nat} (h : a ∉ L) : (L ++ [a]).idxOf a = L.length := by
  induction L with
  | nil => simp
  | cons x L ih =>
    have z : x ≠ a := fun q => h (by rw [q]; exact List.mem_cons_self)
    rw [List.cons_append, List.idxOf_cons]
    have : (x == a) = false := by simpa using z
    rw [this]
    simp only [cond_false, List.length_cons]
    rw [ih fun q => h (List.mem_cons_of_mem _ q)]
theorem OrdI.next {w : Web} {row : List Int} (T : Tw w row) {O W : List Nat} (I : OrdI w O W) {n x : Nat} (hn : W[n]? = some x) : OrdI w (O ++ [x]) (W.eraseIdx n ++ kidsN w x) := by
  have w1 := T.nt.one
  have fw := T.nt.fwd
  have xm := List.mem_of_getElem? hn
  have hx := I.lt x xm
  obtain ⟨nl, nx⟩ := List.getElem?_eq_some_iff.mp hn
  have pW : W.Perm (x :: W.eraseIdx n) := by
    have e1 : W = W.take n ++ x :: W.drop (n + 1) := by rw [← nx, ← List.drop_eq_getElem_cons nl, List.take_append_drop]
    rw [List.eraseIdx_eq_take_drop_succ]
    conv => lhs; rw [e1]
    exact List.perm_middle
  have nd := I.perm.nodup_iff.mpr (pre_nd T 0 (by omega))
  have xO : x ∉ O := fun h => (List.nodup_append.mp nd).2.2 x h x (List.mem_flatMap.mpr ⟨x, xm, pre_self fw hx⟩) rfl
  refine ⟨?_, ?_, fun k s j e h => ?_, fun k s j e h => ?_, fun y hy => ?_⟩
  · refine List.Perm.trans ?_ I.perm
    have a : (W.flatMap (pre w)).Perm ((x :: W.eraseIdx n).flatMap (pre w)) := pW.flatMap_right _
    have b : (O ++ W.flatMap (pre w)).Perm (O ++ (x :: W.eraseIdx n).flatMap (pre w)) := a.append_left O
    refine List.Perm.trans ?_ b.symm
    rw [List.append_assoc, List.flatMap_cons, List.flatMap_append, kids_pre, pre_eq fw hx]
    refine List.Perm.append_left O ?_
    rw [List.singleton_append, List.cons_append]
    refine List.Perm.cons x ?_
    exact List.perm_append_comm
  · right
    rcases I.zero with ⟨rfl, rfl⟩ | h
    · have n0 : n = 0 := by simp at nl; exact nl
      subst n0
      have : x = 0 := by simpa using nx.symm
      rw [this]
      rfl
    · rw [List.getElem?_append_left (List.getElem?_eq_some_iff.mp h).1]
      exact h
  · rcases List.mem_append.mp h with h | h
    · have q := I.inO k s j e h
      have km : k ∈ O := List.idxOf_lt_length_iff.mp (by have := idx_lt h; omega)
      rw [idx_app km, idx_app h]
      exact q
    · have ej := List.mem_singleton.mp h
      subst ej
      have km := I.inW k s j e xm
      rw [idx_app km, idx_new xO]
      exact idx_lt km
  · rcases List.mem_append.mp h with h | h
    · exact List.mem_append_left _ (I.inW k s j e (List.mem_of_mem_eraseIdx h))
    · obtain ⟨s', q⟩ := kids_mem T hx h
      obtain ⟨rfl, _⟩ := T.tree _ _ _ _ _ e q
      exact List.mem_append_right _ List.mem_cons_self
  · rcases List.mem_append.mp hy with h | h
    · exact I.lt y (List.mem_of_mem_eraseIdx h)
    · obtain ⟨s', q⟩ := kids_mem T hx h
      exact (fw _ _ _ q).2
theorem OrdI.more {w : Web} {row : List Int} (T : Tw w row) {O W : List Nat} (I : OrdI w O W) (h : O.length < w.length) : 0 < W.length := by
  have := I.perm.length_eq
  rw [pre_len T, List.length_append] at this
  cases W with
  | nil => simp at this; omega
  | cons x r => simp
theorem OrdI.bound {w : Web} {row : List Int} (T : Tw w row) {O W : List Nat} (I : OrdI w O W) : O.length + W.length ≤ w.length := by
  have := I.perm.length_eq
  rw [pre_len T, List.length_append] at this
  have key : ∀ l : List Nat, (∀ y ∈ l, y < w.length) → l.length ≤ (l.flatMap (pre w)).length := by
    intro l
    induction l with
    | nil => intro _; exact Nat.le_refl _
    | cons y r ih =>
      intro h
      rw [List.flatMap_cons, List.length_append, List.length_cons]
      have := ih fun z hz => h z (List.mem_cons_of_mem _ hz)
      have := List.length_pos_of_mem (pre_self T.nt.fwd (h y List.mem_cons_self))
      omega
  have := key W I.lt
  omega
theorem OrdI.fin {w : Web} {row : List Int} (T : Tw w row) {O W : List Nat} (I : OrdI w O W) (h : O.length = w.length) : Ord w O := by
  have w1 := T.nt.one
  have b := I.bound T
  have eW : W = [] := List.eq_nil_of_length_eq_zero (by omega)
  subst eW
  have p := I.perm
  simp only [List.flatMap_nil, List.append_nil] at p
  have mem : ∀ x, x ∈ O ↔ x < w.length := fun x => by
    rw [p.mem_iff]
    exact ⟨fun h => (pre_ge T.nt.fwd 0 (by omega) x h).2, pre_all T x⟩
  refine ⟨p.nodup_iff.mpr (pre_nd T 0 (by omega)), mem, ?_, fun k s j e => I.inO k s j e ((mem j).mpr (T.nt.fwd _ _ _ e).2)⟩
  rcases I.zero with ⟨rfl, _⟩ | z
  · simp at h
    omega
  · exact z
/-! as data: alike just where they are one -/
def NmP2 : Prt → Prop
  | .ex c => NameL c
  | .nd _ a b => NmP2 a ∧ NmP2 b
theorem prt_ok : ∀ (P : Prt) (n : Nat), NmP2 P → htP P < n → okD n (prtD P) = true
  | .ex c, n, h, hn => ld_okD n (v := .out c) h
  | .nd s a b, 0, _, hn => by omega
  | .nd s a b, n + 1, h, hn => by
    unfold htP at hn
    have h1 := prt_ok a n h.1 (by omega)
    have h2 := prt_ok b n h.2 (by omega)
    simp only [prtD, okD, okDs, h1, h2, Bool.and_self]
theorem prt_eqD : ∀ P Q : Prt, eqD (prtD P) (prtD Q) = decide (P = Q)
  | .ex c, .ex d => by
    show eqD (.str (S c)) (.str (S d)) = _
    rw [q_eqSS]
    by_cases e : c = d
    · subst e
      simp
    · rw [decide_eq_false fun q => e (by injection q)]
      simp only [beq_eq_false_iff_ne, ne_eq]
      exact fun q => e (S_inj q)
  | .ex c, .nd s a b => by rw [decide_eq_false (by intro q; cases q)]; rfl
  | .nd s a b, .ex c => by rw [decide_eq_false (by intro q; cases q)]; rfl
  | .nd s a b, .nd t x y => by
    show eqD (.tup [.int (s : Nat), prtD a, prtD b]) (.tup [.int (t : Nat), prtD x, prtD y]) = _
    rw [q_eqTT, q_eqs1, q_eqs1, q_eqs1, q_eqs0, q_eqII, prt_eqD a x, prt_eqD b y, Bool.and_true]
    by_cases h1 : s = t
    · by_cases h2 : a = x
      · by_cases h3 : b = y
        · subst h1 h2 h3
          simp
        · rw [decide_eq_false h3, decide_eq_false (p := Prt.nd s a b = Prt.nd t x y) (by intro q; injection q with _ _ q; exact h3 q)]
          simp
      · rw [decide_eq_false h2, decide_eq_false (p := Prt.nd s a b = Prt.nd t x y) (by intro q; injection q with _ q _; exact h2 q)]
        simp
    · rw [decide_eq_false (p := Prt.nd s a b = Prt.nd t x y) (by intro q; injection q with q _ _; exact h1 q)]
      have : ((s : Int) == (t : Int)) = false := by simp only [beq_eq_false_iff_ne, ne_eq]; omega
      rw [this]
      rfl
theorem part_nm {w : Web} {row : List Int} (T : Tw w row) : ∀ k, k < w.length → NmP2 (part w row k) ∧ htP (part w row k) ≤ w.length - k := by
  have fw := T.nt.fwd
  refine pre_ind fw _ fun k hk ih => ?_
  have one : ∀ s, NmP2 (partL w row (leadN w k s)) ∧ htP (partL w row (leadN w k s)) + 1 ≤ w.length - k := fun s => by
    cases e : leadN w k s with
    | out c =>
      have := lead_fineN T.fine hk s
      rw [e] at this
      exact ⟨this, by show 0 + 1 ≤ _; omega⟩
    | bal j =>
      obtain ⟨g1, g2, g3, g4⟩ := ih s j e
      exact ⟨g3, by show htP (part w row j) + 1 ≤ _; omega⟩
  obtain ⟨a1, a2⟩ := one false
  obtain ⟨b1, b2⟩ := one true
  rw [part_eq fw row hk]
  unfold fold2
  split
  · exact ⟨a1, by omega⟩
  · split
    · exact ⟨⟨a1, b1⟩, by unfold htP; omega⟩
    · exact ⟨⟨b1, a1⟩, by unfold htP; omega⟩
/-! helpers of the walks -/
theorem crW_of {w : Web} {j : Nat} (hj : j < w.length) : crW w j = w.set j (w[j].2, w[j].1) := by
  unfold crW
  rw [List.getElem?_eq_getElem hj]
theorem at_web {w : Web} {k : Nat} (hk : k < w.length) : atI (w.map ldsD) (k : Int) = some (.tup [(leadN w k false).d, (leadN w k true).d]) := atI_nat (by
  rw [List.getElem?_map, List.getElem?_eq_getElem hk]
  unfold leadN leadW
  rw [List.getElem?_eq_getElem hk]
  rfl)
theorem at_row {row : List Int} {k : Nat} (hk : k < row.length) : atI (row.map D.int) (k : Int) = some (.int (row.getD k 0)) := atI_nat (by
  rw [List.getElem?_map, List.getD_eq_getElem?_getD, List.getElem?_eq_getElem hk]
  rfl)
theorem lds_at {w : Web} {k : Nat} (hk : k < w.length) : w[k] = (leadN w k false, leadN w k true) := by
  unfold leadN leadW
  rw [List.getElem?_eq_getElem hk]
  rfl

/-! ### grains through parts in parts -/
def grP : Prt → Nat → Prt
  | .ex c, _ => .ex c
  | .nd s a b, g => fold2 (2 * (g : Int) - (s : Int)) (grP a g) b
def greatP : Prt → Nat
  | .ex _ => 0
  | .nd s a b => max s (max (greatP a) (greatP b))
def namesP : Prt → List (List Nat)
  | .ex c => [c]
  | .nd _ a b => namesP a ++ namesP b
/-- without needless ones, sizes odd -/
def Nrm : Prt → Prop
  | .ex _ => True
  | .nd s a b => s % 2 = 1 ∧ sameEx a b = false ∧ Nrm a ∧ Nrm b
def isEx : Prt → Bool
  | .ex _ => true
  | _ => false
theorem fold2_nd {s : Int} {a b : Prt} (h : sameEx a b = false) : fold2 s a b = if s < 0 then .nd s.natAbs a b else .nd s.natAbs b a := by
  unfold fold2
  rw [if_neg (by rw [h]; decide)]
theorem htP_fold (s : Int) (a b : Prt) : htP (fold2 s a b) ≤ 1 + max (htP a) (htP b) := by
  unfold fold2
  split
  · omega
  · split
    · exact Nat.le_refl _
    · show 1 + max (htP b) (htP a) ≤ _
      omega
theorem htP_gr : ∀ (P : Prt) (g : Nat), htP (grP P g) ≤ htP P
  | .ex _, _ => Nat.le_refl _
  | .nd s a b, g => by
    have h1 := htP_gr a g
    have h2 := htP_fold (2 * (g : Int) - (s : Int)) (grP a g) b
    show htP (fold2 _ _ _) ≤ 1 + max (htP a) (htP b)
    omega
theorem sameEx_nd {s : Nat} {a b c : Prt} : sameEx (.nd s a b) c = false := by cases c <;> rfl
theorem same_keep {a b a' : Prt} (h : sameEx a b = false) (e : ∀ c, a' = .ex c → a = .ex c) : sameEx a' b = false := by
  cases q : sameEx a' b with
  | false => rfl
  | true =>
    obtain ⟨c, e1, e2⟩ := sameEx_iff.mp q
    rw [sameEx_iff.mpr ⟨c, e c e1, e2⟩] at h
    cases h
theorem gr_ex : ∀ {P : Prt} {g : Nat}, Nrm P → ∀ c, grP P g = .ex c → P = .ex c
  | .ex d, g, _, c, h => h
  | .nd s a b, g, n, c, h => by
    have hs := same_keep n.2.1 (gr_ex (g := g) n.2.2.1)
    have h : fold2 _ _ _ = _ := h
    rw [fold2_nd hs] at h
    split at h <;> cases h
theorem gr_nd {s : Nat} {a b : Prt} (n : Nrm (.nd s a b)) (g : Nat) : grP (.nd s a b) g = if 2 * g < s then .nd (s - 2 * g) (grP a g) b else .nd (2 * g - s) b (grP a g) := by
  have hs := same_keep n.2.1 (gr_ex (g := g) n.2.2.1)
  show fold2 _ _ _ = _
  rw [fold2_nd hs]
  have odd := n.1
  by_cases z : 2 * g < s
  · rw [if_pos (by omega), if_pos z]
    congr 1
    omega
  · rw [if_neg (by omega), if_neg z]
    congr 1
    omega
theorem gr_nrm : ∀ {P : Prt} {g : Nat}, Nrm P → Nrm (grP P g)
  | .ex _, _, _ => trivial
  | .nd s a b, g, n => by
    have hs := same_keep n.2.1 (gr_ex (g := g) n.2.2.1)
    have ha := gr_nrm (g := g) n.2.2.1
    have odd := n.1
    rw [gr_nd n]
    split
    · exact ⟨by omega, hs, ha, n.2.2.2⟩
    · exact ⟨by omega, by rw [sameEx_comm]; exact hs, n.2.2.2, ha⟩
theorem part_nrm {w : Web} {row : List Int} (T : Tw w row) : ∀ k, k < w.length → Nrm (part w row k) := by
  have fw := T.nt.fwd
  refine pre_ind fw _ fun k hk ih => ?_
  have one : ∀ s, Nrm (partL w row (leadN w k s)) := fun s => by
    cases e : leadN w k s with
    | out c => exact trivial
    | bal j => exact (ih s j e).2.2
  have odd := T.lies.at hk
  rw [part_eq fw row hk]
  unfold fold2
  split
  · exact one false
  · rename_i h
    have h : sameEx (partL w row (leadN w k false)) (partL w row (leadN w k true)) = false := by simpa using h
    split
    · exact ⟨by omega, h, one false, one true⟩
    · exact ⟨by omega, by rw [sameEx_comm]; exact h, one true, one false⟩
/-! the rows that part -/
def rowOff (P : Prt) (c : List Nat) : List Nat := match P with
  | .ex _ => [1]
  | .nd s a b =>
    if (namesP b).any (fun d => decide (d ≠ c)) = true then
      let row := rowOff b c
      (s / 2 + 1 + row.sum) :: row
    else match a with
      | .ex _ => [1]
      | .nd t x y =>
        let g := s / 2 + 1
        let row := rowOff (grP (.nd t x y) g) c
        g :: (row.sum + 1) :: row
termination_by htP P
decreasing_by
  · show htP b < 1 + max (htP a) (htP b)
    omega
  · have := htP_gr (.nd t x y) (s / 2 + 1)
    show _ < 1 + max (htP (.nd t x y)) (htP b)
    omega
theorem rowOff_ex (d c : List Nat) : rowOff (.ex d) c = [1] := by rw [rowOff.eq_def]
theorem rowOff_nd (s : Nat) (a b : Prt) (c : List Nat) : rowOff (.nd s a b) c = if (namesP b).any (fun d => decide (d ≠ c)) = true then (s / 2 + 1 + (rowOff b c).sum) :: rowOff b c else if isEx a = true then [1] else (s / 2 + 1) :: ((rowOff (grP a (s / 2 + 1)) c).sum + 1) :: rowOff (grP a (s / 2 + 1)) c := by
  rw [rowOff.eq_def]
  simp only
  split
  · rfl
  · cases a <;> rfl
def restS (a b : Prt) (w rest : Nat) : List Nat := if grP a w = grP b rest then [rest - 1, 1] else [rest]
def grAll (P : Prt) (gs : List Nat) : Prt := gs.foldl grP P
theorem htP_all : ∀ (gs : List Nat) (P : Prt), htP (grAll P gs) ≤ htP P
  | [], _ => Nat.le_refl _
  | g :: gs, P => Nat.le_trans (htP_all gs (grP P g)) (htP_gr P g)
def rowApart (P Q : Prt) : List Nat := match P, Q with
  | .ex _, .ex _ => [1]
  | .ex c, .nd t x y => rowOff (.nd t x y) c
  | .nd s a b, .ex c => rowOff (.nd s a b) c
  | .nd s a b, .nd t x y =>
    if b ≠ y then
      let row := rowApart b y
      (max s t / 2 + 1 + row.sum) :: row
    else
      let w := max (greatP (.nd s a b)) (greatP (.nd t x y)) + 1
      if a ≠ x then
        let row := rowApart (grP a w) (grP x w)
        w :: (w + row.sum) :: row
      else
        let lo := min s t
        let hi := max s t
        let v := lo / 2 + 1
        if isEx a = true ∧ isEx b = true then [v, 1]
        else if isEx a = true ∨ isEx b = true then
          let row := rowApart (grP a v) b
          v :: (row.sum + hi + 1) :: row
        else
          let some := restS a b w (w - hi / 2)
          let row := rowApart (grP a w) (grAll b some)
          w :: (some ++ (row.sum + hi + 1) :: row)
termination_by htP P
decreasing_by
  · show htP b < 1 + max (htP a) (htP b)
    omega
  · have := htP_gr a (max (greatP (.nd s a b)) (greatP (.nd t x y)) + 1)
    show _ < 1 + max (htP a) (htP b)
    omega
  · have := htP_gr a (min s t / 2 + 1)
    show _ < 1 + max (htP a) (htP b)
    omega
  · have := htP_gr a (max (greatP (.nd s a b)) (greatP (.nd t x y)) + 1)
    show _ < 1 + max (htP a) (htP b)
    omega
theorem apart_ee (c d : List Nat) : rowApart (.ex c) (.ex d) = [1] := by rw [rowApart.eq_def]
theorem apart_en (c : List Nat) (t : Nat) (x y : Prt) : rowApart (.ex c) (.nd t x y) = rowOff (.nd t x y) c := by rw [rowApart.eq_def]
theorem apart_ne (c : List Nat) (t : Nat) (x y : Prt) : rowApart (.nd t x y) (.ex c) = rowOff (.nd t x y) c := by rw [rowApart.eq_def]
theorem apart_nn (s t : Nat) (a b x y : Prt) : rowApart (.nd s a b) (.nd t x y) =
    if b ≠ y then (max s t / 2 + 1 + (rowApart b y).sum) :: rowApart b y
    else if a ≠ x then (max (greatP (.nd s a b)) (greatP (.nd t x y)) + 1) :: (max (greatP (.nd s a b)) (greatP (.nd t x y)) + 1 + (rowApart (grP a (max (greatP (.nd s a b)) (greatP (.nd t x y)) + 1)) (grP x (max (greatP (.nd s a b)) (greatP (.nd t x y)) + 1))).sum) :: rowApart (grP a (max (greatP (.nd s a b)) (greatP (.nd t x y)) + 1)) (grP x (max (greatP (.nd s a b)) (greatP (.nd t x y)) + 1))
    else if isEx a = true ∧ isEx b = true then [min s t / 2 + 1, 1]
    else if isEx a = true ∨ isEx b = true then (min s t / 2 + 1) :: ((rowApart (grP a (min s t / 2 + 1)) b).sum + max s t + 1) :: rowApart (grP a (min s t / 2 + 1)) b
    else (max (greatP (.nd s a b)) (greatP (.nd t x y)) + 1) :: (restS a b (max (greatP (.nd s a b)) (greatP (.nd t x y)) + 1) (max (greatP (.nd s a b)) (greatP (.nd t x y)) + 1 - max s t / 2) ++ ((rowApart (grP a (max (greatP (.nd s a b)) (greatP (.nd t x y)) + 1)) (grAll b (restS a b (max (greatP (.nd s a b)) (greatP (.nd t x y)) + 1) (max (greatP (.nd s a b)) (greatP (.nd t x y)) + 1 - max s t / 2)))).sum + max s t + 1) :: rowApart (grP a (max (greatP (.nd s a b)) (greatP (.nd t x y)) + 1)) (grAll b (restS a b (max (greatP (.nd s a b)) (greatP (.nd t x y)) + 1) (max (greatP (.nd s a b)) (greatP (.nd t x y)) + 1 - max s t / 2)))) := by rw [rowApart.eq_def]
theorem rest_len (a b : Prt) (w r : Nat) : (restS a b w r).length ≤ 2 := by
  unfold restS
  split <;> simp
theorem apart_len (off : ∀ (m : Nat) (P : Prt) (c : List Nat), htP P ≤ m → (rowOff P c).length ≤ 2 * m + 1) : ∀ (m : Nat) (P Q : Prt), htP P ≤ m → htP Q ≤ 20 → (rowApart P Q).length ≤ 4 * m + 50 := by
  intro m
  induction m with
  | zero =>
    intro P Q h hq
    cases P with
    | ex c =>
      cases Q with
      | ex d => rw [apart_ee]; simp
      | nd t x y =>
        rw [apart_en]
        have := off 20 (.nd t x y) c hq
        omega
    | nd s a b => unfold htP at h; omega
  | succ m ih =>
    intro P Q h hq
    cases P with
    | ex c =>
      cases Q with
      | ex d => rw [apart_ee]; simp
      | nd t x y =>
        rw [apart_en]
        have := off 20 (.nd t x y) c hq
        omega
    | nd s a b =>
      cases Q with
      | ex d =>
        rw [apart_ne]
        have := off (m + 1) (.nd s a b) d h
        omega
      | nd t x y =>
        unfold htP at h hq
        rw [apart_nn]
        generalize hw : max (greatP (.nd s a b)) (greatP (.nd t x y)) + 1 = w
        have ga := fun g => htP_gr a g
        split
        · have := ih b y (by omega) (by omega)
          simp only [List.length_cons]
          omega
        · split
          · have := ih (grP a w) (grP x w) (by have := ga w; omega) (by have := htP_gr x w; omega)
            simp only [List.length_cons]
            omega
          · rename_i h1 h2
            have h1 : b = y := Decidable.not_not.mp h1
            split
            · simp
            · split
              · have := ih (grP a (min s t / 2 + 1)) b (by have := ga (min s t / 2 + 1); omega) (by rw [h1]; omega)
                simp only [List.length_cons]
                omega
              · have e2 := htP_all (restS a b w (w - max s t / 2)) b
                have := ih (grP a w) (grAll b (restS a b w (w - max s t / 2))) (by have := ga w; omega) (by rw [h1] at e2 ⊢; omega)
                have e3 := rest_len a b w (w - max s t / 2)
                simp only [List.length_cons, List.length_append]
                omega
theorem Tw.row {w : Web} {row row' : List Int} (T : Tw w row) (hl : row'.length = w.length) (ho : ∀ x ∈ row', x % 2 = 1) : Tw w row' := ⟨T.nt, T.led, T.tree, ⟨hl, ho⟩, T.fine, T.few⟩
/-! P13: trees whose parts in parts are unlike are told apart by the row; plain -/
def outP : Prt → List Nat
  | .ex c => c
  | .nd _ a _ => outP a
def runP : Prt → List Nat → List (List Nat)
  | _, [] => []
  | P, g :: gs => outP P :: runP (grP P g) gs
theorem run_len : ∀ (gs : List Nat) (P : Prt), (runP P gs).length = gs.length
  | [], _ => rfl
  | g :: gs, P => by
    show (runP (grP P g) gs).length + 1 = gs.length + 1
    rw [run_len gs]
theorem run_app : ∀ (xs ys : List Nat) (P : Prt), runP P (xs ++ ys) = runP P xs ++ runP (grAll P xs) ys
  | [], ys, P => rfl
  | g :: xs, ys, P => by
    show outP P :: runP (grP P g) (xs ++ ys) = outP P :: (runP (grP P g) xs ++ runP (grAll (grP P g) xs) ys)
    rw [run_app xs ys]
theorem run_ex (c : List Nat) : ∀ gs : List Nat, runP (.ex c) gs = gs.map fun _ => c
  | [] => rfl
  | g :: gs => by
    show c :: runP (.ex c) gs = c :: gs.map fun _ => c
    rw [run_ex c gs]
theorem run_ne {P Q : Prt} (xs ys : List Nat) (h : runP (grAll P xs) ys ≠ runP (grAll Q xs) ys) : runP P (xs ++ ys) ≠ runP Q (xs ++ ys) := fun e => by
  rw [run_app, run_app] at e
  exact h (List.append_inj e (by rw [run_len, run_len])).2
theorem gr_stay {s : Nat} {a b : Prt} {g : Nat} (n : Nrm (.nd s a b)) (h : 2 * g < s) : grP (.nd s a b) g = .nd (s - 2 * g) (grP a g) b := by rw [gr_nd n, if_pos h]
theorem gr_flip {s : Nat} {a b : Prt} {g : Nat} (n : Nrm (.nd s a b)) (h : s < 2 * g) : grP (.nd s a b) g = .nd (2 * g - s) b (grP a g) := by rw [gr_nd n, if_neg (by omega)]
theorem run_near {b : Prt} : ∀ (ws : List Nat) {s : Nat} {a : Prt}, Nrm (.nd s a b) → 2 * ws.sum < s → runP (.nd s a b) ws = runP a ws ∧ grAll (.nd s a b) ws = .nd (s - 2 * ws.sum) (grAll a ws) b
  | [], s, a, n, h => ⟨rfl, rfl⟩
  | g :: ws, s, a, n, h => by
    rw [List.sum_cons] at h ⊢
    have e := gr_stay (g := g) n (by omega)
    have n2 := gr_nrm (g := g) n
    rw [e] at n2
    obtain ⟨h1, h2⟩ := run_near ws n2 (by omega)
    constructor
    · show outP a :: runP (grP (.nd s a b) g) ws = outP a :: runP (grP a g) ws
      rw [e, h1]
    · show grAll (grP (.nd s a b) g) ws = .nd _ (grAll (grP a g) ws) b
      rw [e, h2, show s - 2 * g - 2 * ws.sum = s - 2 * (g + ws.sum) by omega]
theorem all_ex : ∀ {P : Prt} {c : List Nat}, Nrm P → (∀ d ∈ namesP P, d = c) → P = .ex c
  | .ex d, c, _, h => by rw [h d List.mem_cons_self]
  | .nd s a b, c, n, h => by
    have e1 := all_ex n.2.2.1 fun d hd => h d (List.mem_append_left _ hd)
    have e2 := all_ex n.2.2.2 fun d hd => h d (List.mem_append_right _ hd)
    have := n.2.1
    rw [e1, e2, sameEx_iff.mpr ⟨c, rfl, rfl⟩] at this
    cases this
theorem off_parts : ∀ (m : Nat) (P : Prt) (c : List Nat), htP P ≤ m → Nrm P → P ≠ .ex c → runP P (rowOff P c) ≠ (rowOff P c).map fun _ => c := by
  intro m
  induction m with
  | zero =>
    intro P c h n ne
    cases P with
    | nd s a b => unfold htP at h; omega
    | ex d =>
      rw [rowOff_ex]
      intro e
      injection e with e _
      exact ne (by rw [show d = c from e])
  | succ m ih =>
    intro P c h n ne
    cases P with
    | ex d =>
      rw [rowOff_ex]
      intro e
      injection e with e _
      exact ne (by rw [show d = c from e])
    | nd s a b =>
      unfold htP at h
      have odd := n.1
      rw [rowOff_nd]
      split
      · rename_i z
        have nb : b ≠ .ex c := fun q => by
          rw [q] at z
          simp [namesP] at z
        have := ih b c (by omega) n.2.2.2 nb
        generalize rowOff b c = row at this ⊢
        have e1 := gr_flip (g := s / 2 + 1 + row.sum) n (by omega)
        have n2 := gr_nrm (g := s / 2 + 1 + row.sum) n
        rw [e1] at n2
        have e2 := (run_near row n2 (by omega)).1
        intro e
        have e : outP a :: runP (grP (.nd s a b) (s / 2 + 1 + row.sum)) row = c :: row.map fun _ => c := e
        injection e with _ e
        rw [e1, e2] at e
        exact this e
      · rename_i z
        have eb : b = .ex c := all_ex n.2.2.2 fun d hd => by
          apply Decidable.not_not.mp
          intro q
          exact z (List.any_eq_true.mpr ⟨d, hd, decide_eq_true q⟩)
        subst eb
        split
        · rename_i q
          cases a with
          | nd _ _ _ => cases q
          | ex d =>
            intro e
            injection e with e _
            have e : d = c := e
            have := n.2.1
            rw [e, sameEx_iff.mpr ⟨c, rfl, rfl⟩] at this
            cases this
        · rename_i q
          have na : a ≠ .ex c := fun z => by rw [z] at q; exact q rfl
          have nga : grP a (s / 2 + 1) ≠ .ex c := fun z => na (gr_ex n.2.2.1 c z)
          have hg := htP_gr a (s / 2 + 1)
          have := ih (grP a (s / 2 + 1)) c (by omega) (gr_nrm n.2.2.1) nga
          have e1 := gr_flip (g := s / 2 + 1) n (by omega)
          have n1 := gr_nrm (g := s / 2 + 1) n
          rw [e1] at n1
          generalize rowOff (grP a (s / 2 + 1)) c = row at this ⊢
          have e2 := gr_flip (g := row.sum + 1) n1 (by omega)
          have n2 := gr_nrm (g := row.sum + 1) n1
          rw [e2] at n2
          have e3 := (run_near row n2 (by omega)).1
          intro e
          have e : outP a :: outP (grP (.nd s a (.ex c)) (s / 2 + 1)) :: runP (grP (grP (.nd s a (.ex c)) (s / 2 + 1)) (row.sum + 1)) row = c :: c :: row.map fun _ => c := e
          injection e with _ e
          injection e with _ e
          rw [e1, e2, e3] at e
          exact this e
theorem great_nd (s : Nat) (a b : Prt) : greatP (.nd s a b) = max s (max (greatP a) (greatP b)) := rfl
theorem gr_inj : ∀ {a x : Prt} {w : Nat}, Nrm a → Nrm x → greatP a < w → greatP x < w → grP a w = grP x w → a = x
  | .ex c, x, w, _, nx, _, _, h => (gr_ex nx c h.symm).symm
  | .nd s p q, .ex d, w, na, _, _, _, h => gr_ex na d h
  | .nd s p q, .nd t y z, w, na, nx, h1, h2, h => by
    rw [great_nd] at h1 h2
    rw [gr_flip na (by omega), gr_flip nx (by omega)] at h
    injection h with e1 e2 e3
    rw [gr_inj na.2.2.1 nx.2.2.1 (by omega) (by omega) e3, e2, show s = t by omega]
theorem gr_two {u r : Nat} {p q : Prt} (n : Nrm (.nd u p q)) (h : u < 2 * (r - 1)) : grP (grP (.nd u p q) (r - 1)) 1 ≠ grP (.nd u p q) r := by
  intro e
  have odd := n.1
  have n2 := gr_nrm (g := r - 1) n
  rw [gr_flip n h] at n2
  rw [gr_flip n h, gr_flip (g := r) n (by omega), gr_nd n2] at e
  split at e
  · injection e with e
    omega
  · injection e with e
    omega
theorem all_app : ∀ (xs ys : List Nat) (P : Prt), grAll P (xs ++ ys) = grAll (grAll P xs) ys
  | [], _, _ => rfl
  | g :: xs, ys, P => all_app xs ys (grP P g)
theorem all_nrm : ∀ (xs : List Nat) {P : Prt}, Nrm P → Nrm (grAll P xs)
  | [], _, n => n
  | g :: xs, P, n => all_nrm xs (gr_nrm n)
theorem sizes_parts {s t : Nat} {a b : Prt} (ps : Nrm (.nd s a b)) (pt : Nrm (.nd t a b)) (st : s < t) (w : Nat) (ga : greatP a < w) (gb : greatP b < w) (gt : t < w)
    (ih : ∀ (g : Nat) (Q : Prt), Nrm Q → grP a g ≠ Q → runP (grP a g) (rowApart (grP a g) Q) ≠ runP Q (rowApart (grP a g) Q)) (W : List Nat)
    (hW : W = if isEx a = true ∧ isEx b = true then [s / 2 + 1, 1]
    else if isEx a = true ∨ isEx b = true then (s / 2 + 1) :: ((rowApart (grP a (s / 2 + 1)) b).sum + t + 1) :: rowApart (grP a (s / 2 + 1)) b
    else w :: (restS a b w (w - t / 2) ++ ((rowApart (grP a w) (grAll b (restS a b w (w - t / 2)))).sum + t + 1) :: rowApart (grP a w) (grAll b (restS a b w (w - t / 2))))) :
    runP (.nd s a b) W ≠ runP (.nd t a b) W := by
  have os := ps.1
  have ot := pt.1
  have na := ps.2.2.1
  have nb := ps.2.2.2
  split at hW
  · rename_i z
    subst hW
    obtain ⟨za, zb⟩ := z
    cases a with
    | nd _ _ _ => cases za
    | ex c =>
      cases b with
      | nd _ _ _ => cases zb
      | ex d =>
        have e1 := gr_flip (g := s / 2 + 1) ps (by omega)
        have e2 := gr_stay (g := s / 2 + 1) pt (by omega)
        intro e
        have e : c :: outP (grP (.nd s (.ex c) (.ex d)) (s / 2 + 1)) :: [] = c :: outP (grP (.nd t (.ex c) (.ex d)) (s / 2 + 1)) :: [] := e
        injection e with _ e
        injection e with e _
        rw [e1, e2] at e
        have e : d = c := e
        have := ps.2.1
        rw [e, sameEx_iff.mpr ⟨c, rfl, rfl⟩] at this
        cases this
  · rename_i z0
    split at hW
    · rename_i z
      have ne : grP a (s / 2 + 1) ≠ b := fun q => by
        cases b with
        | ex d =>
          have := gr_ex na d q
          exact z0 ⟨by rw [this]; rfl, rfl⟩
        | nd u x y =>
          rcases z with z | z
          · cases a with
            | ex c => cases q
            | nd _ _ _ => cases z
          · cases z
      have IH := ih _ b nb ne
      subst hW
      generalize rowApart (grP a (s / 2 + 1)) b = row at IH ⊢
      have e1 := gr_flip (g := s / 2 + 1) ps (by omega)
      have n1 := gr_nrm (g := s / 2 + 1) ps
      have f1 := gr_stay (g := s / 2 + 1) pt (by omega)
      have m1 := gr_nrm (g := s / 2 + 1) pt
      rw [e1] at n1
      rw [f1] at m1
      have e2 := gr_flip (g := row.sum + t + 1) n1 (by omega)
      have n2 := gr_nrm (g := row.sum + t + 1) n1
      have f2 := gr_flip (g := row.sum + t + 1) m1 (by omega)
      have m2 := gr_nrm (g := row.sum + t + 1) m1
      rw [e2] at n2
      rw [f2] at m2
      refine run_ne [s / 2 + 1, row.sum + t + 1] row ?_
      show runP (grP (grP (.nd s a b) (s / 2 + 1)) (row.sum + t + 1)) row ≠ runP (grP (grP (.nd t a b) (s / 2 + 1)) (row.sum + t + 1)) row
      rw [e1, f1, e2, f2, (run_near row n2 (by omega)).1, (run_near row m2 (by omega)).1]
      exact IH
    · rename_i z
      have e1 := gr_flip (g := w) ps (by omega)
      have n1 := gr_nrm (g := w) ps
      have f1 := gr_flip (g := w) pt (by omega)
      have m1 := gr_nrm (g := w) pt
      rw [e1] at n1
      rw [f1] at m1
      have rb : 2 * (w - t / 2) = 2 * w - t + 1 := by omega
      have ne : grP a w ≠ grAll b (restS a b w (w - t / 2)) := fun q => by
        unfold restS at q
        split at q
        · rename_i y
          rw [y] at q
          cases b with
          | ex d => exact z (Or.inr rfl)
          | nd u x1 y1 =>
            rw [great_nd] at gb
            exact gr_two nb (r := w - t / 2) (by omega) q.symm
        · rename_i y
          exact y q
      have sr : (restS a b w (w - t / 2)).sum = w - t / 2 := by
        unfold restS
        split
        · simp only [List.sum_cons, List.sum_nil]
          omega
        · simp
      have hiS : grAll (.nd (2 * w - t) b (grP a w)) (restS a b w (w - t / 2)) = .nd 1 (grP a w) (grAll b (restS a b w (w - t / 2))) := by
        unfold restS
        split
        · have g1 := gr_stay (g := w - t / 2 - 1) m1 (by omega)
          have k1 := gr_nrm (g := w - t / 2 - 1) m1
          rw [g1] at k1
          show grP (grP (.nd (2 * w - t) b (grP a w)) (w - t / 2 - 1)) 1 = _
          rw [g1, gr_flip k1 (by omega), show 2 * 1 - (2 * w - t - 2 * (w - t / 2 - 1)) = 1 by omega]
          rfl
        · show grP (.nd (2 * w - t) b (grP a w)) (w - t / 2) = _
          rw [gr_flip m1 (by omega), show 2 * (w - t / 2) - (2 * w - t) = 1 by omega]
          rfl
      have loS := (run_near (restS a b w (w - t / 2)) n1 (by omega)).2
      rw [sr] at loS
      have k1 : Nrm (grAll (.nd (2 * w - t) b (grP a w)) (restS a b w (w - t / 2))) := all_nrm _ m1
      have l1 : Nrm (grAll (.nd (2 * w - s) b (grP a w)) (restS a b w (w - t / 2))) := all_nrm _ n1
      have IH := ih w _ (all_nrm _ nb) ne
      rw [hiS] at k1
      rw [loS] at l1
      subst hW
      generalize restS a b w (w - t / 2) = so at hiS loS k1 l1 IH ⊢
      generalize rowApart (grP a w) (grAll b so) = row at IH ⊢
      have e2 := gr_flip (g := row.sum + t + 1) l1 (by omega)
      have n2 := gr_nrm (g := row.sum + t + 1) l1
      have f2 := gr_flip (g := row.sum + t + 1) k1 (by omega)
      have m2 := gr_nrm (g := row.sum + t + 1) k1
      rw [e2] at n2
      rw [f2] at m2
      have ew : w :: (so ++ (row.sum + t + 1) :: row) = (w :: so ++ [row.sum + t + 1]) ++ row := by simp
      rw [ew]
      refine run_ne _ row ?_
      rw [all_app, all_app]
      show runP (grP (grAll (grP (.nd s a b) w) so) (row.sum + t + 1)) row ≠ runP (grP (grAll (grP (.nd t a b) w) so) (row.sum + t + 1)) row
      rw [e1, f1, loS, hiS, e2, f2, (run_near row n2 (by omega)).1, (run_near row m2 (by omega)).1]
      exact IH
theorem apart_parts : ∀ (m : Nat) (P Q : Prt), htP P ≤ m → Nrm P → Nrm Q → P ≠ Q → runP P (rowApart P Q) ≠ runP Q (rowApart P Q) := by
  intro m
  induction m with
  | zero =>
    intro P Q h nP nQ ne
    cases P with
    | nd s a b => unfold htP at h; omega
    | ex c =>
      cases Q with
      | ex d =>
        rw [apart_ee]
        intro e
        injection e with e _
        exact ne (by rw [show c = d from e])
      | nd t x y =>
        rw [apart_en, run_ex]
        exact fun e => off_parts _ _ c (Nat.le_refl _) nQ (fun q => by cases q) e.symm
  | succ m ih =>
    intro P Q h nP nQ ne
    cases P with
    | ex c =>
      cases Q with
      | ex d =>
        rw [apart_ee]
        intro e
        injection e with e _
        exact ne (by rw [show c = d from e])
      | nd t x y =>
        rw [apart_en, run_ex]
        exact fun e => off_parts _ _ c (Nat.le_refl _) nQ (fun q => by cases q) e.symm
    | nd s a b =>
      cases Q with
      | ex d =>
        rw [apart_ne, run_ex]
        exact off_parts _ _ d (Nat.le_refl _) nP (fun q => by cases q)
      | nd t x y =>
        unfold htP at h
        have os := nP.1
        have ot := nQ.1
        rw [apart_nn]
        generalize hw : max (greatP (.nd s a b)) (greatP (.nd t x y)) + 1 = w
        rw [great_nd, great_nd] at hw
        split
        · rename_i z
          have IH := ih b y (by omega) nP.2.2.2 nQ.2.2.2 z
          generalize rowApart b y = row at IH ⊢
          have e1 := gr_flip (g := max s t / 2 + 1 + row.sum) nP (by omega)
          have n1 := gr_nrm (g := max s t / 2 + 1 + row.sum) nP
          have f1 := gr_flip (g := max s t / 2 + 1 + row.sum) nQ (by omega)
          have m1 := gr_nrm (g := max s t / 2 + 1 + row.sum) nQ
          rw [e1] at n1
          rw [f1] at m1
          refine run_ne [max s t / 2 + 1 + row.sum] row ?_
          show runP (grP (.nd s a b) _) row ≠ runP (grP (.nd t x y) _) row
          rw [e1, f1, (run_near row n1 (by omega)).1, (run_near row m1 (by omega)).1]
          exact IH
        · rename_i z
          have z : b = y := Decidable.not_not.mp z
          subst z
          split
          · rename_i z2
            have ga := htP_gr a w
            have IH := ih (grP a w) (grP x w) (by omega) (gr_nrm nP.2.2.1) (gr_nrm nQ.2.2.1) fun q => z2 (gr_inj nP.2.2.1 nQ.2.2.1 (by omega) (by omega) q)
            generalize rowApart (grP a w) (grP x w) = row at IH ⊢
            have e1 := gr_flip (g := w) nP (by omega)
            have n1 := gr_nrm (g := w) nP
            have f1 := gr_flip (g := w) nQ (by omega)
            have m1 := gr_nrm (g := w) nQ
            rw [e1] at n1
            rw [f1] at m1
            have e2 := gr_flip (g := w + row.sum) n1 (by omega)
            have n2 := gr_nrm (g := w + row.sum) n1
            have f2 := gr_flip (g := w + row.sum) m1 (by omega)
            have m2 := gr_nrm (g := w + row.sum) m1
            rw [e2] at n2
            rw [f2] at m2
            refine run_ne [w, w + row.sum] row ?_
            show runP (grP (grP (.nd s a b) w) (w + row.sum)) row ≠ runP (grP (grP (.nd t x b) w) (w + row.sum)) row
            rw [e1, f1, e2, f2, (run_near row n2 (by omega)).1, (run_near row m2 (by omega)).1]
            exact IH
          · rename_i z2
            have z2 : a = x := Decidable.not_not.mp z2
            subst z2
            have IH : ∀ (g : Nat) (Q : Prt), Nrm Q → grP a g ≠ Q → runP (grP a g) (rowApart (grP a g) Q) ≠ runP Q (rowApart (grP a g) Q) := fun g Q nq q => by
              have := htP_gr a g
              exact ih _ _ (by omega) (gr_nrm nP.2.2.1) nq q
            by_cases zs : s < t
            · rw [show min s t = s by omega, show max s t = t by omega]
              exact sizes_parts nP nQ zs w (by omega) (by omega) (by omega) IH _ rfl
            · have zt : t < s := by
                have : s ≠ t := fun q => ne (by rw [q])
                omega
              rw [show min s t = t by omega, show max s t = s by omega]
              exact (sizes_parts nQ nP zt w (by omega) (by omega) (by omega) IH _ rfl).symm
/-! grains: at least one pound, and not too heavy -/
theorem off_pos : ∀ (m : Nat) (P : Prt) (c : List Nat), htP P ≤ m → ∀ g ∈ rowOff P c, 1 ≤ g := by
  intro m
  induction m with
  | zero =>
    intro P c h g hg
    cases P with
    | ex d => rw [rowOff_ex] at hg; rw [List.mem_singleton.mp hg]; exact Nat.le_refl _
    | nd s a b => unfold htP at h; omega
  | succ m ih =>
    intro P c h g hg
    cases P with
    | ex d => rw [rowOff_ex] at hg; rw [List.mem_singleton.mp hg]; exact Nat.le_refl _
    | nd s a b =>
      unfold htP at h
      rw [rowOff_nd] at hg
      split at hg
      · rcases List.mem_cons.mp hg with z | z
        · omega
        · exact ih b c (by omega) g z
      · split at hg
        · rw [List.mem_singleton.mp hg]; exact Nat.le_refl _
        · have := htP_gr a (s / 2 + 1)
          rcases List.mem_cons.mp hg with z | z
          · omega
          · rcases List.mem_cons.mp z with z | z
            · omega
            · exact ih _ c (by omega) g z
theorem apart_pos : ∀ (m : Nat) (P Q : Prt), htP P ≤ m → Nrm P → Nrm Q → ∀ g ∈ rowApart P Q, 1 ≤ g := by
  intro m
  induction m with
  | zero =>
    intro P Q h _ _ g hg
    cases P with
    | nd s a b => unfold htP at h; omega
    | ex c =>
      cases Q with
      | ex d => rw [apart_ee] at hg; rw [List.mem_singleton.mp hg]; exact Nat.le_refl _
      | nd t x y => rw [apart_en] at hg; exact off_pos _ _ c (Nat.le_refl _) g hg
  | succ m ih =>
    intro P Q h nP nQ g hg
    cases P with
    | ex c =>
      cases Q with
      | ex d => rw [apart_ee] at hg; rw [List.mem_singleton.mp hg]; exact Nat.le_refl _
      | nd t x y => rw [apart_en] at hg; exact off_pos _ _ c (Nat.le_refl _) g hg
    | nd s a b =>
      cases Q with
      | ex d => rw [apart_ne] at hg; exact off_pos _ _ d (Nat.le_refl _) g hg
      | nd t x y =>
        unfold htP at h
        have os := nP.1
        have ot := nQ.1
        rw [apart_nn] at hg
        generalize hw : max (greatP (.nd s a b)) (greatP (.nd t x y)) + 1 = w at hg
        rw [great_nd, great_nd] at hw
        split at hg
        · rcases List.mem_cons.mp hg with z | z
          · omega
          · exact ih b y (by omega) nP.2.2.2 nQ.2.2.2 g z
        · split at hg
          · have := htP_gr a w
            rcases List.mem_cons.mp hg with z | z
            · omega
            · rcases List.mem_cons.mp z with z | z
              · omega
              · exact ih _ _ (by omega) (gr_nrm nP.2.2.1) (gr_nrm nQ.2.2.1) g z
          · split at hg
            · rcases List.mem_cons.mp hg with z | z
              · omega
              · rw [List.mem_singleton.mp z]; exact Nat.le_refl _
            · split at hg
              · have := htP_gr a (min s t / 2 + 1)
                rcases List.mem_cons.mp hg with z | z
                · omega
                · rcases List.mem_cons.mp z with z | z
                  · omega
                  · exact ih _ _ (by omega) (gr_nrm nP.2.2.1) nP.2.2.2 g z
              · have := htP_gr a w
                rcases List.mem_cons.mp hg with z | z
                · omega
                · rcases List.mem_append.mp z with z | z
                  · unfold restS at z
                    split at z
                    · rcases List.mem_cons.mp z with z | z
                      · omega
                      · rw [List.mem_singleton.mp z]; exact Nat.le_refl _
                    · rw [List.mem_singleton.mp z]
                      omega
                  · rcases List.mem_cons.mp z with z | z
                    · omega
                    · exact ih _ _ (by omega) (gr_nrm nP.2.2.1) (all_nrm _ nP.2.2.2) g z
theorem great_fold (s : Int) (a b : Prt) : greatP (fold2 s a b) ≤ max s.natAbs (max (greatP a) (greatP b)) := by
  unfold fold2
  split
  · omega
  · split
    · exact Nat.le_refl _
    · rw [great_nd]
      omega
theorem great_gr : ∀ (P : Prt) (g : Nat), greatP (grP P g) ≤ max (greatP P) (2 * g)
  | .ex _, _ => Nat.zero_le _
  | .nd s a b, g => by
    have h1 := great_gr a g
    have h2 := great_fold (2 * (g : Int) - (s : Int)) (grP a g) b
    rw [great_nd]
    show greatP (fold2 _ _ _) ≤ _
    omega
theorem great_all : ∀ (gs : List Nat) (P : Prt) (M : Nat), greatP P ≤ M → (∀ g ∈ gs, 2 * g ≤ M) → greatP (grAll P gs) ≤ M
  | [], _, _, h, _ => h
  | g :: gs, P, M, h, h2 => by
    have := great_gr P g
    have := h2 g List.mem_cons_self
    exact great_all gs (grP P g) M (by omega) fun x hx => h2 x (List.mem_cons_of_mem _ hx)
theorem four_step (m M : Nat) : 4 ^ (m + 1 + 1) * (M + 2) = 4 * (4 ^ (m + 1) * (M + 2)) ∧ 4 ^ (m + 1) * (2 * M + 2 + 2) = 2 * (4 ^ (m + 1) * (M + 2)) := by
  refine ⟨by rw [Nat.pow_succ 4 (m + 1), Nat.mul_comm (4 ^ (m + 1)) 4, Nat.mul_assoc], ?_⟩
  rw [show 2 * M + 2 + 2 = 2 * (M + 2) by omega, Nat.mul_left_comm]
theorem four_base (m M : Nat) : 4 * (M + 2) ≤ 4 ^ (m + 1) * (M + 2) := Nat.mul_le_mul_right _ (by
  rw [Nat.pow_succ]
  have : 0 < 4 ^ m := Nat.pow_pos (by decide)
  omega)
theorem off_sum : ∀ (m : Nat) (P : Prt) (c : List Nat) (M : Nat), htP P ≤ m → greatP P ≤ M → (rowOff P c).sum + (M + 2) ≤ 4 ^ (m + 1) * (M + 2) := by
  intro m
  induction m with
  | zero =>
    intro P c M h hM
    have b := four_base 0 M
    cases P with
    | ex d => rw [rowOff_ex, List.sum_cons, List.sum_nil]; omega
    | nd s a b => unfold htP at h; omega
  | succ m ih =>
    intro P c M h hM
    have bs := four_base (m + 1) M
    cases P with
    | ex d => rw [rowOff_ex, List.sum_cons, List.sum_nil]; omega
    | nd s a b =>
      unfold htP at h
      rw [great_nd] at hM
      obtain ⟨f1, f2⟩ := four_step m M
      rw [rowOff_nd]
      split
      · have := ih b c (2 * M + 2) (by omega) (by omega)
        rw [f2] at this
        rw [f1, List.sum_cons]
        omega
      · split
        · rw [List.sum_cons, List.sum_nil]; omega
        · have h1 := htP_gr a (s / 2 + 1)
          have h2 := great_gr a (s / 2 + 1)
          have := ih (grP a (s / 2 + 1)) c (2 * M + 2) (by omega) (by omega)
          rw [f2] at this
          rw [f1, List.sum_cons, List.sum_cons]
          omega
theorem apart_sum : ∀ (m : Nat) (P Q : Prt) (M : Nat), htP P ≤ m → htP Q ≤ m → Nrm P → Nrm Q → greatP P ≤ M → greatP Q ≤ M → (rowApart P Q).sum + (M + 2) ≤ 4 ^ (m + 1) * (M + 2) := by
  intro m
  induction m with
  | zero =>
    intro P Q M h h' _ _ hM hN
    have bs := four_base 0 M
    cases P with
    | nd s a b => unfold htP at h; omega
    | ex c =>
      cases Q with
      | ex d => rw [apart_ee, List.sum_cons, List.sum_nil]; omega
      | nd t x y => unfold htP at h'; omega
  | succ m ih =>
    intro P Q M h h' nP nQ hM hN
    have bs := four_base (m + 1) M
    cases P with
    | ex c =>
      cases Q with
      | ex d => rw [apart_ee, List.sum_cons, List.sum_nil]; omega
      | nd t x y => rw [apart_en]; exact off_sum _ _ c M h' hN
    | nd s a b =>
      cases Q with
      | ex d => rw [apart_ne]; exact off_sum _ _ d M h hM
      | nd t x y =>
        unfold htP at h h'
        obtain ⟨ha, hb⟩ := Nat.max_le.mp (show max (htP a) (htP b) ≤ m by omega)
        obtain ⟨hx, hy⟩ := Nat.max_le.mp (show max (htP x) (htP y) ≤ m by omega)
        clear h h'
        rw [apart_nn]
        obtain ⟨w1, w2⟩ := Nat.max_le.mp (Nat.le_refl (max (greatP (.nd s a b)) (greatP (.nd t x y))))
        have w3 : max (greatP (.nd s a b)) (greatP (.nd t x y)) ≤ M := Nat.max_le.mpr ⟨hM, hN⟩
        generalize max (greatP (.nd s a b)) (greatP (.nd t x y)) = v at w1 w2 w3
        rw [great_nd] at hM hN w1 w2
        obtain ⟨ms, mab⟩ := Nat.max_le.mp hM
        obtain ⟨ma, mb⟩ := Nat.max_le.mp mab
        obtain ⟨mt, mxy⟩ := Nat.max_le.mp hN
        obtain ⟨mx, my⟩ := Nat.max_le.mp mxy
        have vs := (Nat.max_le.mp w1).1
        have vt := (Nat.max_le.mp w2).1
        clear hM hN w1 w2 mab mxy
        obtain ⟨w, hw⟩ : ∃ w, w = v + 1 := ⟨_, rfl⟩
        rw [← hw]
        have wM : w ≤ M + 1 := by omega
        have ws : s < w := by omega
        have wt : t < w := by omega
        clear hw w3 vs vt
        obtain ⟨f1, f2⟩ := four_step m M
        have os := nP.1
        have ot := nQ.1
        split
        · have := ih b y (2 * M + 2) hb hy nP.2.2.2 nQ.2.2.2 (by omega) (by omega)
          rw [f2] at this
          rw [f1, List.sum_cons]
          have x1 : max s t ≤ M := Nat.max_le.mpr ⟨ms, mt⟩
          generalize max s t = X at x1
          clear f1 f2 bs ih
          omega
        · rename_i z
          have z : b = y := Decidable.not_not.mp z
          split
          · have h1 := htP_gr a w
            have h2 := great_gr a w
            have h3 := htP_gr x w
            have h4 := great_gr x w
            have := ih (grP a w) (grP x w) (2 * M + 2) (by omega) (by omega) (gr_nrm nP.2.2.1) (gr_nrm nQ.2.2.1) (by omega) (by omega)
            rw [f2] at this
            rw [f1, List.sum_cons, List.sum_cons]
            clear f1 f2 bs ih h1 h2 h3 h4
            omega
          · have x1 : max s t ≤ M := Nat.max_le.mpr ⟨ms, mt⟩
            have x2 : max s t < w := Nat.max_lt.mpr ⟨ws, wt⟩
            have x3 : max s t % 2 = 1 := by
              rcases Nat.le_total s t with q | q
              · rw [Nat.max_eq_right q]; exact ot
              · rw [Nat.max_eq_left q]; exact os
            have y1 : min s t ≤ M := Nat.le_trans (Nat.min_le_left _ _) ms
            have y2 : min s t < w := Nat.lt_of_le_of_lt (Nat.min_le_left _ _) ws
            generalize max s t = X at x1 x2 x3
            generalize min s t = Y at y1 y2
            clear ms mt ws wt
            split
            · rw [List.sum_cons, List.sum_cons, List.sum_nil]
              clear f1 f2 ih
              omega
            · split
              · have h1 := htP_gr a (Y / 2 + 1)
                have h2 := great_gr a (Y / 2 + 1)
                have := ih (grP a (Y / 2 + 1)) b (2 * M + 2) (by omega) hb (gr_nrm nP.2.2.1) nP.2.2.2 (by omega) (by omega)
                rw [f2] at this
                rw [f1, List.sum_cons, List.sum_cons]
                clear f1 f2 ih bs h1 h2
                omega
              · have h1 := htP_gr a w
                have h2 := great_gr a w
                have hs : ∀ g ∈ restS a b w (w - X / 2), 2 * g ≤ 2 * M + 2 := fun g hg => by
                  clear f1 f2 ih bs h1 h2
                  unfold restS at hg
                  split at hg
                  · rcases List.mem_cons.mp hg with q | q
                    · omega
                    · rw [List.mem_singleton.mp q]; omega
                  · rw [List.mem_singleton.mp hg]; omega
                have sr : (restS a b w (w - X / 2)).sum ≤ w := by
                  clear f1 f2 ih bs h1 h2 hs
                  unfold restS
                  split
                  · simp only [List.sum_cons, List.sum_nil]
                    omega
                  · simp only [List.sum_cons, List.sum_nil]
                    omega
                have h3 := htP_all (restS a b w (w - X / 2)) b
                have h4 := great_all (restS a b w (w - X / 2)) b (2 * M + 2) (by omega) hs
                have := ih (grP a w) (grAll b (restS a b w (w - X / 2))) (2 * M + 2) (by omega) (by omega) (gr_nrm nP.2.2.1) (all_nrm _ nP.2.2.2) (by omega) h4
                rw [f2] at this
                rw [f1, List.sum_cons, List.sum_append, List.sum_cons]
                clear f1 f2 ih bs h1 h2 h3 h4 hs
                omega
theorem le_sum : ∀ {L : List Nat} {g : Nat}, g ∈ L → g ≤ L.sum
  | x :: L, g, h => by
    rw [List.sum_cons]
    rcases List.mem_cons.mp h with z | z
    · omega
    · have := le_sum z
      omega
/-! grains through a tree are grains through its parts in parts -/
theorem part_side {w : Web} {row : List Int} (fw : Fwd w) {k : Nat} (hk : k < w.length) (h : row.getD k 0 ≠ 0) (b : Bool) : part w row k = fold2 (if b = true then -row.getD k 0 else row.getD k 0) (partL w row (leadN w k b)) (partL w row (leadN w k !b)) := by
  rw [part_eq fw row hk]
  cases b with
  | false => rfl
  | true => exact (fold2_flip h _ _).symm
theorem part_cong {w : Web} (fw : Fwd w) {row row' : List Int} : ∀ k, k < w.length → (∀ x ∈ pre w k, row.getD x 0 = row'.getD x 0) → part w row k = part w row' k := by
  refine pre_ind fw _ fun k hk ih h => ?_
  have one : ∀ s, partL w row (leadN w k s) = partL w row' (leadN w k s) := fun s => by
    cases e : leadN w k s with
    | out c => rfl
    | bal j => exact (ih s j e).2.2 fun x hx => h x (pre_child fw hk e hx)
  rw [part_eq fw row hk, part_eq fw row' hk, one, one, h k (pre_self fw hk)]
theorem way_part {w : Web} {row0 : List Int} (T : Tw w row0) (g : Nat) : ∀ k, k < w.length → ∀ row, Lies w row →
    (way w (g : Nat) k row).2.1 = outP (part w row k) ∧ part w (way w (g : Nat) k row).2.2 k = grP (part w row k) g ∧ ∀ x, x ∉ pre w k → (way w (g : Nat) k row).2.2.getD x 0 = row.getD x 0 := by
  have fw := T.nt.fwd
  refine pre_ind fw _ fun k hk ih row hl => ?_
  have odd := hl.at hk
  have kr : k < row.length := by rw [hl.len]; exact hk
  have nd := pre_nd T k hk
  rw [pre_eq fw hk] at nd
  have nk := (List.nodup_cons.mp nd).1
  have nd2 := List.nodup_append.mp (List.nodup_cons.mp nd).2
  have hs : ∀ x, (row.set k (fallI (row.getD k 0) (g : Nat))).getD x 0 = if x = k then fallI (row.getD k 0) (g : Nat) else row.getD x 0 := fun x => by
    by_cases z : x = k
    · subst z
      rw [if_pos rfl, List.getD_eq_getElem?_getD, List.getElem?_set_self kr]
      rfl
    · rw [if_neg z, List.getD_eq_getElem?_getD, List.getElem?_set_ne (fun q => z q.symm), ← List.getD_eq_getElem?_getD]
  -- what lies below a lead doesn't hold k
  have sub : ∀ b x, x ∈ preL w (leadN w k b) → x ≠ k := fun b x hx q => by
    apply nk
    rw [q] at hx
    cases b with
    | false => exact List.mem_append_left _ hx
    | true => exact List.mem_append_right _ hx
  have disj : ∀ b x, x ∈ preL w (leadN w k b) → x ∉ preL w (leadN w k !b) := fun b x hx hy => by
    cases b with
    | false => exact nd2.2.2 x hx x hy rfl
    | true => exact nd2.2.2 x hy x hx rfl
  have congL : ∀ (u : Ld) (r r' : List Int), (∀ j, u = .bal j → j < w.length) → (∀ x ∈ preL w u, r.getD x 0 = r'.getD x 0) → partL w r u = partL w r' u := fun u r r' hu h => by
    cases u with
    | out c => rfl
    | bal j => exact part_cong fw j (hu j rfl) h
  have hb : ∀ b j, leadN w k b = .bal j → j < w.length := fun b j e => (T.bal hk e).2
  generalize hbb : decide (0 < row.getD k 0) = b
  -- the joint end
  have fin : ∀ (row' : List Int) (o : List Nat), o = outP (partL w row (leadN w k b)) → partL w row' (leadN w k b) = grP (partL w row (leadN w k b)) g → row'.getD k 0 = fallI (row.getD k 0) (g : Nat) → (∀ x, x ∉ preL w (leadN w k b) → x ≠ k → row'.getD x 0 = row.getD x 0) →
      o = outP (part w row k) ∧ part w row' k = grP (part w row k) g ∧ ∀ x, x ∉ pre w k → row'.getD x 0 = row.getD x 0 := fun row' o h1 h2 h3 h4 => by
    have odd' : fallI (row.getD k 0) (g : Nat) % 2 = 1 := odd_fall2 odd
    rw [part_side (row := row) fw hk (by omega) b, part_side (row := row') fw hk (by rw [h3]; omega) b, h3, h2, congL (leadN w k !b) row' row (fun j e => hb _ j e) (fun x hx => h4 x (fun q => disj b x q hx) (sub _ x hx))]
    have e1 : (if b = true then -row.getD k 0 else row.getD k 0) = -((row.getD k 0).natAbs : Int) := by
      rw [← hbb]
      by_cases z : 0 < row.getD k 0
      · rw [if_pos (decide_eq_true z)]; omega
      · rw [if_neg (by rw [decide_eq_false z]; decide)]; omega
    have e2 : (if b = true then -fallI (row.getD k 0) (g : Nat) else fallI (row.getD k 0) (g : Nat)) = 2 * (g : Int) - ((row.getD k 0).natAbs : Int) := by
      unfold fallI
      rw [← hbb]
      by_cases z : 0 < row.getD k 0
      · rw [if_pos (decide_eq_true z), if_neg (by omega)]; omega
      · rw [if_neg (by rw [decide_eq_false z]; decide), if_pos (by omega)]; omega
    rw [e1, e2]
    have pos : 0 < (row.getD k 0).natAbs := by omega
    generalize (row.getD k 0).natAbs = s at pos
    generalize partL w row (leadN w k !b) = F
    generalize partL w row (leadN w k b) = N at h1
    refine ⟨?_, ?_, fun x hx => ?_⟩
    · rw [h1]
      unfold fold2
      split
      · rfl
      · rw [if_pos (by omega)]
        rfl
    · cases q : sameEx N F with
      | true =>
        obtain ⟨c, rfl, rfl⟩ := sameEx_iff.mp q
        rw [fold2_ex]
        exact fold2_ex _ c
      | false =>
        rw [fold2_nd (s := -(s : Int)) q, if_pos (by omega), Int.natAbs_neg, Int.natAbs_natCast]
        rfl
    · rw [pre_eq fw hk] at hx
      refine h4 x (fun q => hx (List.mem_cons_of_mem _ ?_)) (fun q => hx (by rw [q]; exact List.mem_cons_self))
      cases b with
      | false => exact List.mem_append_left _ q
      | true => exact List.mem_append_right _ q
  cases e : leadN w k b with
  | out c =>
    rw [way_out hk (by rw [hbb]; exact e)]
    refine fin _ c (by rw [e]; rfl) (by rw [e]; rfl) (by rw [hs, if_pos rfl]) fun x _ hx => by rw [hs, if_neg hx]
  | bal j =>
    obtain ⟨_, jl, IH⟩ := ih b j e
    obtain ⟨i1, i2, i3⟩ := IH _ (hl.fall hk (g : Nat))
    have ej : part w (row.set k (fallI (row.getD k 0) (g : Nat))) j = part w row j := part_cong fw j jl fun x hx => by
      rw [hs, if_neg (sub b x (by rw [e]; exact hx))]
    rw [ej] at i1 i2
    rw [way_bal fw hk (by rw [hbb]; exact e)]
    refine fin _ _ (by rw [e]; exact i1) (by rw [e]; exact i2) ?_ fun x h1 h2 => ?_
    · rw [i3 k (fun q => sub b k (by rw [e]; exact q) rfl), hs, if_pos rfl]
    · rw [e] at h1
      rw [i3 x h1, hs, if_neg h2]
theorem falls_run {w : Web} : ∀ (gs : List Nat) {row : List Int}, Tw w row → (fallsN w (gs.map fun g : Nat => (g : Int)) row).1 = runP (part w row 0) gs
  | [], _, _ => rfl
  | g :: gs, row, T => by
    have w1 := T.nt.one
    obtain ⟨h1, h2, _⟩ := way_part T g 0 (by omega) row T.lies
    have T2 : Tw w (way w (g : Nat) 0 row).2.2 := by
      have l := T.nt.way T.lies (g : Nat)
      exact T.row l.len l.odd
    show (way w (g : Nat) 0 row).2.1 :: (fallsN w (gs.map fun g : Nat => (g : Int)) (way w (g : Nat) 0 row).2.2).1 = outP (part w row 0) :: runP (grP (part w row 0) g) gs
    rw [falls_run gs T2, h1, h2]
theorem part_great {w : Web} {row : List Int} (fw : Fwd w) {M : Nat} (hM : ∀ k, (row.getD k 0).natAbs ≤ M) : ∀ k, k < w.length → greatP (part w row k) ≤ M := by
  refine pre_ind fw _ fun k hk ih => ?_
  have one : ∀ s, greatP (partL w row (leadN w k s)) ≤ M := fun s => by
    cases e : leadN w k s with
    | out c => exact Nat.zero_le _
    | bal j => exact (ih s j e).2.2
  rw [part_eq fw row hk]
  have := great_fold (row.getD k 0) (partL w row (leadN w k false)) (partL w row (leadN w k true))
  have := one false
  have := one true
  have := hM k
  omega
theorem lc_true {g : DG} {e : DE} {own : List Nat} {env : DL.Env} {k : List D → Sto → Prop} : ∀ (xs acc : List D) (st : Sto), (∀ x ∈ xs, ∀ s (kd : DK), (∀ s', kd (.bl true) s') → g x (wipeE env own) s fun e1 s1 => e e1 s1 kd) → (∀ s, k (acc ++ xs.map fun _ => D.bl true) s) → goLc [] g dYes e own env k xs acc st
  | [], acc, st, _, q => ⟨trivial, by simpa using q st⟩
  | x :: xs, acc, st, f, q => by
    refine ⟨trivial, ?_⟩
    refine f x List.mem_cons_self st _ fun s' => ?_
    exact lc_true xs (acc ++ [.bl true]) s' (fun y hy => f y (List.mem_cons_of_mem _ hy)) fun s => by
      have := q s
      simpa only [List.map_cons, List.append_assoc, List.cons_append, List.nil_append] using this
theorem rangeD_nat (n : Nat) : rangeD 0 n = (List.range n).map fun (j : Nat) => D.int (j : Int) := by
  unfold rangeD
  exact List.map_congr_left fun x _ => by rw [Int.zero_add]
theorem rangeD_len (n : Nat) : (rangeD 0 n).length = n := by rw [rangeD_nat, List.length_map, List.length_range]
def t_as_part : DS :=
    (dSeq (dIfS (dAnd (dTru (dIsi (dVar 1) ["str"])) (dTest (dOp (eqOp false) (dVar 1) (dVar 2)))) (dRet (dVar 1)) dPass)
    (dRet (dIf (dTest (dOp (cmpI fun i j => decide (i < j)) (dVar 0) (dC (.int 0)))) (dTup (dCons (dUn negD (dVar 0)) (dCons (dVar 1) (dCons (dVar 2) dNil)))) (dTup (dCons (dVar 0) (dCons (dVar 2) (dCons (dVar 1) dNil)))))))
theorem st_as_part (a0 a1 a2 : D) : startD N_as_part [a0, a1, a2] = [some a0, some a1, some a2] := rfl
def sp_as_part : SpD := fun ds st kk => ∃ (s : Int) (a b : Prt), ds = [.int s, prtD a, prtD b] ∧ NmP2 a ∧ NmP2 b ∧ htP a < 50 ∧ htP b < 50 ∧ kk (prtD (fold2 s a b)) st
theorem len_as_part (ds : List D) (st : Sto) (kk : DK) (h : sp_as_part ds st kk) : ds.length = 3 := by
  obtain ⟨_, _, _, rfl, _⟩ := h
  rfl
theorem deref_prt (st : Sto) (P : Prt) : deref st (prtD P) = prtD P := by cases P <;> rfl
theorem p_as_part : BodyD false N_as_part sp_as_part t_as_part := by
  rintro ds st kk ⟨s, a, b, rfl, na, nb, ha, hb, h⟩
  rw [st_as_part]
  simp only [t_as_part]
  have fin : sameEx a b = false → dRet (dIf (dTest (dOp (cmpI fun i j => decide (i < j)) (dVar 0) (dC (.int 0)))) (dTup (dCons (dUn negD (dVar 0)) (dCons (dVar 1) (dCons (dVar 2) dNil)))) (dTup (dCons (dVar 0) (dCons (dVar 2) (dCons (dVar 1) dNil))))) ⟨fun _ st' => kk .non st', fun d st' => kk d st'⟩ [some (.int s), some (prtD a), some (prtD b)] st := by
    intro e
    rw [fold2_nd e] at h
    (walk_at "lw_dd0")
    by_cases z : s < 0
    · rw [if_pos z]
      rw [if_pos z] at h
      have h : kk (.tup [.int ((s.natAbs : Nat) : Int), prtD a, prtD b]) st := h
      rw [show ((s.natAbs : Nat) : Int) = -s by omega] at h
      exact h
    · rw [if_neg z]
      rw [if_neg z] at h
      have h : kk (.tup [.int ((s.natAbs : Nat) : Int), prtD b, prtD a]) st := h
      rw [show ((s.natAbs : Nat) : Int) = s by omega] at h
      exact h
  revert fin
  (walk_at "lw_dd0")
  intro fin
  cases a with
  | nd t x y =>
    have fin := fin sameEx_nd
    simp only [prtD] at fin ⊢
    (try simp only [BEq.rfl, ↓e_v0, ↓e_vs, ↓e_c, ↓e_op, ↓e_un, ↓e_test, ↓e_testK, ↓e_tru, ↓e_truL, ↓e_truT, ↓e_truB, ↓e_truI, ↓e_truN, ↓e_truS, ↓e_not, ↓e_and, ↓e_or, ↓e_andv, ↓e_notv, ↓e_andK, ↓e_notK, ↓e_if, ↓e_nil, ↓e_cons, ↓e_tup, ↓e_lst, ↓e_new, ↓e_call, ↓e_drop, ↓e_ret, ↓e_pass, ↓e_ifS, ↓e_g0, ↓e_gs, ↓e_gnil, ↓e_gcons, ↓e_gtup, ↓e_asg, ↓e_par, ↓e_parK, ↓e_par3, ↓e_par3K, ↓e_no, ↓e_some, ↓e_someK, ↓e_cut, ↓e_b, ↓e_iter, ↓e_iterL, ↓e_iterT, ↓e_iterS, ↓e_rng1, ↓e_rng1K, ↓e_rng2, ↓e_rng2K, ↓e_rng3, ↓e_rng3K, ↓e_enum, ↓e_enumL, ↓e_enumT, ↓e_for, ↓e_lc, ↓e_lcNew, ↓e_meth, ↓e_isL, ↓e_sub, ↓e_isi, ↓e_yes, ↓e_addI, ↓e_addB, ↓e_addS, ↓e_addT, ↓e_addL, ↓e_subI, ↓e_mulI, ↓e_mulT, ↓e_mulL, ↓e_divI, ↓e_modI, ↓e_powI, ↓e_negI, ↓e_cmpI, ↓e_eq, ↓e_ne, ↓e_isn, ↓e_isnn, ↓e_isb, ↓e_ixL, ↓e_ixKL, ↓e_ixT, ↓e_cutL, ↓e_cutKL, ↓e_cutT, ↓e_lenL, ↓e_lenKL, ↓e_lenT, ↓e_abs, ↓e_intI, ↓e_intB, ↓e_max2, ↓e_listNL, ↓e_listNT, ↓e_tupL, ↓e_tupT, ↓e_sum1T, ↓e_sum1L, ↓e_max1T, ↓e_max1L, ↓e_drI, ↓e_drB, ↓e_drS, ↓e_drN, ↓e_drL, ↓e_drT, ↓e_seq, ↓e_back, ↓e_backL, ↓e_backT, ↓e_unlL, ↓e_inFlat, ↓e_drK, ↓e_addBI, ↓e_subBI, ↓e_subIB, ↓e_drG, ↓e_dnew, ↓e_dgetF, ↓e_dget2, ↓e_dgPut, ↓e_join, ↓e_joinL, ↓e_cutS, ↓e_mulS, ↓e_sortV, ↓e_tidx, ↓e_mulNewL, ↓e_sortedPL, ↓e_indexL, ↓e_max3, e_kyI, e_kyS, Nat.reduceAdd, Nat.zero_add, List.length_cons, List.length_nil, List.length_map, Nat.reduceLeDiff, and_true, true_and, if_true, ite_true, decide_eq_true_eq, Bool.not_eq_true, Bool.false_eq_true, if_false, ite_false, ↓reduceIte, Int.reduceToNat, Int.reducePow, ne_eq, q_okI, q_okB, q_okN, q_okS, q_okL, q_okT, q_oks0, q_oks1, q_eqII, q_eqBB, q_eqSS, q_eqLL, q_eqTT, q_eqNN, q_eqNI, q_eqIN, q_eqs0, q_eqs1, Bool.true_and, Bool.and_true, beq_iff_eq, reduceCtorEq, wipeE, List.set_cons_zero, List.set_cons_succ, List.set_nil, Bool.not_true, Bool.not_false, List.getElem?_cons_zero, List.getElem?_cons_succ, tyD, subTy])
    exact ite_go (by decide) fin
  | ex c =>
    have e2 : eqD (.str (S c)) (prtD b) = decide (Prt.ex c = b) := prt_eqD (.ex c) b
    simp only [prtD] at fin ⊢
    (try simp only [BEq.rfl, ↓e_v0, ↓e_vs, ↓e_c, ↓e_op, ↓e_un, ↓e_test, ↓e_testK, ↓e_tru, ↓e_truL, ↓e_truT, ↓e_truB, ↓e_truI, ↓e_truN, ↓e_truS, ↓e_not, ↓e_and, ↓e_or, ↓e_andv, ↓e_notv, ↓e_andK, ↓e_notK, ↓e_if, ↓e_nil, ↓e_cons, ↓e_tup, ↓e_lst, ↓e_new, ↓e_call, ↓e_drop, ↓e_ret, ↓e_pass, ↓e_ifS, ↓e_g0, ↓e_gs, ↓e_gnil, ↓e_gcons, ↓e_gtup, ↓e_asg, ↓e_par, ↓e_parK, ↓e_par3, ↓e_par3K, ↓e_no, ↓e_some, ↓e_someK, ↓e_cut, ↓e_b, ↓e_iter, ↓e_iterL, ↓e_iterT, ↓e_iterS, ↓e_rng1, ↓e_rng1K, ↓e_rng2, ↓e_rng2K, ↓e_rng3, ↓e_rng3K, ↓e_enum, ↓e_enumL, ↓e_enumT, ↓e_for, ↓e_lc, ↓e_lcNew, ↓e_meth, ↓e_isL, ↓e_sub, ↓e_isi, ↓e_yes, ↓e_addI, ↓e_addB, ↓e_addS, ↓e_addT, ↓e_addL, ↓e_subI, ↓e_mulI, ↓e_mulT, ↓e_mulL, ↓e_divI, ↓e_modI, ↓e_powI, ↓e_negI, ↓e_cmpI, ↓e_eq, ↓e_ne, ↓e_isn, ↓e_isnn, ↓e_isb, ↓e_ixL, ↓e_ixKL, ↓e_ixT, ↓e_cutL, ↓e_cutKL, ↓e_cutT, ↓e_lenL, ↓e_lenKL, ↓e_lenT, ↓e_abs, ↓e_intI, ↓e_intB, ↓e_max2, ↓e_listNL, ↓e_listNT, ↓e_tupL, ↓e_tupT, ↓e_sum1T, ↓e_sum1L, ↓e_max1T, ↓e_max1L, ↓e_drI, ↓e_drB, ↓e_drS, ↓e_drN, ↓e_drL, ↓e_drT, ↓e_seq, ↓e_back, ↓e_backL, ↓e_backT, ↓e_unlL, ↓e_inFlat, ↓e_drK, ↓e_addBI, ↓e_subBI, ↓e_subIB, ↓e_drG, ↓e_dnew, ↓e_dgetF, ↓e_dget2, ↓e_dgPut, ↓e_join, ↓e_joinL, ↓e_cutS, ↓e_mulS, ↓e_sortV, ↓e_tidx, ↓e_mulNewL, ↓e_sortedPL, ↓e_indexL, ↓e_max3, e_kyI, e_kyS, Nat.reduceAdd, Nat.zero_add, List.length_cons, List.length_nil, List.length_map, Nat.reduceLeDiff, and_true, true_and, if_true, ite_true, decide_eq_true_eq, Bool.not_eq_true, Bool.false_eq_true, if_false, ite_false, ↓reduceIte, Int.reduceToNat, Int.reducePow, ne_eq, q_okI, q_okB, q_okN, q_okS, q_okL, q_okT, q_oks0, q_oks1, q_eqII, q_eqBB, q_eqSS, q_eqLL, q_eqTT, q_eqNN, q_eqNI, q_eqIN, q_eqs0, q_eqs1, Bool.true_and, Bool.and_true, beq_iff_eq, reduceCtorEq, wipeE, List.set_cons_zero, List.set_cons_succ, List.set_nil, Bool.not_true, Bool.not_false, List.getElem?_cons_zero, List.getElem?_cons_succ, tyD, subTy])
    refine ite_yes (by decide) ?_
    rw [deref_prt]
    refine ⟨ld_okD 60 (v := .out c) na, prt_ok b 60 nb (by omega), ?_⟩
    by_cases z : Prt.ex c = b
    · refine ite_yes (by rw [e2]; exact decide_eq_true z) ?_
      subst z
      rw [fold2_ex] at h
      exact h
    · refine ite_go (by rw [e2, decide_eq_false z]; decide) ?_
      refine fin ?_
      cases b with
      | nd s x y => rfl
      | ex d => exact decide_eq_false fun q => z (by rw [q])
def e1_part_of : DE :=
    (dGet2 (dVar 2) (dVar 6) (dVar 6))
def z4_part_of : DS :=
    (dAsg (dCall sp_as_part (dCons (dOp ixD (dVar 1) (dVar 3)) (dCons (dVar 4) (dCons (dVar 5) dNil)))) (dgPut (dVar 2) (dVar 3)))
def b1_part_of : DS :=
    (dSeq (dAsg (dLc (dIter (dOp ixD (dVar 0) (dVar 3))) (dgName 6) dYes (e1_part_of) [6]) (dgUnl 2 (dgCons (dgName 4) (dgCons (dgName 5) dgNil))))
    (z4_part_of))
def z5_part_of : DS :=
    (dRet (dOp getD (dVar 2) (dC (.int 0))))
def z2_part_of : DS :=
    (dSeq (dFor (dRng3 (dOp subD (dB bLen (dCons (dVar 0) dNil)) (dC (.int 1))) (dUn negD (dC (.int 1))) (dUn negD (dC (.int 1)))) (dgName 3) (b1_part_of))
    (z5_part_of))
def t_part_of : DS :=
    (dSeq (dAsg (dNewD false) (dgName 2))
    (z2_part_of))
theorem st_part_of (a0 a1 : D) : startD N_part_of [a0, a1] = [some a0, some a1, none, none, none, none, none] := rfl
def sp_part_of : SpD := fun ds st kk => ∃ (w : Web) (row : List Int), ds = [webD w, .tup (row.map D.int)] ∧ Tw w row ∧ kk (prtD (part w row 0)) st
theorem len_part_of (ds : List D) (st : Sto) (kk : DK) (h : sp_part_of ds st kk) : ds.length = 2 := by
  obtain ⟨_, _, rfl, _⟩ := h
  rfl
def paRows (T : List (Ld × Prt)) : List D := tabR Ld.d prtD T
theorem prt_below (n : Nat) : ∀ P : Prt, below n (prtD P) = true
  | .ex _ => rfl
  | .nd _ a b => by simp only [prtD, below, belows, prt_below n a, prt_below n b, Bool.and_self]
theorem paRows_below (n : Nat) (T : List (Ld × Prt)) : belows n (paRows T) = true := by
  unfold paRows
  induction T with
  | nil => rfl
  | cons p r ih =>
    simp only [tabR, List.map_cons, belows, below, prt_below, Bool.true_and, Bool.and_true] at ih ⊢
    rw [ih]
    cases p.1 <;> rfl
theorem step_down (n : Nat) : stepD ((n : Nat) - 1 : Int) (-1) n = (List.range n).reverse.map fun j : Nat => D.int (j : Nat) := by
  unfold stepD
  refine List.ext_getElem (by simp) fun i h1 h2 => ?_
  simp only [List.length_map, List.length_range] at h1
  simp only [List.getElem_map, List.getElem_range, List.getElem_reverse, List.length_range]
  congr 1
  omega
theorem part_loop {w : Web} {row : List Int} (T : Tw w row) (a6 : Option D) (st : Sto) (rt : DK) (nx : DL.Env → Sto → Prop) (h : ∀ Q v3 v4 v5, look Q (.bal 0) = some (part w row 0) → nx [some (.tup (w.map ldsD)), some (.tup (row.map .int)), some (.dic (Kd.b false) st.length), v3, v4, v5, a6] (st ++ [paRows Q])) : ∀ (k : Nat) (Q : List (Ld × Prt)) (v3 v4 v5 : Option D), k ≤ w.length → (∀ c, look Q (.out c) = none) → (∀ j, j < w.length → k ≤ j → look Q (.bal j) = some (part w row j)) → Q.length + k ≤ w.length →
    goFor [] (dgName 3) b1_part_of ⟨nx, rt⟩ ((List.range k).reverse.map fun j : Nat => D.int (j : Nat)) [some (.tup (w.map ldsD)), some (.tup (row.map .int)), some (.dic (Kd.b false) st.length), v3, v4, v5, a6] (st ++ [paRows Q])
  | 0, Q, v3, v4, v5, hk, ho, hb, hl => by
    have w1 := T.nt.one
    exact ⟨trivial, h _ _ _ _ (hb 0 (by omega) (by omega))⟩
  | k + 1, Q, v3, v4, v5, hk, ho, hb, hl => by
    have few := T.few
    have hr : k < row.length := by rw [T.lies.len]; omega
    rw [List.range_succ, List.reverse_append, List.reverse_singleton, List.singleton_append, List.map_cons]
    refine ⟨trivial, ?_⟩
    (walk_at "lw_dd0")
    simp only [b1_part_of]
    (walk_at "lw_dd0")
    refine ⟨_, at_web (by omega), ?_⟩
    (walk_at "lw_dd0")
    have g0 : (st ++ [paRows Q])[st.length]? = some (paRows Q) := app_get
    refine fun _ => lc_map (src := []) Ld.d (fun u => prtD (partL w row u)) [leadN w k false, leadN w k true] _ trivial [] (fun u hu kd hkd => ?_) ?_
    · (walk_at "lw_dd0")
      simp only [e1_part_of]
      (walk_at "lw_dd0")
      refine ⟨e_dsome g0, ?_⟩
      rw [e_dgetOr g0]
      have e1 : valR false (paRows Q) u.d = (look Q u).map prtD := valR_tab keyL _ _
      rw [e1]
      refine ⟨by cases u <;> rfl, ?_⟩
      cases u with
      | out c =>
        rw [ho c]
        exact hkd
      | bal j =>
        have jl : k < j ∧ j < w.length := by
          rcases List.mem_cons.mp hu with q | q
          · exact T.bal (by omega) q.symm
          · exact T.bal (by omega) (List.mem_singleton.mp q).symm
        rw [hb j jl.2 (by omega)]
        exact hkd
    rw [List.nil_append]
    simp only [List.map_cons, List.map_nil]
    (walk_at "lw_dd0")
    simp only [z4_part_of]
    (walk_at "lw_dd0")
    refine ⟨_, at_row hr, ?_⟩
    have nm : ∀ s, NmP2 (partL w row (leadN w k s)) ∧ htP (partL w row (leadN w k s)) < 50 := fun s => by
      cases e : leadN w k s with
      | out c =>
        have := lead_fineN T.fine (show k < w.length by omega) s
        rw [e] at this
        exact ⟨this, by show 0 < 50; omega⟩
      | bal j =>
        have jl := (T.bal (by omega) e).2
        obtain ⟨g1, g2⟩ := part_nm T j jl
        exact ⟨g1, by show htP (part w row j) < 50; omega⟩
    refine ⟨_, _, _, rfl, (nm false).1, (nm true).1, (nm false).2, (nm true).2, ?_⟩
    rw [← part_eq T.nt.fwd row (show k < w.length by omega)]
    (walk_at "lw_dd0")
    rw [e_dput g0]
    refine ⟨rfl, by unfold paRows; rw [tabR_length]; omega, okRows_tab, ?_⟩
    rw [app_set]
    have e2 : putR false (paRows Q) (.int (k : Nat)) (prtD (part w row k)) = paRows (putL Q (.bal k) (part w row k)) := putR_tab keyL (.bal k) _ _
    rw [e2]
    have pl := putL_length Q (.bal k) (part w row k)
    refine part_loop T a6 st rt nx h k _ _ _ _ (by omega) (fun c => by rw [look_put, if_neg (by intro q; cases q)]; exact ho c) (fun j hj kj => ?_) (by omega)
    rw [look_put]
    by_cases z : j = k
    · rw [if_pos (by rw [z]), z]
    · rw [if_neg (by intro q; injection q with q; exact z q)]
      exact hb j hj (by omega)
theorem p_part_of : BodyD true N_part_of sp_part_of t_part_of := by
  rintro ds st kk ⟨w, row, rfl, T, h⟩
  rw [st_part_of]
  simp only [t_part_of, webD]
  have w1 := T.nt.one
  have few := T.few
  (walk_at "lw_dd0")
  simp only [z2_part_of]
  (walk_at "lw_dd0")
  refine ⟨_, RgC.neg (by omega) (by omega) (by decide) (by decide), ?_⟩
  rw [show (((w.length : Nat) : Int) - 1 - -1).toNat = w.length by omega, step_down]
  refine part_loop T _ st _ _ (fun Q v3 v4 v5 hq => ?_) w.length [] _ _ _ (Nat.le_refl _) (fun _ => rfl) (fun j h1 h2 => absurd h1 (by omega)) (by simp)
  simp only [z5_part_of]
  (walk_at "lw_dd0")
  rw [e_dget app_get, show D.int 0 = (Ld.bal 0).d from rfl]
  have e : valR false (paRows Q) (Ld.bal 0).d = (look Q (.bal 0)).map prtD := valR_tab keyL _ _
  rw [e, hq]
  refine ⟨rfl, _, rfl, ?_⟩
  refine .one (paRows_below _ _) ?_
  rw [sub_below _ (prt_below _ _)]
  exact h
def t_alike : DS :=
    (dRet (dOp (eqOp false) (dCall sp_part_of (dCons (dVar 0) (dCons (dVar 1) dNil))) (dCall sp_part_of (dCons (dVar 2) (dCons (dVar 3) dNil)))))
theorem st_alike (a0 a1 a2 a3 : D) : startD N_alike [a0, a1, a2, a3] = [some a0, some a1, some a2, some a3] := rfl
def sp_alike : SpD := fun ds st kk => ∃ (w : Web) (row : List Int) (w' : Web) (row' : List Int), ds = [webD w, .tup (row.map D.int), webD w', .tup (row'.map D.int)] ∧ Tw w row ∧ Tw w' row' ∧ kk (.bl (decide (part w row 0 = part w' row' 0))) st
theorem len_alike (ds : List D) (st : Sto) (kk : DK) (h : sp_alike ds st kk) : ds.length = 4 := by
  obtain ⟨_, _, _, _, rfl, _⟩ := h
  rfl
theorem sz_part {w : Web} {row : List Int} (T : Tw w row) : ∀ k, k < w.length → szP (part w row k) ≤ (pre w k).length := by
  have fw := T.nt.fwd
  refine pre_ind fw _ fun k hk ih => ?_
  have one : ∀ s, szP (partL w row (leadN w k s)) ≤ (preL w (leadN w k s)).length := fun s => by
    cases e : leadN w k s with
    | out c => exact Nat.le_refl _
    | bal j => exact (ih s j e).2.2
  have a := one false
  have b := one true
  rw [part_eq fw row hk, pre_eq fw hk, List.length_cons, List.length_append]
  unfold fold2
  split
  · omega
  · split
    · show 1 + _ + _ ≤ _
      omega
    · show 1 + _ + _ ≤ _
      omega
structure PtF (P : Prt) (n : Nat) : Prop where
  nm : NmP2 P
  nr : Nrm P
  ht : htP P ≤ n
  sz : szP P ≤ n
  ok : okD 60 (prtD P) = true
theorem Tw.ptf {w : Web} {row : List Int} (T : Tw w row) : PtF (part w row 0) w.length := by
  have w1 := T.nt.one
  have few := T.few
  have hs := sz_part T 0 (by omega)
  have hp := pre_len T
  obtain ⟨h1, h2⟩ := part_nm T 0 (by omega)
  exact ⟨h1, part_nrm T 0 (by omega), by omega, by omega, prt_ok _ _ h1 (by omega)⟩
theorem p_alike : BodyD false N_alike sp_alike t_alike := by
  rintro ds st kk ⟨w, row, w', row', rfl, T, T', h⟩
  rw [st_alike]
  simp only [t_alike]
  (walk_at "lw_dd0")
  refine ⟨w, row, rfl, T, w', row', rfl, T', ?_⟩
  dsimp only
  rw [deref_prt, deref_prt]
  refine ⟨T.ptf.ok, T'.ptf.ok, ?_⟩
  rw [prt_eqD]
  exact h
def t_grown (spr : SpD) : DS :=
    (dSeq (dIfS (dTru (dIsi (dVar 0) ["str"])) (dRet (dVar 0)) dPass)
    (dSeq (dAsg (dVar 0) (dgTup 3 (dgCons (dgName 2) (dgCons (dgName 3) (dgCons (dgName 4) dgNil)))))
    (dRet (dCall sp_as_part (dCons (dOp subD (dOp mulD (dC (.int 2)) (dVar 1)) (dVar 2)) (dCons (dCall spr (dCons (dVar 3) (dCons (dVar 1) dNil))) (dCons (dVar 4) dNil)))))))
theorem st_grown (a0 a1 : D) : startD N_grown [a0, a1] = [some a0, some a1, none, none, none] := rfl
def sp_grown : Nat → SpD := fun n ds st kk => ∃ (P : Prt) (g : Nat), ds = [prtD P, .int (g : Nat)] ∧ NmP2 P ∧ Nrm P ∧ htP P < n ∧ htP P < 40 ∧ kk (prtD (grP P g)) st
theorem len_grown (n : Nat) (ds : List D) (st : Sto) (kk : DK) (h : sp_grown n ds st kk) : ds.length = 2 := by
  obtain ⟨_, _, rfl, _⟩ := h
  rfl
theorem no_grown (ds : List D) (st : Sto) (kk : DK) (h : sp_grown 0 ds st kk) : False := by
  obtain ⟨_, _, _, _, _, h, _⟩ := h
  omega
theorem nm_fold {s : Int} {a b : Prt} (ha : NmP2 a) (hb : NmP2 b) : NmP2 (fold2 s a b) := by
  unfold fold2
  split
  · exact ha
  · split
    · exact ⟨ha, hb⟩
    · exact ⟨hb, ha⟩
theorem nm_gr : ∀ {P : Prt} {g : Nat}, NmP2 P → NmP2 (grP P g)
  | .ex _, _, h => h
  | .nd _ _ _, _, h => nm_fold (nm_gr h.1) h.2
theorem p_grown (n : Nat) : BodyD false N_grown (sp_grown (n + 1)) (t_grown (sp_grown n)) := by
  rintro ds st kk ⟨P, g, rfl, nm, nr, hh, h4, h⟩
  rw [st_grown]
  simp only [t_grown]
  cases P with
  | ex c =>
    simp only [prtD]
    (try simp only [BEq.rfl, ↓e_v0, ↓e_vs, ↓e_c, ↓e_op, ↓e_un, ↓e_test, ↓e_testK, ↓e_tru, ↓e_truL, ↓e_truT, ↓e_truB, ↓e_truI, ↓e_truN, ↓e_truS, ↓e_not, ↓e_and, ↓e_or, ↓e_andv, ↓e_notv, ↓e_andK, ↓e_notK, ↓e_if, ↓e_nil, ↓e_cons, ↓e_tup, ↓e_lst, ↓e_new, ↓e_call, ↓e_drop, ↓e_ret, ↓e_pass, ↓e_ifS, ↓e_g0, ↓e_gs, ↓e_gnil, ↓e_gcons, ↓e_gtup, ↓e_asg, ↓e_par, ↓e_parK, ↓e_par3, ↓e_par3K, ↓e_no, ↓e_some, ↓e_someK, ↓e_cut, ↓e_b, ↓e_iter, ↓e_iterL, ↓e_iterT, ↓e_iterS, ↓e_rng1, ↓e_rng1K, ↓e_rng2, ↓e_rng2K, ↓e_rng3, ↓e_rng3K, ↓e_enum, ↓e_enumL, ↓e_enumT, ↓e_for, ↓e_lc, ↓e_lcNew, ↓e_meth, ↓e_isL, ↓e_sub, ↓e_isi, ↓e_yes, ↓e_addI, ↓e_addB, ↓e_addS, ↓e_addT, ↓e_addL, ↓e_subI, ↓e_mulI, ↓e_mulT, ↓e_mulL, ↓e_divI, ↓e_modI, ↓e_powI, ↓e_negI, ↓e_cmpI, ↓e_eq, ↓e_ne, ↓e_isn, ↓e_isnn, ↓e_isb, ↓e_ixL, ↓e_ixKL, ↓e_ixT, ↓e_cutL, ↓e_cutKL, ↓e_cutT, ↓e_lenL, ↓e_lenKL, ↓e_lenT, ↓e_abs, ↓e_intI, ↓e_intB, ↓e_max2, ↓e_listNL, ↓e_listNT, ↓e_tupL, ↓e_tupT, ↓e_sum1T, ↓e_sum1L, ↓e_max1T, ↓e_max1L, ↓e_drI, ↓e_drB, ↓e_drS, ↓e_drN, ↓e_drL, ↓e_drT, ↓e_seq, ↓e_back, ↓e_backL, ↓e_backT, ↓e_unlL, ↓e_inFlat, ↓e_drK, ↓e_addBI, ↓e_subBI, ↓e_subIB, ↓e_drG, ↓e_dnew, ↓e_dgetF, ↓e_dget2, ↓e_dgPut, ↓e_join, ↓e_joinL, ↓e_cutS, ↓e_mulS, ↓e_sortV, ↓e_tidx, ↓e_mulNewL, ↓e_sortedPL, ↓e_indexL, ↓e_max3, e_kyI, e_kyS, Nat.reduceAdd, Nat.zero_add, List.length_cons, List.length_nil, List.length_map, Nat.reduceLeDiff, and_true, true_and, if_true, ite_true, decide_eq_true_eq, Bool.not_eq_true, Bool.false_eq_true, if_false, ite_false, ↓reduceIte, Int.reduceToNat, Int.reducePow, ne_eq, q_okI, q_okB, q_okN, q_okS, q_okL, q_okT, q_oks0, q_oks1, q_eqII, q_eqBB, q_eqSS, q_eqLL, q_eqTT, q_eqNN, q_eqNI, q_eqIN, q_eqs0, q_eqs1, Bool.true_and, Bool.and_true, beq_iff_eq, reduceCtorEq, wipeE, List.set_cons_zero, List.set_cons_succ, List.set_nil, Bool.not_true, Bool.not_false, List.getElem?_cons_zero, List.getElem?_cons_succ, tyD, subTy])
    exact ite_yes (by decide) h
  | nd s a b =>
    unfold htP at hh h4
    simp only [prtD]
    (try simp only [BEq.rfl, ↓e_v0, ↓e_vs, ↓e_c, ↓e_op, ↓e_un, ↓e_test, ↓e_testK, ↓e_tru, ↓e_truL, ↓e_truT, ↓e_truB, ↓e_truI, ↓e_truN, ↓e_truS, ↓e_not, ↓e_and, ↓e_or, ↓e_andv, ↓e_notv, ↓e_andK, ↓e_notK, ↓e_if, ↓e_nil, ↓e_cons, ↓e_tup, ↓e_lst, ↓e_new, ↓e_call, ↓e_drop, ↓e_ret, ↓e_pass, ↓e_ifS, ↓e_g0, ↓e_gs, ↓e_gnil, ↓e_gcons, ↓e_gtup, ↓e_asg, ↓e_par, ↓e_parK, ↓e_par3, ↓e_par3K, ↓e_no, ↓e_some, ↓e_someK, ↓e_cut, ↓e_b, ↓e_iter, ↓e_iterL, ↓e_iterT, ↓e_iterS, ↓e_rng1, ↓e_rng1K, ↓e_rng2, ↓e_rng2K, ↓e_rng3, ↓e_rng3K, ↓e_enum, ↓e_enumL, ↓e_enumT, ↓e_for, ↓e_lc, ↓e_lcNew, ↓e_meth, ↓e_isL, ↓e_sub, ↓e_isi, ↓e_yes, ↓e_addI, ↓e_addB, ↓e_addS, ↓e_addT, ↓e_addL, ↓e_subI, ↓e_mulI, ↓e_mulT, ↓e_mulL, ↓e_divI, ↓e_modI, ↓e_powI, ↓e_negI, ↓e_cmpI, ↓e_eq, ↓e_ne, ↓e_isn, ↓e_isnn, ↓e_isb, ↓e_ixL, ↓e_ixKL, ↓e_ixT, ↓e_cutL, ↓e_cutKL, ↓e_cutT, ↓e_lenL, ↓e_lenKL, ↓e_lenT, ↓e_abs, ↓e_intI, ↓e_intB, ↓e_max2, ↓e_listNL, ↓e_listNT, ↓e_tupL, ↓e_tupT, ↓e_sum1T, ↓e_sum1L, ↓e_max1T, ↓e_max1L, ↓e_drI, ↓e_drB, ↓e_drS, ↓e_drN, ↓e_drL, ↓e_drT, ↓e_seq, ↓e_back, ↓e_backL, ↓e_backT, ↓e_unlL, ↓e_inFlat, ↓e_drK, ↓e_addBI, ↓e_subBI, ↓e_subIB, ↓e_drG, ↓e_dnew, ↓e_dgetF, ↓e_dget2, ↓e_dgPut, ↓e_join, ↓e_joinL, ↓e_cutS, ↓e_mulS, ↓e_sortV, ↓e_tidx, ↓e_mulNewL, ↓e_sortedPL, ↓e_indexL, ↓e_max3, e_kyI, e_kyS, Nat.reduceAdd, Nat.zero_add, List.length_cons, List.length_nil, List.length_map, Nat.reduceLeDiff, and_true, true_and, if_true, ite_true, decide_eq_true_eq, Bool.not_eq_true, Bool.false_eq_true, if_false, ite_false, ↓reduceIte, Int.reduceToNat, Int.reducePow, ne_eq, q_okI, q_okB, q_okN, q_okS, q_okL, q_okT, q_oks0, q_oks1, q_eqII, q_eqBB, q_eqSS, q_eqLL, q_eqTT, q_eqNN, q_eqNI, q_eqIN, q_eqs0, q_eqs1, Bool.true_and, Bool.and_true, beq_iff_eq, reduceCtorEq, wipeE, List.set_cons_zero, List.set_cons_succ, List.set_nil, Bool.not_true, Bool.not_false, List.getElem?_cons_zero, List.getElem?_cons_succ, tyD, subTy])
    refine ite_go (by decide) ?_
    refine ⟨mul2 _, a, g, rfl, nm.1, nr.2.2.1, by omega, by omega, ?_⟩
    have := htP_gr a g
    exact ⟨_, _, _, rfl, nm_gr nm.1, nm.2, by omega, by omega, h⟩
def t_greatest (spr : SpD) : DS :=
    (dRet (dIf (dTru (dIsi (dVar 0) ["str"])) (dC (.int 0)) (dB bMax3 (dCons (dOp ixD (dVar 0) (dC (.int 0))) (dCons (dCall spr (dCons (dOp ixD (dVar 0) (dC (.int 1))) dNil)) (dCons (dCall spr (dCons (dOp ixD (dVar 0) (dC (.int 2))) dNil)) dNil))))))
theorem st_greatest (a0 : D) : startD N_greatest [a0] = [some a0] := rfl
def sp_greatest : Nat → SpD := fun n ds st kk => ∃ P : Prt, ds = [prtD P] ∧ htP P < n ∧ kk (.int (greatP P : Nat)) st
theorem len_greatest (n : Nat) (ds : List D) (st : Sto) (kk : DK) (h : sp_greatest n ds st kk) : ds.length = 1 := by
  obtain ⟨_, rfl, _⟩ := h
  rfl
theorem no_greatest (ds : List D) (st : Sto) (kk : DK) (h : sp_greatest 0 ds st kk) : False := by
  obtain ⟨_, _, h, _⟩ := h
  omega
theorem p_greatest (n : Nat) : BodyD false N_greatest (sp_greatest (n + 1)) (t_greatest (sp_greatest n)) := by
  rintro ds st kk ⟨P, rfl, hh, h⟩
  rw [st_greatest]
  simp only [t_greatest]
  cases P with
  | ex c =>
    simp only [prtD]
    (try simp only [BEq.rfl, ↓e_v0, ↓e_vs, ↓e_c, ↓e_op, ↓e_un, ↓e_test, ↓e_testK, ↓e_tru, ↓e_truL, ↓e_truT, ↓e_truB, ↓e_truI, ↓e_truN, ↓e_truS, ↓e_not, ↓e_and, ↓e_or, ↓e_andv, ↓e_notv, ↓e_andK, ↓e_notK, ↓e_if, ↓e_nil, ↓e_cons, ↓e_tup, ↓e_lst, ↓e_new, ↓e_call, ↓e_drop, ↓e_ret, ↓e_pass, ↓e_ifS, ↓e_g0, ↓e_gs, ↓e_gnil, ↓e_gcons, ↓e_gtup, ↓e_asg, ↓e_par, ↓e_parK, ↓e_par3, ↓e_par3K, ↓e_no, ↓e_some, ↓e_someK, ↓e_cut, ↓e_b, ↓e_iter, ↓e_iterL, ↓e_iterT, ↓e_iterS, ↓e_rng1, ↓e_rng1K, ↓e_rng2, ↓e_rng2K, ↓e_rng3, ↓e_rng3K, ↓e_enum, ↓e_enumL, ↓e_enumT, ↓e_for, ↓e_lc, ↓e_lcNew, ↓e_meth, ↓e_isL, ↓e_sub, ↓e_isi, ↓e_yes, ↓e_addI, ↓e_addB, ↓e_addS, ↓e_addT, ↓e_addL, ↓e_subI, ↓e_mulI, ↓e_mulT, ↓e_mulL, ↓e_divI, ↓e_modI, ↓e_powI, ↓e_negI, ↓e_cmpI, ↓e_eq, ↓e_ne, ↓e_isn, ↓e_isnn, ↓e_isb, ↓e_ixL, ↓e_ixKL, ↓e_ixT, ↓e_cutL, ↓e_cutKL, ↓e_cutT, ↓e_lenL, ↓e_lenKL, ↓e_lenT, ↓e_abs, ↓e_intI, ↓e_intB, ↓e_max2, ↓e_listNL, ↓e_listNT, ↓e_tupL, ↓e_tupT, ↓e_sum1T, ↓e_sum1L, ↓e_max1T, ↓e_max1L, ↓e_drI, ↓e_drB, ↓e_drS, ↓e_drN, ↓e_drL, ↓e_drT, ↓e_seq, ↓e_back, ↓e_backL, ↓e_backT, ↓e_unlL, ↓e_inFlat, ↓e_drK, ↓e_addBI, ↓e_subBI, ↓e_subIB, ↓e_drG, ↓e_dnew, ↓e_dgetF, ↓e_dget2, ↓e_dgPut, ↓e_join, ↓e_joinL, ↓e_cutS, ↓e_mulS, ↓e_sortV, ↓e_tidx, ↓e_mulNewL, ↓e_sortedPL, ↓e_indexL, ↓e_max3, e_kyI, e_kyS, Nat.reduceAdd, Nat.zero_add, List.length_cons, List.length_nil, List.length_map, Nat.reduceLeDiff, and_true, true_and, if_true, ite_true, decide_eq_true_eq, Bool.not_eq_true, Bool.false_eq_true, if_false, ite_false, ↓reduceIte, Int.reduceToNat, Int.reducePow, ne_eq, q_okI, q_okB, q_okN, q_okS, q_okL, q_okT, q_oks0, q_oks1, q_eqII, q_eqBB, q_eqSS, q_eqLL, q_eqTT, q_eqNN, q_eqNI, q_eqIN, q_eqs0, q_eqs1, Bool.true_and, Bool.and_true, beq_iff_eq, reduceCtorEq, wipeE, List.set_cons_zero, List.set_cons_succ, List.set_nil, Bool.not_true, Bool.not_false, List.getElem?_cons_zero, List.getElem?_cons_succ, tyD, subTy])
    exact ite_yes (by decide) h
  | nd s a b =>
    unfold htP at hh
    simp only [prtD]
    (try simp only [BEq.rfl, ↓e_v0, ↓e_vs, ↓e_c, ↓e_op, ↓e_un, ↓e_test, ↓e_testK, ↓e_tru, ↓e_truL, ↓e_truT, ↓e_truB, ↓e_truI, ↓e_truN, ↓e_truS, ↓e_not, ↓e_and, ↓e_or, ↓e_andv, ↓e_notv, ↓e_andK, ↓e_notK, ↓e_if, ↓e_nil, ↓e_cons, ↓e_tup, ↓e_lst, ↓e_new, ↓e_call, ↓e_drop, ↓e_ret, ↓e_pass, ↓e_ifS, ↓e_g0, ↓e_gs, ↓e_gnil, ↓e_gcons, ↓e_gtup, ↓e_asg, ↓e_par, ↓e_parK, ↓e_par3, ↓e_par3K, ↓e_no, ↓e_some, ↓e_someK, ↓e_cut, ↓e_b, ↓e_iter, ↓e_iterL, ↓e_iterT, ↓e_iterS, ↓e_rng1, ↓e_rng1K, ↓e_rng2, ↓e_rng2K, ↓e_rng3, ↓e_rng3K, ↓e_enum, ↓e_enumL, ↓e_enumT, ↓e_for, ↓e_lc, ↓e_lcNew, ↓e_meth, ↓e_isL, ↓e_sub, ↓e_isi, ↓e_yes, ↓e_addI, ↓e_addB, ↓e_addS, ↓e_addT, ↓e_addL, ↓e_subI, ↓e_mulI, ↓e_mulT, ↓e_mulL, ↓e_divI, ↓e_modI, ↓e_powI, ↓e_negI, ↓e_cmpI, ↓e_eq, ↓e_ne, ↓e_isn, ↓e_isnn, ↓e_isb, ↓e_ixL, ↓e_ixKL, ↓e_ixT, ↓e_cutL, ↓e_cutKL, ↓e_cutT, ↓e_lenL, ↓e_lenKL, ↓e_lenT, ↓e_abs, ↓e_intI, ↓e_intB, ↓e_max2, ↓e_listNL, ↓e_listNT, ↓e_tupL, ↓e_tupT, ↓e_sum1T, ↓e_sum1L, ↓e_max1T, ↓e_max1L, ↓e_drI, ↓e_drB, ↓e_drS, ↓e_drN, ↓e_drL, ↓e_drT, ↓e_seq, ↓e_back, ↓e_backL, ↓e_backT, ↓e_unlL, ↓e_inFlat, ↓e_drK, ↓e_addBI, ↓e_subBI, ↓e_subIB, ↓e_drG, ↓e_dnew, ↓e_dgetF, ↓e_dget2, ↓e_dgPut, ↓e_join, ↓e_joinL, ↓e_cutS, ↓e_mulS, ↓e_sortV, ↓e_tidx, ↓e_mulNewL, ↓e_sortedPL, ↓e_indexL, ↓e_max3, e_kyI, e_kyS, Nat.reduceAdd, Nat.zero_add, List.length_cons, List.length_nil, List.length_map, Nat.reduceLeDiff, and_true, true_and, if_true, ite_true, decide_eq_true_eq, Bool.not_eq_true, Bool.false_eq_true, if_false, ite_false, ↓reduceIte, Int.reduceToNat, Int.reducePow, ne_eq, q_okI, q_okB, q_okN, q_okS, q_okL, q_okT, q_oks0, q_oks1, q_eqII, q_eqBB, q_eqSS, q_eqLL, q_eqTT, q_eqNN, q_eqNI, q_eqIN, q_eqs0, q_eqs1, Bool.true_and, Bool.and_true, beq_iff_eq, reduceCtorEq, wipeE, List.set_cons_zero, List.set_cons_succ, List.set_nil, Bool.not_true, Bool.not_false, List.getElem?_cons_zero, List.getElem?_cons_succ, tyD, subTy])
    refine ite_go (by decide) ?_
    refine ⟨_, rfl, _, rfl, ?_⟩
    refine ⟨a, rfl, by omega, _, rfl, ?_⟩
    refine ⟨b, rfl, by omega, ?_⟩
    (walk_at "lw_dd0")
    have e : ((greatP (.nd s a b) : Nat) : Int) = max (s : Int) (max (greatP a : Nat) (greatP b : Nat)) := by
      show ((max s (max (greatP a) (greatP b)) : Nat) : Int) = _
      omega
    rw [e] at h
    exact h
def t_names_in (spr : SpD) : DS :=
    (dRet (dIf (dTru (dIsi (dVar 0) ["str"])) (dLst (dCons (dVar 0) dNil)) (dOp addD (dCall spr (dCons (dOp ixD (dVar 0) (dC (.int 1))) dNil)) (dCall spr (dCons (dOp ixD (dVar 0) (dC (.int 2))) dNil)))))
theorem st_names_in (a0 : D) : startD N_names_in [a0] = [some a0] := rfl
def sp_names_in : Nat → SpD := fun n ds st kk => ∃ P : Prt, ds = [prtD P] ∧ htP P < n ∧ szP P ≤ 1000 ∧ kk (.lst ((namesP P).map txD)) st
theorem len_names_in (n : Nat) (ds : List D) (st : Sto) (kk : DK) (h : sp_names_in n ds st kk) : ds.length = 1 := by
  obtain ⟨_, rfl, _⟩ := h
  rfl
theorem no_names_in (ds : List D) (st : Sto) (kk : DK) (h : sp_names_in 0 ds st kk) : False := by
  obtain ⟨_, _, h, _⟩ := h
  omega
theorem names_len : ∀ P : Prt, (namesP P).length = szP P + 1
  | .ex _ => rfl
  | .nd _ a b => by
    unfold namesP szP
    rw [List.length_append, names_len a, names_len b]
    omega
theorem p_names_in (n : Nat) : BodyD false N_names_in (sp_names_in (n + 1)) (t_names_in (sp_names_in n)) := by
  rintro ds st kk ⟨P, rfl, hh, hz, h⟩
  rw [st_names_in]
  simp only [t_names_in]
  cases P with
  | ex c =>
    simp only [prtD]
    (try simp only [BEq.rfl, ↓e_v0, ↓e_vs, ↓e_c, ↓e_op, ↓e_un, ↓e_test, ↓e_testK, ↓e_tru, ↓e_truL, ↓e_truT, ↓e_truB, ↓e_truI, ↓e_truN, ↓e_truS, ↓e_not, ↓e_and, ↓e_or, ↓e_andv, ↓e_notv, ↓e_andK, ↓e_notK, ↓e_if, ↓e_nil, ↓e_cons, ↓e_tup, ↓e_lst, ↓e_new, ↓e_call, ↓e_drop, ↓e_ret, ↓e_pass, ↓e_ifS, ↓e_g0, ↓e_gs, ↓e_gnil, ↓e_gcons, ↓e_gtup, ↓e_asg, ↓e_par, ↓e_parK, ↓e_par3, ↓e_par3K, ↓e_no, ↓e_some, ↓e_someK, ↓e_cut, ↓e_b, ↓e_iter, ↓e_iterL, ↓e_iterT, ↓e_iterS, ↓e_rng1, ↓e_rng1K, ↓e_rng2, ↓e_rng2K, ↓e_rng3, ↓e_rng3K, ↓e_enum, ↓e_enumL, ↓e_enumT, ↓e_for, ↓e_lc, ↓e_lcNew, ↓e_meth, ↓e_isL, ↓e_sub, ↓e_isi, ↓e_yes, ↓e_addI, ↓e_addB, ↓e_addS, ↓e_addT, ↓e_addL, ↓e_subI, ↓e_mulI, ↓e_mulT, ↓e_mulL, ↓e_divI, ↓e_modI, ↓e_powI, ↓e_negI, ↓e_cmpI, ↓e_eq, ↓e_ne, ↓e_isn, ↓e_isnn, ↓e_isb, ↓e_ixL, ↓e_ixKL, ↓e_ixT, ↓e_cutL, ↓e_cutKL, ↓e_cutT, ↓e_lenL, ↓e_lenKL, ↓e_lenT, ↓e_abs, ↓e_intI, ↓e_intB, ↓e_max2, ↓e_listNL, ↓e_listNT, ↓e_tupL, ↓e_tupT, ↓e_sum1T, ↓e_sum1L, ↓e_max1T, ↓e_max1L, ↓e_drI, ↓e_drB, ↓e_drS, ↓e_drN, ↓e_drL, ↓e_drT, ↓e_seq, ↓e_back, ↓e_backL, ↓e_backT, ↓e_unlL, ↓e_inFlat, ↓e_drK, ↓e_addBI, ↓e_subBI, ↓e_subIB, ↓e_drG, ↓e_dnew, ↓e_dgetF, ↓e_dget2, ↓e_dgPut, ↓e_join, ↓e_joinL, ↓e_cutS, ↓e_mulS, ↓e_sortV, ↓e_tidx, ↓e_mulNewL, ↓e_sortedPL, ↓e_indexL, ↓e_max3, e_kyI, e_kyS, Nat.reduceAdd, Nat.zero_add, List.length_cons, List.length_nil, List.length_map, Nat.reduceLeDiff, and_true, true_and, if_true, ite_true, decide_eq_true_eq, Bool.not_eq_true, Bool.false_eq_true, if_false, ite_false, ↓reduceIte, Int.reduceToNat, Int.reducePow, ne_eq, q_okI, q_okB, q_okN, q_okS, q_okL, q_okT, q_oks0, q_oks1, q_eqII, q_eqBB, q_eqSS, q_eqLL, q_eqTT, q_eqNN, q_eqNI, q_eqIN, q_eqs0, q_eqs1, Bool.true_and, Bool.and_true, beq_iff_eq, reduceCtorEq, wipeE, List.set_cons_zero, List.set_cons_succ, List.set_nil, Bool.not_true, Bool.not_false, List.getElem?_cons_zero, List.getElem?_cons_succ, tyD, subTy])
    exact ite_yes (by decide) h
  | nd s a b =>
    unfold htP at hh
    unfold szP at hz
    simp only [prtD]
    (try simp only [BEq.rfl, ↓e_v0, ↓e_vs, ↓e_c, ↓e_op, ↓e_un, ↓e_test, ↓e_testK, ↓e_tru, ↓e_truL, ↓e_truT, ↓e_truB, ↓e_truI, ↓e_truN, ↓e_truS, ↓e_not, ↓e_and, ↓e_or, ↓e_andv, ↓e_notv, ↓e_andK, ↓e_notK, ↓e_if, ↓e_nil, ↓e_cons, ↓e_tup, ↓e_lst, ↓e_new, ↓e_call, ↓e_drop, ↓e_ret, ↓e_pass, ↓e_ifS, ↓e_g0, ↓e_gs, ↓e_gnil, ↓e_gcons, ↓e_gtup, ↓e_asg, ↓e_par, ↓e_parK, ↓e_par3, ↓e_par3K, ↓e_no, ↓e_some, ↓e_someK, ↓e_cut, ↓e_b, ↓e_iter, ↓e_iterL, ↓e_iterT, ↓e_iterS, ↓e_rng1, ↓e_rng1K, ↓e_rng2, ↓e_rng2K, ↓e_rng3, ↓e_rng3K, ↓e_enum, ↓e_enumL, ↓e_enumT, ↓e_for, ↓e_lc, ↓e_lcNew, ↓e_meth, ↓e_isL, ↓e_sub, ↓e_isi, ↓e_yes, ↓e_addI, ↓e_addB, ↓e_addS, ↓e_addT, ↓e_addL, ↓e_subI, ↓e_mulI, ↓e_mulT, ↓e_mulL, ↓e_divI, ↓e_modI, ↓e_powI, ↓e_negI, ↓e_cmpI, ↓e_eq, ↓e_ne, ↓e_isn, ↓e_isnn, ↓e_isb, ↓e_ixL, ↓e_ixKL, ↓e_ixT, ↓e_cutL, ↓e_cutKL, ↓e_cutT, ↓e_lenL, ↓e_lenKL, ↓e_lenT, ↓e_abs, ↓e_intI, ↓e_intB, ↓e_max2, ↓e_listNL, ↓e_listNT, ↓e_tupL, ↓e_tupT, ↓e_sum1T, ↓e_sum1L, ↓e_max1T, ↓e_max1L, ↓e_drI, ↓e_drB, ↓e_drS, ↓e_drN, ↓e_drL, ↓e_drT, ↓e_seq, ↓e_back, ↓e_backL, ↓e_backT, ↓e_unlL, ↓e_inFlat, ↓e_drK, ↓e_addBI, ↓e_subBI, ↓e_subIB, ↓e_drG, ↓e_dnew, ↓e_dgetF, ↓e_dget2, ↓e_dgPut, ↓e_join, ↓e_joinL, ↓e_cutS, ↓e_mulS, ↓e_sortV, ↓e_tidx, ↓e_mulNewL, ↓e_sortedPL, ↓e_indexL, ↓e_max3, e_kyI, e_kyS, Nat.reduceAdd, Nat.zero_add, List.length_cons, List.length_nil, List.length_map, Nat.reduceLeDiff, and_true, true_and, if_true, ite_true, decide_eq_true_eq, Bool.not_eq_true, Bool.false_eq_true, if_false, ite_false, ↓reduceIte, Int.reduceToNat, Int.reducePow, ne_eq, q_okI, q_okB, q_okN, q_okS, q_okL, q_okT, q_oks0, q_oks1, q_eqII, q_eqBB, q_eqSS, q_eqLL, q_eqTT, q_eqNN, q_eqNI, q_eqIN, q_eqs0, q_eqs1, Bool.true_and, Bool.and_true, beq_iff_eq, reduceCtorEq, wipeE, List.set_cons_zero, List.set_cons_succ, List.set_nil, Bool.not_true, Bool.not_false, List.getElem?_cons_zero, List.getElem?_cons_succ, tyD, subTy])
    refine ite_go (by decide) ?_
    have la := names_len a
    have lb := names_len b
    refine ⟨_, rfl, a, rfl, by omega, by omega, _, rfl, b, rfl, by omega, by omega, ?_⟩
    (walk_at "lw_dd0")
    refine ⟨by omega, ?_⟩
    unfold namesP at h
    rw [List.map_append] at h
    exact h
def e1_row_off (spr : SpD) : DE :=
    (dVar 5)
def t_row_off (spr : SpD) : DS :=
    (dSeq (dIfS (dTru (dIsi (dVar 0) ["str"])) (dRet (dLst (dCons (dC (.int 1)) dNil))) dPass)
    (dSeq (dAsg (dVar 0) (dgTup 3 (dgCons (dgName 2) (dgCons (dgName 3) (dgCons (dgName 4) dgNil)))))
    (dSeq (dIfS (dTest (dOp (eqOp true) (dLc (dIter (dCall (sp_names_in 22) (dCons (dVar 4) dNil))) (dgName 5) (dTest (dOp (eqOp true) (dVar 5) (dVar 1))) (e1_row_off spr) [5]) (dLst dNil))) (dSeq (dAsg (dCall spr (dCons (dVar 4) (dCons (dVar 1) dNil))) (dgName 6))
    (dRet (dOp addD (dLst (dCons (dOp addD (dOp addD (dOp divD (dVar 2) (dC (.int 2))) (dC (.int 1))) (dB bSum1 (dCons (dVar 6) dNil))) dNil)) (dVar 6)))) dPass)
    (dSeq (dIfS (dTru (dIsi (dVar 3) ["str"])) (dRet (dLst (dCons (dC (.int 1)) dNil))) dPass)
    (dSeq (dAsg (dOp addD (dOp divD (dVar 2) (dC (.int 2))) (dC (.int 1))) (dgName 7))
    (dSeq (dAsg (dCall spr (dCons (dCall (sp_grown 22) (dCons (dVar 3) (dCons (dVar 7) dNil))) (dCons (dVar 1) dNil))) (dgName 6))
    (dRet (dOp addD (dLst (dCons (dVar 7) (dCons (dOp addD (dB bSum1 (dCons (dVar 6) dNil)) (dC (.int 1))) dNil))) (dVar 6)))))))))
theorem st_row_off (a0 a1 : D) : startD N_row_off [a0, a1] = [some a0, some a1, none, none, none, none, none, none] := rfl
def sp_row_off : Nat → SpD := fun n ds st kk => ∃ (P : Prt) (c : List Nat), ds = [prtD P, .str (S c)] ∧ NmP2 P ∧ Nrm P ∧ htP P < n ∧ htP P < 20 ∧ szP P ≤ 1000 ∧ NameL c ∧ kk (.lst ((rowOff P c).map fun k : Nat => .int (k : Nat))) st
theorem len_row_off (n : Nat) (ds : List D) (st : Sto) (kk : DK) (h : sp_row_off n ds st kk) : ds.length = 2 := by
  obtain ⟨_, _, rfl, _⟩ := h
  rfl
theorem no_row_off (ds : List D) (st : Sto) (kk : DK) (h : sp_row_off 0 ds st kk) : False := by
  obtain ⟨_, _, _, _, _, h, _⟩ := h
  omega
theorem sz_fold (s : Int) (a b : Prt) : szP (fold2 s a b) ≤ 1 + szP a + szP b := by
  unfold fold2
  split
  · omega
  · split
    · exact Nat.le_refl _
    · show 1 + szP b + szP a ≤ _
      omega
theorem sz_gr : ∀ (P : Prt) (g : Nat), szP (grP P g) ≤ szP P
  | .ex _, _ => Nat.le_refl _
  | .nd s a b, g => by
    have h1 := sz_gr a g
    have h2 := sz_fold (2 * (g : Int) - (s : Int)) (grP a g) b
    show szP (fold2 _ _ _) ≤ 1 + szP a + szP b
    omega
theorem off_len : ∀ (m : Nat) (P : Prt) (c : List Nat), htP P ≤ m → (rowOff P c).length ≤ 2 * m + 1 := by
  intro m
  induction m with
  | zero =>
    intro P c h
    cases P with
    | ex d => rw [rowOff_ex]; simp
    | nd s a b => unfold htP at h; omega
  | succ m ih =>
    intro P c h
    cases P with
    | ex d => rw [rowOff_ex]; simp
    | nd s a b =>
      unfold htP at h
      rw [rowOff_nd]
      split
      · have := ih b c (by omega)
        simp only [List.length_cons]
        omega
      · cases a with
        | ex d => simp [isEx]
        | nd t x y =>
          rw [show isEx (.nd t x y) = false from rfl, if_neg (by decide)]
          have h1 := htP_gr (.nd t x y) (s / 2 + 1)
          have := ih (grP (.nd t x y) (s / 2 + 1)) c (by omega)
          simp only [List.length_cons]
          omega
theorem e_sumN {r : List Nat} {st : Sto} {k : DK} : bSum1 [.lst (r.map fun k : Nat => D.int (k : Nat))] st k = k (.int ((r.sum : Nat) : Int)) st := by
  have h : ∀ r : List Nat, (r.map fun k : Nat => (k : Int)).sum = ((r.sum : Nat) : Int) := fun r => by
    induction r with
    | nil => rfl
    | cons a r ih => simp only [List.map_cons, List.sum_cons, ih]; omega
  rw [show (r.map fun k : Nat => D.int (k : Nat)) = (r.map fun k : Nat => (k : Int)).map D.int by rw [List.map_map]; rfl, e_sum1L, h]
theorem names_nm : ∀ {P : Prt}, NmP2 P → ∀ d ∈ namesP P, NameL d
  | .ex _, h, d, hd => by rw [List.mem_singleton.mp hd]; exact h
  | .nd _ _ _, h, d, hd => by
    rcases List.mem_append.mp hd with q | q
    · exact names_nm h.1 d q
    · exact names_nm h.2 d q
theorem names_okF {P : Prt} {p : List Nat → Bool} (h : NmP2 P) : okDs 59 (((namesP P).filter p).map txD) = true := by
  have hn := names_nm h
  have : ∀ L : List (List Nat), (∀ d ∈ L, NameL d) → okDs 59 (L.map txD) = true := fun L => by
    induction L with
    | nil => exact fun _ => rfl
    | cons a r ih =>
      intro q
      simp only [List.map_cons, okDs]
      rw [ih fun d hd => q d (List.mem_cons_of_mem _ hd), Bool.and_true]
      exact ld_okD 59 (v := .out a) (q a List.mem_cons_self)
  exact this _ fun d hd => hn d (List.mem_filter.mp hd).1
theorem any_filter {L : List (List Nat)} {p : List Nat → Bool} (h : L.any p = true) : eqDs ((L.filter p).map txD) [] = false := by
  cases e : L.filter p with
  | nil =>
    obtain ⟨d, hd, hp⟩ := List.any_eq_true.mp h
    have : d ∈ L.filter p := List.mem_filter.mpr ⟨hd, hp⟩
    rw [e] at this
    cases this
  | cons a r => rfl
theorem not_any_filter {L : List (List Nat)} {p : List Nat → Bool} (h : ¬ L.any p = true) : eqDs ((L.filter p).map txD) [] = true := by
  cases e : L.filter p with
  | nil => rfl
  | cons a r =>
    have : a ∈ L.filter p := by rw [e]; exact List.mem_cons_self
    obtain ⟨h1, h2⟩ := List.mem_filter.mp this
    exact absurd (List.any_eq_true.mpr ⟨a, h1, h2⟩) h
theorem p_row_off (n : Nat) : BodyD false N_row_off (sp_row_off (n + 1)) (t_row_off (sp_row_off n)) := by
  rintro ds st kk ⟨P, c, rfl, nm, nr, hh, h4, hz, nc, h⟩
  rw [st_row_off]
  simp only [t_row_off]
  cases P with
  | ex d =>
    rw [rowOff_ex] at h
    simp only [prtD]
    (try simp only [BEq.rfl, ↓e_v0, ↓e_vs, ↓e_c, ↓e_op, ↓e_un, ↓e_test, ↓e_testK, ↓e_tru, ↓e_truL, ↓e_truT, ↓e_truB, ↓e_truI, ↓e_truN, ↓e_truS, ↓e_not, ↓e_and, ↓e_or, ↓e_andv, ↓e_notv, ↓e_andK, ↓e_notK, ↓e_if, ↓e_nil, ↓e_cons, ↓e_tup, ↓e_lst, ↓e_new, ↓e_call, ↓e_drop, ↓e_ret, ↓e_pass, ↓e_ifS, ↓e_g0, ↓e_gs, ↓e_gnil, ↓e_gcons, ↓e_gtup, ↓e_asg, ↓e_par, ↓e_parK, ↓e_par3, ↓e_par3K, ↓e_no, ↓e_some, ↓e_someK, ↓e_cut, ↓e_b, ↓e_iter, ↓e_iterL, ↓e_iterT, ↓e_iterS, ↓e_rng1, ↓e_rng1K, ↓e_rng2, ↓e_rng2K, ↓e_rng3, ↓e_rng3K, ↓e_enum, ↓e_enumL, ↓e_enumT, ↓e_for, ↓e_lc, ↓e_lcNew, ↓e_meth, ↓e_isL, ↓e_sub, ↓e_isi, ↓e_yes, ↓e_addI, ↓e_addB, ↓e_addS, ↓e_addT, ↓e_addL, ↓e_subI, ↓e_mulI, ↓e_mulT, ↓e_mulL, ↓e_divI, ↓e_modI, ↓e_powI, ↓e_negI, ↓e_cmpI, ↓e_eq, ↓e_ne, ↓e_isn, ↓e_isnn, ↓e_isb, ↓e_ixL, ↓e_ixKL, ↓e_ixT, ↓e_cutL, ↓e_cutKL, ↓e_cutT, ↓e_lenL, ↓e_lenKL, ↓e_lenT, ↓e_abs, ↓e_intI, ↓e_intB, ↓e_max2, ↓e_listNL, ↓e_listNT, ↓e_tupL, ↓e_tupT, ↓e_sum1T, ↓e_sum1L, ↓e_max1T, ↓e_max1L, ↓e_drI, ↓e_drB, ↓e_drS, ↓e_drN, ↓e_drL, ↓e_drT, ↓e_seq, ↓e_back, ↓e_backL, ↓e_backT, ↓e_unlL, ↓e_inFlat, ↓e_drK, ↓e_addBI, ↓e_subBI, ↓e_subIB, ↓e_drG, ↓e_dnew, ↓e_dgetF, ↓e_dget2, ↓e_dgPut, ↓e_join, ↓e_joinL, ↓e_cutS, ↓e_mulS, ↓e_sortV, ↓e_tidx, ↓e_mulNewL, ↓e_sortedPL, ↓e_indexL, ↓e_max3, e_kyI, e_kyS, Nat.reduceAdd, Nat.zero_add, List.length_cons, List.length_nil, List.length_map, Nat.reduceLeDiff, and_true, true_and, if_true, ite_true, decide_eq_true_eq, Bool.not_eq_true, Bool.false_eq_true, if_false, ite_false, ↓reduceIte, Int.reduceToNat, Int.reducePow, ne_eq, q_okI, q_okB, q_okN, q_okS, q_okL, q_okT, q_oks0, q_oks1, q_eqII, q_eqBB, q_eqSS, q_eqLL, q_eqTT, q_eqNN, q_eqNI, q_eqIN, q_eqs0, q_eqs1, Bool.true_and, Bool.and_true, beq_iff_eq, reduceCtorEq, wipeE, List.set_cons_zero, List.set_cons_succ, List.set_nil, Bool.not_true, Bool.not_false, List.getElem?_cons_zero, List.getElem?_cons_succ, tyD, subTy])
    exact ite_yes (by decide) h
  | nd s a b =>
    rw [rowOff_nd] at h
    unfold htP at hh h4
    unfold szP at hz
    simp only [prtD]
    (try simp only [BEq.rfl, ↓e_v0, ↓e_vs, ↓e_c, ↓e_op, ↓e_un, ↓e_test, ↓e_testK, ↓e_tru, ↓e_truL, ↓e_truT, ↓e_truB, ↓e_truI, ↓e_truN, ↓e_truS, ↓e_not, ↓e_and, ↓e_or, ↓e_andv, ↓e_notv, ↓e_andK, ↓e_notK, ↓e_if, ↓e_nil, ↓e_cons, ↓e_tup, ↓e_lst, ↓e_new, ↓e_call, ↓e_drop, ↓e_ret, ↓e_pass, ↓e_ifS, ↓e_g0, ↓e_gs, ↓e_gnil, ↓e_gcons, ↓e_gtup, ↓e_asg, ↓e_par, ↓e_parK, ↓e_par3, ↓e_par3K, ↓e_no, ↓e_some, ↓e_someK, ↓e_cut, ↓e_b, ↓e_iter, ↓e_iterL, ↓e_iterT, ↓e_iterS, ↓e_rng1, ↓e_rng1K, ↓e_rng2, ↓e_rng2K, ↓e_rng3, ↓e_rng3K, ↓e_enum, ↓e_enumL, ↓e_enumT, ↓e_for, ↓e_lc, ↓e_lcNew, ↓e_meth, ↓e_isL, ↓e_sub, ↓e_isi, ↓e_yes, ↓e_addI, ↓e_addB, ↓e_addS, ↓e_addT, ↓e_addL, ↓e_subI, ↓e_mulI, ↓e_mulT, ↓e_mulL, ↓e_divI, ↓e_modI, ↓e_powI, ↓e_negI, ↓e_cmpI, ↓e_eq, ↓e_ne, ↓e_isn, ↓e_isnn, ↓e_isb, ↓e_ixL, ↓e_ixKL, ↓e_ixT, ↓e_cutL, ↓e_cutKL, ↓e_cutT, ↓e_lenL, ↓e_lenKL, ↓e_lenT, ↓e_abs, ↓e_intI, ↓e_intB, ↓e_max2, ↓e_listNL, ↓e_listNT, ↓e_tupL, ↓e_tupT, ↓e_sum1T, ↓e_sum1L, ↓e_max1T, ↓e_max1L, ↓e_drI, ↓e_drB, ↓e_drS, ↓e_drN, ↓e_drL, ↓e_drT, ↓e_seq, ↓e_back, ↓e_backL, ↓e_backT, ↓e_unlL, ↓e_inFlat, ↓e_drK, ↓e_addBI, ↓e_subBI, ↓e_subIB, ↓e_drG, ↓e_dnew, ↓e_dgetF, ↓e_dget2, ↓e_dgPut, ↓e_join, ↓e_joinL, ↓e_cutS, ↓e_mulS, ↓e_sortV, ↓e_tidx, ↓e_mulNewL, ↓e_sortedPL, ↓e_indexL, ↓e_max3, e_kyI, e_kyS, Nat.reduceAdd, Nat.zero_add, List.length_cons, List.length_nil, List.length_map, Nat.reduceLeDiff, and_true, true_and, if_true, ite_true, decide_eq_true_eq, Bool.not_eq_true, Bool.false_eq_true, if_false, ite_false, ↓reduceIte, Int.reduceToNat, Int.reducePow, ne_eq, q_okI, q_okB, q_okN, q_okS, q_okL, q_okT, q_oks0, q_oks1, q_eqII, q_eqBB, q_eqSS, q_eqLL, q_eqTT, q_eqNN, q_eqNI, q_eqIN, q_eqs0, q_eqs1, Bool.true_and, Bool.and_true, beq_iff_eq, reduceCtorEq, wipeE, List.set_cons_zero, List.set_cons_succ, List.set_nil, Bool.not_true, Bool.not_false, List.getElem?_cons_zero, List.getElem?_cons_succ, tyD, subTy])
    refine ite_go (by decide) ?_
    refine ⟨b, rfl, by omega, by omega, ?_⟩
    have lb := names_len b
    (walk_at "lw_dd0")
    refine fun _ => ⟨by omega, ?_⟩
    refine lc_filter (src := []) txD txD (fun d => decide (d ≠ c)) st trivial (namesP b) [] (fun d hd k1 k2 g1 g2 => ?_) ?_
    · have okd : PyData.strOk (S d) = true := ld_okD 1 (v := .out d) (names_nm nm.2 d hd)
      have okc : PyData.strOk (S c) = true := ld_okD 1 (v := .out c) nc
      simp only [txD]
      (walk_at "lw_dd0")
      refine ⟨okd, okc, ?_⟩
      by_cases e : d = c
      · subst e
        refine ite_go (by simp) ?_
        exact g2 (by simp)
      · refine ite_yes (by simpa using fun q => e (S_inj q)) ?_
        simp only [e1_row_off]
        (walk_at "lw_dd0")
        exact g1 (by simpa using e)
    rw [List.nil_append]
    have tail : ∀ (r : List Nat) (x : Nat) (s : Sto) (kd : DK), r.length ≤ 100 → kd (.lst (((x + r.sum) :: r).map fun k : Nat => .int (k : Nat))) s → bSum1 [.lst (r.map fun k : Nat => .int (k : Nat))] s fun y s2 => addD (.int (x : Nat)) y s2 fun d s1 => addD (.lst [d]) (.lst (r.map fun k : Nat => .int (k : Nat))) s1 fun d st' => kd d st' := fun r x s kd hr hk => by
      rw [e_sumN]
      (walk_at "lw_dd0")
      refine ⟨by omega, ?_⟩
      exact hk
    have fok := names_okF (p := fun d => decide (d ≠ c)) nm.2
    refine ⟨fok, ?_⟩
    by_cases z : (namesP b).any (fun d => decide (d ≠ c)) = true
    · rw [if_pos z] at h
      refine ite_yes (by rw [any_filter z]; rfl) ?_
      refine ⟨b, c, rfl, nm.2, nr.2.2.2, by omega, by omega, by omega, nc, ?_⟩
      refine ⟨by (first | exact mulc _ _ (by decide) (by decide) | exact mulr _ _ (by decide) (by decide) | exact ⟨by decide, by decide, by decide⟩ | exact ⟨by decide, by decide⟩ | exact mulb _ _ | exact ⟨by omega, by omega⟩ | exact mulc _ _ (by omega) (by omega) | exact mulr _ _ (by omega) (by omega) | exact div_small (by omega) (by omega) | exact ⟨by omega, by omega, by omega⟩ | omega | decide), ?_⟩
      have := off_len 20 b c (by omega)
      exact tail _ (s / 2 + 1) _ _ (by omega) h
    · rw [if_neg z] at h
      refine ite_go (by rw [not_any_filter z]; decide) ?_
      cases a with
      | ex d =>
        rw [show isEx (.ex d) = true from rfl, if_pos rfl] at h
        exact ite_yes (by simp only [prtD]; decide) h
      | nd t x y =>
        rw [show isEx (.nd t x y) = false from rfl, if_neg (by decide)] at h
        refine ite_go (by simp only [prtD]; decide) ?_
        refine ⟨by (first | exact mulc _ _ (by decide) (by decide) | exact mulr _ _ (by decide) (by decide) | exact ⟨by decide, by decide, by decide⟩ | exact ⟨by decide, by decide⟩ | exact mulb _ _ | exact ⟨by omega, by omega⟩ | exact mulc _ _ (by omega) (by omega) | exact mulr _ _ (by omega) (by omega) | exact div_small (by omega) (by omega) | exact ⟨by omega, by omega, by omega⟩ | omega | decide), ?_⟩
        have hg := htP_gr (.nd t x y) (s / 2 + 1)
        have zg := sz_gr (.nd t x y) (s / 2 + 1)
        refine ⟨_, s / 2 + 1, rfl, nm.1, nr.2.2.1, by omega, by omega, ?_⟩
        refine ⟨_, c, rfl, nm_gr nm.1, gr_nrm nr.2.2.1, by omega, by omega, by omega, nc, ?_⟩
        have := off_len 20 (grP (.nd t x y) (s / 2 + 1)) c (by omega)
        dsimp only
        rw [e_sumN]
        (walk_at "lw_dd0")
        refine ⟨by omega, ?_⟩
        exact h
def b1_row_by_sizes (spr : SpD) : DS :=
    (dAsg (dCall (sp_grown 22) (dCons (dVar 4) (dCons (dVar 10) dNil))) (dgName 4))
def t_row_by_sizes (spr : SpD) : DS :=
    (dSeq (dAsg (dVar 0) (dgTup 3 (dgCons (dgName 2) (dgCons (dgName 3) (dgCons (dgName 4) dgNil)))))
    (dSeq (dAsg (dOp ixD (dVar 1) (dC (.int 0))) (dgName 5))
    (dSeq (dAsg (dOp addD (dOp divD (dVar 2) (dC (.int 2))) (dC (.int 1))) (dgName 6))
    (dSeq (dIfS (dAnd (dTru (dIsi (dVar 3) ["str"])) (dTru (dIsi (dVar 4) ["str"]))) (dRet (dLst (dCons (dVar 6) (dCons (dC (.int 1)) dNil)))) dPass)
    (dSeq (dIfS (dOr (dTru (dIsi (dVar 3) ["str"])) (dTru (dIsi (dVar 4) ["str"]))) (dSeq (dAsg (dCall spr (dCons (dCall (sp_grown 22) (dCons (dVar 3) (dCons (dVar 6) dNil))) (dCons (dVar 4) dNil))) (dgName 7))
    (dRet (dOp addD (dLst (dCons (dVar 6) (dCons (dOp addD (dOp addD (dB bSum1 (dCons (dVar 7) dNil)) (dVar 5)) (dC (.int 1))) dNil))) (dVar 7)))) dPass)
    (dSeq (dAsg (dOp addD (dB bMax2 (dCons (dCall (sp_greatest 22) (dCons (dVar 0) dNil)) (dCons (dCall (sp_greatest 22) (dCons (dVar 1) dNil)) dNil))) (dC (.int 1))) (dgName 6))
    (dSeq (dAsg (dOp subD (dVar 6) (dOp divD (dVar 5) (dC (.int 2)))) (dgName 8))
    (dSeq (dAsg (dIf (dTest (dOp (eqOp true) (dCall (sp_grown 22) (dCons (dVar 3) (dCons (dVar 6) dNil))) (dCall (sp_grown 22) (dCons (dVar 4) (dCons (dVar 8) dNil))))) (dLst (dCons (dVar 8) dNil)) (dLst (dCons (dOp subD (dVar 8) (dC (.int 1))) (dCons (dC (.int 1)) dNil)))) (dgName 9))
    (dSeq (dFor (dIter (dVar 9)) (dgName 10) (b1_row_by_sizes spr))
    (dSeq (dAsg (dCall spr (dCons (dCall (sp_grown 22) (dCons (dVar 3) (dCons (dVar 6) dNil))) (dCons (dVar 4) dNil))) (dgName 7))
    (dRet (dOp addD (dOp addD (dOp addD (dLst (dCons (dVar 6) dNil)) (dVar 9)) (dLst (dCons (dOp addD (dOp addD (dB bSum1 (dCons (dVar 7) dNil)) (dVar 5)) (dC (.int 1))) dNil))) (dVar 7)))))))))))))
theorem st_row_by_sizes (a0 a1 : D) : startD N_row_by_sizes [a0, a1] = [some a0, some a1, none, none, none, none, none, none, none, none, none] := rfl
def sp_row_by_sizes (spr : SpD) : SpD := inl false N_row_by_sizes 2 (t_row_by_sizes spr)
theorem len_row_by_sizes (spr : SpD) (ds : List D) (st : Sto) (kk : DK) (h : sp_row_by_sizes spr ds st kk) : ds.length = 2 := h.1
theorem p_row_by_sizes (spr : SpD) : BodyD false N_row_by_sizes (sp_row_by_sizes spr) (t_row_by_sizes spr) := inl_body false _ _ _
def t_row_apart (spr : SpD) : DS :=
    (dSeq (dIfS (dAnd (dTru (dIsi (dVar 0) ["str"])) (dTru (dIsi (dVar 1) ["str"]))) (dRet (dLst (dCons (dC (.int 1)) dNil))) dPass)
    (dSeq (dIfS (dTru (dIsi (dVar 0) ["str"])) (dRet (dCall (sp_row_off 22) (dCons (dVar 1) (dCons (dVar 0) dNil)))) dPass)
    (dSeq (dIfS (dTru (dIsi (dVar 1) ["str"])) (dRet (dCall (sp_row_off 22) (dCons (dVar 0) (dCons (dVar 1) dNil)))) dPass)
    (dSeq (dIfS (dTest (dOp (eqOp true) (dOp ixD (dVar 0) (dC (.int 2))) (dOp ixD (dVar 1) (dC (.int 2))))) (dSeq (dAsg (dCall spr (dCons (dOp ixD (dVar 0) (dC (.int 2))) (dCons (dOp ixD (dVar 1) (dC (.int 2))) dNil))) (dgName 2))
    (dRet (dOp addD (dLst (dCons (dOp addD (dOp addD (dOp divD (dB bMax2 (dCons (dOp ixD (dVar 0) (dC (.int 0))) (dCons (dOp ixD (dVar 1) (dC (.int 0))) dNil))) (dC (.int 2))) (dC (.int 1))) (dB bSum1 (dCons (dVar 2) dNil))) dNil)) (dVar 2)))) dPass)
    (dSeq (dAsg (dOp addD (dB bMax2 (dCons (dCall (sp_greatest 22) (dCons (dVar 0) dNil)) (dCons (dCall (sp_greatest 22) (dCons (dVar 1) dNil)) dNil))) (dC (.int 1))) (dgName 3))
    (dSeq (dIfS (dTest (dOp (eqOp true) (dOp ixD (dVar 0) (dC (.int 1))) (dOp ixD (dVar 1) (dC (.int 1))))) (dSeq (dAsg (dCall spr (dCons (dCall (sp_grown 22) (dCons (dOp ixD (dVar 0) (dC (.int 1))) (dCons (dVar 3) dNil))) (dCons (dCall (sp_grown 22) (dCons (dOp ixD (dVar 1) (dC (.int 1))) (dCons (dVar 3) dNil))) dNil))) (dgName 2))
    (dRet (dOp addD (dLst (dCons (dVar 3) (dCons (dOp addD (dVar 3) (dB bSum1 (dCons (dVar 2) dNil))) dNil))) (dVar 2)))) dPass)
    (dRet (dIf (dTest (dOp (cmpI fun i j => decide (i < j)) (dOp ixD (dVar 0) (dC (.int 0))) (dOp ixD (dVar 1) (dC (.int 0))))) (dCall (sp_row_by_sizes spr) (dCons (dVar 0) (dCons (dVar 1) dNil))) (dCall (sp_row_by_sizes spr) (dCons (dVar 1) (dCons (dVar 0) dNil)))))))))))
theorem st_row_apart (a0 a1 : D) : startD N_row_apart [a0, a1] = [some a0, some a1, none, none] := rfl
def sp_row_apart : Nat → SpD := fun n ds st kk => ∃ (P Q : Prt), ds = [prtD P, prtD Q] ∧ NmP2 P ∧ NmP2 Q ∧ Nrm P ∧ Nrm Q ∧ htP P < n ∧ htP P < 20 ∧ htP Q < 20 ∧ szP P ≤ 1000 ∧ szP Q ≤ 1000 ∧ kk (.lst ((rowApart P Q).map fun k : Nat => .int (k : Nat))) st
theorem len_row_apart (n : Nat) (ds : List D) (st : Sto) (kk : DK) (h : sp_row_apart n ds st kk) : ds.length = 2 := by
  obtain ⟨_, _, rfl, _⟩ := h
  rfl
theorem no_row_apart (ds : List D) (st : Sto) (kk : DK) (h : sp_row_apart 0 ds st kk) : False := by
  obtain ⟨_, _, _, _, _, _, _, h, _⟩ := h
  omega
theorem sz_all : ∀ (gs : List Nat) (P : Prt), szP (grAll P gs) ≤ szP P
  | [], _ => Nat.le_refl _
  | g :: gs, P => Nat.le_trans (sz_all gs (grP P g)) (sz_gr P g)
theorem all_ok : ∀ (gs : List Nat) (P : Prt), NmP2 P → Nrm P → NmP2 (grAll P gs) ∧ Nrm (grAll P gs)
  | [], _, h1, h2 => ⟨h1, h2⟩
  | g :: gs, P, h1, h2 => all_ok gs (grP P g) (nm_gr h1) (gr_nrm h2)
theorem far_loop (n : Nat) (nx : DL.Env → Sto → Prop) (rt : DK) (a0 a1 a2 a3 a5 a6 a7 a8 a9 : Option D) (st : Sto) : ∀ (gs : List Nat) (F : Prt) (v10 : Option D), NmP2 F → Nrm F → htP F < 20 → (∀ v10, nx [a0, a1, a2, a3, some (prtD (grAll F gs)), a5, a6, a7, a8, a9, v10] st) →
    goFor [] (dgName 10) (b1_row_by_sizes (sp_row_apart n)) ⟨nx, rt⟩ (gs.map fun k : Nat => .int (k : Nat)) [a0, a1, a2, a3, some (prtD F), a5, a6, a7, a8, a9, v10] st
  | [], F, v10, _, _, _, h => ⟨trivial, h _⟩
  | g :: gs, F, v10, h1, h2, h3, h => by
    refine ⟨trivial, ?_⟩
    (walk_at "lw_dd0")
    simp only [b1_row_by_sizes]
    (walk_at "lw_dd0")
    refine ⟨F, g, rfl, h1, h2, by omega, by omega, ?_⟩
    have := htP_gr F g
    exact far_loop n nx rt a0 a1 a2 a3 a5 a6 a7 a8 a9 st gs (grP F g) _ (nm_gr h1) (gr_nrm h2) (by omega) h
theorem sizes_walk (n s t : Nat) (a b : Prt) (nm : NmP2 a ∧ NmP2 b) (nP : Nrm (.nd s a b)) (nQ : Nrm (.nd t a b)) (bP : htP b < n ∧ htP a < n ∧ htP b < 19 ∧ htP a < 19) (cP : szP a ≤ 1000 ∧ szP b ≤ 1000) (zP : szP (.nd s a b) ≤ 1000) (zQ : szP (.nd t a b) ≤ 1000) (w : Nat) (hw : max (greatP (.nd s a b)) (greatP (.nd t a b)) + 1 = w) {st : Sto} {kk : DK}
    (h : kk (.lst ((if isEx a = true ∧ isEx b = true then [s / 2 + 1, 1]
    else if isEx a = true ∨ isEx b = true then (s / 2 + 1) :: ((rowApart (grP a (s / 2 + 1)) b).sum + t + 1) :: rowApart (grP a (s / 2 + 1)) b
    else w :: (restS a b w (w - t / 2) ++ ((rowApart (grP a w) (grAll b (restS a b w (w - t / 2)))).sum + t + 1) :: rowApart (grP a w) (grAll b (restS a b w (w - t / 2))))).map fun k : Nat => .int (k : Nat))) st) :
    sp_row_by_sizes (sp_row_apart n) [prtD (.nd s a b), prtD (.nd t a b)] st kk := by
  refine ⟨rfl, ?_⟩
  have al := apart_len off_len
  rw [st_row_by_sizes]
  simp only [t_row_by_sizes]
  have half : ∀ (g : Nat), g = s / 2 + 1 → htP (grP a g) < n ∧ htP (grP a g) < 19 ∧ szP (grP a g) ≤ 1000 := fun g _ => by
    have := htP_gr a g
    have := sz_gr a g
    omega
  have one : (isEx a = true ∨ isEx b = true) → ¬ (isEx a = true ∧ isEx b = true) → sp_grown 22 [prtD a, .int ((s / 2 + 1 : Nat) : Int)] st fun d s1 => sp_row_apart n [d, prtD b] s1 fun d s1 => bSum1 [d] s1 fun x s1 => addD x (.int (t : Nat)) s1 fun x s1 => addD x (.int 1) s1 fun d_1 s1 => addD (.lst [.int ((s / 2 + 1 : Nat) : Int), d_1]) d s1 fun d st' => kk d st' := fun ho hn => by
    rw [if_neg hn, if_pos ho] at h
    obtain ⟨h1, h2, h3⟩ := half _ rfl
    refine ⟨a, _, rfl, nm.1, nP.2.2.1, by omega, by omega, ?_⟩
    refine ⟨_, _, rfl, nm_gr nm.1, nm.2, gr_nrm nP.2.2.1, nP.2.2.2, by omega, by omega, by omega, by omega, by omega, ?_⟩
    have := al 20 (grP a (s / 2 + 1)) b (by omega) (by omega)
    dsimp only
    rw [e_sumN]
    (walk_at "lw_dd0")
    refine ⟨by omega, ?_⟩
    exact h
  cases a with
  | ex c =>
    cases b with
    | ex d =>
      simp only [prtD]
      (try simp only [BEq.rfl, ↓e_v0, ↓e_vs, ↓e_c, ↓e_op, ↓e_un, ↓e_test, ↓e_testK, ↓e_tru, ↓e_truL, ↓e_truT, ↓e_truB, ↓e_truI, ↓e_truN, ↓e_truS, ↓e_not, ↓e_and, ↓e_or, ↓e_andv, ↓e_notv, ↓e_andK, ↓e_notK, ↓e_if, ↓e_nil, ↓e_cons, ↓e_tup, ↓e_lst, ↓e_new, ↓e_call, ↓e_drop, ↓e_ret, ↓e_pass, ↓e_ifS, ↓e_g0, ↓e_gs, ↓e_gnil, ↓e_gcons, ↓e_gtup, ↓e_asg, ↓e_par, ↓e_parK, ↓e_par3, ↓e_par3K, ↓e_no, ↓e_some, ↓e_someK, ↓e_cut, ↓e_b, ↓e_iter, ↓e_iterL, ↓e_iterT, ↓e_iterS, ↓e_rng1, ↓e_rng1K, ↓e_rng2, ↓e_rng2K, ↓e_rng3, ↓e_rng3K, ↓e_enum, ↓e_enumL, ↓e_enumT, ↓e_for, ↓e_lc, ↓e_lcNew, ↓e_meth, ↓e_isL, ↓e_sub, ↓e_isi, ↓e_yes, ↓e_addI, ↓e_addB, ↓e_addS, ↓e_addT, ↓e_addL, ↓e_subI, ↓e_mulI, ↓e_mulT, ↓e_mulL, ↓e_divI, ↓e_modI, ↓e_powI, ↓e_negI, ↓e_cmpI, ↓e_eq, ↓e_ne, ↓e_isn, ↓e_isnn, ↓e_isb, ↓e_ixL, ↓e_ixKL, ↓e_ixT, ↓e_cutL, ↓e_cutKL, ↓e_cutT, ↓e_lenL, ↓e_lenKL, ↓e_lenT, ↓e_abs, ↓e_intI, ↓e_intB, ↓e_max2, ↓e_listNL, ↓e_listNT, ↓e_tupL, ↓e_tupT, ↓e_sum1T, ↓e_sum1L, ↓e_max1T, ↓e_max1L, ↓e_drI, ↓e_drB, ↓e_drS, ↓e_drN, ↓e_drL, ↓e_drT, ↓e_seq, ↓e_back, ↓e_backL, ↓e_backT, ↓e_unlL, ↓e_inFlat, ↓e_drK, ↓e_addBI, ↓e_subBI, ↓e_subIB, ↓e_drG, ↓e_dnew, ↓e_dgetF, ↓e_dget2, ↓e_dgPut, ↓e_join, ↓e_joinL, ↓e_cutS, ↓e_mulS, ↓e_sortV, ↓e_tidx, ↓e_mulNewL, ↓e_sortedPL, ↓e_indexL, ↓e_max3, e_kyI, e_kyS, Nat.reduceAdd, Nat.zero_add, List.length_cons, List.length_nil, List.length_map, Nat.reduceLeDiff, and_true, true_and, if_true, ite_true, decide_eq_true_eq, Bool.not_eq_true, Bool.false_eq_true, if_false, ite_false, ↓reduceIte, Int.reduceToNat, Int.reducePow, ne_eq, q_okI, q_okB, q_okN, q_okS, q_okL, q_okT, q_oks0, q_oks1, q_eqII, q_eqBB, q_eqSS, q_eqLL, q_eqTT, q_eqNN, q_eqNI, q_eqIN, q_eqs0, q_eqs1, Bool.true_and, Bool.and_true, beq_iff_eq, reduceCtorEq, wipeE, List.set_cons_zero, List.set_cons_succ, List.set_nil, Bool.not_true, Bool.not_false, List.getElem?_cons_zero, List.getElem?_cons_succ, tyD, subTy])
      refine ⟨_, rfl, ?_⟩
      (walk_at "lw_dd0")
      refine ⟨by (first | exact mulc _ _ (by decide) (by decide) | exact mulr _ _ (by decide) (by decide) | exact ⟨by decide, by decide, by decide⟩ | exact ⟨by decide, by decide⟩ | exact mulb _ _ | exact ⟨by omega, by omega⟩ | exact mulc _ _ (by omega) (by omega) | exact mulr _ _ (by omega) (by omega) | exact div_small (by omega) (by omega) | exact ⟨by omega, by omega, by omega⟩ | omega | decide), ?_⟩
      refine ite_yes (by decide) (ite_yes (by decide) ?_)
      exact h
    | nd x2 y2 z2 =>
      have one := one (Or.inl rfl) (fun q => by cases q.2)
      simp only [prtD] at one ⊢
      (try simp only [BEq.rfl, ↓e_v0, ↓e_vs, ↓e_c, ↓e_op, ↓e_un, ↓e_test, ↓e_testK, ↓e_tru, ↓e_truL, ↓e_truT, ↓e_truB, ↓e_truI, ↓e_truN, ↓e_truS, ↓e_not, ↓e_and, ↓e_or, ↓e_andv, ↓e_notv, ↓e_andK, ↓e_notK, ↓e_if, ↓e_nil, ↓e_cons, ↓e_tup, ↓e_lst, ↓e_new, ↓e_call, ↓e_drop, ↓e_ret, ↓e_pass, ↓e_ifS, ↓e_g0, ↓e_gs, ↓e_gnil, ↓e_gcons, ↓e_gtup, ↓e_asg, ↓e_par, ↓e_parK, ↓e_par3, ↓e_par3K, ↓e_no, ↓e_some, ↓e_someK, ↓e_cut, ↓e_b, ↓e_iter, ↓e_iterL, ↓e_iterT, ↓e_iterS, ↓e_rng1, ↓e_rng1K, ↓e_rng2, ↓e_rng2K, ↓e_rng3, ↓e_rng3K, ↓e_enum, ↓e_enumL, ↓e_enumT, ↓e_for, ↓e_lc, ↓e_lcNew, ↓e_meth, ↓e_isL, ↓e_sub, ↓e_isi, ↓e_yes, ↓e_addI, ↓e_addB, ↓e_addS, ↓e_addT, ↓e_addL, ↓e_subI, ↓e_mulI, ↓e_mulT, ↓e_mulL, ↓e_divI, ↓e_modI, ↓e_powI, ↓e_negI, ↓e_cmpI, ↓e_eq, ↓e_ne, ↓e_isn, ↓e_isnn, ↓e_isb, ↓e_ixL, ↓e_ixKL, ↓e_ixT, ↓e_cutL, ↓e_cutKL, ↓e_cutT, ↓e_lenL, ↓e_lenKL, ↓e_lenT, ↓e_abs, ↓e_intI, ↓e_intB, ↓e_max2, ↓e_listNL, ↓e_listNT, ↓e_tupL, ↓e_tupT, ↓e_sum1T, ↓e_sum1L, ↓e_max1T, ↓e_max1L, ↓e_drI, ↓e_drB, ↓e_drS, ↓e_drN, ↓e_drL, ↓e_drT, ↓e_seq, ↓e_back, ↓e_backL, ↓e_backT, ↓e_unlL, ↓e_inFlat, ↓e_drK, ↓e_addBI, ↓e_subBI, ↓e_subIB, ↓e_drG, ↓e_dnew, ↓e_dgetF, ↓e_dget2, ↓e_dgPut, ↓e_join, ↓e_joinL, ↓e_cutS, ↓e_mulS, ↓e_sortV, ↓e_tidx, ↓e_mulNewL, ↓e_sortedPL, ↓e_indexL, ↓e_max3, e_kyI, e_kyS, Nat.reduceAdd, Nat.zero_add, List.length_cons, List.length_nil, List.length_map, Nat.reduceLeDiff, and_true, true_and, if_true, ite_true, decide_eq_true_eq, Bool.not_eq_true, Bool.false_eq_true, if_false, ite_false, ↓reduceIte, Int.reduceToNat, Int.reducePow, ne_eq, q_okI, q_okB, q_okN, q_okS, q_okL, q_okT, q_oks0, q_oks1, q_eqII, q_eqBB, q_eqSS, q_eqLL, q_eqTT, q_eqNN, q_eqNI, q_eqIN, q_eqs0, q_eqs1, Bool.true_and, Bool.and_true, beq_iff_eq, reduceCtorEq, wipeE, List.set_cons_zero, List.set_cons_succ, List.set_nil, Bool.not_true, Bool.not_false, List.getElem?_cons_zero, List.getElem?_cons_succ, tyD, subTy])
      refine ⟨_, rfl, ?_⟩
      (walk_at "lw_dd0")
      refine ⟨by (first | exact mulc _ _ (by decide) (by decide) | exact mulr _ _ (by decide) (by decide) | exact ⟨by decide, by decide, by decide⟩ | exact ⟨by decide, by decide⟩ | exact mulb _ _ | exact ⟨by omega, by omega⟩ | exact mulc _ _ (by omega) (by omega) | exact mulr _ _ (by omega) (by omega) | exact div_small (by omega) (by omega) | exact ⟨by omega, by omega, by omega⟩ | omega | decide), ?_⟩
      refine ite_yes (by decide) (ite_go (by decide) (ite_yes (by decide) ?_))
      exact one
  | nd x1 y1 z1 =>
    cases b with
    | ex d =>
      have one := one (Or.inr rfl) (fun q => by cases q.1)
      simp only [prtD] at one ⊢
      (try simp only [BEq.rfl, ↓e_v0, ↓e_vs, ↓e_c, ↓e_op, ↓e_un, ↓e_test, ↓e_testK, ↓e_tru, ↓e_truL, ↓e_truT, ↓e_truB, ↓e_truI, ↓e_truN, ↓e_truS, ↓e_not, ↓e_and, ↓e_or, ↓e_andv, ↓e_notv, ↓e_andK, ↓e_notK, ↓e_if, ↓e_nil, ↓e_cons, ↓e_tup, ↓e_lst, ↓e_new, ↓e_call, ↓e_drop, ↓e_ret, ↓e_pass, ↓e_ifS, ↓e_g0, ↓e_gs, ↓e_gnil, ↓e_gcons, ↓e_gtup, ↓e_asg, ↓e_par, ↓e_parK, ↓e_par3, ↓e_par3K, ↓e_no, ↓e_some, ↓e_someK, ↓e_cut, ↓e_b, ↓e_iter, ↓e_iterL, ↓e_iterT, ↓e_iterS, ↓e_rng1, ↓e_rng1K, ↓e_rng2, ↓e_rng2K, ↓e_rng3, ↓e_rng3K, ↓e_enum, ↓e_enumL, ↓e_enumT, ↓e_for, ↓e_lc, ↓e_lcNew, ↓e_meth, ↓e_isL, ↓e_sub, ↓e_isi, ↓e_yes, ↓e_addI, ↓e_addB, ↓e_addS, ↓e_addT, ↓e_addL, ↓e_subI, ↓e_mulI, ↓e_mulT, ↓e_mulL, ↓e_divI, ↓e_modI, ↓e_powI, ↓e_negI, ↓e_cmpI, ↓e_eq, ↓e_ne, ↓e_isn, ↓e_isnn, ↓e_isb, ↓e_ixL, ↓e_ixKL, ↓e_ixT, ↓e_cutL, ↓e_cutKL, ↓e_cutT, ↓e_lenL, ↓e_lenKL, ↓e_lenT, ↓e_abs, ↓e_intI, ↓e_intB, ↓e_max2, ↓e_listNL, ↓e_listNT, ↓e_tupL, ↓e_tupT, ↓e_sum1T, ↓e_sum1L, ↓e_max1T, ↓e_max1L, ↓e_drI, ↓e_drB, ↓e_drS, ↓e_drN, ↓e_drL, ↓e_drT, ↓e_seq, ↓e_back, ↓e_backL, ↓e_backT, ↓e_unlL, ↓e_inFlat, ↓e_drK, ↓e_addBI, ↓e_subBI, ↓e_subIB, ↓e_drG, ↓e_dnew, ↓e_dgetF, ↓e_dget2, ↓e_dgPut, ↓e_join, ↓e_joinL, ↓e_cutS, ↓e_mulS, ↓e_sortV, ↓e_tidx, ↓e_mulNewL, ↓e_sortedPL, ↓e_indexL, ↓e_max3, e_kyI, e_kyS, Nat.reduceAdd, Nat.zero_add, List.length_cons, List.length_nil, List.length_map, Nat.reduceLeDiff, and_true, true_and, if_true, ite_true, decide_eq_true_eq, Bool.not_eq_true, Bool.false_eq_true, if_false, ite_false, ↓reduceIte, Int.reduceToNat, Int.reducePow, ne_eq, q_okI, q_okB, q_okN, q_okS, q_okL, q_okT, q_oks0, q_oks1, q_eqII, q_eqBB, q_eqSS, q_eqLL, q_eqTT, q_eqNN, q_eqNI, q_eqIN, q_eqs0, q_eqs1, Bool.true_and, Bool.and_true, beq_iff_eq, reduceCtorEq, wipeE, List.set_cons_zero, List.set_cons_succ, List.set_nil, Bool.not_true, Bool.not_false, List.getElem?_cons_zero, List.getElem?_cons_succ, tyD, subTy])
      refine ⟨_, rfl, ?_⟩
      (walk_at "lw_dd0")
      refine ⟨by (first | exact mulc _ _ (by decide) (by decide) | exact mulr _ _ (by decide) (by decide) | exact ⟨by decide, by decide, by decide⟩ | exact ⟨by decide, by decide⟩ | exact mulb _ _ | exact ⟨by omega, by omega⟩ | exact mulc _ _ (by omega) (by omega) | exact mulr _ _ (by omega) (by omega) | exact div_small (by omega) (by omega) | exact ⟨by omega, by omega, by omega⟩ | omega | decide), ?_⟩
      refine ite_go (by decide) (ite_go (by decide) (ite_yes (by decide) ?_))
      exact one
    | nd x2 y2 z2 =>
      clear one half
      rw [if_neg (fun q => by cases q.1), if_neg (fun q => by rcases q with q | q <;> cases q)] at h
      simp only [prtD]
      (try simp only [BEq.rfl, ↓e_v0, ↓e_vs, ↓e_c, ↓e_op, ↓e_un, ↓e_test, ↓e_testK, ↓e_tru, ↓e_truL, ↓e_truT, ↓e_truB, ↓e_truI, ↓e_truN, ↓e_truS, ↓e_not, ↓e_and, ↓e_or, ↓e_andv, ↓e_notv, ↓e_andK, ↓e_notK, ↓e_if, ↓e_nil, ↓e_cons, ↓e_tup, ↓e_lst, ↓e_new, ↓e_call, ↓e_drop, ↓e_ret, ↓e_pass, ↓e_ifS, ↓e_g0, ↓e_gs, ↓e_gnil, ↓e_gcons, ↓e_gtup, ↓e_asg, ↓e_par, ↓e_parK, ↓e_par3, ↓e_par3K, ↓e_no, ↓e_some, ↓e_someK, ↓e_cut, ↓e_b, ↓e_iter, ↓e_iterL, ↓e_iterT, ↓e_iterS, ↓e_rng1, ↓e_rng1K, ↓e_rng2, ↓e_rng2K, ↓e_rng3, ↓e_rng3K, ↓e_enum, ↓e_enumL, ↓e_enumT, ↓e_for, ↓e_lc, ↓e_lcNew, ↓e_meth, ↓e_isL, ↓e_sub, ↓e_isi, ↓e_yes, ↓e_addI, ↓e_addB, ↓e_addS, ↓e_addT, ↓e_addL, ↓e_subI, ↓e_mulI, ↓e_mulT, ↓e_mulL, ↓e_divI, ↓e_modI, ↓e_powI, ↓e_negI, ↓e_cmpI, ↓e_eq, ↓e_ne, ↓e_isn, ↓e_isnn, ↓e_isb, ↓e_ixL, ↓e_ixKL, ↓e_ixT, ↓e_cutL, ↓e_cutKL, ↓e_cutT, ↓e_lenL, ↓e_lenKL, ↓e_lenT, ↓e_abs, ↓e_intI, ↓e_intB, ↓e_max2, ↓e_listNL, ↓e_listNT, ↓e_tupL, ↓e_tupT, ↓e_sum1T, ↓e_sum1L, ↓e_max1T, ↓e_max1L, ↓e_drI, ↓e_drB, ↓e_drS, ↓e_drN, ↓e_drL, ↓e_drT, ↓e_seq, ↓e_back, ↓e_backL, ↓e_backT, ↓e_unlL, ↓e_inFlat, ↓e_drK, ↓e_addBI, ↓e_subBI, ↓e_subIB, ↓e_drG, ↓e_dnew, ↓e_dgetF, ↓e_dget2, ↓e_dgPut, ↓e_join, ↓e_joinL, ↓e_cutS, ↓e_mulS, ↓e_sortV, ↓e_tidx, ↓e_mulNewL, ↓e_sortedPL, ↓e_indexL, ↓e_max3, e_kyI, e_kyS, Nat.reduceAdd, Nat.zero_add, List.length_cons, List.length_nil, List.length_map, Nat.reduceLeDiff, and_true, true_and, if_true, ite_true, decide_eq_true_eq, Bool.not_eq_true, Bool.false_eq_true, if_false, ite_false, ↓reduceIte, Int.reduceToNat, Int.reducePow, ne_eq, q_okI, q_okB, q_okN, q_okS, q_okL, q_okT, q_oks0, q_oks1, q_eqII, q_eqBB, q_eqSS, q_eqLL, q_eqTT, q_eqNN, q_eqNI, q_eqIN, q_eqs0, q_eqs1, Bool.true_and, Bool.and_true, beq_iff_eq, reduceCtorEq, wipeE, List.set_cons_zero, List.set_cons_succ, List.set_nil, Bool.not_true, Bool.not_false, List.getElem?_cons_zero, List.getElem?_cons_succ, tyD, subTy])
      refine ⟨_, rfl, ?_⟩
      (walk_at "lw_dd0")
      refine ⟨by (first | exact mulc _ _ (by decide) (by decide) | exact mulr _ _ (by decide) (by decide) | exact ⟨by decide, by decide, by decide⟩ | exact ⟨by decide, by decide⟩ | exact mulb _ _ | exact ⟨by omega, by omega⟩ | exact mulc _ _ (by omega) (by omega) | exact mulr _ _ (by omega) (by omega) | exact div_small (by omega) (by omega) | exact ⟨by omega, by omega, by omega⟩ | omega | decide), ?_⟩
      refine ite_go (by decide) (ite_go (by decide) (ite_go (by decide) ?_))
      have hA := htP_gr (.nd x1 y1 z1) w
      have zA := sz_gr (.nd x1 y1 z1) w
      have tg : t < w := by
        have : greatP (.nd t (.nd x1 y1 z1) (.nd x2 y2 z2)) = max t (max (greatP (.nd x1 y1 z1)) (greatP (.nd x2 y2 z2))) := rfl
        omega
      have h40 : htP (.nd s (.nd x1 y1 z1) (.nd x2 y2 z2)) < 22 ∧ htP (.nd t (.nd x1 y1 z1) (.nd x2 y2 z2)) < 22 := by
        have : ∀ k, htP (.nd k (.nd x1 y1 z1) (.nd x2 y2 z2)) = 1 + max (htP (.nd x1 y1 z1)) (htP (.nd x2 y2 z2)) := fun _ => rfl
        rw [this, this]
        omega
      refine ⟨.nd s (.nd x1 y1 z1) (.nd x2 y2 z2), rfl, h40.1, .nd t (.nd x1 y1 z1) (.nd x2 y2 z2), rfl, h40.2, ?_⟩
      (walk_at "lw_dd0")
      have ew2 : (if ((greatP (.nd t (.nd x1 y1 z1) (.nd x2 y2 z2)) : Nat) : Int) > ((greatP (.nd s (.nd x1 y1 z1) (.nd x2 y2 z2)) : Nat) : Int) then ((greatP (.nd t (.nd x1 y1 z1) (.nd x2 y2 z2)) : Nat) : Int) else ((greatP (.nd s (.nd x1 y1 z1) (.nd x2 y2 z2)) : Nat) : Int)) + 1 = ((w : Nat) : Int) := by split <;> omega
      rw [ew2]
      have er : ((w : Nat) : Int) - (t : Int) / 2 = ((w - t / 2 : Nat) : Int) := by omega
      rw [er]
      refine ⟨by (first | exact mulc _ _ (by decide) (by decide) | exact mulr _ _ (by decide) (by decide) | exact ⟨by decide, by decide, by decide⟩ | exact ⟨by decide, by decide⟩ | exact mulb _ _ | exact ⟨by omega, by omega⟩ | exact mulc _ _ (by omega) (by omega) | exact mulr _ _ (by omega) (by omega) | exact div_small (by omega) (by omega) | exact ⟨by omega, by omega, by omega⟩ | omega | decide), ?_⟩
      have hB := htP_gr (.nd x2 y2 z2) (w - t / 2)
      refine ⟨.nd x1 y1 z1, w, rfl, nm.1, nP.2.2.1, by omega, by omega, ?_⟩
      refine ⟨.nd x2 y2 z2, w - t / 2, rfl, nm.2, nP.2.2.2, by omega, by omega, ?_⟩
      dsimp only
      rw [deref_prt, deref_prt]
      refine ⟨prt_ok _ _ (nm_gr nm.1) (by omega), prt_ok _ _ (nm_gr nm.2) (by omega), ?_⟩
      rw [prt_eqD]
      have rl := rest_len (.nd x1 y1 z1) (.nd x2 y2 z2) w (w - t / 2)
      have fin : ∀ G : List Nat, G.length ≤ 2 → kk (.lst ((w :: (G ++ ((rowApart (grP (.nd x1 y1 z1) w) (grAll (.nd x2 y2 z2) G)).sum + t + 1) :: rowApart (grP (.nd x1 y1 z1) w) (grAll (.nd x2 y2 z2) G))).map fun k : Nat => .int (k : Nat))) st →
          ∀ (u0 u1 u2 u7 u8 u10 : Option D), goFor [] (dgName 10) (b1_row_by_sizes (sp_row_apart n)) ⟨dSeq (dAsg (dCall (sp_row_apart n) (dCons (dCall (sp_grown 22) (dCons (dVar 3) (dCons (dVar 6) dNil))) (dCons (dVar 4) dNil))) (dgName 7)) (dRet (dOp addD (dOp addD (dOp addD (dLst (dCons (dVar 6) dNil)) (dVar 9)) (dLst (dCons (dOp addD (dOp addD (dB bSum1 (dCons (dVar 7) dNil)) (dVar 5)) (dC (.int 1))) dNil))) (dVar 7))) ⟨fun x st' => kk .non st', fun d st' => kk d st'⟩, fun d st' => kk d st'⟩
            (G.map fun k : Nat => .int (k : Nat)) [u0, u1, u2, some (prtD (.nd x1 y1 z1)), some (prtD (.nd x2 y2 z2)), some (.int (t : Nat)), some (.int (w : Nat)), u7, u8, some (.lst (G.map fun k : Nat => .int (k : Nat))), u10] st := fun G gl hk u0 u1 u2 u7 u8 u10 => by
        refine far_loop n _ _ u0 u1 u2 _ _ _ u7 u8 _ st G (.nd x2 y2 z2) u10 nm.2 nP.2.2.2 (by omega) fun v10 => ?_
        (walk_at "lw_dd0")
        refine ⟨.nd x1 y1 z1, w, rfl, nm.1, nP.2.2.1, by omega, by omega, ?_⟩
        have ha := htP_all G (.nd x2 y2 z2)
        have hz := sz_all G (.nd x2 y2 z2)
        obtain ⟨n1, n2⟩ := all_ok G (.nd x2 y2 z2) nm.2 nP.2.2.2
        refine ⟨_, _, rfl, nm_gr nm.1, n1, gr_nrm nP.2.2.1, n2, by omega, by omega, by omega, by omega, by omega, ?_⟩
        have := al 20 (grP (.nd x1 y1 z1) w) (grAll (.nd x2 y2 z2) G) (by omega) (by omega)
        (walk_at "lw_dd0")
        rw [e_sumN]
        (walk_at "lw_dd0")
        have e1 : ((((rowApart (grP (.nd x1 y1 z1) w) (grAll (.nd x2 y2 z2) G)).sum + t + 1 : Nat)) : Int) = (((rowApart (grP (.nd x1 y1 z1) w) (grAll (.nd x2 y2 z2) G)).sum : Nat) : Int) + (t : Int) + 1 := by omega
        simp only [List.map_cons, List.map_append, e1] at hk
        refine ⟨by omega, by simp only [List.length_append, List.length_cons, List.length_nil, List.length_map]; omega, by simp only [List.length_append, List.length_cons, List.length_nil, List.length_map]; omega, ?_⟩
        simp only [List.append_assoc, List.cons_append, List.nil_append]
        exact hk
      by_cases z : grP (.nd x1 y1 z1) w = grP (.nd x2 y2 z2) (w - t / 2)
      · have eR : restS (.nd x1 y1 z1) (.nd x2 y2 z2) w (w - t / 2) = [w - t / 2 - 1, 1] := by unfold restS; rw [if_pos z]
        rw [eR] at h
        refine ite_go (by rw [decide_eq_true z]; decide) ?_
        have e2 : (((w - t / 2 : Nat) : Int)) - 1 = ((w - t / 2 - 1 : Nat) : Int) := by omega
        (walk_at "lw_dd0")
        rw [e2]
        exact fun _ => fin [w - t / 2 - 1, 1] (by simp) h _ _ _ _ _ _
      · have eR : restS (.nd x1 y1 z1) (.nd x2 y2 z2) w (w - t / 2) = [w - t / 2] := by unfold restS; rw [if_neg z]
        rw [eR] at h
        refine ite_yes (by rw [decide_eq_false z]; decide) ?_
        exact fun _ => fin [w - t / 2] (by simp) h _ _ _ _ _ _
theorem p_row_apart (n : Nat) : BodyD false N_row_apart (sp_row_apart (n + 1)) (t_row_apart (sp_row_apart n)) := by
  rintro ds st kk ⟨P, Q, rfl, nmP, nmQ, nP, nQ, hh, h4, h5, zP, zQ, h⟩
  rw [st_row_apart]
  simp only [t_row_apart]
  cases P with
  | ex c =>
    cases Q with
    | ex e =>
      rw [apart_ee] at h
      simp only [prtD]
      (try simp only [BEq.rfl, ↓e_v0, ↓e_vs, ↓e_c, ↓e_op, ↓e_un, ↓e_test, ↓e_testK, ↓e_tru, ↓e_truL, ↓e_truT, ↓e_truB, ↓e_truI, ↓e_truN, ↓e_truS, ↓e_not, ↓e_and, ↓e_or, ↓e_andv, ↓e_notv, ↓e_andK, ↓e_notK, ↓e_if, ↓e_nil, ↓e_cons, ↓e_tup, ↓e_lst, ↓e_new, ↓e_call, ↓e_drop, ↓e_ret, ↓e_pass, ↓e_ifS, ↓e_g0, ↓e_gs, ↓e_gnil, ↓e_gcons, ↓e_gtup, ↓e_asg, ↓e_par, ↓e_parK, ↓e_par3, ↓e_par3K, ↓e_no, ↓e_some, ↓e_someK, ↓e_cut, ↓e_b, ↓e_iter, ↓e_iterL, ↓e_iterT, ↓e_iterS, ↓e_rng1, ↓e_rng1K, ↓e_rng2, ↓e_rng2K, ↓e_rng3, ↓e_rng3K, ↓e_enum, ↓e_enumL, ↓e_enumT, ↓e_for, ↓e_lc, ↓e_lcNew, ↓e_meth, ↓e_isL, ↓e_sub, ↓e_isi, ↓e_yes, ↓e_addI, ↓e_addB, ↓e_addS, ↓e_addT, ↓e_addL, ↓e_subI, ↓e_mulI, ↓e_mulT, ↓e_mulL, ↓e_divI, ↓e_modI, ↓e_powI, ↓e_negI, ↓e_cmpI, ↓e_eq, ↓e_ne, ↓e_isn, ↓e_isnn, ↓e_isb, ↓e_ixL, ↓e_ixKL, ↓e_ixT, ↓e_cutL, ↓e_cutKL, ↓e_cutT, ↓e_lenL, ↓e_lenKL, ↓e_lenT, ↓e_abs, ↓e_intI, ↓e_intB, ↓e_max2, ↓e_listNL, ↓e_listNT, ↓e_tupL, ↓e_tupT, ↓e_sum1T, ↓e_sum1L, ↓e_max1T, ↓e_max1L, ↓e_drI, ↓e_drB, ↓e_drS, ↓e_drN, ↓e_drL, ↓e_drT, ↓e_seq, ↓e_back, ↓e_backL, ↓e_backT, ↓e_unlL, ↓e_inFlat, ↓e_drK, ↓e_addBI, ↓e_subBI, ↓e_subIB, ↓e_drG, ↓e_dnew, ↓e_dgetF, ↓e_dget2, ↓e_dgPut, ↓e_join, ↓e_joinL, ↓e_cutS, ↓e_mulS, ↓e_sortV, ↓e_tidx, ↓e_mulNewL, ↓e_sortedPL, ↓e_indexL, ↓e_max3, e_kyI, e_kyS, Nat.reduceAdd, Nat.zero_add, List.length_cons, List.length_nil, List.length_map, Nat.reduceLeDiff, and_true, true_and, if_true, ite_true, decide_eq_true_eq, Bool.not_eq_true, Bool.false_eq_true, if_false, ite_false, ↓reduceIte, Int.reduceToNat, Int.reducePow, ne_eq, q_okI, q_okB, q_okN, q_okS, q_okL, q_okT, q_oks0, q_oks1, q_eqII, q_eqBB, q_eqSS, q_eqLL, q_eqTT, q_eqNN, q_eqNI, q_eqIN, q_eqs0, q_eqs1, Bool.true_and, Bool.and_true, beq_iff_eq, reduceCtorEq, wipeE, List.set_cons_zero, List.set_cons_succ, List.set_nil, Bool.not_true, Bool.not_false, List.getElem?_cons_zero, List.getElem?_cons_succ, tyD, subTy])
      exact ite_yes (by decide) (ite_yes (by decide) h)
    | nd t x y =>
      rw [apart_en] at h
      simp only [prtD]
      (try simp only [BEq.rfl, ↓e_v0, ↓e_vs, ↓e_c, ↓e_op, ↓e_un, ↓e_test, ↓e_testK, ↓e_tru, ↓e_truL, ↓e_truT, ↓e_truB, ↓e_truI, ↓e_truN, ↓e_truS, ↓e_not, ↓e_and, ↓e_or, ↓e_andv, ↓e_notv, ↓e_andK, ↓e_notK, ↓e_if, ↓e_nil, ↓e_cons, ↓e_tup, ↓e_lst, ↓e_new, ↓e_call, ↓e_drop, ↓e_ret, ↓e_pass, ↓e_ifS, ↓e_g0, ↓e_gs, ↓e_gnil, ↓e_gcons, ↓e_gtup, ↓e_asg, ↓e_par, ↓e_parK, ↓e_par3, ↓e_par3K, ↓e_no, ↓e_some, ↓e_someK, ↓e_cut, ↓e_b, ↓e_iter, ↓e_iterL, ↓e_iterT, ↓e_iterS, ↓e_rng1, ↓e_rng1K, ↓e_rng2, ↓e_rng2K, ↓e_rng3, ↓e_rng3K, ↓e_enum, ↓e_enumL, ↓e_enumT, ↓e_for, ↓e_lc, ↓e_lcNew, ↓e_meth, ↓e_isL, ↓e_sub, ↓e_isi, ↓e_yes, ↓e_addI, ↓e_addB, ↓e_addS, ↓e_addT, ↓e_addL, ↓e_subI, ↓e_mulI, ↓e_mulT, ↓e_mulL, ↓e_divI, ↓e_modI, ↓e_powI, ↓e_negI, ↓e_cmpI, ↓e_eq, ↓e_ne, ↓e_isn, ↓e_isnn, ↓e_isb, ↓e_ixL, ↓e_ixKL, ↓e_ixT, ↓e_cutL, ↓e_cutKL, ↓e_cutT, ↓e_lenL, ↓e_lenKL, ↓e_lenT, ↓e_abs, ↓e_intI, ↓e_intB, ↓e_max2, ↓e_listNL, ↓e_listNT, ↓e_tupL, ↓e_tupT, ↓e_sum1T, ↓e_sum1L, ↓e_max1T, ↓e_max1L, ↓e_drI, ↓e_drB, ↓e_drS, ↓e_drN, ↓e_drL, ↓e_drT, ↓e_seq, ↓e_back, ↓e_backL, ↓e_backT, ↓e_unlL, ↓e_inFlat, ↓e_drK, ↓e_addBI, ↓e_subBI, ↓e_subIB, ↓e_drG, ↓e_dnew, ↓e_dgetF, ↓e_dget2, ↓e_dgPut, ↓e_join, ↓e_joinL, ↓e_cutS, ↓e_mulS, ↓e_sortV, ↓e_tidx, ↓e_mulNewL, ↓e_sortedPL, ↓e_indexL, ↓e_max3, e_kyI, e_kyS, Nat.reduceAdd, Nat.zero_add, List.length_cons, List.length_nil, List.length_map, Nat.reduceLeDiff, and_true, true_and, if_true, ite_true, decide_eq_true_eq, Bool.not_eq_true, Bool.false_eq_true, if_false, ite_false, ↓reduceIte, Int.reduceToNat, Int.reducePow, ne_eq, q_okI, q_okB, q_okN, q_okS, q_okL, q_okT, q_oks0, q_oks1, q_eqII, q_eqBB, q_eqSS, q_eqLL, q_eqTT, q_eqNN, q_eqNI, q_eqIN, q_eqs0, q_eqs1, Bool.true_and, Bool.and_true, beq_iff_eq, reduceCtorEq, wipeE, List.set_cons_zero, List.set_cons_succ, List.set_nil, Bool.not_true, Bool.not_false, List.getElem?_cons_zero, List.getElem?_cons_succ, tyD, subTy])
      refine ite_yes (by decide) (ite_go (by decide) (ite_yes (by decide) ?_))
      exact ⟨_, c, rfl, nmQ, nQ, by omega, h5, zQ, nmP, h⟩
  | nd s a b =>
    cases Q with
    | ex e =>
      rw [apart_ne] at h
      simp only [prtD]
      (try simp only [BEq.rfl, ↓e_v0, ↓e_vs, ↓e_c, ↓e_op, ↓e_un, ↓e_test, ↓e_testK, ↓e_tru, ↓e_truL, ↓e_truT, ↓e_truB, ↓e_truI, ↓e_truN, ↓e_truS, ↓e_not, ↓e_and, ↓e_or, ↓e_andv, ↓e_notv, ↓e_andK, ↓e_notK, ↓e_if, ↓e_nil, ↓e_cons, ↓e_tup, ↓e_lst, ↓e_new, ↓e_call, ↓e_drop, ↓e_ret, ↓e_pass, ↓e_ifS, ↓e_g0, ↓e_gs, ↓e_gnil, ↓e_gcons, ↓e_gtup, ↓e_asg, ↓e_par, ↓e_parK, ↓e_par3, ↓e_par3K, ↓e_no, ↓e_some, ↓e_someK, ↓e_cut, ↓e_b, ↓e_iter, ↓e_iterL, ↓e_iterT, ↓e_iterS, ↓e_rng1, ↓e_rng1K, ↓e_rng2, ↓e_rng2K, ↓e_rng3, ↓e_rng3K, ↓e_enum, ↓e_enumL, ↓e_enumT, ↓e_for, ↓e_lc, ↓e_lcNew, ↓e_meth, ↓e_isL, ↓e_sub, ↓e_isi, ↓e_yes, ↓e_addI, ↓e_addB, ↓e_addS, ↓e_addT, ↓e_addL, ↓e_subI, ↓e_mulI, ↓e_mulT, ↓e_mulL, ↓e_divI, ↓e_modI, ↓e_powI, ↓e_negI, ↓e_cmpI, ↓e_eq, ↓e_ne, ↓e_isn, ↓e_isnn, ↓e_isb, ↓e_ixL, ↓e_ixKL, ↓e_ixT, ↓e_cutL, ↓e_cutKL, ↓e_cutT, ↓e_lenL, ↓e_lenKL, ↓e_lenT, ↓e_abs, ↓e_intI, ↓e_intB, ↓e_max2, ↓e_listNL, ↓e_listNT, ↓e_tupL, ↓e_tupT, ↓e_sum1T, ↓e_sum1L, ↓e_max1T, ↓e_max1L, ↓e_drI, ↓e_drB, ↓e_drS, ↓e_drN, ↓e_drL, ↓e_drT, ↓e_seq, ↓e_back, ↓e_backL, ↓e_backT, ↓e_unlL, ↓e_inFlat, ↓e_drK, ↓e_addBI, ↓e_subBI, ↓e_subIB, ↓e_drG, ↓e_dnew, ↓e_dgetF, ↓e_dget2, ↓e_dgPut, ↓e_join, ↓e_joinL, ↓e_cutS, ↓e_mulS, ↓e_sortV, ↓e_tidx, ↓e_mulNewL, ↓e_sortedPL, ↓e_indexL, ↓e_max3, e_kyI, e_kyS, Nat.reduceAdd, Nat.zero_add, List.length_cons, List.length_nil, List.length_map, Nat.reduceLeDiff, and_true, true_and, if_true, ite_true, decide_eq_true_eq, Bool.not_eq_true, Bool.false_eq_true, if_false, ite_false, ↓reduceIte, Int.reduceToNat, Int.reducePow, ne_eq, q_okI, q_okB, q_okN, q_okS, q_okL, q_okT, q_oks0, q_oks1, q_eqII, q_eqBB, q_eqSS, q_eqLL, q_eqTT, q_eqNN, q_eqNI, q_eqIN, q_eqs0, q_eqs1, Bool.true_and, Bool.and_true, beq_iff_eq, reduceCtorEq, wipeE, List.set_cons_zero, List.set_cons_succ, List.set_nil, Bool.not_true, Bool.not_false, List.getElem?_cons_zero, List.getElem?_cons_succ, tyD, subTy])
      refine ite_go (by decide) (ite_go (by decide) (ite_yes (by decide) ?_))
      exact ⟨_, e, rfl, nmP, nP, by omega, h4, zP, nmQ, h⟩
    | nd t x y =>
      rw [apart_nn] at h
      have bP : htP b < n ∧ htP a < n ∧ htP b < 19 ∧ htP a < 19 := by unfold htP at hh h4; omega
      have bQ : htP y < 19 ∧ htP x < 19 := by unfold htP at h5; omega
      have cP : szP a ≤ 1000 ∧ szP b ≤ 1000 := by unfold szP at zP; omega
      have cQ : szP x ≤ 1000 ∧ szP y ≤ 1000 := by unfold szP at zQ; omega
      have al := apart_len off_len
      simp only [prtD]
      (try simp only [BEq.rfl, ↓e_v0, ↓e_vs, ↓e_c, ↓e_op, ↓e_un, ↓e_test, ↓e_testK, ↓e_tru, ↓e_truL, ↓e_truT, ↓e_truB, ↓e_truI, ↓e_truN, ↓e_truS, ↓e_not, ↓e_and, ↓e_or, ↓e_andv, ↓e_notv, ↓e_andK, ↓e_notK, ↓e_if, ↓e_nil, ↓e_cons, ↓e_tup, ↓e_lst, ↓e_new, ↓e_call, ↓e_drop, ↓e_ret, ↓e_pass, ↓e_ifS, ↓e_g0, ↓e_gs, ↓e_gnil, ↓e_gcons, ↓e_gtup, ↓e_asg, ↓e_par, ↓e_parK, ↓e_par3, ↓e_par3K, ↓e_no, ↓e_some, ↓e_someK, ↓e_cut, ↓e_b, ↓e_iter, ↓e_iterL, ↓e_iterT, ↓e_iterS, ↓e_rng1, ↓e_rng1K, ↓e_rng2, ↓e_rng2K, ↓e_rng3, ↓e_rng3K, ↓e_enum, ↓e_enumL, ↓e_enumT, ↓e_for, ↓e_lc, ↓e_lcNew, ↓e_meth, ↓e_isL, ↓e_sub, ↓e_isi, ↓e_yes, ↓e_addI, ↓e_addB, ↓e_addS, ↓e_addT, ↓e_addL, ↓e_subI, ↓e_mulI, ↓e_mulT, ↓e_mulL, ↓e_divI, ↓e_modI, ↓e_powI, ↓e_negI, ↓e_cmpI, ↓e_eq, ↓e_ne, ↓e_isn, ↓e_isnn, ↓e_isb, ↓e_ixL, ↓e_ixKL, ↓e_ixT, ↓e_cutL, ↓e_cutKL, ↓e_cutT, ↓e_lenL, ↓e_lenKL, ↓e_lenT, ↓e_abs, ↓e_intI, ↓e_intB, ↓e_max2, ↓e_listNL, ↓e_listNT, ↓e_tupL, ↓e_tupT, ↓e_sum1T, ↓e_sum1L, ↓e_max1T, ↓e_max1L, ↓e_drI, ↓e_drB, ↓e_drS, ↓e_drN, ↓e_drL, ↓e_drT, ↓e_seq, ↓e_back, ↓e_backL, ↓e_backT, ↓e_unlL, ↓e_inFlat, ↓e_drK, ↓e_addBI, ↓e_subBI, ↓e_subIB, ↓e_drG, ↓e_dnew, ↓e_dgetF, ↓e_dget2, ↓e_dgPut, ↓e_join, ↓e_joinL, ↓e_cutS, ↓e_mulS, ↓e_sortV, ↓e_tidx, ↓e_mulNewL, ↓e_sortedPL, ↓e_indexL, ↓e_max3, e_kyI, e_kyS, Nat.reduceAdd, Nat.zero_add, List.length_cons, List.length_nil, List.length_map, Nat.reduceLeDiff, and_true, true_and, if_true, ite_true, decide_eq_true_eq, Bool.not_eq_true, Bool.false_eq_true, if_false, ite_false, ↓reduceIte, Int.reduceToNat, Int.reducePow, ne_eq, q_okI, q_okB, q_okN, q_okS, q_okL, q_okT, q_oks0, q_oks1, q_eqII, q_eqBB, q_eqSS, q_eqLL, q_eqTT, q_eqNN, q_eqNI, q_eqIN, q_eqs0, q_eqs1, Bool.true_and, Bool.and_true, beq_iff_eq, reduceCtorEq, wipeE, List.set_cons_zero, List.set_cons_succ, List.set_nil, Bool.not_true, Bool.not_false, List.getElem?_cons_zero, List.getElem?_cons_succ, tyD, subTy])
      refine ite_go (by decide) (ite_go (by decide) (ite_go (by decide) ?_))
      refine ⟨_, rfl, _, rfl, ?_⟩
      (walk_at "lw_dd0")
      rw [deref_prt, deref_prt]
      refine ⟨prt_ok b _ nmP.2 (by omega), prt_ok y _ nmQ.2 (by omega), ?_⟩
      rw [prt_eqD]
      by_cases z1 : b = y
      · rw [if_neg (fun q => q z1)] at h
        refine ite_go (by rw [decide_eq_true z1]; decide) ?_
        refine ⟨.nd s a b, rfl, by unfold htP; omega, .nd t x y, rfl, by unfold htP; omega, ?_⟩
        (walk_at "lw_dd0")
        generalize hw : max (greatP (.nd s a b)) (greatP (.nd t x y)) + 1 = w at h
        have ew : max ((greatP (.nd s a b) : Nat) : Int) ((greatP (.nd t x y) : Nat) : Int) + 1 = ((w : Nat) : Int) := by omega
        have ew2 : (if ((greatP (.nd t x y) : Nat) : Int) > ((greatP (.nd s a b) : Nat) : Int) then ((greatP (.nd t x y) : Nat) : Int) else ((greatP (.nd s a b) : Nat) : Int)) + 1 = ((w : Nat) : Int) := by split <;> omega
        rw [ew2]
        refine ⟨_, rfl, _, rfl, ?_⟩
        rw [deref_prt, deref_prt]
        refine ⟨prt_ok a _ nmP.1 (by omega), prt_ok x _ nmQ.1 (by omega), ?_⟩
        rw [prt_eqD]
        by_cases z2 : a = x
        · rw [if_neg (fun q => q z2)] at h
          refine ite_go (by rw [decide_eq_true z2]; decide) ?_
          refine ⟨_, rfl, _, rfl, ?_⟩
          subst z1 z2
          (walk_at "lw_dd0")
          by_cases zs : s < t
          · refine ite_yes (by omega) ?_
            rw [show min s t = s by omega, show max s t = t by omega] at h
            exact sizes_walk n s t a b nmP nP nQ bP cP zP zQ w hw h
          · refine ite_go (by omega) ?_
            rw [show min s t = t by omega, show max s t = s by omega] at h
            exact sizes_walk n t s a b nmP nQ nP bP cP zQ zP w (by rw [← hw, Nat.max_comm]) h
        · rw [if_pos z2] at h
          refine ite_yes (by rw [decide_eq_false z2]; decide) ?_
          have ga := htP_gr a w
          have gx := htP_gr x w
          have ya := sz_gr a w
          have yx := sz_gr x w
          refine ⟨_, rfl, a, w, rfl, nmP.1, nP.2.2.1, by omega, by omega, ?_⟩
          refine ⟨_, rfl, x, w, rfl, nmQ.1, nQ.2.2.1, by omega, by omega, ?_⟩
          refine ⟨_, _, rfl, nm_gr nmP.1, nm_gr nmQ.1, gr_nrm nP.2.2.1, gr_nrm nQ.2.2.1, by omega, by omega, by omega, by omega, by omega, ?_⟩
          have := al 20 (grP a w) (grP x w) (by omega) (by omega)
          dsimp only
          rw [e_sumN]
          (walk_at "lw_dd0")
          refine ⟨by omega, ?_⟩
          exact h
      · rw [if_pos z1] at h
        refine ite_yes (by rw [decide_eq_false z1]; decide) ?_
        refine ⟨_, rfl, _, rfl, ?_⟩
        refine ⟨_, _, rfl, nmP.2, nmQ.2, nP.2.2.2, nQ.2.2.2, by omega, by omega, by omega, by omega, by omega, ?_⟩
        have := al 20 b y (by omega) (by omega)
        refine ⟨_, rfl, _, rfl, ?_⟩
        (walk_at "lw_dd0")
        refine ⟨by (first | exact mulc _ _ (by decide) (by decide) | exact mulr _ _ (by decide) (by decide) | exact ⟨by decide, by decide, by decide⟩ | exact ⟨by decide, by decide⟩ | exact mulb _ _ | exact ⟨by omega, by omega⟩ | exact mulc _ _ (by omega) (by omega) | exact mulr _ _ (by omega) (by omega) | exact div_small (by omega) (by omega) | exact ⟨by omega, by omega, by omega⟩ | omega | decide), ?_⟩
        rw [e_sumN]
        (walk_at "lw_dd0")
        refine ⟨by omega, ?_⟩
        have e1 : ((max s t / 2 + 1 + (rowApart b y).sum : Nat) : Int) = (if (t : Int) > (s : Int) then (t : Int) else (s : Int)) / 2 + 1 + (((rowApart b y).sum : Nat) : Int) := by split <;> omega
        simp only [List.map_cons] at h
        rw [e1] at h
        exact h
def t_parting_word : DS :=
    (dSeq (dPar 4 5 (dCons (dCall sp_part_of (dCons (dVar 0) (dCons (dVar 1) dNil))) (dCons (dCall sp_part_of (dCons (dVar 2) (dCons (dVar 3) dNil))) dNil)))
    (dRet (dIf (dTest (dOp (eqOp false) (dVar 4) (dVar 5))) (dC .non) (dB bTuple (dCons (dCall (sp_row_apart 22) (dCons (dVar 4) (dCons (dVar 5) dNil))) dNil)))))
theorem st_parting_word (a0 a1 a2 a3 : D) : startD N_parting_word [a0, a1, a2, a3] = [some a0, some a1, some a2, some a3, none, none] := rfl
def apartD (P Q : Prt) : D := if P = Q then .non else .tup ((rowApart P Q).map fun k : Nat => .int (k : Nat))
def sp_parting_word : SpD := fun ds st kk => ∃ (w : Web) (row : List Int) (w' : Web) (row' : List Int), ds = [webD w, .tup (row.map D.int), webD w', .tup (row'.map D.int)] ∧ Tw w row ∧ Tw w' row' ∧ w.length ≤ 18 ∧ w'.length ≤ 18 ∧ kk (apartD (part w row 0) (part w' row' 0)) st
theorem len_parting_word (ds : List D) (st : Sto) (kk : DK) (h : sp_parting_word ds st kk) : ds.length = 4 := by
  obtain ⟨_, _, _, _, rfl, _⟩ := h
  rfl
theorem p_parting_word : BodyD false N_parting_word sp_parting_word t_parting_word := by
  rintro ds st kk ⟨w, row, w', row', rfl, T, T', l, l', h⟩
  rw [st_parting_word]
  simp only [t_parting_word]
  (walk_at "lw_dd0")
  refine ⟨w, row, rfl, T, w', row', rfl, T', ?_⟩
  have f := T.ptf
  have f' := T'.ptf
  (walk_at "lw_dd0")
  rw [deref_prt, deref_prt]
  refine ⟨f.ok, f'.ok, ?_⟩
  rw [prt_eqD]
  unfold apartD at h
  by_cases z : part w row 0 = part w' row' 0
  · rw [if_pos z] at h
    exact ite_yes (decide_eq_true z) h
  · rw [if_neg z] at h
    refine ite_go (by rw [decide_eq_false z]; decide) ?_
    have a := f.ht
    have b := f'.ht
    have c := f.sz
    have d := f'.sz
    refine ⟨_, _, rfl, f.nm, f'.nm, f.nr, f'.nr, by omega, by omega, by omega, by omega, by omega, ?_⟩
    (walk_at "lw_dd0")
    exact h
def t_is_number : DS :=
    (dRet (dAndV (dIsi (dVar 0) ["int"]) (dNotV (dIsi (dVar 0) ["bool"]))))
theorem st_is_number (a0 : D) : startD N_is_number [a0] = [some a0] := rfl
def sp_is_number : SpD := fun ds st kk => ∃ d, ds = [d] ∧ kk (.bl (isNumB d)) st
theorem len_is_number (ds : List D) (st : Sto) (kk : DK) (h : sp_is_number ds st kk) : ds.length = 1 := by
  obtain ⟨_, rfl, _⟩ := h
  rfl
theorem p_is_number : BodyD false N_is_number sp_is_number t_is_number := by
  rintro ds st kk ⟨d, rfl, h⟩
  rw [st_is_number]
  simp only [t_is_number]
  cases d <;> ((try simp only [BEq.rfl, ↓e_v0, ↓e_vs, ↓e_c, ↓e_op, ↓e_un, ↓e_test, ↓e_testK, ↓e_tru, ↓e_truL, ↓e_truT, ↓e_truB, ↓e_truI, ↓e_truN, ↓e_truS, ↓e_not, ↓e_and, ↓e_or, ↓e_andv, ↓e_notv, ↓e_andK, ↓e_notK, ↓e_if, ↓e_nil, ↓e_cons, ↓e_tup, ↓e_lst, ↓e_new, ↓e_call, ↓e_drop, ↓e_ret, ↓e_pass, ↓e_ifS, ↓e_g0, ↓e_gs, ↓e_gnil, ↓e_gcons, ↓e_gtup, ↓e_asg, ↓e_par, ↓e_parK, ↓e_par3, ↓e_par3K, ↓e_no, ↓e_some, ↓e_someK, ↓e_cut, ↓e_b, ↓e_iter, ↓e_iterL, ↓e_iterT, ↓e_iterS, ↓e_rng1, ↓e_rng1K, ↓e_rng2, ↓e_rng2K, ↓e_rng3, ↓e_rng3K, ↓e_enum, ↓e_enumL, ↓e_enumT, ↓e_for, ↓e_lc, ↓e_lcNew, ↓e_forN, ↓e_forC, ↓e_lcN, ↓e_lcC, ↓e_srcN, ↓e_srcC, ↓e_meth, ↓e_isL, ↓e_sub, ↓e_isi, ↓e_yes, ↓e_addI, ↓e_addB, ↓e_addS, ↓e_addT, ↓e_addL, ↓e_subI, ↓e_mulI, ↓e_mulT, ↓e_mulL, ↓e_divI, ↓e_modI, ↓e_powI, ↓e_negI, ↓e_cmpI, ↓e_eq, ↓e_ne, ↓e_isn, ↓e_isnn, ↓e_isb, ↓e_ixL, ↓e_ixKL, ↓e_ixT, ↓e_cutL, ↓e_cutKL, ↓e_cutT, ↓e_lenL, ↓e_lenKL, ↓e_lenT, ↓e_abs, ↓e_intI, ↓e_intB, ↓e_max2, ↓e_listNL, ↓e_listNT, ↓e_tupL, ↓e_tupT, ↓e_sum1T, ↓e_sum1L, ↓e_max1T, ↓e_max1L, ↓e_drI, ↓e_drB, ↓e_drS, ↓e_drN, ↓e_drL, ↓e_drT, ↓e_seq, ↓e_back, ↓e_backL, ↓e_backT, ↓e_unlL, ↓e_inFlat, ↓e_drK, ↓e_addBI, ↓e_subBI, ↓e_subIB, ↓e_drG, ↓e_dnew, ↓e_dgetF, ↓e_dget2, ↓e_dgPut, ↓e_join, ↓e_joinL, ↓e_cutS, ↓e_mulS, ↓e_sortV, ↓e_tidx, ↓e_mulNewL, ↓e_sortedPL, ↓e_indexL, ↓e_max3, e_kyI, e_kyS, Nat.reduceAdd, Nat.zero_add, List.length_cons, List.length_nil, List.length_map, Nat.reduceLeDiff, and_true, true_and, if_true, ite_true, decide_eq_true_eq, Bool.not_eq_true, Bool.false_eq_true, if_false, ite_false, ↓reduceIte, Int.reduceToNat, Int.reducePow, ne_eq, q_okI, q_okB, q_okN, q_okS, q_okL, q_okT, q_oks0, q_oks1, q_eqII, q_eqBB, q_eqSS, q_eqLL, q_eqTT, q_eqNN, q_eqNI, q_eqIN, q_eqs0, q_eqs1, Bool.true_and, Bool.and_true, beq_iff_eq, reduceCtorEq, wipeE, List.set_cons_zero, List.set_cons_succ, List.set_nil, Bool.not_true, Bool.not_false, List.getElem?_cons_zero, List.getElem?_cons_succ, tyD, subTy, List.any_cons, List.any_nil]); simp [isNumB] at h ⊢; exact h)
def t_lighter : DS :=
    (dRet (dIf (dTest (dOp (cmpI fun i j => decide (i < j)) (dVar 0) (dC (.int 0)))) (dC (.str "left")) (dC (.str "right"))))
theorem st_lighter (a0 : D) : startD N_lighter [a0] = [some a0] := rfl
def sp_lighter : SpD := fun ds st kk => ∃ s : Int, ds = [.int s] ∧ kk (.str (sd s)) st
theorem len_lighter (ds : List D) (st : Sto) (kk : DK) (h : sp_lighter ds st kk) : ds.length = 1 := by
  obtain ⟨s, rfl, _⟩ := h
  rfl
theorem p_lighter : BodyD false N_lighter sp_lighter t_lighter := by
  rintro ds st kk ⟨s, rfl, h⟩
  rw [st_lighter]
  simp only [t_lighter]
  (walk_at "lw_dd")
  unfold sd at h
  split <;> simp_all
def t_laid_on : DS :=
    (dRet (dIf (dTest (dOp (eqOp false) (dVar 1) (dC (.str "left")))) (dOp addD (dVar 0) (dOp mulD (dC (.int 2)) (dVar 2))) (dOp subD (dVar 0) (dOp mulD (dC (.int 2)) (dVar 2)))))
theorem st_laid_on (a0 a1 a2 : D) : startD N_laid_on [a0, a1, a2] = [some a0, some a1, some a2] := rfl
def sp_laid_on : SpD := fun ds st kk => ∃ (s w : Int) (x : Str), ds = [.int s, .str x, .int w] ∧ (x = "left" ∨ x = "right") ∧ kk (.int (if x = "left" then s + 2 * w else s - 2 * w)) st
theorem len_laid_on (ds : List D) (st : Sto) (kk : DK) (h : sp_laid_on ds st kk) : ds.length = 3 := by
  obtain ⟨s, w, x, rfl, _⟩ := h
  rfl
theorem p_laid_on : BodyD false N_laid_on sp_laid_on t_laid_on := by
  rintro ds st kk ⟨s, w, x, rfl, hx, h⟩
  rw [st_laid_on]
  simp only [t_laid_on]
  (walk_at "lw_dd")
  simp only [okD, ok_side hx, ok_left, eqD, true_and, beq_iff_eq, mul2]
  split at h <;> simp_all
def t_fall : DS :=
    (dSeq (dAsg (dCall sp_lighter (dCons (dVar 0) dNil)) (dgName 2))
    (dRet (dTup (dCons (dVar 2) (dCons (dCall sp_laid_on (dCons (dVar 0) (dCons (dVar 2) (dCons (dVar 1) dNil)))) dNil)))))
theorem st_fall (a0 a1 : D) : startD N_fall [a0, a1] = [some a0, some a1, none] := rfl
def sp_fall : SpD := fun ds st kk => ∃ s w : Int, ds = [.int s, .int w] ∧ kk (.tup [.str (sd s), .int (fallI s w)]) st
theorem len_fall (ds : List D) (st : Sto) (kk : DK) (h : sp_fall ds st kk) : ds.length = 2 := by
  obtain ⟨s, w, rfl, _⟩ := h
  rfl
theorem p_fall : BodyD false N_fall sp_fall t_fall := by
  rintro ds st kk ⟨s, w, rfl, h⟩
  rw [st_fall]
  simp only [t_fall]
  (walk_at "lw_dd")
  refine ⟨s, rfl, s, w, sd s, rfl, sd_lr s, ?_⟩
  rw [sd_fall]
  exact h
def t_lead_of : DS :=
    (dSeq (dAsg (dVar 1) (dgTup 2 (dgCons (dgName 2) (dgCons (dgName 3) dgNil))))
    (dRet (dOp ixD (dOp ixD (dVar 0) (dVar 2)) (dTIdx [.str "left", .str "right"] (dVar 3)))))
theorem st_lead_of (a0 a1 : D) : startD N_lead_of [a0, a1] = [some a0, some a1, none, none] := rfl
def sp_lead_of : SpD := fun ds st kk => ∃ (w : Web) (k : Nat) (s : Bool) (v : Ld), ds = [webD w, panS (k, s)] ∧ leadW w k s = some v ∧ kk v.d st
theorem len_lead_of (ds : List D) (st : Sto) (kk : DK) (h : sp_lead_of ds st kk) : ds.length = 2 := by
  obtain ⟨_, _, _, _, rfl, _⟩ := h
  rfl
theorem p_lead_of : BodyD false N_lead_of sp_lead_of t_lead_of := by
  rintro ds st kk ⟨w, k, s, v, rfl, hl, h⟩
  rw [st_lead_of]
  simp only [t_lead_of, webD, panS]
  (walk_at "lw_dd")
  unfold leadW at hl
  cases hk : w[k]? with
  | none => rw [hk] at hl; cases hl
  | some p =>
    rw [hk] at hl
    refine ⟨_, atI_some hk, ?_⟩
    rw [e_tidxK (ys := ["left", "right"]) rfl]
    have e : Ld.of p s = v := by simpa using hl
    subst e
    cases s with
    | false => exact ⟨0, rfl, fun m hm => by omega, p.1.d, rfl, h⟩
    | true =>
      refine ⟨1, rfl, fun m hm => ?_, p.2.d, rfl, h⟩
      have : m = 0 := by omega
      subst this
      decide +kernel
def b1_way_of : DS :=
    (dSeq (dAsg (dCall sp_fall (dCons (dOp ixD (dVar 5) (dVar 4)) (dCons (dVar 2) dNil))) (dgTup 2 (dgCons (dgName 6) (dgCons (dgSub (dVar 5) (dVar 4)) dgNil))))
    (dSeq (dDrop (dMeth mAppend (dVar 3) (dCons (dTup (dCons (dVar 4) (dCons (dVar 6) dNil))) dNil)))
    (dAsg (dCall sp_lead_of (dCons (dVar 0) (dCons (dOp ixD (dVar 3) (dUn negD (dC (.int 1)))) dNil))) (dgName 4))))
def t_way_of : DS :=
    (dSeq (dPar3 3 4 5 (dCons (dNew dNil) (dCons (dC (.int 0)) (dCons (dB bListNew (dCons (dVar 1) dNil)) dNil))))
    (dSeq (dWhile (dTru (dCall sp_is_number (dCons (dVar 4) dNil))) (b1_way_of))
    (dRet (dTup (dCons (dVar 3) (dCons (dVar 4) (dCons (dB bTuple (dCons (dVar 5) dNil)) dNil)))))))
theorem st_way_of (a0 a1 a2 : D) : startD N_way_of [a0, a1, a2] = [some a0, some a1, some a2, none, none, none, none] := rfl
theorem way_run (w : Web) (g : Int) (row0 : List Int) (nt : Nt w) (hl : Lies w row0) (D0 : DEnds) (st : Sto) (sd0 : D) (hsd : sd0 = .tup (row0.map D.int) ∨ sd0 = .lst (row0.map D.int))
    (h : D0.rt (.tup [.obj st.length, .str (S (way w g 0 row0).2.1), .tup ((way w g 0 row0).2.2.map D.int)]) (st ++ [(way w g 0 row0).1.map panS, (way w g 0 row0).2.2.map D.int])) :
    t_way_of D0 [some (webD w), some sd0, some (.int g), none, none, none, none] st := by
  simp only [t_way_of]
  have hw := nt.fwd
  have h1 := nt.one
  have hn := nt.few
  (walk_at "lw_dd")
  have hst : bListNew [sd0] (st ++ [[]]) = fun k => k (.obj (st.length + 1)) (st ++ [[], row0.map D.int]) := by
    funext k
    rcases hsd with rfl | rfl
    · rw [e_listNT, List.length_append, List.append_assoc]; rfl
    · rw [e_listNL, List.length_append, List.append_assoc]; rfl
  rw [hst]
  refine ⟨fun m env s => ∃ (done : List Pn) (row : List Int) (here : Ld) (v6 : Option D), env = [some (webD w), some sd0, some (.int g), some (.obj st.length), some here.d, some (.obj (st.length + 1)), v6] ∧ s = st ++ [done.map panS, row.map D.int] ∧ done.length + m = w.length ∧ match here with
      | .bal k => k < w.length ∧ w.length - k ≤ m ∧ Lies w row ∧ way w g 0 row0 = (done ++ (way w g k row).1, (way w g k row).2)
      | .out cs => way w g 0 row0 = (done, cs, row), ⟨w.length, [], row0, .bal 0, none, rfl, rfl, by simp, by omega, by omega, hl, by simp⟩, ?_⟩
  rintro m env s ⟨done, row, here, v6, rfl, rfl, hm, hh⟩
  (walk_at "lw_dd")
  cases here with
  | out cs =>
    have hh : way w g 0 row0 = (done, cs, row) := hh
    rw [hh] at h
    refine ⟨_, rfl, ?_⟩
    (walk_at "lw_dd")
    rw [show isNumB (Ld.d (.out cs)) = false from rfl, if_neg Bool.false_ne_true, e_tupO (sa_get rfl)]
    exact h
  | bal k =>
    obtain ⟨hk, hkm, hr, hh⟩ := hh
    refine ⟨_, rfl, ?_⟩
    (walk_at "lw_dd")
    rw [show isNumB (Ld.d (.bal k)) = true from rfl, if_pos rfl]
    simp only [b1_way_of]
    have kr : k < row.length := by rw [hr.len]; exact hk
    have g0 : (st ++ [done.map panS, row.map D.int])[st.length + 1]? = some (row.map D.int) := sa_get rfl
    (walk_at "lw_dd")
    rw [show Ld.d (.bal k) = D.int (k : Nat) from rfl, e_ixO g0]
    refine ⟨_, atI_int kr, ?_⟩
    (walk_at "lw_dd")
    refine ⟨_, _, rfl, ?_⟩
    (try simp only [BEq.rfl, ↓e_v0, ↓e_vs, ↓e_c, ↓e_op, ↓e_un, ↓e_test, ↓e_testK, ↓e_tru, ↓e_truL, ↓e_truT, ↓e_truB, ↓e_truI, ↓e_truN, ↓e_truS, ↓e_not, ↓e_and, ↓e_or, ↓e_andv, ↓e_notv, ↓e_andK, ↓e_notK, ↓e_if, ↓e_nil, ↓e_cons, ↓e_tup, ↓e_lst, ↓e_new, ↓e_call, ↓e_drop, ↓e_ret, ↓e_pass, ↓e_ifS, ↓e_g0, ↓e_gs, ↓e_gnil, ↓e_gcons, ↓e_gtup, ↓e_asg, ↓e_par, ↓e_parK, ↓e_par3, ↓e_par3K, ↓e_no, ↓e_some, ↓e_someK, ↓e_cut, ↓e_b, ↓e_iter, ↓e_iterL, ↓e_iterT, ↓e_iterS, ↓e_rng1, ↓e_rng1K, ↓e_rng2, ↓e_rng2K, ↓e_rng3, ↓e_rng3K, ↓e_enum, ↓e_enumL, ↓e_enumT, ↓e_for, ↓e_lc, ↓e_lcNew, ↓e_forN, ↓e_forC, ↓e_lcN, ↓e_lcC, ↓e_srcN, ↓e_srcC, ↓e_meth, ↓e_isL, ↓e_sub, ↓e_isi, ↓e_yes, ↓e_addI, ↓e_addB, ↓e_addS, ↓e_addT, ↓e_addL, ↓e_subI, ↓e_mulI, ↓e_mulT, ↓e_mulL, ↓e_divI, ↓e_modI, ↓e_powI, ↓e_negI, ↓e_cmpI, ↓e_eq, ↓e_ne, ↓e_isn, ↓e_isnn, ↓e_isb, ↓e_ixL, ↓e_ixKL, ↓e_ixT, ↓e_cutL, ↓e_cutKL, ↓e_cutT, ↓e_lenL, ↓e_lenKL, ↓e_lenT, ↓e_abs, ↓e_intI, ↓e_intB, ↓e_max2, ↓e_listNL, ↓e_listNT, ↓e_tupL, ↓e_tupT, ↓e_sum1T, ↓e_sum1L, ↓e_max1T, ↓e_max1L, ↓e_drI, ↓e_drB, ↓e_drS, ↓e_drN, ↓e_drL, ↓e_drT, ↓e_seq, ↓e_back, ↓e_backL, ↓e_backT, ↓e_unlL, ↓e_inFlat, ↓e_drK, ↓e_addBI, ↓e_subBI, ↓e_subIB, ↓e_drG, ↓e_dnew, ↓e_dgetF, ↓e_dget2, ↓e_dgPut, ↓e_join, ↓e_joinL, ↓e_cutS, ↓e_mulS, ↓e_sortV, ↓e_tidx, ↓e_mulNewL, ↓e_sortedPL, ↓e_indexL, ↓e_max3, e_kyI, e_kyS, Nat.reduceAdd, Nat.zero_add, List.length_cons, List.length_nil, List.length_map, Nat.reduceLeDiff, and_true, true_and, if_true, ite_true, decide_eq_true_eq, Bool.not_eq_true, Bool.false_eq_true, if_false, ite_false, ↓reduceIte, Int.reduceToNat, Int.reducePow, ne_eq, q_okI, q_okB, q_okN, q_okS, q_okL, q_okT, q_oks0, q_oks1, q_eqII, q_eqBB, q_eqSS, q_eqLL, q_eqTT, q_eqNN, q_eqNI, q_eqIN, q_eqs0, q_eqs1, Bool.true_and, Bool.and_true, beq_iff_eq, reduceCtorEq, wipeE, List.set_cons_zero, List.set_cons_succ, List.set_nil, Bool.not_true, Bool.not_false, List.getElem?_cons_zero, List.getElem?_cons_succ, e_sub])
    have sdk : D.str (sd (row.getD k 0)) = .str (sideS (decide (0 < row.getD k 0))) := by rw [sd_side (hr.at hk)]
    rw [e_setO g0]
    refine ⟨k, by rw [List.length_map, ixN_of (by omega) (by omega), Int.toNat_natCast], ?_⟩
    rw [sa_set rfl]
    have g1 : (st ++ [done.map panS, row.map D.int].set 1 ((row.map D.int).set k (.int (fallI (row.getD k 0) g))))[st.length]? = some (done.map panS) := by
      rw [List.getElem?_append_right (Nat.le_refl _), Nat.sub_self]; rfl
    refine ⟨by simp [isLst, deref, g1], ?_⟩
    rw [e_app g1]
    have dl : done.length < 16777216 := by omega
    refine ⟨by rw [List.length_map]; exact dl, ?_⟩
    rw [sdk, show D.tup [D.int (k : Nat), D.str (sideS (decide (0 < row.getD k 0)))] = panS (k, decide (0 < row.getD k 0)) from rfl]
    rw [show (st ++ [done.map panS, row.map D.int].set 1 ((row.map D.int).set k (.int (fallI (row.getD k 0) g)))).set st.length (done.map panS ++ [panS (k, decide (0 < row.getD k 0))]) = st ++ [(done ++ [(k, decide (0 < row.getD k 0))]).map panS, (row.set k (fallI (row.getD k 0) g)).map D.int] by
      rw [List.set_append_right _ _ (Nat.le_refl _), Nat.sub_self, List.map_append, List.map_set]
      rfl]
    have g2 : (st ++ [(done ++ [(k, decide (0 < row.getD k 0))]).map panS, (row.set k (fallI (row.getD k 0) g)).map D.int])[st.length]? = some ((done ++ [(k, decide (0 < row.getD k 0))]).map panS) := by
      rw [List.getElem?_append_right (Nat.le_refl _), Nat.sub_self]; rfl
    rw [e_ixO g2]
    refine ⟨_, by rw [List.map_append]; exact atI_last _ _, ?_⟩
    have e := leadW_some hk (decide (0 < row.getD k 0))
    refine ⟨w, k, _, _, rfl, e, m - 1, by omega, done ++ [(k, decide (0 < row.getD k 0))], row.set k (fallI (row.getD k 0) g), leadN w k (decide (0 < row.getD k 0)), _, rfl, rfl, by rw [List.length_append, List.length_singleton]; omega, ?_⟩
    cases hd : leadN w k (decide (0 < row.getD k 0)) with
    | out cs =>
      rw [hh, way_out hk hd]
    | bal j =>
      rw [hd] at e
      obtain ⟨h3, h4⟩ := hw _ _ _ e
      refine ⟨h4, by omega, hr.fall hk g, ?_⟩
      rw [hh, way_bal hw hk hd, List.append_assoc]
      rfl
def sp_way_of : SpD := fun ds st kk => ∃ (w : Web) (g : Int) (row : List Int), ds = [webD w, .tup (row.map D.int), .int g] ∧ Nt w ∧ Lies w row ∧
  kk (.tup [.lst ((way w g 0 row).1.map panS), .str (S (way w g 0 row).2.1), .tup ((way w g 0 row).2.2.map D.int)]) st
theorem len_way_of (ds : List D) (st : Sto) (kk : DK) (h : sp_way_of ds st kk) : ds.length = 3 := by
  obtain ⟨_, _, _, rfl, _⟩ := h
  rfl
theorem p_way_of : BodyD true N_way_of sp_way_of t_way_of := by
  rintro ds st kk ⟨w, g, row, rfl, hw, hl, h⟩
  rw [st_way_of]
  refine way_run w g row hw hl _ st _ (.inl rfl) ?_
  refine ⟨st, _, rfl, rfl, fun _ _ e => .inl e, safe_closed _ _ ?_, ?_⟩
  · intro c hc
    rcases List.mem_cons.mp hc with z | z
    · rw [z]; exact panS_below 0 _
    · rw [List.mem_singleton.mp z]; exact belows_int 0 _
  · rw [frzs_tup]
    have e : frzs st.length [(way w g 0 row).1.map panS, (way w g 0 row).2.2.map D.int] (.obj st.length) = .lst ((way w g 0 row).1.map panS) := by
      refine frzs_obj _ _ _ _ (fun c hc => ?_) (Nat.le_refl _) (by rw [Nat.sub_self]; rfl)
      rcases List.mem_cons.mp hc with z | z
      · rw [z]; exact panS_below 0 _
      · rw [List.mem_singleton.mp z]; exact belows_int 0 _
    simp only [List.map_cons, List.map_nil, e]
    rw [frzs_closed (by rfl), frzs_closed (by simp only [below]; exact belows_int 0 _)]
    exact h
def b1_falls_of : DS :=
    (dSeq (dAsg (dCall sp_way_of (dCons (dVar 0) (dCons (dVar 1) (dCons (dVar 4) dNil)))) (dgTup 3 (dgCons (dgName 5) (dgCons (dgName 6) (dgCons (dgName 1) dgNil)))))
    (dDrop (dMeth mAppend (dVar 3) (dCons (dVar 6) dNil))))
def t_falls_of : DS :=
    (dSeq (dAsg (dNew dNil) (dgName 3))
    (dSeq (dFor (dIter (dVar 2)) (dgName 4) (b1_falls_of))
    (dRet (dTup (dCons (dVar 3) (dCons (dB bTuple (dCons (dVar 1) dNil)) dNil))))))
theorem st_falls_of (a0 a1 a2 : D) : startD N_falls_of [a0, a1, a2] = [some a0, some a1, some a2, none, none, none, none] := rfl
theorem falls_of_loop (w : Web) (nt : Nt w) (rt : DK) (a2 : D) (st : Sto) (kk : DL.Env → Sto → Prop) : ∀ (gs row : List Int) (dn : List (List Nat)) (v4 v5 v6 : Option D), Lies w row → dn.length + gs.length ≤ 16777216 →
    (∀ u4 u5 u6, kk [some (webD w), some (.tup ((fallsN w gs row).2.map D.int)), some a2, some (.obj st.length), u4, u5, u6] (st ++ [(dn ++ (fallsN w gs row).1).map txD])) →
    goFor [] (dgName 4) b1_falls_of ⟨kk, rt⟩ (gs.map D.int) [some (webD w), some (.tup (row.map D.int)), some a2, some (.obj st.length), v4, v5, v6] (st ++ [dn.map txD])
  | [], row, dn, v4, v5, v6, hl, _, h => by
    refine ⟨trivial, ?_⟩
    have := h v4 v5 v6
    simp only [fallsN, List.append_nil] at this
    exact this
  | g :: gs, row, dn, v4, v5, v6, hl, hn, h => by
    refine ⟨trivial, ?_⟩
    rw [List.length_cons] at hn
    (walk_at "lw_dd0")
    simp only [b1_falls_of]
    (walk_at "lw_dd0")
    refine ⟨w, g, row, rfl, nt, hl, ?_⟩
    (walk_at "lw_dd0")
    refine ⟨e_isO (List.getElem?_concat_length ..), ?_⟩
    rw [e_app (List.getElem?_concat_length ..), set_last]
    refine ⟨by rw [List.length_map]; omega, ?_⟩
    rw [show dn.map txD ++ [D.str (S (way w g 0 row).2.1)] = (dn ++ [(way w g 0 row).2.1]).map txD by rw [List.map_append]; rfl]
    refine falls_of_loop w nt rt a2 st kk gs _ _ _ _ _ (nt.way hl g) (by rw [List.length_append, List.length_singleton]; omega) fun u4 u5 u6 => ?_
    have := h u4 u5 u6
    unfold fallsN at this
    rw [List.append_assoc]
    exact this
theorem falls_of_run (w : Web) (gs row : List Int) (nt : Nt w) (hl : Lies w row) (hg : gs.length ≤ 100000) (D0 : DEnds) (st : Sto)
    (h : D0.rt (.tup [.obj st.length, .tup ((fallsN w gs row).2.map D.int)]) (st ++ [(fallsN w gs row).1.map txD])) :
    t_falls_of D0 [some (webD w), some (.tup (row.map D.int)), some (.tup (gs.map D.int)), none, none, none, none] st := by
  simp only [t_falls_of]
  (walk_at "lw_dd0")
  refine fun _ => ?_
  refine falls_of_loop w nt _ _ st _ gs row [] _ _ _ hl (by simp; omega) fun u4 u5 u6 => ?_
  (walk_at "lw_dd0")
  exact h
def sp_falls_of : SpD := fun ds st kk => ∃ (w : Web) (gs row : List Int), ds = [webD w, .tup (row.map D.int), .tup (gs.map D.int)] ∧ Nt w ∧ Lies w row ∧ gs.length ≤ 100000 ∧
  kk (.tup [.lst ((fallsN w gs row).1.map txD), .tup ((fallsN w gs row).2.map D.int)]) st
theorem len_falls_of (ds : List D) (st : Sto) (kk : DK) (h : sp_falls_of ds st kk) : ds.length = 3 := by
  obtain ⟨_, _, _, rfl, _⟩ := h
  rfl
theorem p_falls_of : BodyD true N_falls_of sp_falls_of t_falls_of := by
  rintro ds st kk ⟨w, gs, row, rfl, nt, hl, hg, h⟩
  rw [st_falls_of]
  refine falls_of_run w gs row nt hl hg _ st ?_
  refine .one (txD_below _ _) ?_
  simp only [sub, subs, if_true]
  rw [subs_below _ (belows_int _ _)]
  exact h
def t__law_tape : DS :=
    (dSeq (dAsg (dIf (dTest (dOp (cmpI fun i j => decide (i < j)) (dVar 1) (dB bLen (dCons (dVar 0) dNil)))) (dOp ixD (dVar 0) (dVar 1)) (dC (.int 0))) (dgName 2))
    (dRet (dNew (dCons (dOp mulD (dB bAbs (dCons (dVar 2) dNil)) (dB bInt (dCons (dOp (cmpI fun i j => decide (j ≤ i)) (dB bAbs (dCons (dVar 2) dNil)) (dOp powD (dC (.int 10)) (dC (.int 18)))) dNil))) (dCons (dOp addD (dOp addD (dOp modD (dVar 2) (dC (.int 2305843009213693951))) (dOp mulD (dC (.int 39373)) (dVar 1))) (dC (.int 17))) (dCons (dC (.int 0)) dNil))))))
theorem st__law_tape (a0 a1 : D) : startD N__law_tape [a0, a1] = [some a0, some a1, none] := rfl
/-- a tape: n draws at most so far -/
def sp__law_tape : SpD := fun ds st kk => ∃ (cs : List Int) (k : Nat), ds = [.lst (cs.map D.int), .int k] ∧ k ≤ 1000 ∧ ∀ xs, Tape 0 xs → kk (.obj st.length) (st ++ [xs])
theorem len__law_tape (ds : List D) (st : Sto) (kk : DK) (h : sp__law_tape ds st kk) : ds.length = 2 := by
  obtain ⟨cs, k, rfl, _⟩ := h
  rfl
theorem atI_ints {cs : List Int} {k : Nat} (h : k < cs.length) : atI (cs.map D.int) (k : Int) = some (.int cs[k]) := by
  refine atI_nat ?_
  rw [List.getElem?_map, List.getElem?_eq_getElem h]
  rfl
theorem p__law_tape : BodyD false N__law_tape sp__law_tape t__law_tape := by
  rintro ds st kk ⟨cs, k, rfl, hk, h⟩
  rw [st__law_tape]
  simp only [t__law_tape]
  (walk_at "lw_dd")
  have fin : ∀ c : Int, PowOk 10 18 → kk (.obj st.length) (st ++ [[.int ((if c < 0 then -c else c) * (if (10 : Int) ^ 18 ≤ (if c < 0 then -c else c) then 1 else 0)), .int (c % 2305843009213693951 + 39373 * (k : Int) + 17), .int 0]]) := fun c _ => by
    refine h _ ⟨_, _, _, rfl, ?_, ?_, Int.le_refl _, by omega⟩
    · have := Int.emod_nonneg c (b := 2305843009213693951) (by decide)
      omega
    · have := Int.emod_lt_of_pos c (b := 2305843009213693951) (by decide)
      omega
  have pw : PowOk 10 18 := ⟨by decide, by decide, by decide⟩
  have m1 : MulOk 39373 (k : Int) := mulc _ _ (by decide) (by decide)
  split
  · rename_i hlt
    have hlt' : k < cs.length := by omega
    refine ⟨_, atI_ints hlt', ?_⟩
    (walk_at "lw_dd")
    exact ⟨pw, mulb _ _, by decide, m1, fin _ pw⟩
  · exact ⟨pw, mulb _ _, by decide, m1, fin 0 pw⟩
def t__law_draw : DS :=
    (dSeq (dIfS (dTest (dOp (cmpI fun i j => decide (j < i)) (dOp ixD (dVar 0) (dC (.int 0))) (dC (.int 0)))) (dSeq (dAsg (dOp modD (dOp ixD (dVar 0) (dC (.int 0))) (dVar 1)) (dgName 2))
    (dSeq (dAsg (dOp divD (dOp ixD (dVar 0) (dC (.int 0))) (dVar 1)) (dgSub (dVar 0) (dC (.int 0))))
    (dRet (dVar 2)))) dPass)
    (dSeq (dAsg (dOp addD (dOp ixD (dVar 0) (dC (.int 2))) (dC (.int 1))) (dgSub (dVar 0) (dC (.int 2))))
    (dSeq (dAsg (dOp modD (dOp powD (dOp addD (dOp ixD (dVar 0) (dC (.int 1))) (dOp mulD (dC (.int 39373)) (dOp ixD (dVar 0) (dC (.int 2))))) (dC (.int 5))) (dC (.int 2147483647))) (dgName 3))
    (dSeq (dAsg (dOp modD (dOp mulD (dOp addD (dVar 3) (dOp ixD (dVar 0) (dC (.int 2)))) (dOp addD (dOp addD (dOp modD (dVar 3) (dC (.int 40009))) (dC (.int 7))) (dOp ixD (dVar 0) (dC (.int 2))))) (dC (.int 2147483629))) (dgName 4))
    (dSeq (dAsg (dOp modD (dOp addD (dOp addD (dOp divD (dOp ixD (dVar 0) (dC (.int 1))) (dC (.int 2147483647))) (dOp mulD (dVar 4) (dC (.int 40009)))) (dOp ixD (dVar 0) (dC (.int 2)))) (dC (.int 2305843009213693951))) (dgName 5))
    (dRet (dOp modD (dOp divD (dOp modD (dOp addD (dOp addD (dOp mulD (dVar 4) (dC (.int 48271))) (dOp mulD (dVar 5) (dC (.int 39373)))) (dVar 3)) (dC (.int 2305843009213693921))) (dC (.int 64))) (dVar 1))))))))
theorem st__law_draw (a0 a1 : D) : startD N__law_draw [a0, a1] = [some a0, some a1, none, none, none, none] := rfl
def sp__law_draw : SpD := fun ds st kk => ∃ (i n : Nat) (m : Int), ds = [.obj i, .int m] ∧ Tp i n st ∧ n < 1000000000000 ∧ Big m ∧ ∀ (r : Int) xs, 0 ≤ r → r < m → Tp i (n + 1) (st.set i xs) → kk (.int r) (st.set i xs)
theorem len__law_draw (ds : List D) (st : Sto) (kk : DK) (h : sp__law_draw ds st kk) : ds.length = 2 := by
  obtain ⟨i, n, m, rfl, _⟩ := h
  rfl
theorem p__law_draw : BodyD false N__law_draw sp__law_draw t__law_draw := by
  rintro ds st kk ⟨i, n, m, rfl, ⟨xs, hx, a, b, c, rfl, h1, h2, h3, h4⟩, hn, hm, h⟩
  have hi : i < st.length := (List.getElem?_eq_some_iff.mp hx).1
  have hs : ∀ ys : List D, (st.set i ys)[i]? = some ys := fun ys => List.getElem?_set_self hi
  have p5 : PowOk (b + 39373 * (c + 1)) 5 := pow5 (by omega) (by omega)
  rw [st__law_draw]
  simp only [t__law_draw]
  (try simp only [BEq.rfl, ↓e_v0, ↓e_vs, ↓e_c, ↓e_op, ↓e_un, ↓e_test, ↓e_testK, ↓e_tru, ↓e_truL, ↓e_truT, ↓e_truB, ↓e_truI, ↓e_truN, ↓e_truS, ↓e_not, ↓e_and, ↓e_or, ↓e_andv, ↓e_notv, ↓e_andK, ↓e_notK, ↓e_if, ↓e_nil, ↓e_cons, ↓e_tup, ↓e_lst, ↓e_new, ↓e_call, ↓e_drop, ↓e_ret, ↓e_pass, ↓e_ifS, ↓e_g0, ↓e_gs, ↓e_gnil, ↓e_gcons, ↓e_gtup, ↓e_asg, ↓e_par, ↓e_parK, ↓e_par3, ↓e_par3K, ↓e_no, ↓e_some, ↓e_someK, ↓e_cut, ↓e_b, ↓e_iter, ↓e_iterL, ↓e_iterT, ↓e_iterS, ↓e_rng1, ↓e_rng1K, ↓e_rng2, ↓e_rng2K, ↓e_rng3, ↓e_rng3K, ↓e_enum, ↓e_enumL, ↓e_enumT, ↓e_for, ↓e_lc, ↓e_lcNew, ↓e_forN, ↓e_forC, ↓e_lcN, ↓e_lcC, ↓e_srcN, ↓e_srcC, ↓e_meth, ↓e_isL, ↓e_sub, ↓e_isi, ↓e_yes, ↓e_addI, ↓e_addB, ↓e_addS, ↓e_addT, ↓e_addL, ↓e_subI, ↓e_mulI, ↓e_mulT, ↓e_mulL, ↓e_divI, ↓e_modI, ↓e_powI, ↓e_negI, ↓e_cmpI, ↓e_eq, ↓e_ne, ↓e_isn, ↓e_isnn, ↓e_isb, ↓e_ixL, ↓e_ixKL, ↓e_ixT, ↓e_cutL, ↓e_cutKL, ↓e_cutT, ↓e_lenL, ↓e_lenKL, ↓e_lenT, ↓e_abs, ↓e_intI, ↓e_intB, ↓e_max2, ↓e_listNL, ↓e_listNT, ↓e_tupL, ↓e_tupT, ↓e_sum1T, ↓e_sum1L, ↓e_max1T, ↓e_max1L, ↓e_drI, ↓e_drB, ↓e_drS, ↓e_drN, ↓e_drL, ↓e_drT, ↓e_seq, ↓e_back, ↓e_backL, ↓e_backT, ↓e_unlL, ↓e_inFlat, ↓e_drK, ↓e_addBI, ↓e_subBI, ↓e_subIB, ↓e_drG, ↓e_dnew, ↓e_dgetF, ↓e_dget2, ↓e_dgPut, ↓e_join, ↓e_joinL, ↓e_cutS, ↓e_mulS, ↓e_sortV, ↓e_tidx, ↓e_mulNewL, ↓e_sortedPL, ↓e_indexL, ↓e_max3, e_kyI, e_kyS, Nat.reduceAdd, Nat.zero_add, List.length_cons, List.length_nil, List.length_map, Nat.reduceLeDiff, and_true, true_and, if_true, ite_true, decide_eq_true_eq, Bool.not_eq_true, Bool.false_eq_true, if_false, ite_false, ↓reduceIte, Int.reduceToNat, Int.reducePow, ne_eq, q_okI, q_okB, q_okN, q_okS, q_okL, q_okT, q_oks0, q_oks1, q_eqII, q_eqBB, q_eqSS, q_eqLL, q_eqTT, q_eqNN, q_eqNI, q_eqIN, q_eqs0, q_eqs1, Bool.true_and, Bool.and_true, beq_iff_eq, reduceCtorEq, wipeE, List.set_cons_zero, List.set_cons_succ, List.set_nil, Bool.not_true, Bool.not_false, List.getElem?_cons_zero, List.getElem?_cons_succ, e_ixO hx, at0, at1, at2, Option.some.injEq, exists_eq_left', e_setO hx])
  have tp : ∀ a' : Int, Tp i (n + 1) (st.set i [.int a', .int b, .int c]) := fun a' => ⟨_, hs _, _, _, _, rfl, h1, h2, h3, by omega⟩
  have tp2 : Tp i (n + 1) (st.set i [.int a, .int b, .int (c + 1)]) := ⟨_, hs _, _, _, _, rfl, h1, h2, by omega, by omega⟩
  split
  · exact ⟨by have := hm.1; omega, hm.div, 0, rfl, h _ _ (Int.emod_nonneg _ (by have := hm.1; omega)) (Int.emod_lt_of_pos _ (by have := hm.1; omega)) (tp _)⟩
  · refine ⟨2, rfl, ?_⟩
    (try simp only [BEq.rfl, ↓e_v0, ↓e_vs, ↓e_c, ↓e_op, ↓e_un, ↓e_test, ↓e_testK, ↓e_tru, ↓e_truL, ↓e_truT, ↓e_truB, ↓e_truI, ↓e_truN, ↓e_truS, ↓e_not, ↓e_and, ↓e_or, ↓e_andv, ↓e_notv, ↓e_andK, ↓e_notK, ↓e_if, ↓e_nil, ↓e_cons, ↓e_tup, ↓e_lst, ↓e_new, ↓e_call, ↓e_drop, ↓e_ret, ↓e_pass, ↓e_ifS, ↓e_g0, ↓e_gs, ↓e_gnil, ↓e_gcons, ↓e_gtup, ↓e_asg, ↓e_par, ↓e_parK, ↓e_par3, ↓e_par3K, ↓e_no, ↓e_some, ↓e_someK, ↓e_cut, ↓e_b, ↓e_iter, ↓e_iterL, ↓e_iterT, ↓e_iterS, ↓e_rng1, ↓e_rng1K, ↓e_rng2, ↓e_rng2K, ↓e_rng3, ↓e_rng3K, ↓e_enum, ↓e_enumL, ↓e_enumT, ↓e_for, ↓e_lc, ↓e_lcNew, ↓e_forN, ↓e_forC, ↓e_lcN, ↓e_lcC, ↓e_srcN, ↓e_srcC, ↓e_meth, ↓e_isL, ↓e_sub, ↓e_isi, ↓e_yes, ↓e_addI, ↓e_addB, ↓e_addS, ↓e_addT, ↓e_addL, ↓e_subI, ↓e_mulI, ↓e_mulT, ↓e_mulL, ↓e_divI, ↓e_modI, ↓e_powI, ↓e_negI, ↓e_cmpI, ↓e_eq, ↓e_ne, ↓e_isn, ↓e_isnn, ↓e_isb, ↓e_ixL, ↓e_ixKL, ↓e_ixT, ↓e_cutL, ↓e_cutKL, ↓e_cutT, ↓e_lenL, ↓e_lenKL, ↓e_lenT, ↓e_abs, ↓e_intI, ↓e_intB, ↓e_max2, ↓e_listNL, ↓e_listNT, ↓e_tupL, ↓e_tupT, ↓e_sum1T, ↓e_sum1L, ↓e_max1T, ↓e_max1L, ↓e_drI, ↓e_drB, ↓e_drS, ↓e_drN, ↓e_drL, ↓e_drT, ↓e_seq, ↓e_back, ↓e_backL, ↓e_backT, ↓e_unlL, ↓e_inFlat, ↓e_drK, ↓e_addBI, ↓e_subBI, ↓e_subIB, ↓e_drG, ↓e_dnew, ↓e_dgetF, ↓e_dget2, ↓e_dgPut, ↓e_join, ↓e_joinL, ↓e_cutS, ↓e_mulS, ↓e_sortV, ↓e_tidx, ↓e_mulNewL, ↓e_sortedPL, ↓e_indexL, ↓e_max3, e_kyI, e_kyS, Nat.reduceAdd, Nat.zero_add, List.length_cons, List.length_nil, List.length_map, Nat.reduceLeDiff, and_true, true_and, if_true, ite_true, decide_eq_true_eq, Bool.not_eq_true, Bool.false_eq_true, if_false, ite_false, ↓reduceIte, Int.reduceToNat, Int.reducePow, ne_eq, q_okI, q_okB, q_okN, q_okS, q_okL, q_okT, q_oks0, q_oks1, q_eqII, q_eqBB, q_eqSS, q_eqLL, q_eqTT, q_eqNN, q_eqNI, q_eqIN, q_eqs0, q_eqs1, Bool.true_and, Bool.and_true, beq_iff_eq, reduceCtorEq, wipeE, List.set_cons_zero, List.set_cons_succ, List.set_nil, Bool.not_true, Bool.not_false, List.getElem?_cons_zero, List.getElem?_cons_succ, List.set_cons_succ, List.set_cons_zero, e_ixO (hs _), at0, at1, at2, Option.some.injEq, exists_eq_left'])
    refine ⟨mulc _ _ (by decide) (by decide), p5, by decide, ?_⟩
    generalize hA : (b + 39373 * (c + 1)) ^ 5 % 2147483647 = A
    have hA0 : 0 ≤ A := by rw [← hA]; exact Int.emod_nonneg _ (by decide)
    have hA1 : A < 2147483647 := by rw [← hA]; exact Int.emod_lt_of_pos _ (by decide)
    (try simp only [BEq.rfl, ↓e_v0, ↓e_vs, ↓e_c, ↓e_op, ↓e_un, ↓e_test, ↓e_testK, ↓e_tru, ↓e_truL, ↓e_truT, ↓e_truB, ↓e_truI, ↓e_truN, ↓e_truS, ↓e_not, ↓e_and, ↓e_or, ↓e_andv, ↓e_notv, ↓e_andK, ↓e_notK, ↓e_if, ↓e_nil, ↓e_cons, ↓e_tup, ↓e_lst, ↓e_new, ↓e_call, ↓e_drop, ↓e_ret, ↓e_pass, ↓e_ifS, ↓e_g0, ↓e_gs, ↓e_gnil, ↓e_gcons, ↓e_gtup, ↓e_asg, ↓e_par, ↓e_parK, ↓e_par3, ↓e_par3K, ↓e_no, ↓e_some, ↓e_someK, ↓e_cut, ↓e_b, ↓e_iter, ↓e_iterL, ↓e_iterT, ↓e_iterS, ↓e_rng1, ↓e_rng1K, ↓e_rng2, ↓e_rng2K, ↓e_rng3, ↓e_rng3K, ↓e_enum, ↓e_enumL, ↓e_enumT, ↓e_for, ↓e_lc, ↓e_lcNew, ↓e_forN, ↓e_forC, ↓e_lcN, ↓e_lcC, ↓e_srcN, ↓e_srcC, ↓e_meth, ↓e_isL, ↓e_sub, ↓e_isi, ↓e_yes, ↓e_addI, ↓e_addB, ↓e_addS, ↓e_addT, ↓e_addL, ↓e_subI, ↓e_mulI, ↓e_mulT, ↓e_mulL, ↓e_divI, ↓e_modI, ↓e_powI, ↓e_negI, ↓e_cmpI, ↓e_eq, ↓e_ne, ↓e_isn, ↓e_isnn, ↓e_isb, ↓e_ixL, ↓e_ixKL, ↓e_ixT, ↓e_cutL, ↓e_cutKL, ↓e_cutT, ↓e_lenL, ↓e_lenKL, ↓e_lenT, ↓e_abs, ↓e_intI, ↓e_intB, ↓e_max2, ↓e_listNL, ↓e_listNT, ↓e_tupL, ↓e_tupT, ↓e_sum1T, ↓e_sum1L, ↓e_max1T, ↓e_max1L, ↓e_drI, ↓e_drB, ↓e_drS, ↓e_drN, ↓e_drL, ↓e_drT, ↓e_seq, ↓e_back, ↓e_backL, ↓e_backT, ↓e_unlL, ↓e_inFlat, ↓e_drK, ↓e_addBI, ↓e_subBI, ↓e_subIB, ↓e_drG, ↓e_dnew, ↓e_dgetF, ↓e_dget2, ↓e_dgPut, ↓e_join, ↓e_joinL, ↓e_cutS, ↓e_mulS, ↓e_sortV, ↓e_tidx, ↓e_mulNewL, ↓e_sortedPL, ↓e_indexL, ↓e_max3, e_kyI, e_kyS, Nat.reduceAdd, Nat.zero_add, List.length_cons, List.length_nil, List.length_map, Nat.reduceLeDiff, and_true, true_and, if_true, ite_true, decide_eq_true_eq, Bool.not_eq_true, Bool.false_eq_true, if_false, ite_false, ↓reduceIte, Int.reduceToNat, Int.reducePow, ne_eq, q_okI, q_okB, q_okN, q_okS, q_okL, q_okT, q_oks0, q_oks1, q_eqII, q_eqBB, q_eqSS, q_eqLL, q_eqTT, q_eqNN, q_eqNI, q_eqIN, q_eqs0, q_eqs1, Bool.true_and, Bool.and_true, beq_iff_eq, reduceCtorEq, wipeE, List.set_cons_zero, List.set_cons_succ, List.set_nil, Bool.not_true, Bool.not_false, List.getElem?_cons_zero, List.getElem?_cons_succ, e_ixO (hs _), at0, at1, at2, Option.some.injEq, exists_eq_left'])
    refine ⟨by decide, mulc _ _ (by omega) (by omega), by decide, ?_⟩
    generalize hB : (A + (c + 1)) * (A % 40009 + 7 + (c + 1)) % 2147483629 = B
    have hB0 : 0 ≤ B := by rw [← hB]; exact Int.emod_nonneg _ (by decide)
    have hB1 : B < 2147483629 := by rw [← hB]; exact Int.emod_lt_of_pos _ (by decide)
    (try simp only [BEq.rfl, ↓e_v0, ↓e_vs, ↓e_c, ↓e_op, ↓e_un, ↓e_test, ↓e_testK, ↓e_tru, ↓e_truL, ↓e_truT, ↓e_truB, ↓e_truI, ↓e_truN, ↓e_truS, ↓e_not, ↓e_and, ↓e_or, ↓e_andv, ↓e_notv, ↓e_andK, ↓e_notK, ↓e_if, ↓e_nil, ↓e_cons, ↓e_tup, ↓e_lst, ↓e_new, ↓e_call, ↓e_drop, ↓e_ret, ↓e_pass, ↓e_ifS, ↓e_g0, ↓e_gs, ↓e_gnil, ↓e_gcons, ↓e_gtup, ↓e_asg, ↓e_par, ↓e_parK, ↓e_par3, ↓e_par3K, ↓e_no, ↓e_some, ↓e_someK, ↓e_cut, ↓e_b, ↓e_iter, ↓e_iterL, ↓e_iterT, ↓e_iterS, ↓e_rng1, ↓e_rng1K, ↓e_rng2, ↓e_rng2K, ↓e_rng3, ↓e_rng3K, ↓e_enum, ↓e_enumL, ↓e_enumT, ↓e_for, ↓e_lc, ↓e_lcNew, ↓e_forN, ↓e_forC, ↓e_lcN, ↓e_lcC, ↓e_srcN, ↓e_srcC, ↓e_meth, ↓e_isL, ↓e_sub, ↓e_isi, ↓e_yes, ↓e_addI, ↓e_addB, ↓e_addS, ↓e_addT, ↓e_addL, ↓e_subI, ↓e_mulI, ↓e_mulT, ↓e_mulL, ↓e_divI, ↓e_modI, ↓e_powI, ↓e_negI, ↓e_cmpI, ↓e_eq, ↓e_ne, ↓e_isn, ↓e_isnn, ↓e_isb, ↓e_ixL, ↓e_ixKL, ↓e_ixT, ↓e_cutL, ↓e_cutKL, ↓e_cutT, ↓e_lenL, ↓e_lenKL, ↓e_lenT, ↓e_abs, ↓e_intI, ↓e_intB, ↓e_max2, ↓e_listNL, ↓e_listNT, ↓e_tupL, ↓e_tupT, ↓e_sum1T, ↓e_sum1L, ↓e_max1T, ↓e_max1L, ↓e_drI, ↓e_drB, ↓e_drS, ↓e_drN, ↓e_drL, ↓e_drT, ↓e_seq, ↓e_back, ↓e_backL, ↓e_backT, ↓e_unlL, ↓e_inFlat, ↓e_drK, ↓e_addBI, ↓e_subBI, ↓e_subIB, ↓e_drG, ↓e_dnew, ↓e_dgetF, ↓e_dget2, ↓e_dgPut, ↓e_join, ↓e_joinL, ↓e_cutS, ↓e_mulS, ↓e_sortV, ↓e_tidx, ↓e_mulNewL, ↓e_sortedPL, ↓e_indexL, ↓e_max3, e_kyI, e_kyS, Nat.reduceAdd, Nat.zero_add, List.length_cons, List.length_nil, List.length_map, Nat.reduceLeDiff, and_true, true_and, if_true, ite_true, decide_eq_true_eq, Bool.not_eq_true, Bool.false_eq_true, if_false, ite_false, ↓reduceIte, Int.reduceToNat, Int.reducePow, ne_eq, q_okI, q_okB, q_okN, q_okS, q_okL, q_okT, q_oks0, q_oks1, q_eqII, q_eqBB, q_eqSS, q_eqLL, q_eqTT, q_eqNN, q_eqNI, q_eqIN, q_eqs0, q_eqs1, Bool.true_and, Bool.and_true, beq_iff_eq, reduceCtorEq, wipeE, List.set_cons_zero, List.set_cons_succ, List.set_nil, Bool.not_true, Bool.not_false, List.getElem?_cons_zero, List.getElem?_cons_succ, e_ixO (hs _), at0, at1, at2, Option.some.injEq, exists_eq_left'])
    refine ⟨div_small (by decide) (by decide), mulc _ _ (by omega) (by omega), by decide, ?_⟩
    generalize hC : (b / 2147483647 + B * 40009 + (c + 1)) % 2305843009213693951 = C
    have hC0 : 0 ≤ C := by rw [← hC]; exact Int.emod_nonneg _ (by decide)
    have hC1 : C < 2305843009213693951 := by rw [← hC]; exact Int.emod_lt_of_pos _ (by decide)
    (try simp only [BEq.rfl, ↓e_v0, ↓e_vs, ↓e_c, ↓e_op, ↓e_un, ↓e_test, ↓e_testK, ↓e_tru, ↓e_truL, ↓e_truT, ↓e_truB, ↓e_truI, ↓e_truN, ↓e_truS, ↓e_not, ↓e_and, ↓e_or, ↓e_andv, ↓e_notv, ↓e_andK, ↓e_notK, ↓e_if, ↓e_nil, ↓e_cons, ↓e_tup, ↓e_lst, ↓e_new, ↓e_call, ↓e_drop, ↓e_ret, ↓e_pass, ↓e_ifS, ↓e_g0, ↓e_gs, ↓e_gnil, ↓e_gcons, ↓e_gtup, ↓e_asg, ↓e_par, ↓e_parK, ↓e_par3, ↓e_par3K, ↓e_no, ↓e_some, ↓e_someK, ↓e_cut, ↓e_b, ↓e_iter, ↓e_iterL, ↓e_iterT, ↓e_iterS, ↓e_rng1, ↓e_rng1K, ↓e_rng2, ↓e_rng2K, ↓e_rng3, ↓e_rng3K, ↓e_enum, ↓e_enumL, ↓e_enumT, ↓e_for, ↓e_lc, ↓e_lcNew, ↓e_forN, ↓e_forC, ↓e_lcN, ↓e_lcC, ↓e_srcN, ↓e_srcC, ↓e_meth, ↓e_isL, ↓e_sub, ↓e_isi, ↓e_yes, ↓e_addI, ↓e_addB, ↓e_addS, ↓e_addT, ↓e_addL, ↓e_subI, ↓e_mulI, ↓e_mulT, ↓e_mulL, ↓e_divI, ↓e_modI, ↓e_powI, ↓e_negI, ↓e_cmpI, ↓e_eq, ↓e_ne, ↓e_isn, ↓e_isnn, ↓e_isb, ↓e_ixL, ↓e_ixKL, ↓e_ixT, ↓e_cutL, ↓e_cutKL, ↓e_cutT, ↓e_lenL, ↓e_lenKL, ↓e_lenT, ↓e_abs, ↓e_intI, ↓e_intB, ↓e_max2, ↓e_listNL, ↓e_listNT, ↓e_tupL, ↓e_tupT, ↓e_sum1T, ↓e_sum1L, ↓e_max1T, ↓e_max1L, ↓e_drI, ↓e_drB, ↓e_drS, ↓e_drN, ↓e_drL, ↓e_drT, ↓e_seq, ↓e_back, ↓e_backL, ↓e_backT, ↓e_unlL, ↓e_inFlat, ↓e_drK, ↓e_addBI, ↓e_subBI, ↓e_subIB, ↓e_drG, ↓e_dnew, ↓e_dgetF, ↓e_dget2, ↓e_dgPut, ↓e_join, ↓e_joinL, ↓e_cutS, ↓e_mulS, ↓e_sortV, ↓e_tidx, ↓e_mulNewL, ↓e_sortedPL, ↓e_indexL, ↓e_max3, e_kyI, e_kyS, Nat.reduceAdd, Nat.zero_add, List.length_cons, List.length_nil, List.length_map, Nat.reduceLeDiff, and_true, true_and, if_true, ite_true, decide_eq_true_eq, Bool.not_eq_true, Bool.false_eq_true, if_false, ite_false, ↓reduceIte, Int.reduceToNat, Int.reducePow, ne_eq, q_okI, q_okB, q_okN, q_okS, q_okL, q_okT, q_oks0, q_oks1, q_eqII, q_eqBB, q_eqSS, q_eqLL, q_eqTT, q_eqNN, q_eqNI, q_eqIN, q_eqs0, q_eqs1, Bool.true_and, Bool.and_true, beq_iff_eq, reduceCtorEq, wipeE, List.set_cons_zero, List.set_cons_succ, List.set_nil, Bool.not_true, Bool.not_false, List.getElem?_cons_zero, List.getElem?_cons_succ, e_ixO (hs _), at0, at1, at2, Option.some.injEq, exists_eq_left'])
    refine ⟨mulc _ _ (by omega) (by omega), mulc _ _ (by omega) (by omega), by decide, div_small (by decide) (by decide), by have := hm.1; omega, ?_⟩
    exact h _ _ (Int.emod_nonneg _ (by have := hm.1; omega)) (Int.emod_lt_of_pos _ (by have := hm.1; omega)) tp2
def b1__law_folded : DS :=
    (dAsg (dOp addD (dOp ixD (dVar 2) (dOp modD (dVar 3) (dVar 1))) (dOp mulD (dVar 4) (dOp addD (dVar 3) (dC (.int 2))))) (dgSub (dVar 2) (dOp modD (dVar 3) (dVar 1))))
def t__law_folded : DS :=
    (dSeq (dAsg (dB bListNew (dCons (dCut cutOp (dVar 0) dNo (dSome (dVar 1))) dNil)) (dgName 2))
    (dSeq (dFor (dEnum (dCut cutOp (dVar 0) (dSome (dVar 1)) (dSome (dC (.int 63))))) (dgTup 2 (dgCons (dgName 3) (dgCons (dgName 4) dgNil))) (b1__law_folded))
    (dRet (dVar 2))))
theorem st__law_folded (a0 a1 : D) : startD N__law_folded [a0, a1] = [some a0, some a1, none, none, none] := rfl
theorem folded_loop (rt : DK) (a0 : D) (m : Nat) (hm : 1 ≤ m) (st : Sto) (kk : DL.Env → Sto → Prop) : ∀ (rs : List Int) (k : Nat) (cs : List Int) (v3 v4 : Option D), (rs ≠ [] → cs.length = m) → k + rs.length ≤ 1000 →
    (∀ (cs' : List Int) u3 u4, cs'.length = cs.length → kk [some a0, some (.int m), some (.obj st.length), u3, u4] (st ++ [cs'.map D.int])) →
    goFor [] (dgTup 2 (dgCons (dgName 3) (dgCons (dgName 4) dgNil))) b1__law_folded ⟨kk, rt⟩ (enumD k (rs.map D.int)) [some a0, some (.int m), some (.obj st.length), v3, v4] (st ++ [cs.map D.int])
  | [], k, cs, v3, v4, _, _, h => ⟨trivial, h cs v3 v4 rfl⟩
  | r :: rs, k, cs, v3, v4, hl, hk, h => by
    simp only [List.map_cons, enumD]
    rw [e_forC]
    refine ⟨trivial, ?_⟩
    have hc : cs.length = m := hl (by simp)
    have i0 : 0 ≤ (k : Int) % (m : Int) := Int.emod_nonneg _ (by omega)
    have i1 : (k : Int) % (m : Int) < (m : Int) := Int.emod_lt_of_pos _ (by omega)
    have ea : atI (cs.map D.int) ((k : Int) % (m : Int)) = some (.int (cs[((k : Int) % (m : Int)).toNat]'(by omega))) := by
      rw [atI_at i0 (by rw [List.length_map]; omega), List.getElem_map]
    have ei : ixN (cs.map D.int).length ((k : Int) % (m : Int)) = some ((k : Int) % (m : Int)).toNat := ixN_of i0 (by rw [List.length_map]; omega)
    simp only [b1__law_folded]
    (try simp only [BEq.rfl, ↓e_v0, ↓e_vs, ↓e_c, ↓e_op, ↓e_un, ↓e_test, ↓e_testK, ↓e_tru, ↓e_truL, ↓e_truT, ↓e_truB, ↓e_truI, ↓e_truN, ↓e_truS, ↓e_not, ↓e_and, ↓e_or, ↓e_andv, ↓e_notv, ↓e_andK, ↓e_notK, ↓e_if, ↓e_nil, ↓e_cons, ↓e_tup, ↓e_lst, ↓e_new, ↓e_call, ↓e_drop, ↓e_ret, ↓e_pass, ↓e_ifS, ↓e_g0, ↓e_gs, ↓e_gnil, ↓e_gcons, ↓e_gtup, ↓e_asg, ↓e_par, ↓e_parK, ↓e_par3, ↓e_par3K, ↓e_no, ↓e_some, ↓e_someK, ↓e_cut, ↓e_b, ↓e_iter, ↓e_iterL, ↓e_iterT, ↓e_iterS, ↓e_rng1, ↓e_rng1K, ↓e_rng2, ↓e_rng2K, ↓e_rng3, ↓e_rng3K, ↓e_enum, ↓e_enumL, ↓e_enumT, ↓e_for, ↓e_lc, ↓e_lcNew, ↓e_forN, ↓e_forC, ↓e_lcN, ↓e_lcC, ↓e_srcN, ↓e_srcC, ↓e_meth, ↓e_isL, ↓e_sub, ↓e_isi, ↓e_yes, ↓e_addI, ↓e_addB, ↓e_addS, ↓e_addT, ↓e_addL, ↓e_subI, ↓e_mulI, ↓e_mulT, ↓e_mulL, ↓e_divI, ↓e_modI, ↓e_powI, ↓e_negI, ↓e_cmpI, ↓e_eq, ↓e_ne, ↓e_isn, ↓e_isnn, ↓e_isb, ↓e_ixL, ↓e_ixKL, ↓e_ixT, ↓e_cutL, ↓e_cutKL, ↓e_cutT, ↓e_lenL, ↓e_lenKL, ↓e_lenT, ↓e_abs, ↓e_intI, ↓e_intB, ↓e_max2, ↓e_listNL, ↓e_listNT, ↓e_tupL, ↓e_tupT, ↓e_sum1T, ↓e_sum1L, ↓e_max1T, ↓e_max1L, ↓e_drI, ↓e_drB, ↓e_drS, ↓e_drN, ↓e_drL, ↓e_drT, ↓e_seq, ↓e_back, ↓e_backL, ↓e_backT, ↓e_unlL, ↓e_inFlat, ↓e_drK, ↓e_addBI, ↓e_subBI, ↓e_subIB, ↓e_drG, ↓e_dnew, ↓e_dgetF, ↓e_dget2, ↓e_dgPut, ↓e_join, ↓e_joinL, ↓e_cutS, ↓e_mulS, ↓e_sortV, ↓e_tidx, ↓e_mulNewL, ↓e_sortedPL, ↓e_indexL, ↓e_max3, e_kyI, e_kyS, Nat.reduceAdd, Nat.zero_add, List.length_cons, List.length_nil, List.length_map, Nat.reduceLeDiff, and_true, true_and, if_true, ite_true, decide_eq_true_eq, Bool.not_eq_true, Bool.false_eq_true, if_false, ite_false, ↓reduceIte, Int.reduceToNat, Int.reducePow, ne_eq, q_okI, q_okB, q_okN, q_okS, q_okL, q_okT, q_oks0, q_oks1, q_eqII, q_eqBB, q_eqSS, q_eqLL, q_eqTT, q_eqNN, q_eqNI, q_eqIN, q_eqs0, q_eqs1, Bool.true_and, Bool.and_true, beq_iff_eq, reduceCtorEq, wipeE, List.set_cons_zero, List.set_cons_succ, List.set_nil, Bool.not_true, Bool.not_false, List.getElem?_cons_zero, List.getElem?_cons_succ, e_ixO (List.getElem?_concat_length ..), e_setO (List.getElem?_concat_length ..)])
    refine ⟨by omega, _, ea, ?_⟩
    (try simp only [BEq.rfl, ↓e_v0, ↓e_vs, ↓e_c, ↓e_op, ↓e_un, ↓e_test, ↓e_testK, ↓e_tru, ↓e_truL, ↓e_truT, ↓e_truB, ↓e_truI, ↓e_truN, ↓e_truS, ↓e_not, ↓e_and, ↓e_or, ↓e_andv, ↓e_notv, ↓e_andK, ↓e_notK, ↓e_if, ↓e_nil, ↓e_cons, ↓e_tup, ↓e_lst, ↓e_new, ↓e_call, ↓e_drop, ↓e_ret, ↓e_pass, ↓e_ifS, ↓e_g0, ↓e_gs, ↓e_gnil, ↓e_gcons, ↓e_gtup, ↓e_asg, ↓e_par, ↓e_parK, ↓e_par3, ↓e_par3K, ↓e_no, ↓e_some, ↓e_someK, ↓e_cut, ↓e_b, ↓e_iter, ↓e_iterL, ↓e_iterT, ↓e_iterS, ↓e_rng1, ↓e_rng1K, ↓e_rng2, ↓e_rng2K, ↓e_rng3, ↓e_rng3K, ↓e_enum, ↓e_enumL, ↓e_enumT, ↓e_for, ↓e_lc, ↓e_lcNew, ↓e_forN, ↓e_forC, ↓e_lcN, ↓e_lcC, ↓e_srcN, ↓e_srcC, ↓e_meth, ↓e_isL, ↓e_sub, ↓e_isi, ↓e_yes, ↓e_addI, ↓e_addB, ↓e_addS, ↓e_addT, ↓e_addL, ↓e_subI, ↓e_mulI, ↓e_mulT, ↓e_mulL, ↓e_divI, ↓e_modI, ↓e_powI, ↓e_negI, ↓e_cmpI, ↓e_eq, ↓e_ne, ↓e_isn, ↓e_isnn, ↓e_isb, ↓e_ixL, ↓e_ixKL, ↓e_ixT, ↓e_cutL, ↓e_cutKL, ↓e_cutT, ↓e_lenL, ↓e_lenKL, ↓e_lenT, ↓e_abs, ↓e_intI, ↓e_intB, ↓e_max2, ↓e_listNL, ↓e_listNT, ↓e_tupL, ↓e_tupT, ↓e_sum1T, ↓e_sum1L, ↓e_max1T, ↓e_max1L, ↓e_drI, ↓e_drB, ↓e_drS, ↓e_drN, ↓e_drL, ↓e_drT, ↓e_seq, ↓e_back, ↓e_backL, ↓e_backT, ↓e_unlL, ↓e_inFlat, ↓e_drK, ↓e_addBI, ↓e_subBI, ↓e_subIB, ↓e_drG, ↓e_dnew, ↓e_dgetF, ↓e_dget2, ↓e_dgPut, ↓e_join, ↓e_joinL, ↓e_cutS, ↓e_mulS, ↓e_sortV, ↓e_tidx, ↓e_mulNewL, ↓e_sortedPL, ↓e_indexL, ↓e_max3, e_kyI, e_kyS, Nat.reduceAdd, Nat.zero_add, List.length_cons, List.length_nil, List.length_map, Nat.reduceLeDiff, and_true, true_and, if_true, ite_true, decide_eq_true_eq, Bool.not_eq_true, Bool.false_eq_true, if_false, ite_false, ↓reduceIte, Int.reduceToNat, Int.reducePow, ne_eq, q_okI, q_okB, q_okN, q_okS, q_okL, q_okT, q_oks0, q_oks1, q_eqII, q_eqBB, q_eqSS, q_eqLL, q_eqTT, q_eqNN, q_eqNI, q_eqIN, q_eqs0, q_eqs1, Bool.true_and, Bool.and_true, beq_iff_eq, reduceCtorEq, wipeE, List.set_cons_zero, List.set_cons_succ, List.set_nil, Bool.not_true, Bool.not_false, List.getElem?_cons_zero, List.getElem?_cons_succ, e_ixO (List.getElem?_concat_length ..), e_setO (List.getElem?_concat_length ..)])
    refine ⟨mulr _ _ (by omega) (by simp only [List.length_cons] at hk; omega), by omega, _, by rw [List.length_map] at ei; exact ei, ?_⟩
    rw [set_last, map_set_int]
    refine folded_loop rt a0 m hm st kk rs (k + 1) _ _ _ (fun _ => by rw [List.length_set]; exact hc) (by simp only [List.length_cons] at hk; omega) fun cs' u3 u4 e => h cs' u3 u4 (by rw [e, List.length_set])
def sp__law_folded : SpD := fun ds st kk => ∃ (ns : List Int) (m : Nat), ds = [.klst (ns.map D.int), .int m] ∧ 1 ≤ m ∧ m ≤ 60 ∧ ns.length ≤ 63 ∧ ∀ cs : List Int, cs.length = min m ns.length → kk (.lst (cs.map D.int)) st
theorem len__law_folded (ds : List D) (st : Sto) (kk : DK) (h : sp__law_folded ds st kk) : ds.length = 2 := by
  obtain ⟨ns, m, rfl, _⟩ := h
  rfl
theorem p__law_folded : BodyD true N__law_folded sp__law_folded t__law_folded := by
  rintro ds st kk ⟨ns, m, rfl, h1, h2, h3, h⟩
  rw [st__law_folded]
  simp only [t__law_folded]
  (try simp only [BEq.rfl, ↓e_v0, ↓e_vs, ↓e_c, ↓e_op, ↓e_un, ↓e_test, ↓e_testK, ↓e_tru, ↓e_truL, ↓e_truT, ↓e_truB, ↓e_truI, ↓e_truN, ↓e_truS, ↓e_not, ↓e_and, ↓e_or, ↓e_andv, ↓e_notv, ↓e_andK, ↓e_notK, ↓e_if, ↓e_nil, ↓e_cons, ↓e_tup, ↓e_lst, ↓e_new, ↓e_call, ↓e_drop, ↓e_ret, ↓e_pass, ↓e_ifS, ↓e_g0, ↓e_gs, ↓e_gnil, ↓e_gcons, ↓e_gtup, ↓e_asg, ↓e_par, ↓e_parK, ↓e_par3, ↓e_par3K, ↓e_no, ↓e_some, ↓e_someK, ↓e_cut, ↓e_b, ↓e_iter, ↓e_iterL, ↓e_iterT, ↓e_iterS, ↓e_rng1, ↓e_rng1K, ↓e_rng2, ↓e_rng2K, ↓e_rng3, ↓e_rng3K, ↓e_enum, ↓e_enumL, ↓e_enumT, ↓e_for, ↓e_lc, ↓e_lcNew, ↓e_forN, ↓e_forC, ↓e_lcN, ↓e_lcC, ↓e_srcN, ↓e_srcC, ↓e_meth, ↓e_isL, ↓e_sub, ↓e_isi, ↓e_yes, ↓e_addI, ↓e_addB, ↓e_addS, ↓e_addT, ↓e_addL, ↓e_subI, ↓e_mulI, ↓e_mulT, ↓e_mulL, ↓e_divI, ↓e_modI, ↓e_powI, ↓e_negI, ↓e_cmpI, ↓e_eq, ↓e_ne, ↓e_isn, ↓e_isnn, ↓e_isb, ↓e_ixL, ↓e_ixKL, ↓e_ixT, ↓e_cutL, ↓e_cutKL, ↓e_cutT, ↓e_lenL, ↓e_lenKL, ↓e_lenT, ↓e_abs, ↓e_intI, ↓e_intB, ↓e_max2, ↓e_listNL, ↓e_listNT, ↓e_tupL, ↓e_tupT, ↓e_sum1T, ↓e_sum1L, ↓e_max1T, ↓e_max1L, ↓e_drI, ↓e_drB, ↓e_drS, ↓e_drN, ↓e_drL, ↓e_drT, ↓e_seq, ↓e_back, ↓e_backL, ↓e_backT, ↓e_unlL, ↓e_inFlat, ↓e_drK, ↓e_addBI, ↓e_subBI, ↓e_subIB, ↓e_drG, ↓e_dnew, ↓e_dgetF, ↓e_dget2, ↓e_dgPut, ↓e_join, ↓e_joinL, ↓e_cutS, ↓e_mulS, ↓e_sortV, ↓e_tidx, ↓e_mulNewL, ↓e_sortedPL, ↓e_indexL, ↓e_max3, e_kyI, e_kyS, Nat.reduceAdd, Nat.zero_add, List.length_cons, List.length_nil, List.length_map, Nat.reduceLeDiff, and_true, true_and, if_true, ite_true, decide_eq_true_eq, Bool.not_eq_true, Bool.false_eq_true, if_false, ite_false, ↓reduceIte, Int.reduceToNat, Int.reducePow, ne_eq, q_okI, q_okB, q_okN, q_okS, q_okL, q_okT, q_oks0, q_oks1, q_eqII, q_eqBB, q_eqSS, q_eqLL, q_eqTT, q_eqNN, q_eqNI, q_eqIN, q_eqs0, q_eqs1, Bool.true_and, Bool.and_true, beq_iff_eq, reduceCtorEq, wipeE, List.set_cons_zero, List.set_cons_succ, List.set_nil, Bool.not_true, Bool.not_false, List.getElem?_cons_zero, List.getElem?_cons_succ, cutD_map])
  rw [cutD_to, show (63 : Int) = ((63 : Nat) : Int) from rfl, cutD_from]
  intro _
  refine folded_loop _ _ m h1 st _ _ 0 _ _ _ (fun ne => ?_) (by simp; omega) fun cs' u3 u4 e => ?_
  · rw [List.length_take]
    have : m < ns.length := by
      apply Nat.lt_of_not_le
      intro z
      exact ne (by rw [List.drop_eq_nil_of_le z]; simp)
    omega
  · (walk_at "lw_dd")
    refine .one (belows_int _ _) ?_
    simp only [sub, if_true]
    exact h cs' (by rw [e, List.length_take])
def e1__law_names : DE :=
    (dOp ixD (dVar 2) (dCall sp__law_draw (dCons (dVar 0) (dCons (dC (.int 26)) dNil))))
def z8__law_names : DS :=
    (dDrop (dMeth mAppend (dVar 8) (dCons (dOp addD (dOp addD (dVar 9) (dVar 12)) (dOp ixD (dLst (dCons (dVar 10) (dCons (dOp mulD (dVar 10) (dOp modD (dVar 5) (dC (.int 2)))) (dCons (dCut cutOp (dVar 10) dNo (dSome (dOp modD (dVar 5) (dOp addD (dB bLen (dCons (dVar 10) dNil)) (dC (.int 1)))))) dNil)))) (dVar 11))) dNil)))
def z7__law_names : DS :=
    (dSeq (dAsg (dOp ixD (dVar 2) (dOp modD (dOp addD (dVar 3) (dOp mulD (dVar 7) (dOp ixD (dLst (dCons (dVar 5) (dCons (dOp divD (dVar 5) (dC (.int 2))) (dCons (dVar 5) dNil)))) (dVar 11)))) (dC (.int 26)))) (dgName 12))
    (z8__law_names))
def b1__law_names : DS :=
    (dSeq (dAsg (dOp mulD (dOp modD (dOp addD (dOp addD (dVar 3) (dVar 6)) (dB bLen (dCons (dVar 4) dNil))) (dC (.int 3))) (dB bInt (dCons (dOp (eqOp true) (dVar 10) (dC (.str ""))) dNil))) (dgName 11))
    (z7__law_names))
def z9__law_names : DS :=
    (dRet (dVar 8))
def z5__law_names : DS :=
    (dSeq (dFor (dRng1 (dVar 1)) (dgName 5) (b1__law_names))
    (z9__law_names))
def z4__law_names : DS :=
    (dSeq (dPar 9 10 (dCons (dCut cutOp (dVar 4) dNo (dSome (dVar 6))) (dCons (dCut cutOp (dVar 4) (dSome (dVar 6)) dNo) dNil)))
    (z5__law_names))
def z3__law_names : DS :=
    (dSeq (dPar3 6 7 8 (dCons (dCall sp__law_draw (dCons (dVar 0) (dCons (dOp addD (dB bLen (dCons (dVar 4) dNil)) (dC (.int 1))) dNil))) (dCons (dOp ixD (dLst (dCons (dC (.int 1)) (dCons (dC (.int 7)) (dCons (dC (.int 25)) dNil)))) (dCall sp__law_draw (dCons (dVar 0) (dCons (dC (.int 3)) dNil)))) (dCons (dNew dNil) dNil))))
    (z4__law_names))
def z2__law_names : DS :=
    (dSeq (dAsg (dJoin (dC (.str "")) (dLc (dRng1 (dCall sp__law_draw (dCons (dVar 0) (dCons (dC (.int 8)) dNil)))) (dgName 5) dYes (e1__law_names) [5])) (dgName 4))
    (z3__law_names))
def t__law_names : DS :=
    (dSeq (dAsg (dTup (dCons (dC (.str "abcdefghijklmnopqrstuvwxyz")) (dCons (dCall sp__law_draw (dCons (dVar 0) (dCons (dC (.int 26)) dNil))) dNil))) (dgTup 2 (dgCons (dgName 2) (dgCons (dgName 3) dgNil))))
    (z2__law_names))
theorem st__law_names (a0 a1 : D) : startD N__law_names [a0, a1] = [some a0, some a1, none, none, none, none, none, none, none, none, none, none, none] := rfl
theorem cutN_drop {α : Type} (xs : List α) (m : Nat) : DL.cutD xs (some (m : Int)) none = xs.drop m := by
  unfold DL.cutD
  rw [HT.sIx_nat, HT.sIx_none]
  by_cases h : m ≤ xs.length
  · rw [Nat.min_eq_left h, List.take_of_length_le (by rw [List.length_drop]; omega)]
  · rw [Nat.min_eq_right (show xs.length ≤ m by omega), List.drop_length, List.drop_eq_nil_of_le (show xs.length ≤ m by omega)]
    simp
/-- the name of number k -/
def nameK (sh st : Int) (hd tl : List Nat) (W k : Nat) : List Nat := hd ++ (97 + ((sh + st * (if W = 1 then (k / 2 : Nat) else (k : Nat) : Nat)) % 26).toNat) :: (if W = 0 then tl else if W = 1 then (if k % 2 = 0 then [] else tl) else tl.take (k % (tl.length + 1)))
theorem nameK_inj {sh st : Int} {hd tl : List Nat} {W : Nat} (hst : st = 1 ∨ st = 7 ∨ st = 25) (hW : W = 1 → tl ≠ []) {j k : Nat} (hj : j < 26) (hk : k < 26) (h : nameK sh st hd tl W j = nameK sh st hd tl W k) : j = k := by
  unfold nameK at h
  have h2 := List.append_cancel_left h
  injection h2 with h3 h4
  have key : ∀ x y : Nat, x < 26 → y < 26 → 97 + ((sh + st * (x : Int)) % 26).toNat = 97 + ((sh + st * (y : Int)) % 26).toNat → x = y := by
    intro x y hx hy e
    rcases hst with rfl | rfl | rfl <;> omega
  by_cases z : W = 1
  · have ne := hW z
    subst z
    simp only [if_true, Nat.one_ne_zero, if_false] at h3 h4
    have e := key (j / 2) (k / 2) (by omega) (by omega) h3
    have p : j % 2 = k % 2 := by
      by_cases a : j % 2 = 0
      · rw [if_pos a] at h4
        by_cases b : k % 2 = 0
        · omega
        · rw [if_neg b] at h4
          exact absurd h4.symm ne
      · rw [if_neg a] at h4
        by_cases b : k % 2 = 0
        · rw [if_pos b] at h4
          exact absurd h4 ne
        · omega
    omega
  · simp only [z, if_false] at h3
    exact key j k hj hk h3
theorem nameK_ok {sh st : Int} {hd tl : List Nat} {W k : Nat} (hl : hd.length + tl.length ≤ 7) (h1 : ∀ c ∈ hd, Lt c) (h2 : ∀ c ∈ tl, Lt c) : NameL (nameK sh st hd tl W k) := by
  have rest : ∀ r : List Nat, r.length ≤ tl.length → (∀ c ∈ r, c ∈ tl) → ∀ x : Nat, x < 26 → NameL (hd ++ (97 + x) :: r) := by
    intro r hr hm x hx
    refine ⟨by rw [List.length_append, List.length_cons]; omega, by rw [List.length_append, List.length_cons]; omega, fun c hc => ?_⟩
    rcases List.mem_append.mp hc with q | q
    · exact h1 c q
    · rcases List.mem_cons.mp q with q | q
      · rw [q]
        unfold Lt
        omega
      · exact h2 c (hm c q)
  unfold nameK
  refine rest _ ?_ ?_ _ (by omega)
  · split
    · exact Nat.le_refl _
    · split
      · split
        · exact Nat.zero_le _
        · exact Nat.le_refl _
      · rw [List.length_take]; omega
  · intro c hc
    split at hc
    · exact hc
    · split at hc
      · split at hc
        · cases hc
        · exact hc
      · exact List.mem_of_mem_take hc
theorem frz_tape1 {st st2 : Sto} {i n : Nat} {d : D} {a ys : List D} {kk : DK} (e : st2 = st.set i ys) (ht : Tp i n st2) (hb : belows st.length a = true) (h : kk (sub st.length a d) st2) : Frz st d (st2 ++ [a]) kk := by
  have ea : a.map (frzs (st.length + 1) []) = a := by
    show a.map (fun d => d) = a
    simp
  refine ⟨st2, [a], rfl, by rw [e, List.length_set], fun j xs hj => ?_, ⟨by rw [ea]; exact hb, trivial⟩, ?_⟩
  · by_cases z : j = i
    · subst z
      obtain ⟨zs, e1, x, y, w, rfl, _⟩ := ht
      rw [e1] at hj
      cases hj
      exact .inr rfl
    · rw [e, List.getElem?_set_ne (fun y => z y.symm)] at hj
      exact .inl hj
  · show kk (sub st.length (a.map (frzs (st.length + 1) [])) d) st2
    rw [ea]
    exact h
theorem belows_txt (n : Nat) : ∀ zs : List (List Nat), belows n (zs.map fun z => D.str (S z)) = true
  | [] => rfl
  | z :: r => by
    show (below n (.str (S z)) && belows n (r.map fun z => D.str (S z))) = true
    rw [belows_txt n r]
    rfl
theorem e_lenTx {cs : List Nat} {st : Sto} {k : DK} : bLen [.str (S cs)] st k = (cs.length ≤ 16777216 ∧ k (.int (cs.length : Nat)) st) := by
  show ((S cs).length ≤ 16777216 ∧ k (.int ((S cs).length : Nat)) st) = _
  rw [S_len]
def sp__law_names : SpD := fun ds st kk => ∃ (i n m : Nat), ds = [.obj i, .int (m : Nat)] ∧ Tp i n st ∧ n < 100000000 ∧ 1 ≤ m ∧ m ≤ 26 ∧ ∀ (ns : List (List Nat)) xs, ns.length = m → (∀ z ∈ ns, NameL z) → ns.Nodup → Tp i (n + 40) (st.set i xs) → kk (.lst (ns.map fun z => D.str (S z))) (st.set i xs)
theorem len__law_names (ds : List D) (st : Sto) (kk : DK) (h : sp__law_names ds st kk) : ds.length = 2 := by
  obtain ⟨_, _, _, rfl, _⟩ := h
  rfl
theorem p__law_names : BodyD true N__law_names sp__law_names t__law_names := by
  rintro ds st kk ⟨i, n, m, rfl, ht, hn, m0, m1, h⟩
  rw [st__law_names]
  simp only [t__law_names]
  (walk_at "lw_dd0")
  refine ⟨i, n, 26, rfl, ht, by omega, by (first | exact mulc _ _ (by decide) (by decide) | exact mulr _ _ (by decide) (by decide) | exact ⟨by decide, by decide, by decide⟩ | exact ⟨by decide, by decide⟩ | exact mulb _ _ | exact ⟨by omega, by omega⟩ | exact mulc _ _ (by omega) (by omega) | exact mulr _ _ (by omega) (by omega) | exact div_small (by omega) (by omega) | exact ⟨by omega, by omega, by omega⟩ | omega | decide), fun sh x1 s0 s1 t1 => ?_⟩
  (walk_at "lw_dd0")
  have hltr : ∀ r : Int, 0 ≤ r → r < 26 → ∀ (st : Sto) (kd : DK), kd (.str (S [97 + r.toNat])) st → ixD (.str (Str.ofString "abcdefghijklmnopqrstuvwxyz")) (.int r) st kd := by
    intro r r0 r1 st kd hk
    rw [abc_eq, e_ixS, S_len, S_cps]
    exact ⟨by decide, _, abc_at r0 r1, hk⟩
  simp only [z2__law_names]
  (walk_at "lw_dd0")
  refine ⟨⟨_, rfl⟩, i, _, 8, rfl, t1, by omega, by (first | exact mulc _ _ (by decide) (by decide) | exact mulr _ _ (by decide) (by decide) | exact ⟨by decide, by decide, by decide⟩ | exact ⟨by decide, by decide⟩ | exact mulb _ _ | exact ⟨by omega, by omega⟩ | exact mulc _ _ (by omega) (by omega) | exact mulr _ _ (by omega) (by omega) | exact div_small (by omega) (by omega) | exact ⟨by omega, by omega, by omega⟩ | omega | decide), fun q x2 q0 q1 t2 => ?_⟩
  rw [List.set_set] at t2 ⊢
  (walk_at "lw_dd0")
  refine ⟨by omega, by rw [rangeD_length]; omega, ?_⟩
  refine lc_draws (fun c : Nat => D.str (S [c])) Lt i 1 900000000 (fun x n2 s2 kd2 t2 hn2 hk2 => ?_) _ _ _ [] t2 (by rw [rangeD_length]; omega) fun cs ys hcl hcs t3 => ?_
  · simp only [e1__law_names]
    (walk_at "lw_dd0")
    refine ⟨i, _, 26, rfl, t2, by omega, by (first | exact mulc _ _ (by decide) (by decide) | exact mulr _ _ (by decide) (by decide) | exact ⟨by decide, by decide, by decide⟩ | exact ⟨by decide, by decide⟩ | exact mulb _ _ | exact ⟨by omega, by omega⟩ | exact mulc _ _ (by omega) (by omega) | exact mulr _ _ (by omega) (by omega) | exact div_small (by omega) (by omega) | exact ⟨by omega, by omega, by omega⟩ | omega | decide), fun r x5 r0 r1 t5 => ?_⟩
    refine hltr r r0 r1 _ _ (hk2 (97 + r.toNat) x5 ?_ t5)
    unfold Lt
    omega
  rw [rangeD_length] at hcl t3
  rw [List.nil_append, List.set_set]
  rw [List.set_set] at t3
  have hq : cs.length ≤ 7 := by omega
  rw [show (cs.map fun c => D.str (S [c])) = (cs.map fun c => S [c]).map D.str by rw [List.map_map]; rfl, e_joinL, S_join, S_sum, List.length_map, show (Str.ofString "").length = 0 from rfl]
  refine ⟨by omega, ?_⟩
  simp only [z3__law_names]
  (walk_at "lw_dd0")
  rw [show ∀ (st : Sto) (k : DK), bLen [.str (S cs)] st k = ((S cs).length ≤ 16777216 ∧ k (.int ((S cs).length : Nat)) st) from fun _ _ => rfl, S_len]
  refine ⟨by omega, ?_⟩
  (walk_at "lw_dd0")
  refine ⟨i, _, _, rfl, t3, by omega, ⟨by omega, by omega⟩, fun at_ x4 a0 a1 t4 => ?_⟩
  rw [List.set_set] at t4 ⊢
  refine ⟨i, _, 3, rfl, t4, by omega, by (first | exact mulc _ _ (by decide) (by decide) | exact mulr _ _ (by decide) (by decide) | exact ⟨by decide, by decide, by decide⟩ | exact ⟨by decide, by decide⟩ | exact mulb _ _ | exact ⟨by omega, by omega⟩ | exact mulc _ _ (by omega) (by omega) | exact mulr _ _ (by omega) (by omega) | exact div_small (by omega) (by omega) | exact ⟨by omega, by omega, by omega⟩ | omega | decide), fun w x5 w0 w1 t5 => ?_⟩
  rw [List.set_set] at t5 ⊢
  obtain ⟨a, rfl⟩ := Int.eq_ofNat_of_zero_le a0
  obtain ⟨stp, hstp, hix⟩ : ∃ stp : Int, (stp = 1 ∨ stp = 7 ∨ stp = 25) ∧ atI [D.int 1, D.int 7, D.int 25] w = some (.int stp) := by
    rcases (show w = 0 ∨ w = 1 ∨ w = 2 by omega) with rfl | rfl | rfl
    · exact ⟨1, .inl rfl, rfl⟩
    · exact ⟨7, .inr (.inl rfl), rfl⟩
    · exact ⟨25, .inr (.inr rfl), rfl⟩
  refine ⟨_, hix, ?_⟩
  have ln : (st.set i x5).length = st.length := List.length_set
  simp only [z4__law_names]
  (walk_at "lw_dd0")
  rw [S_len, S_cut, S_cut, cutD_to, cutN_drop]
  refine ⟨by omega, by omega, ?_⟩
  have hall : ∀ c ∈ cs.take a, Lt c := fun c hc => hcs c (List.mem_of_mem_take hc)
  have tall : ∀ c ∈ cs.drop a, Lt c := fun c hc => hcs c (List.mem_of_mem_drop hc)
  have hlen : (cs.take a).length + (cs.drop a).length ≤ 7 := by rw [List.length_take, List.length_drop]; omega
  generalize cs.take a = hd at hall hlen ⊢
  generalize cs.drop a = tl at tall hlen ⊢
  have ln' : (st.set i x5).length = st.length := ln
  generalize hs4 : st.set i x5 = s4 at t5 ln ⊢
  obtain ⟨W, hW, hW1, hW3⟩ : ∃ W : Nat, ((sh + a + cs.length) % 3 * (if tl = [] then 0 else 1) = (W : Int)) ∧ (1 ≤ W → tl ≠ []) ∧ W < 3 := by
    by_cases z : tl = []
    · exact ⟨0, by rw [if_pos z]; simp, fun h => by omega, by omega⟩
    · refine ⟨((sh + a + cs.length) % 3).toNat, by rw [if_neg z]; omega, fun _ => z, by omega⟩
  simp only [z5__law_names]
  (walk_at "lw_dd0")
  refine ⟨by omega, ?_⟩
  rw [Int.toNat_natCast]
  refine go_range m (fun j env s => s = s4 ++ [(List.range j).map fun k => D.str (S (nameK sh stp hd tl W k))] ∧ ∃ v5 v11 v12 : Option D, env = [some (.obj i), some (.int (m : Nat)), some (.str (Str.ofString "abcdefghijklmnopqrstuvwxyz")), some (.int sh), some (.str (S cs)), v5, some (.int (a : Nat)), some (.int stp), some (.obj s4.length), some (.str (S hd)), some (.str (S tl)), v11, v12]) ?_ ?_ _ _ ⟨rfl, none, none, none, rfl⟩
  · rintro j _ _ nx hj ⟨rfl, v5, v11, v12, rfl⟩ q2
    refine ⟨trivial, ?_⟩
    (walk_at "lw_dd0")
    simp only [b1__law_names]
    rw [S_nil]
    (try simp only [BEq.rfl, ↓e_v0, ↓e_vs, ↓e_c, ↓e_op, ↓e_un, ↓e_test, ↓e_testK, ↓e_tru, ↓e_truL, ↓e_truT, ↓e_truB, ↓e_truI, ↓e_truN, ↓e_truS, ↓e_not, ↓e_and, ↓e_or, ↓e_andv, ↓e_notv, ↓e_andK, ↓e_notK, ↓e_if, ↓e_nil, ↓e_cons, ↓e_tup, ↓e_lst, ↓e_new, ↓e_call, ↓e_drop, ↓e_ret, ↓e_pass, ↓e_ifS, ↓e_g0, ↓e_gs, ↓e_gnil, ↓e_gcons, ↓e_gtup, ↓e_asg, ↓e_par, ↓e_parK, ↓e_par3, ↓e_par3K, ↓e_no, ↓e_some, ↓e_someK, ↓e_cut, ↓e_b, ↓e_iter, ↓e_iterL, ↓e_iterT, ↓e_iterS, ↓e_rng1, ↓e_rng1K, ↓e_rng2, ↓e_rng2K, ↓e_rng3, ↓e_rng3K, ↓e_enum, ↓e_enumL, ↓e_enumT, ↓e_for, ↓e_lc, ↓e_lcNew, ↓e_meth, ↓e_isL, ↓e_sub, ↓e_isi, ↓e_yes, ↓e_addI, ↓e_addB, ↓e_addS, ↓e_addT, ↓e_addL, ↓e_subI, ↓e_mulI, ↓e_mulT, ↓e_mulL, ↓e_divI, ↓e_modI, ↓e_powI, ↓e_negI, ↓e_cmpI, ↓e_eq, ↓e_ne, ↓e_isn, ↓e_isnn, ↓e_isb, ↓e_ixL, ↓e_ixKL, ↓e_ixT, ↓e_cutL, ↓e_cutKL, ↓e_cutT, ↓e_lenL, ↓e_lenKL, ↓e_lenT, ↓e_abs, ↓e_intI, ↓e_intB, ↓e_max2, ↓e_listNL, ↓e_listNT, ↓e_tupL, ↓e_tupT, ↓e_sum1T, ↓e_sum1L, ↓e_max1T, ↓e_max1L, ↓e_drI, ↓e_drB, ↓e_drS, ↓e_drN, ↓e_drL, ↓e_drT, ↓e_seq, ↓e_back, ↓e_backL, ↓e_backT, ↓e_unlL, ↓e_inFlat, ↓e_drK, ↓e_addBI, ↓e_subBI, ↓e_subIB, ↓e_drG, ↓e_dnew, ↓e_dgetF, ↓e_dget2, ↓e_dgPut, ↓e_join, ↓e_joinL, ↓e_cutS, ↓e_mulS, ↓e_sortV, ↓e_tidx, ↓e_mulNewL, ↓e_sortedPL, ↓e_indexL, ↓e_max3, e_kyI, e_kyS, Nat.reduceAdd, Nat.zero_add, List.length_cons, List.length_nil, List.length_map, Nat.reduceLeDiff, and_true, true_and, if_true, ite_true, decide_eq_true_eq, Bool.not_eq_true, Bool.false_eq_true, if_false, ite_false, ↓reduceIte, Int.reduceToNat, Int.reducePow, ne_eq, q_okI, q_okB, q_okN, q_okS, q_okL, q_okT, q_oks0, q_oks1, q_eqII, q_eqBB, q_eqSS, q_eqLL, q_eqTT, q_eqNN, q_eqNI, q_eqIN, q_eqs0, q_eqs1, Bool.true_and, Bool.and_true, beq_iff_eq, reduceCtorEq, wipeE, List.set_cons_zero, List.set_cons_succ, List.set_nil, Bool.not_true, Bool.not_false, List.getElem?_cons_zero, List.getElem?_cons_succ, e_lenTx])
    have hb : (if (!S tl == S []) = true then (1 : Int) else 0) = if tl = [] then 0 else 1 := by
      by_cases z : tl = []
      · rw [if_pos z, z]
        rfl
      · rw [if_neg z, if_pos]
        rw [Bool.not_eq_true', beq_eq_false_iff_ne]
        exact fun e => z (S_inj e)
    rw [hb, hW]
    refine ⟨by omega, by omega, S_ok fun c hc => by (have := tall c hc; unfold Lt at this; omega), S_ok (cs := []) (fun c hc => absurd hc List.not_mem_nil), mulr _ _ (by split <;> omega) (by split <;> omega), ?_⟩
    simp only [z7__law_names]
    (walk_at "lw_dd0")
    have hx : atI [D.int (j : Nat), D.int ((j : Int) / 2), D.int (j : Nat)] (W : Int) = some (.int ((if W = 1 then (j / 2 : Nat) else (j : Nat) : Nat) : Int)) := by
      rcases (show W = 0 ∨ W = 1 ∨ W = 2 by omega) with rfl | rfl | rfl <;> rfl
    refine ⟨by (first | exact mulc _ _ (by decide) (by decide) | exact mulr _ _ (by decide) (by decide) | exact ⟨by decide, by decide, by decide⟩ | exact ⟨by decide, by decide⟩ | exact mulb _ _ | exact ⟨by omega, by omega⟩ | exact mulc _ _ (by omega) (by omega) | exact mulr _ _ (by omega) (by omega) | exact div_small (by omega) (by omega) | exact ⟨by omega, by omega, by omega⟩ | omega | decide), _, hx, ?_⟩
    have hidx : (if W = 1 then (j / 2 : Nat) else (j : Nat) : Nat) ≤ 26 := by split <;> omega
    have hname : nameK sh stp hd tl W j = hd ++ (97 + ((sh + stp * (((if W = 1 then (j / 2 : Nat) else (j : Nat) : Nat)) : Int)) % 26).toNat) :: (if W = 0 then tl else if W = 1 then (if j % 2 = 0 then [] else tl) else tl.take (j % (tl.length + 1))) := rfl
    generalize (if W = 1 then (j / 2 : Nat) else (j : Nat) : Nat) = idx at hidx hname ⊢
    (walk_at "lw_dd0")
    refine ⟨mulr _ _ (by rcases hstp with rfl | rfl | rfl <;> omega) (by omega), by decide, ?_⟩
    refine hltr _ (Int.emod_nonneg _ (by omega)) (Int.emod_lt_of_pos _ (by omega)) _ _ ?_
    generalize 97 + ((sh + stp * (idx : Int)) % 26).toNat = lt at hname ⊢
    simp only [z8__law_names]
    (walk_at "lw_dd0")
    refine ⟨by simp [isLst, deref], by rw [S_len, S_len, List.length_cons, List.length_nil]; omega, by decide, by omega, by omega, ?_⟩
    rw [e_lenTx]
    refine ⟨by omega, ?_⟩
    (walk_at "lw_dd0")
    refine ⟨by omega, ?_⟩
    rw [show ((j : Int) % ((tl.length : Int) + 1)) = ((j % (tl.length + 1) : Nat) : Int) from rfl]
    (walk_at "lw_dd0")
    rw [S_len, S_cut, cutD_to]
    refine ⟨by omega, ?_⟩
    obtain ⟨rest, hrest, hr2, hx2⟩ : ∃ rest : List Nat, rest = (if W = 0 then tl else if W = 1 then (if j % 2 = 0 then [] else tl) else tl.take (j % (tl.length + 1))) ∧ rest.length ≤ 7 ∧ atI [D.str (S tl), D.str (if (j : Int) % 2 < 1 then Str.empty else S tl), D.str (S (tl.take (j % (tl.length + 1))))] (W : Int) = some (.str (S rest)) := by
      rcases (show W = 0 ∨ W = 1 ∨ W = 2 by omega) with rfl | rfl | rfl
      · exact ⟨tl, rfl, by omega, rfl⟩
      · by_cases z : j % 2 = 0
        · exact ⟨[], by rw [if_neg (by decide), if_pos rfl, if_pos z], by simp, by rw [if_pos (by omega)]; rfl⟩
        · exact ⟨tl, by rw [if_neg (by decide), if_pos rfl, if_neg z], by omega, by rw [if_neg (by omega)]; rfl⟩
      · exact ⟨tl.take (j % (tl.length + 1)), rfl, by rw [List.length_take]; omega, rfl⟩
    refine ⟨_, hx2, ?_⟩
    rw [← hrest] at hname
    (walk_at "lw_dd0")
    rw [S_app, S_app, S_len, S_len, e_app (List.getElem?_concat_length ..), set_last]
    refine ⟨by rw [List.length_append, List.length_cons, List.length_nil]; omega, by rw [List.length_map, List.length_range]; omega, ?_⟩
    refine q2 _ _ ⟨?_, _, _, _, rfl⟩
    rw [List.range_succ, List.map_append, List.map_cons, List.map_nil, hname, List.append_assoc]
    rfl
  · rintro _ _ ⟨rfl, v5, v11, v12, rfl⟩
    refine ⟨trivial, ?_⟩
    simp only [z9__law_names]
    (walk_at "lw_dd0")
    rw [← hs4] at t5 ⊢
    refine frz_tape1 rfl t5 ?_ ?_
    · have := belows_txt st.length ((List.range m).map fun k => nameK sh stp hd tl W k)
      rw [List.map_map] at this
      exact this
    · rw [ln', show sub st.length ((List.range m).map fun k => D.str (S (nameK sh stp hd tl W k))) (.obj st.length) = .lst ((List.range m).map fun k => D.str (S (nameK sh stp hd tl W k))) by simp only [sub, if_true]]
      have := h ((List.range m).map fun k => nameK sh stp hd tl W k) x5 (by rw [List.length_map, List.length_range]) (fun z hz => by
        obtain ⟨k, _, rfl⟩ := List.mem_map.mp hz
        exact nameK_ok hlen hall tall) (by
        unfold List.Nodup
        rw [List.pairwise_map]
        refine List.Pairwise.imp_of_mem (fun {x y} hx hy ne e => ?_) (List.nodup_range (n := m))
        have h1 := List.mem_range.mp hx
        have h2 := List.mem_range.mp hy
        exact ne (nameK_inj hstp (fun w => hW1 (by omega)) (by omega) (by omega) e)) (t5.mono (by omega))
      rw [List.map_map] at this
      exact this
def t__law_standing : DS :=
    (dRet (dOp mulD (dOp addD (dOp mulD (dC (.int 2)) (dCall sp__law_draw (dCons (dVar 0) (dCons (dVar 1) dNil)))) (dC (.int 1))) (dOp ixD (dLst (dCons (dC (.int 1)) (dCons (dUn negD (dC (.int 1))) dNil))) (dCall sp__law_draw (dCons (dVar 0) (dCons (dC (.int 2)) dNil))))))
theorem st__law_standing (a0 a1 : D) : startD N__law_standing [a0, a1] = [some a0, some a1] := rfl
def sp__law_standing : SpD := fun ds st kk => ∃ (i n : Nat) (m : Int), ds = [.obj i, .int m] ∧ Tp i n st ∧ n < 900000000000 ∧ 1 ≤ m ∧ m < 1000000000000 ∧ ∀ (s : Int) xs, s % 2 = 1 → -(2 * m) < s → s < 2 * m → Tp i (n + 2) (st.set i xs) → kk (.int s) (st.set i xs)
theorem len__law_standing (ds : List D) (st : Sto) (kk : DK) (h : sp__law_standing ds st kk) : ds.length = 2 := by
  obtain ⟨i, n, m, rfl, _⟩ := h
  rfl
theorem p__law_standing : BodyD false N__law_standing sp__law_standing t__law_standing := by
  rintro ds st kk ⟨i, n, m, rfl, ht, hn, h1, h2, h⟩
  rw [st__law_standing]
  simp only [t__law_standing]
  (walk_at "lw_dd")
  refine ⟨i, n, m, rfl, ht, by omega, ⟨h1, by omega⟩, fun r1 x1 a1 b1 t1 => ?_⟩
  (walk_at "lw_dd")
  refine ⟨mul2 _, i, n + 1, 2, rfl, t1, by omega, ⟨by decide, by decide⟩, fun r2 x2 a2 b2 t2 => ?_⟩
  rw [List.set_set] at t2 ⊢
  (walk_at "lw_dd")
  rcases in2 a2 b2 with rfl | rfl
  · refine ⟨_, rfl, ?_⟩
    (walk_at "lw_dd")
    exact ⟨mulr _ _ (by decide) (by decide), h _ _ (by omega) (by omega) (by omega) t2⟩
  · refine ⟨_, rfl, ?_⟩
    (walk_at "lw_dd")
    exact ⟨mulr _ _ (by decide) (by decide), h _ _ (by omega) (by omega) (by omega) t2⟩
def e1__law_levels : DE :=
    (dVar 5)
def b1__law_levels : DS :=
    (dAsg (dB bMax2 (dCons (dOp ixD (dVar 1) (dVar 4)) (dCons (dOp addD (dOp ixD (dVar 1) (dVar 2)) (dC (.int 1))) dNil))) (dgSub (dVar 1) (dVar 4)))
def b2__law_levels : DS :=
    (dFor (dIter (dLc (dIter (dVar 3)) (dgName 5) (dNot (dTru (dIsi (dVar 5) ["str"]))) (e1__law_levels) [5])) (dgName 4) (b1__law_levels))
def t__law_levels : DS :=
    (dSeq (dAsg (dOp mulNewD (dLst (dCons (dC (.int 0)) dNil)) (dB bLen (dCons (dVar 0) dNil))) (dgName 1))
    (dSeq (dFor (dEnum (dVar 0)) (dgTup 2 (dgCons (dgName 2) (dgCons (dgName 3) dgNil))) (b2__law_levels))
    (dRet (dVar 1))))
theorem st__law_levels (a0 : D) : startD N__law_levels [a0] = [some a0, none, none, none, none, none] := rfl
theorem dropL_cons {w : Web} {k : Nat} {p : Ld × Ld} {r : Web} (e : w.drop k = p :: r) : k < w.length ∧ w[k]? = some p ∧ w.drop (k + 1) = r := by
  have hk : k < w.length := by
    have := congrArg List.length e
    rw [List.length_drop, List.length_cons] at this
    omega
  rw [List.drop_eq_getElem_cons hk] at e
  injection e with e1 e2
  exact ⟨hk, by rw [List.getElem?_eq_getElem hk, e1], e2⟩
theorem max_natsO {A : Sto} {f : List Nat} {k : DK} (h0 : 0 < f.length) (h : k (.int (topN f : Nat)) (A ++ [natsD f])) : bMax1 [.obj A.length] (A ++ [natsD f]) k := by
  have e : intsOf (A ++ [natsD f]) (.obj A.length) = some (f.map fun n : Nat => (n : Int)) := by
    unfold intsOf
    have g0 : deref (A ++ [natsD f]) (.obj A.length) = .lst (natsD f) := by simp [deref]
    rw [g0, nats_ints]
    exact intsD_map _
  simp only [bMax1, e]
  refine ⟨by rw [List.length_map]; exact h0, fun m hm hx => ?_⟩
  obtain ⟨a, ha, rfl⟩ := List.mem_map.mp hm
  have ea : a = topN f := Nat.le_antisymm (topN_le ha) (by
    rcases topN_mem f with z | z
    · omega
    · have := hx _ (List.mem_map.mpr ⟨_, z, rfl⟩)
      omega)
  subst ea
  exact h
def levF (k : Nat) (r : List Ld) (f : List Nat) : List Nat := r.foldl (fun f v => levL k v f) f
theorem lev_in (k : Nat) (a0 a3 v5 : Option D) (A : Sto) (rt : DK) (nx : DL.Env → Sto → Prop) : ∀ (r : List Ld) (f : List Nat) (v4 : Option D), (∀ v ∈ r, ∃ j, v = .bal j ∧ j < f.length) → k < f.length →
    (∀ u4, nx [a0, some (.obj A.length), some (.int (k : Nat)), a3, u4, v5] (A ++ [natsD (levF k r f)])) →
    goFor [] (dgName 4) b1__law_levels ⟨nx, rt⟩ (r.map Ld.d) [a0, some (.obj A.length), some (.int (k : Nat)), a3, v4, v5] (A ++ [natsD f])
  | [], f, v4, _, _, h => ⟨trivial, h _⟩
  | v :: r, f, v4, hr, hk, h => by
    obtain ⟨j, rfl, hj⟩ := hr v List.mem_cons_self
    refine ⟨trivial, ?_⟩
    simp only [Ld.d]
    (walk_at "lw_dd")
    simp only [b1__law_levels]
    (walk_at "lw_dd")
    have at_ : ∀ i, i < f.length → atI (natsD f) ((i : Nat) : Int) = some (.int ((f.getD i 0 : Nat) : Int)) := fun i hi => atI_some (f := fun n : Nat => D.int (n : Nat)) (by rw [List.getD_eq_getElem?_getD, List.getElem?_eq_getElem hi]; rfl)
    rw [e_ixO app_get]
    refine ⟨_, at_ j hj, ?_⟩
    rw [e_ixO app_get]
    refine ⟨_, at_ k hk, ?_⟩
    (walk_at "lw_dd")
    rw [e_setO app_get]
    refine ⟨j, ixN_of (by omega) (by rw [List.length_map]; omega), ?_⟩
    rw [app_set]
    have e : (natsD f).set j (.int (if ((f.getD k 0 : Nat) : Int) + 1 > ((f.getD j 0 : Nat) : Int) then ((f.getD k 0 : Nat) : Int) + 1 else ((f.getD j 0 : Nat) : Int))) = natsD (levL k (.bal j) f) := by
      unfold levL natsD
      rw [List.map_set]
      congr 2
      rw [Nat.max_def]
      split <;> split <;> omega
    rw [e]
    have ll : (levL k (.bal j) f).length = f.length := by simp [levL]
    exact lev_in k a0 a3 v5 A rt nx r _ _ (fun u hu => by rw [ll]; exact hr u (List.mem_cons_of_mem _ hu)) (by rw [ll]; exact hk) h
def isBal (v : Ld) : Bool := match v with | .bal _ => true | .out _ => false
theorem levF_filter (k : Nat) (p : Ld × Ld) (f : List Nat) : levF k ([p.1, p.2].filter isBal) f = levL k p.2 (levL k p.1 f) := by
  obtain ⟨a, b⟩ := p
  cases a <;> cases b <;> rfl
theorem lev_loop (w : Web) (nt : Nt w) (A : Sto) (rt : DK) (nx : DL.Env → Sto → Prop) : ∀ (r : Web) (k : Nat) (f : List Nat) (v2 v3 v4 v5 : Option D), w.drop k = r → f.length = w.length →
    (∀ u2 u3 u4 u5, nx [some (webD w), some (.obj A.length), u2, u3, u4, u5] (A ++ [natsD (levR k r f)])) →
    goFor [] (dgTup 2 (dgCons (dgName 2) (dgCons (dgName 3) dgNil))) b2__law_levels ⟨nx, rt⟩ (enumD k (r.map ldsD)) [some (webD w), some (.obj A.length), v2, v3, v4, v5] (A ++ [natsD f])
  | [], k, f, v2, v3, v4, v5, _, _, h => ⟨trivial, h _ _ _ _⟩
  | p :: r, k, f, v2, v3, v4, v5, e, hf, h => by
    obtain ⟨hk, hp, e2⟩ := dropL_cons e
    have l1 : leadW w k false = some p.1 := by unfold leadW; rw [hp]; rfl
    have l2 : leadW w k true = some p.2 := by unfold leadW; rw [hp]; rfl
    have ll : ∀ v (f : List Nat), (levL k v f).length = f.length := fun v f => by cases v <;> simp [levL]
    simp only [List.map_cons, enumD]
    refine ⟨trivial, ?_⟩
    (walk_at "lw_dd")
    simp only [b2__law_levels, ldsD]
    (walk_at "lw_dd0")
    intro _
    have ys : (["str"].any (subTy "str")) = true := by decide +kernel
    have yi : (["str"].any (subTy "int")) = false := by decide +kernel
    show goLc [] _ _ _ _ _ _ ([p.1, p.2].map Ld.d) [] _
    refine lc_filter (src := []) Ld.d Ld.d isBal _ trivial [p.1, p.2] [] (fun v hv k1 k2 q1 q2 => ?_) ?_
    · cases v with
      | bal j =>
        simp only [Ld.d] at q1 ⊢
        (try simp only [BEq.rfl, ↓e_v0, ↓e_vs, ↓e_c, ↓e_op, ↓e_un, ↓e_test, ↓e_testK, ↓e_tru, ↓e_truL, ↓e_truT, ↓e_truB, ↓e_truI, ↓e_truN, ↓e_truS, ↓e_not, ↓e_and, ↓e_or, ↓e_andv, ↓e_notv, ↓e_andK, ↓e_notK, ↓e_if, ↓e_nil, ↓e_cons, ↓e_tup, ↓e_lst, ↓e_new, ↓e_call, ↓e_drop, ↓e_ret, ↓e_pass, ↓e_ifS, ↓e_g0, ↓e_gs, ↓e_gnil, ↓e_gcons, ↓e_gtup, ↓e_asg, ↓e_par, ↓e_parK, ↓e_par3, ↓e_par3K, ↓e_no, ↓e_some, ↓e_someK, ↓e_cut, ↓e_b, ↓e_iter, ↓e_iterL, ↓e_iterT, ↓e_iterS, ↓e_rng1, ↓e_rng1K, ↓e_rng2, ↓e_rng2K, ↓e_rng3, ↓e_rng3K, ↓e_enum, ↓e_enumL, ↓e_enumT, ↓e_for, ↓e_lc, ↓e_lcNew, ↓e_forN, ↓e_forC, ↓e_lcN, ↓e_lcC, ↓e_srcN, ↓e_srcC, ↓e_meth, ↓e_isL, ↓e_sub, ↓e_isi, ↓e_yes, ↓e_addI, ↓e_addB, ↓e_addS, ↓e_addT, ↓e_addL, ↓e_subI, ↓e_mulI, ↓e_mulT, ↓e_mulL, ↓e_divI, ↓e_modI, ↓e_powI, ↓e_negI, ↓e_cmpI, ↓e_eq, ↓e_ne, ↓e_isn, ↓e_isnn, ↓e_isb, ↓e_ixL, ↓e_ixKL, ↓e_ixT, ↓e_cutL, ↓e_cutKL, ↓e_cutT, ↓e_lenL, ↓e_lenKL, ↓e_lenT, ↓e_abs, ↓e_intI, ↓e_intB, ↓e_max2, ↓e_listNL, ↓e_listNT, ↓e_tupL, ↓e_tupT, ↓e_sum1T, ↓e_sum1L, ↓e_max1T, ↓e_max1L, ↓e_drI, ↓e_drB, ↓e_drS, ↓e_drN, ↓e_drL, ↓e_drT, ↓e_seq, ↓e_back, ↓e_backL, ↓e_backT, ↓e_unlL, ↓e_inFlat, ↓e_drK, ↓e_addBI, ↓e_subBI, ↓e_subIB, ↓e_drG, ↓e_dnew, ↓e_dgetF, ↓e_dget2, ↓e_dgPut, ↓e_join, ↓e_joinL, ↓e_cutS, ↓e_mulS, ↓e_sortV, ↓e_tidx, ↓e_mulNewL, ↓e_sortedPL, ↓e_indexL, ↓e_max3, e_kyI, e_kyS, Nat.reduceAdd, Nat.zero_add, List.length_cons, List.length_nil, List.length_map, Nat.reduceLeDiff, and_true, true_and, if_true, ite_true, decide_eq_true_eq, Bool.not_eq_true, Bool.false_eq_true, if_false, ite_false, ↓reduceIte, Int.reduceToNat, Int.reducePow, ne_eq, q_okI, q_okB, q_okN, q_okS, q_okL, q_okT, q_oks0, q_oks1, q_eqII, q_eqBB, q_eqSS, q_eqLL, q_eqTT, q_eqNN, q_eqNI, q_eqIN, q_eqs0, q_eqs1, Bool.true_and, Bool.and_true, beq_iff_eq, reduceCtorEq, wipeE, List.set_cons_zero, List.set_cons_succ, List.set_nil, Bool.not_true, Bool.not_false, List.getElem?_cons_zero, List.getElem?_cons_succ, ty_int, yi])
        simp only [e1__law_levels]
        (walk_at "lw_dd")
        exact q1 rfl
      | out cs =>
        simp only [Ld.d]
        (try simp only [BEq.rfl, ↓e_v0, ↓e_vs, ↓e_c, ↓e_op, ↓e_un, ↓e_test, ↓e_testK, ↓e_tru, ↓e_truL, ↓e_truT, ↓e_truB, ↓e_truI, ↓e_truN, ↓e_truS, ↓e_not, ↓e_and, ↓e_or, ↓e_andv, ↓e_notv, ↓e_andK, ↓e_notK, ↓e_if, ↓e_nil, ↓e_cons, ↓e_tup, ↓e_lst, ↓e_new, ↓e_call, ↓e_drop, ↓e_ret, ↓e_pass, ↓e_ifS, ↓e_g0, ↓e_gs, ↓e_gnil, ↓e_gcons, ↓e_gtup, ↓e_asg, ↓e_par, ↓e_parK, ↓e_par3, ↓e_par3K, ↓e_no, ↓e_some, ↓e_someK, ↓e_cut, ↓e_b, ↓e_iter, ↓e_iterL, ↓e_iterT, ↓e_iterS, ↓e_rng1, ↓e_rng1K, ↓e_rng2, ↓e_rng2K, ↓e_rng3, ↓e_rng3K, ↓e_enum, ↓e_enumL, ↓e_enumT, ↓e_for, ↓e_lc, ↓e_lcNew, ↓e_forN, ↓e_forC, ↓e_lcN, ↓e_lcC, ↓e_srcN, ↓e_srcC, ↓e_meth, ↓e_isL, ↓e_sub, ↓e_isi, ↓e_yes, ↓e_addI, ↓e_addB, ↓e_addS, ↓e_addT, ↓e_addL, ↓e_subI, ↓e_mulI, ↓e_mulT, ↓e_mulL, ↓e_divI, ↓e_modI, ↓e_powI, ↓e_negI, ↓e_cmpI, ↓e_eq, ↓e_ne, ↓e_isn, ↓e_isnn, ↓e_isb, ↓e_ixL, ↓e_ixKL, ↓e_ixT, ↓e_cutL, ↓e_cutKL, ↓e_cutT, ↓e_lenL, ↓e_lenKL, ↓e_lenT, ↓e_abs, ↓e_intI, ↓e_intB, ↓e_max2, ↓e_listNL, ↓e_listNT, ↓e_tupL, ↓e_tupT, ↓e_sum1T, ↓e_sum1L, ↓e_max1T, ↓e_max1L, ↓e_drI, ↓e_drB, ↓e_drS, ↓e_drN, ↓e_drL, ↓e_drT, ↓e_seq, ↓e_back, ↓e_backL, ↓e_backT, ↓e_unlL, ↓e_inFlat, ↓e_drK, ↓e_addBI, ↓e_subBI, ↓e_subIB, ↓e_drG, ↓e_dnew, ↓e_dgetF, ↓e_dget2, ↓e_dgPut, ↓e_join, ↓e_joinL, ↓e_cutS, ↓e_mulS, ↓e_sortV, ↓e_tidx, ↓e_mulNewL, ↓e_sortedPL, ↓e_indexL, ↓e_max3, e_kyI, e_kyS, Nat.reduceAdd, Nat.zero_add, List.length_cons, List.length_nil, List.length_map, Nat.reduceLeDiff, and_true, true_and, if_true, ite_true, decide_eq_true_eq, Bool.not_eq_true, Bool.false_eq_true, if_false, ite_false, ↓reduceIte, Int.reduceToNat, Int.reducePow, ne_eq, q_okI, q_okB, q_okN, q_okS, q_okL, q_okT, q_oks0, q_oks1, q_eqII, q_eqBB, q_eqSS, q_eqLL, q_eqTT, q_eqNN, q_eqNI, q_eqIN, q_eqs0, q_eqs1, Bool.true_and, Bool.and_true, beq_iff_eq, reduceCtorEq, wipeE, List.set_cons_zero, List.set_cons_succ, List.set_nil, Bool.not_true, Bool.not_false, List.getElem?_cons_zero, List.getElem?_cons_succ, ty_str, ys])
        exact q2 rfl
    rw [List.nil_append]
    (walk_at "lw_dd0")
    intro _
    refine lev_in k _ _ _ A rt _ _ f _ (fun v hv => ?_) (by omega) fun u4 => ?_
    · obtain ⟨h1, h2⟩ := List.mem_filter.mp hv
      have : ∃ s, leadW w k s = some v := by
        rcases List.mem_cons.mp h1 with z | z
        · exact ⟨false, by rw [z]; exact l1⟩
        · rw [List.mem_singleton.mp z]; exact ⟨true, l2⟩
      obtain ⟨s, lv⟩ := this
      cases v with
      | bal j => exact ⟨j, rfl, by rw [hf]; exact (nt.fwd _ _ _ lv).2⟩
      | out cs => cases h2
    rw [levF_filter]
    exact lev_loop w nt A rt nx r (k + 1) _ _ _ _ _ e2 (by rw [ll, ll]; exact hf) h
def sp__law_levels : SpD := fun ds st kk => ∃ w : Web, ds = [webD w] ∧ Nt w ∧ w.length ≤ 1000 ∧ kk (.obj st.length) (st ++ [natsD (levN w)])
theorem len__law_levels (ds : List D) (st : Sto) (kk : DK) (h : sp__law_levels ds st kk) : ds.length = 1 := by
  obtain ⟨_, rfl, _⟩ := h
  rfl
theorem p__law_levels : BodyD false N__law_levels sp__law_levels t__law_levels := by
  rintro ds st kk ⟨w, rfl, nt, hn, h⟩
  rw [st__law_levels]
  simp only [t__law_levels]
  (walk_at "lw_dd0")
  show bLen [.tup (w.map ldsD)] _ _
  rw [e_lenT, List.length_map, e_mulNewL]
  refine ⟨by omega, by omega, by simp; omega, ?_⟩
  have e0 : (List.replicate ((w.length : Nat) : Int).toNat [D.int 0]).flatten = natsD (List.replicate w.length 0) := by
    rw [nats_nil, Int.toNat_natCast]
    induction w.length with
    | zero => rfl
    | succ n ih => rw [List.replicate_succ, List.flatten_cons, ih, List.replicate_succ]; rfl
  rw [e0]
  (walk_at "lw_dd0")
  show enumK _ (.tup (w.map ldsD)) _
  rw [e_enumT]
  intro _
  refine lev_loop w nt st _ _ w 0 _ _ _ _ _ rfl List.length_replicate fun u2 u3 u4 u5 => ?_
  (walk_at "lw_dd0")
  exact h
def e1__law_net : DE :=
    (dVar 11)
def z10__law_net : DS :=
    (dAsg (dOp addNewD (dVar 6) (dLst (dCons (dTup (dCons (dVar 9) (dCons (dC (.int 0)) dNil))) (dCons (dTup (dCons (dVar 9) (dCons (dC (.int 1)) dNil))) dNil)))) (dgName 6))
def z9__law_net : DS :=
    (dSeq (dAsg (dOp addD (dOp ixD (dVar 7) (dOp ixD (dVar 11) (dC (.int 0)))) (dC (.int 1))) (dgSub (dVar 7) (dVar 9)))
    (z10__law_net))
def z8__law_net : DS :=
    (dSeq (dAsg (dVar 9) (dgPut (dVar 8) (dVar 11)))
    (z9__law_net))
def z7__law_net : DS :=
    (dSeq (dDrop (dMeth mRemove (dVar 6) (dCons (dVar 11) dNil)))
    (z8__law_net))
def z5__law_net : DS :=
    (dIfS (dTest (dOp (eqOp true) (dVar 10) (dLst dNil))) (dSeq (dAsg (dOp ixD (dVar 10) (dCall sp__law_draw (dCons (dVar 0) (dCons (dB bLen (dCons (dVar 10) dNil)) dNil)))) (dgName 11))
    (z7__law_net)) dPass)
def b1__law_net : DS :=
    (dSeq (dAsg (dLc (dIter (dVar 6)) (dgName 11) (dTest (dOp (cmpI fun i j => decide (i < j)) (dOp addD (dOp ixD (dVar 7) (dOp ixD (dVar 11) (dC (.int 0)))) (dC (.int 1))) (dVar 3))) (e1__law_net) [11]) (dgName 10))
    (z5__law_net))
def e2__law_net : DE :=
    (dVar 9)
def z15__law_net : DS :=
    (dIfS (dAnd (dTru (dVar 4)) (dAnd (dTest (dOp (eqOp true) (dVar 13) (dLst dNil))) (dTest (dOp (eqOp false) (dCall sp__law_draw (dCons (dVar 0) (dCons (dC (.int 2)) dNil))) (dC (.int 0)))))) (dAsg (dOp ixD (dVar 13) (dCall sp__law_draw (dCons (dVar 0) (dCons (dB bLen (dCons (dVar 13) dNil)) dNil)))) (dgPut (dVar 8) (dVar 11))) dPass)
def z14__law_net : DS :=
    (dSeq (dAsg (dOp ixD (dVar 1) (dCall sp__law_draw (dCons (dVar 0) (dCons (dB bLen (dCons (dVar 1) dNil)) dNil)))) (dgPut (dVar 8) (dVar 11)))
    (z15__law_net))
def b2__law_net : DS :=
    (dSeq (dAsg (dLc (dIter (dVar 12)) (dgName 9) (dAnd (dTest (dOp (cmpI fun i j => decide (j < i)) (dVar 9) (dOp ixD (dVar 11) (dC (.int 0))))) (dTest (dOp (cmpI fun i j => decide (j < i)) (dOp ixD (dVar 7) (dVar 9)) (dOp ixD (dVar 7) (dOp ixD (dVar 11) (dC (.int 0))))))) (e2__law_net) [9]) (dgName 13))
    (z14__law_net))
def e3__law_net : DE :=
    (dTup (dCons (dVar 9) (dCons (dVar 15) dNil)))
def e4__law_net : DE :=
    (dGet2 (dVar 14) (dOp getD (dVar 8) (dTup (dCons (dVar 9) (dCons (dVar 16) dNil)))) (dOp getD (dVar 8) (dTup (dCons (dVar 9) (dCons (dVar 16) dNil)))))
def e5__law_net : DE :=
    (dB bTuple (dCons (dLc (dIter (dTup (dCons (dC (.int 0)) (dCons (dC (.int 1)) dNil)))) (dgName 16) dYes (e4__law_net) [16]) dNil))
def z18__law_net : DS :=
    (dRet (dB bTuple (dCons (dLc (dIter (dVar 12)) (dgName 9) dYes (e5__law_net) [9]) dNil)))
def z17__law_net : DS :=
    (dSeq (dAsg (dB bDictNew (dCons (dLc (dEnum (dVar 12)) (dgTup 2 (dgCons (dgName 15) (dgCons (dgName 9) dgNil))) dYes (e3__law_net) [15, 9]) dNil)) (dgName 14))
    (z18__law_net))
def z12__law_net : DS :=
    (dSeq (dFor (dIter (dB bSortedP (dCons (dVar 6) dNil))) (dgName 11) (b2__law_net))
    (z17__law_net))
def z11__law_net : DS :=
    (dSeq (dAsg (dOp addD (dLst (dCons (dC (.int 0)) dNil)) (dSortV (dVar 8))) (dgName 12))
    (z12__law_net))
def z3__law_net : DS :=
    (dSeq (dFor (dRng2 (dC (.int 1)) (dVar 5)) (dgName 9) (b1__law_net))
    (z11__law_net))
def z2__law_net : DS :=
    (dSeq (dAsg (dTup (dCons (dNew (dCons (dTup (dCons (dC (.int 0)) (dCons (dC (.int 0)) dNil))) (dCons (dTup (dCons (dC (.int 0)) (dCons (dC (.int 1)) dNil))) dNil))) (dCons (dOp mulNewD (dLst (dCons (dC (.int 0)) dNil)) (dVar 5)) (dCons (dNewD true) dNil)))) (dgTup 3 (dgCons (dgName 6) (dgCons (dgName 7) (dgCons (dgName 8) dgNil)))))
    (z3__law_net))
def t__law_net : DS :=
    (dSeq (dAsg (dOp addD (dC (.int 1)) (dCall sp__law_draw (dCons (dVar 0) (dCons (dVar 2) dNil)))) (dgName 5))
    (z2__law_net))
theorem st__law_net (a0 a1 a2 a3 a4 : D) : startD N__law_net [a0, a1, a2, a3, a4] = [some a0, some a1, some a2, some a3, some a4, none, none, none, none, none, none, none, none, none, none, none, none] := rfl
def sp__law_net : SpD := fun ds st kk => ∃ (i n : Nat) (names : List (List Nat)) (most high : Nat) (tog : Bool), ds = [.obj i, .lst (names.map fun z => .str (S z)), .int (most : Nat), .int (high : Nat), .bl tog] ∧ Tp i n st ∧ n < 100000000 ∧ 1 ≤ names.length ∧ names.length ≤ 100 ∧ (∀ z ∈ names, NameL z) ∧ 1 ≤ most ∧ most ≤ 20 ∧ 1 ≤ high ∧
  ∀ (w : Web) xs, WebOk names most high tog w → Tp i (n + 100) (st.set i xs) → kk (webD w) (st.set i xs)
theorem len__law_net (ds : List D) (st : Sto) (kk : DK) (h : sp__law_net ds st kk) : ds.length = 5 := by
  obtain ⟨_, _, _, _, _, _, rfl, _⟩ := h
  rfl
theorem p__law_net : BodyD true N__law_net sp__law_net t__law_net := by
  rintro ds st kk ⟨i, n, names, most, high, tog, rfl, ht, hn, n1, n100, hnm, m1, m20, g1, h⟩
  rw [st__law_net]
  simp only [t__law_net]
  (walk_at "lw_dd0")
  refine ⟨i, n, most, rfl, ht, by omega, ⟨by omega, by omega⟩, fun sz x1 s0 s1 t1 => ?_⟩
  (walk_at "lw_dd0")
  obtain ⟨z, rfl⟩ := Int.eq_ofNat_of_zero_le s0
  simp only [z2__law_net]
  (walk_at "lw_dd0")
  refine ⟨by omega, by omega, by omega, ?_⟩
  have si : i < st.length := ht.lt
  have l1 : (st.set i x1).length = st.length := List.length_set
  generalize hst : st.set i x1 = s1 at t1 l1 ⊢
  rw [show (List.replicate (1 + (z : Int)).toNat [D.int 0]).flatten = (List.replicate (z + 1) (0 : Int)).map D.int by
    rw [show (1 + (z : Int)).toNat = z + 1 by omega]
    generalize z + 1 = m
    induction m with
    | zero => rfl
    | succ m ih => rw [List.replicate_succ, List.flatten_cons, ih, List.replicate_succ, List.map_cons]; rfl]
  simp only [z3__law_net]
  (walk_at "lw_dd0")
  refine ⟨by omega, ?_⟩
  rw [show (1 + (z : Int) - 1).toNat = z by omega]
  have lA : ∀ ys : List D, (st.set i ys).length = st.length := fun ys => List.length_set
  rw [l1]
  simp only [List.length_append, List.length_cons, List.length_nil, l1, Nat.zero_add]
  refine go_from 1 z (fun j env s => ∃ (pi : Nat) (v9 v10 v11 : Option D) (ys : List D) (L : Sto) (ps : List Pn) (hs : List Int) (ls : List (Pn × Ld)) (ks : List Nat),
    env = [some (.obj i), some (.lst (names.map fun z => .str (S z))), some (.int (most : Nat)), some (.int (high : Nat)), some (.bl tog), some (.int (1 + (z : Int))), some (.obj (st.length + pi)), some (.obj (st.length + 1)), some (.dic true (st.length + 1 + 1)), v9, v10, v11, none, none, none, none, none] ∧
    s = st.set i ys ++ L ∧ Tp i (n + 1 + j) (st.set i ys) ∧ (∀ c ∈ L, belows 0 c = true) ∧ L[pi]? = some (ps.map pnD) ∧ pi ≠ 1 ∧ pi ≠ 2 ∧ L[1]? = some (hs.map D.int) ∧ L[2]? = some (tabR pnD Ld.d ls) ∧ G1 high (z + 1) (1 + j) ps hs ls ks) ?_ ?_ _ _ ?_
  · rintro j _ _ nx hj ⟨pi, v9, v10, v11, ys, L, ps, hs, ls, ks, rfl, rfl, tp, hb, hp, p1, p2, hh, hl, g⟩ q
    refine ⟨trivial, ?_⟩
    (walk_at "lw_dd0")
    simp only [b1__law_net]
    have gp : (st.set i ys ++ L)[st.length + pi]? = some (ps.map pnD) := by rw [sa_get (lA ys)]; exact hp
    (try simp only [BEq.rfl, ↓e_v0, ↓e_vs, ↓e_c, ↓e_op, ↓e_un, ↓e_test, ↓e_testK, ↓e_tru, ↓e_truL, ↓e_truT, ↓e_truB, ↓e_truI, ↓e_truN, ↓e_truS, ↓e_not, ↓e_and, ↓e_or, ↓e_andv, ↓e_notv, ↓e_andK, ↓e_notK, ↓e_if, ↓e_nil, ↓e_cons, ↓e_tup, ↓e_lst, ↓e_new, ↓e_call, ↓e_drop, ↓e_ret, ↓e_pass, ↓e_ifS, ↓e_g0, ↓e_gs, ↓e_gnil, ↓e_gcons, ↓e_gtup, ↓e_asg, ↓e_par, ↓e_parK, ↓e_par3, ↓e_par3K, ↓e_no, ↓e_some, ↓e_someK, ↓e_cut, ↓e_b, ↓e_iter, ↓e_iterL, ↓e_iterT, ↓e_iterS, ↓e_rng1, ↓e_rng1K, ↓e_rng2, ↓e_rng2K, ↓e_rng3, ↓e_rng3K, ↓e_enum, ↓e_enumL, ↓e_enumT, ↓e_for, ↓e_lc, ↓e_lcNew, ↓e_meth, ↓e_isL, ↓e_sub, ↓e_isi, ↓e_yes, ↓e_addI, ↓e_addB, ↓e_addS, ↓e_addT, ↓e_addL, ↓e_subI, ↓e_mulI, ↓e_mulT, ↓e_mulL, ↓e_divI, ↓e_modI, ↓e_powI, ↓e_negI, ↓e_cmpI, ↓e_eq, ↓e_ne, ↓e_isn, ↓e_isnn, ↓e_isb, ↓e_ixL, ↓e_ixKL, ↓e_ixT, ↓e_cutL, ↓e_cutKL, ↓e_cutT, ↓e_lenL, ↓e_lenKL, ↓e_lenT, ↓e_abs, ↓e_intI, ↓e_intB, ↓e_max2, ↓e_listNL, ↓e_listNT, ↓e_tupL, ↓e_tupT, ↓e_sum1T, ↓e_sum1L, ↓e_max1T, ↓e_max1L, ↓e_drI, ↓e_drB, ↓e_drS, ↓e_drN, ↓e_drL, ↓e_drT, ↓e_seq, ↓e_back, ↓e_backL, ↓e_backT, ↓e_unlL, ↓e_inFlat, ↓e_drK, ↓e_addBI, ↓e_subBI, ↓e_subIB, ↓e_drG, ↓e_dnew, ↓e_dgetF, ↓e_dget2, ↓e_dgPut, ↓e_join, ↓e_joinL, ↓e_cutS, ↓e_mulS, ↓e_sortV, ↓e_tidx, ↓e_mulNewL, ↓e_sortedPL, ↓e_indexL, ↓e_max3, e_kyI, e_kyS, Nat.reduceAdd, Nat.zero_add, List.length_cons, List.length_nil, List.length_map, Nat.reduceLeDiff, and_true, true_and, if_true, ite_true, decide_eq_true_eq, Bool.not_eq_true, Bool.false_eq_true, if_false, ite_false, ↓reduceIte, Int.reduceToNat, Int.reducePow, ne_eq, q_okI, q_okB, q_okN, q_okS, q_okL, q_okT, q_oks0, q_oks1, q_eqII, q_eqBB, q_eqSS, q_eqLL, q_eqTT, q_eqNN, q_eqNI, q_eqIN, q_eqs0, q_eqs1, Bool.true_and, Bool.and_true, beq_iff_eq, reduceCtorEq, wipeE, List.set_cons_zero, List.set_cons_succ, List.set_nil, Bool.not_true, Bool.not_false, List.getElem?_cons_zero, List.getElem?_cons_succ, e_iterO gp])
    have gh : (st.set i ys ++ L)[st.length + 1]? = some (hs.map D.int) := by rw [sa_get (lA ys)]; exact hh
    have inl : ∀ p ∈ ps, p.1 < hs.length := fun p hp => by
      have := g.lt p.1 ((g.pan p).mp hp).1
      rw [g.hl]
      omega
    refine fun hlen => ⟨hlen, ?_⟩
    have so : SrcOk [(st.length + pi, ps.map pnD)] (st.set i ys ++ L) := ⟨gp, trivial⟩
    refine lc_filter pnD pnD (fun p => decide (hs.getD p.1 0 + 1 < high)) _ so _ _ (fun p hp k1 k2 g1 g2 => ?_) ?_
    · simp only [e1__law_net]
      (walk_at "lw_dd0")
      simp only [pnD, e_ixT]
      refine ⟨_, rfl, ?_⟩
      rw [e_ixO gh]
      refine ⟨_, atI_int (inl p hp), ?_⟩
      (walk_at "lw_dd0")
      by_cases z : hs.getD p.1 0 + 1 < high
      · rw [if_pos z]
        exact g1 (decide_eq_true z)
      · rw [if_neg z]
        exact g2 (decide_eq_false z)
    rw [List.nil_append]
    simp only [z5__law_net]
    (walk_at "lw_dd0")
    have fm : ∀ p ∈ ps.filter (fun p => decide (hs.getD p.1 0 + 1 < high)), p ∈ ps ∧ hs.getD p.1 0 + 1 < high := fun p hp => by
      have := List.mem_filter.mp hp
      exact ⟨this.1, of_decide_eq_true this.2⟩
    have fl : (ps.filter (fun p => decide (hs.getD p.1 0 + 1 < high))).length ≤ ps.length := List.length_filter_le ..
    generalize ps.filter (fun p => decide (hs.getD p.1 0 + 1 < high)) = fr at fm fl ⊢
    refine ⟨pn_ok _ _, ?_⟩
    by_cases fe : fr = []
    · subst fe
      rw [if_neg (by simp [eqDs])]
      exact q _ _ ⟨pi, _, _, _, ys, L, ps, hs, ls, ks, rfl, rfl, tp.mono (by omega), hb, hp, p1, p2, hh, hl, g.skip (by omega)⟩
    rw [if_pos (by cases fr with | nil => exact absurd rfl fe | cons a r => simp [eqDs])]
    refine ⟨i, _, fr.length, rfl, Tp.app tp L, by omega, ⟨by have := List.length_pos_iff.mpr fe; omega, by omega⟩, fun r x2 r0 r1 t2 => ?_⟩
    obtain ⟨pn, hpn, hat⟩ := atI_map (f := pnD) r0 r1
    (walk_at "lw_dd0")
    refine ⟨_, hat, ?_⟩
    obtain ⟨hps, hlt⟩ := fm pn hpn
    have si2 : i < (st.set i ys).length := by rw [lA]; exact si
    rw [sa_seti (lA ys) si, List.set_set] at t2 ⊢
    have t2' := Tp.left t2 (by rw [lA]; exact si)
    obtain ⟨m, fm1, fm2⟩ := pn_find hps
    have gp : (st.set i x2 ++ L)[st.length + pi]? = some (ps.map pnD) := by rw [sa_get (lA x2)]; exact hp
    simp only [z7__law_net]
    (walk_at "lw_dd0")
    refine ⟨by simp [isLst, deref, gp], ?_⟩
    rw [e_remO gp]
    refine ⟨pn_ok _ _, by simp [deref, pnD, okD, okDs], m, fm1, ?_⟩
    rw [← erase_map, fm2, sa_set (lA x2)]
    have pl := (List.getElem?_eq_some_iff.mp hp).1
    have ll := (List.getElem?_eq_some_iff.mp hl).1
    simp only [z8__law_net]
    (walk_at "lw_dd0")
    have gl : (st.set i x2 ++ L.set pi ((ps.erase pn).map pnD))[st.length + 1 + 1]? = some (tabR pnD Ld.d ls) := by
      rw [show st.length + 1 + 1 = st.length + 2 from rfl, sa_get (lA x2), List.getElem?_set_ne p2]; exact hl
    have hj1 : some (D.int ((1 + j : Nat) : Int)) = some (Ld.d (.bal (1 + j))) := rfl
    rw [e_dput gl]
    refine ⟨rfl, ?_, okRows_tab, ?_⟩
    · have e := congrArg List.length g.vals
      have := g.len
      rw [List.length_map, List.length_map] at e
      rw [tabR_length]
      omega
    rw [show D.int ((1 + j : Nat) : Int) = Ld.d (.bal (1 + j)) from rfl, putR_tab keyN]
    rw [show st.length + 1 + 1 = st.length + 2 from rfl, sa_set (lA x2)]
    simp only [z9__law_net]
    (walk_at "lw_dd0")
    rw [show ∀ (s : Sto) (k : DK), ixD (pnD pn) (.int 0) s k = ∃ x, atI [D.int (pn.1 : Nat), D.int (sideI pn.2)] 0 = some x ∧ k x s from fun _ _ => rfl]
    refine ⟨_, rfl, ?_⟩
    obtain ⟨g', ln⟩ := g.put (by omega) hps hlt
    rw [putL_new ln]
    have gh : (st.set i x2 ++ (L.set pi ((ps.erase pn).map pnD)).set 2 (tabR pnD Ld.d (ls ++ [(pn, .bal (1 + j))])))[st.length + 1]? = some (hs.map D.int) := by
      rw [sa_get (lA x2), List.getElem?_set_ne (by decide), List.getElem?_set_ne p1]; exact hh
    rw [e_ixO gh]
    refine ⟨_, atI_int (inl pn hps), ?_⟩
    (walk_at "lw_dd0")
    rw [show (Ld.bal (1 + j)).d = D.int ((1 + j : Nat) : Int) from rfl, e_setO gh]
    refine ⟨1 + j, by rw [List.length_map, ixN_of (by omega) (by rw [g.hl]; omega), Int.toNat_natCast], ?_⟩
    rw [sa_set (lA x2)]
    simp only [z10__law_net]
    (walk_at "lw_dd0")
    have gp : (st.set i x2 ++ ((L.set pi ((ps.erase pn).map pnD)).set 2 (tabR pnD Ld.d (ls ++ [(pn, .bal (1 + j))]))).set 1 ((hs.map D.int).set (1 + j) (.int (hs.getD pn.1 0 + 1))))[st.length + pi]? = some ((ps.erase pn).map pnD) := by
      rw [sa_get (lA x2), List.getElem?_set_ne p1.symm, List.getElem?_set_ne p2.symm, List.getElem?_set_self pl]
    rw [e_addNewOL gp]
    refine ⟨?_, ?_⟩
    · have := g'.pl
      rw [List.length_append] at this
      rw [List.length_map]
      simp only [List.length_cons, List.length_nil] at this ⊢
      omega
    rw [List.append_assoc]
    refine q _ _ ⟨L.length, some (.int ((1 + j : Nat) : Int)), some (.lst (fr.map pnD)), some (pnD pn), x2, _, ps.erase pn ++ [(1 + j, false), (1 + j, true)], hs.set (1 + j) (hs.getD pn.1 0 + 1), ls ++ [(pn, .bal (1 + j))], ks ++ [1 + j], ?_, rfl, t2'.mono (by omega), ?_, ?_, ?_, ?_, ?_, ?_, g'⟩
    · simp only [List.length_append, List.length_set]
    · intro c hc
      rcases List.mem_append.mp hc with hc | hc
      · have key : ∀ {M : Sto} {a : Nat} {x : List D}, (∀ c ∈ M, belows 0 c = true) → belows 0 x = true → ∀ c ∈ M.set a x, belows 0 c = true := by
          intro M a x h1 h2 c hc
          rcases List.mem_or_eq_of_mem_set hc with z | z
          · exact h1 c z
          · rw [z]; exact h2
        refine key (key (key hb (pn_below 0 _)) (tabL_below 0 (ld_below 0) _)) ?_ c hc
        rw [← List.map_set]
        exact belows_int 0 _
      · rw [List.mem_singleton.mp hc]
        have := pn_below 0 (ps.erase pn ++ [(1 + j, false), (1 + j, true)])
        rw [List.map_append] at this
        exact this
    · rw [List.getElem?_append_right (by simp), show L.length - _ = 0 by simp, List.map_append]
      rfl
    · omega
    · omega
    · rw [List.getElem?_append_left (by simp; omega), List.getElem?_set_self (by simp; omega), List.map_set]
    · rw [List.getElem?_append_left (by simp; omega), List.getElem?_set_ne (by decide), List.getElem?_set_self (by simp; omega)]
  · rintro _ _ ⟨pi, v9, v10, v11, ys, L, ps, hs, ls, ks, rfl, rfl, tp, hb, hp, p1, p2, hh, hl, g⟩
    refine ⟨trivial, ?_⟩
    simp only [z11__law_net]
    (walk_at "lw_dd0")
    have gl : (st.set i ys ++ L)[st.length + 1 + 1]? = some (tabR pnD Ld.d ls) := by
      rw [show st.length + 1 + 1 = st.length + 2 from rfl, sa_get (lA ys)]; exact hl
    have hks : ks.length < 64 := by have := g.len; omega
    have hvals : intsD (valsR (tabR pnD Ld.d ls)) = some (ks.map fun k => ((k : Nat) : Int)) := by
      rw [valsR_tab, show (ls.map fun p => p.2.d) = (ls.map (·.2)).map Ld.d by rw [List.map_map]; rfl, g.vals, List.map_map]
      rw [show (ks.map (Ld.d ∘ Ld.bal)) = (ks.map fun k => ((k : Nat) : Int)).map D.int by rw [List.map_map]; rfl, intsD_map]
    rw [e_sortVK gl hvals, List.length_map]
    refine ⟨hks, ?_⟩
    have hsrt : sortZ (ks.map fun k => ((k : Nat) : Int)) = ks.map fun k => ((k : Nat) : Int) := by
      refine (sortZ_of (.refl _) ?_).symm
      rw [List.pairwise_map]
      exact g.inc.of_cons.imp fun h => by omega
    rw [hsrt, e_addL]
    refine ⟨by simp; omega, ?_⟩
    rw [show [D.int 0] ++ (ks.map fun k => ((k : Nat) : Int)).map D.int = (0 :: ks).map fun k => D.int ((k : Nat) : Int) by rw [List.map_map]; rfl]
    simp only [z12__law_net]
    (walk_at "lw_dd0")
    have gp : (st.set i ys ++ L)[st.length + pi]? = some (ps.map pnD) := by rw [sa_get (lA ys)]; exact hp
    rw [e_sortedPO gp]
    refine ⟨pn_pair _, fun es pe => ?_⟩
    obtain ⟨qs, rfl, pq⟩ := perm_map pe
    clear pe
    have qlen : qs.length ≤ z + 2 := by
      rw [pq.length_eq]
      have := g.pl
      omega
    (walk_at "lw_dd0")
    refine fun _ => ?_
    have hls : ls.length ≤ z := by
      have e := congrArg List.length g.vals
      have := g.len
      rw [List.length_map, List.length_map] at e
      omega
    have hnd : qs.Nodup := pq.nodup_iff.mpr g.nd
    refine go_for pnD (fun r env s => ∃ (v9 v11 v13 : Option D) (ys : List D) (ds : List Pn) (l2 : List (Pn × Ld)),
      env = [some (.obj i), some (.lst (names.map fun z => .str (S z))), some (.int (most : Nat)), some (.int (high : Nat)), some (.bl tog), some (.int (1 + (z : Int))), some (.obj (st.length + pi)), some (.obj (st.length + 1)), some (.dic true (st.length + 1 + 1)), v9, v10, v11, some (.lst ((0 :: ks).map fun k => .int ((k : Nat) : Int))), v13, none, none, none] ∧
      s = st.set i ys ++ L.set 2 (tabR pnD Ld.d l2) ∧ Tp i (n + 1 + z + 3 * ds.length) (st.set i ys) ∧ qs = ds ++ r ∧ l2.length ≤ ls.length + ds.length ∧ (∀ p ∈ ds, ∃ v, look l2 p = some v ∧ Good names tog hs (0 :: ks) p v) ∧ ∀ p ∉ ds, look l2 p = look ls p) ?_ ?_ _ _ _ ?_
    · rintro p r _ _ nx ⟨v9, v11, v13, ys, ds, l2, rfl, rfl, tp, hq, hl2, hgood, hold⟩ q
      refine ⟨trivial, ?_⟩
      (walk_at "lw_dd0")
      simp only [b2__law_net]
      (walk_at "lw_dd0")
      have gh : (st.set i ys ++ L.set 2 (tabR pnD Ld.d l2))[st.length + 1]? = some (hs.map D.int) := by
        rw [sa_get (lA ys), List.getElem?_set_ne (by decide)]; exact hh
      have hp1 : p ∈ ps := pq.mem_iff.mp (by rw [hq]; simp)
      have pin := ((g.pan p).mp hp1).1
      have tin : ∀ k ∈ 0 :: ks, k < hs.length := fun k hk => by
        have := g.lt k hk
        rw [g.hl]
        omega
      have pd : p ∉ ds := fun z => by
        have := hnd
        rw [hq, List.nodup_append] at this
        exact this.2.2 p z p List.mem_cons_self rfl
      refine fun kl => ⟨kl, ?_⟩
      refine lc_filter (fun k : Nat => D.int (k : Nat)) (fun k : Nat => D.int (k : Nat)) (fun k => decide (p.1 < k ∧ hs.getD p.1 0 < hs.getD k 0)) _ (by exact trivial) _ _ (fun k hk k1 k2 g1 g2 => ?_) ?_
      · simp only [e2__law_net]
        (walk_at "lw_dd0")
        rw [show ∀ (s : Sto) (k : DK), ixD (pnD p) (.int 0) s k = ∃ x, atI [D.int (p.1 : Nat), D.int (sideI p.2)] 0 = some x ∧ k x s from fun _ _ => rfl]
        refine ⟨_, rfl, ?_⟩
        (walk_at "lw_dd0")
        by_cases z1 : p.1 < k
        · rw [if_pos (by omega), e_ixO gh]
          refine ⟨_, atI_int (tin k hk), ?_⟩
          rw [show ∀ (s : Sto) (k : DK), ixD (pnD p) (.int 0) s k = ∃ x, atI [D.int (p.1 : Nat), D.int (sideI p.2)] 0 = some x ∧ k x s from fun _ _ => rfl]
          refine ⟨_, rfl, ?_⟩
          rw [e_ixO gh]
          refine ⟨_, atI_int (tin _ pin), ?_⟩
          (walk_at "lw_dd0")
          by_cases z2 : hs.getD p.1 0 < hs.getD k 0
          · rw [if_pos z2]
            exact g1 (decide_eq_true ⟨z1, z2⟩)
          · rw [if_neg z2]
            exact g2 (decide_eq_false fun w => z2 w.2)
        · rw [if_neg (by omega)]
          exact g2 (decide_eq_false fun w => z1 w.1)
      rw [List.nil_append]
      have fm : ∀ k ∈ (0 :: ks).filter (fun k => decide (p.1 < k ∧ hs.getD p.1 0 < hs.getD k 0)), k ∈ 0 :: ks ∧ p.1 < k ∧ hs.getD p.1 0 < hs.getD k 0 := fun k hk => by
        have := List.mem_filter.mp hk
        exact ⟨this.1, of_decide_eq_true this.2⟩
      have fl := List.length_filter_le (fun k => decide (p.1 < k ∧ hs.getD p.1 0 < hs.getD k 0)) (0 :: ks)
      generalize (0 :: ks).filter (fun k => decide (p.1 < k ∧ hs.getD p.1 0 < hs.getD k 0)) = fr at fm fl ⊢
      have dl : ds.length ≤ z + 2 := by
        rw [hq, List.length_append] at qlen
        omega
      simp only [z14__law_net]
      (walk_at "lw_dd0")
      rw [List.length_cons] at fl
      have fin : ∀ (ys2 : List D) (l3 : List (Pn × Ld)) (v : Ld) (w9 w11 w13 : Option D), Tp i (n + 1 + z + 3 * (ds.length + 1)) (st.set i ys2) → l3.length ≤ ls.length + (ds.length + 1) → look l3 p = some v → Good names tog hs (0 :: ks) p v → (∀ x, x ≠ p → look l3 x = look l2 x) →
          nx [some (.obj i), some (.lst (names.map fun z => .str (S z))), some (.int (most : Nat)), some (.int (high : Nat)), some (.bl tog), some (.int (1 + (z : Int))), some (.obj (st.length + pi)), some (.obj (st.length + 1)), some (.dic true (st.length + 1 + 1)), w9, v10, w11, some (.lst ((0 :: ks).map fun k => .int ((k : Nat) : Int))), w13, none, none, none] (st.set i ys2 ++ L.set 2 (tabR pnD Ld.d l3)) := by
        intro ys2 l3 v w9 w11 w13 h1 h2 h3 h4 h5
        refine q _ _ ⟨w9, w11, w13, ys2, ds ++ [p], l3, rfl, rfl, by rw [List.length_append]; exact h1, by rw [hq, List.append_assoc]; rfl, by rw [List.length_append]; exact h2, fun x hx => ?_, fun x hx => ?_⟩
        · rcases List.mem_append.mp hx with hx | hx
          · have ne : x ≠ p := fun e => pd (e ▸ hx)
            obtain ⟨v', e1, e2⟩ := hgood x hx
            exact ⟨v', (h5 x ne).trans e1, e2⟩
          · rw [List.mem_singleton.mp hx]
            exact ⟨v, h3, h4⟩
        · have ne : x ≠ p := fun e => hx (by rw [e]; simp)
          exact (h5 x ne).trans (hold x fun z => hx (List.mem_append_left _ z))
      refine ⟨i, _, names.length, rfl, Tp.app tp _, by omega, ⟨by omega, by omega⟩, fun r x2 r0 r1 t2 => ?_⟩
      rw [sa_seti (lA ys) si, List.set_set] at t2 ⊢
      have t2' := Tp.left t2 (by rw [lA]; exact si)
      obtain ⟨cs, hcs, hat⟩ := atI_map (f := fun z => D.str (S z)) r0 r1
      (walk_at "lw_dd0")
      refine ⟨_, hat, ?_⟩
      have ll := (List.getElem?_eq_some_iff.mp hl).1
      have gl : ∀ (x : List D) (l : List (Pn × Ld)), (st.set i x ++ L.set 2 (tabR pnD Ld.d l))[st.length + 1 + 1]? = some (tabR pnD Ld.d l) := fun x l => by
        rw [show st.length + 1 + 1 = st.length + 2 from rfl, sa_get (lA x), List.getElem?_set_self ll]
      rw [e_dput (gl _ _)]
      refine ⟨rfl, by rw [tabR_length]; omega, okRows_tab, ?_⟩
      rw [show D.str (S cs) = Ld.d (.out cs) from rfl, putR_tab keyN, show st.length + 1 + 1 = st.length + 2 from rfl, sa_set (lA x2), List.set_set]
      have lk : ∀ v, look (putL l2 p v) p = some v := fun v => by rw [look_put, if_pos rfl]
      have lo : ∀ v x, x ≠ p → look (putL l2 p v) x = look l2 x := fun v x ne => by rw [look_put, if_neg ne]
      have ln : ∀ v, (putL l2 p v).length ≤ ls.length + (ds.length + 1) := fun v => by have := putL_length l2 p v; omega
      simp only [z15__law_net]
      (walk_at "lw_dd0")
      cases tog with
      | false =>
        (walk_at "lw_dd0")
        exact fin _ _ _ _ _ _ (t2'.mono (by omega)) (ln _) (lk _) (.inl ⟨cs, hcs, rfl⟩) (lo _)
      | true =>
        (walk_at "lw_dd0")
        have okf : ∀ fr : List Nat, okDs 59 (fr.map fun k => D.int ((k : Nat) : Int)) = true := fun fr => by
          have := okDs_int 59 (fr.map fun k => ((k : Nat) : Int))
          rw [List.map_map] at this
          exact this
        refine ⟨okf _, ?_⟩
        by_cases fe : fr = []
        · subst fe
          rw [if_neg (by simp [eqDs])]
          exact fin _ _ _ _ _ _ (t2'.mono (by omega)) (ln _) (lk _) (.inl ⟨cs, hcs, rfl⟩) (lo _)
        rw [if_pos (by cases fr with | nil => exact absurd rfl fe | cons a r => simp [eqDs])]
        refine ⟨i, _, 2, rfl, Tp.app t2' _, by omega, ⟨by omega, by omega⟩, fun r2 x3 r20 r21 t3 => ?_⟩
        rw [sa_seti (lA x2) si, List.set_set] at t3 ⊢
        have t3' := Tp.left t3 (by rw [lA]; exact si)
        (walk_at "lw_dd0")
        by_cases r2z : r2 = 0
        rotate_left
        · rw [if_neg r2z]
          exact fin _ _ _ _ _ _ (t3'.mono (by omega)) (ln _) (lk _) (.inl ⟨cs, hcs, rfl⟩) (lo _)
        rw [if_pos r2z]
        refine ⟨i, _, fr.length, rfl, Tp.app t3' _, by omega, ⟨by have := List.length_pos_iff.mpr fe; omega, by omega⟩, fun r3 x4 r30 r31 t4 => ?_⟩
        rw [sa_seti (lA x3) si, List.set_set] at t4 ⊢
        have t4' := Tp.left t4 (by rw [lA]; exact si)
        obtain ⟨kb, hkb, hat2⟩ := atI_map (f := fun k : Nat => D.int (k : Nat)) r30 r31
        (walk_at "lw_dd0")
        refine ⟨_, hat2, ?_⟩
        have gl2 := gl x4 (putL l2 p (Ld.out cs))
        rw [show st.length + 1 + 1 = st.length + 2 from rfl] at gl2
        rw [e_dput gl2]
        refine ⟨rfl, by have := ln (Ld.out cs); rw [tabR_length]; omega, okRows_tab, ?_⟩
        rw [show D.int (kb : Nat) = Ld.d (.bal kb) from rfl, putR_tab keyN, sa_set (lA x4), List.set_set]
        have lk2 : look (putL (putL l2 p (.out cs)) p (.bal kb)) p = some (.bal kb) := by rw [look_put, if_pos rfl]
        have lo2 : ∀ x, x ≠ p → look (putL (putL l2 p (.out cs)) p (.bal kb)) x = look l2 x := fun x ne => by rw [look_put, if_neg ne, lo _ x ne]
        have ln2 : (putL (putL l2 p (.out cs)) p (.bal kb)).length ≤ ls.length + (ds.length + 1) := by
          rw [putL_len_in (by rw [lk]; rfl)]
          exact ln _
        exact fin _ _ _ _ _ _ (t4'.mono (by omega)) ln2 lk2 (.inr ⟨rfl, kb, (fm kb hkb).1, rfl, (fm kb hkb).2⟩) lo2
    · rintro _ _ ⟨v9, v11, v13, ys, ds, l2, rfl, rfl, tp, hq, hl2, hgood, hold⟩
      refine ⟨trivial, ?_⟩
      simp only [z17__law_net]
      (walk_at "lw_dd0")
      rw [enum_nat]
      refine fun kl => ⟨by rw [List.length_map, List.length_zipIdx, List.length_cons]; omega, ?_⟩
      refine lc_map (fun p : Nat × Nat => D.tup [.int (p.2 : Nat), .int (p.1 : Nat)]) (fun p : Nat × Nat => D.tup [.int (p.1 : Nat), .int (p.2 : Nat)]) _ _ (by exact trivial) _ (fun p hp kd k => ?_) ?_
      · simp only [e3__law_net]
        (walk_at "lw_dd0")
        exact k
      rw [List.nil_append, e_dictL (pairs_numT _ _)]
      rw [show ((0 :: ks).zipIdx.map fun p => (D.int (p.1 : Nat), D.int (p.2 : Nat))) = (numT (0 :: ks)).map fun p => (p.1.d, D.int (p.2 : Nat)) by unfold numT; rw [List.map_map]; rfl]
      have gnd : (0 :: ks).Nodup := g.inc.imp fun h => by omega
      have em : mergeR false [] ((numT (0 :: ks)).map fun p => (p.1.d, D.int (p.2 : Nat))) = tabR Ld.d (fun i : Nat => .int (i : Nat)) (numT (0 :: ks)) := by
        have := merge_tab (f := fun i : Nat => D.int (i : Nat)) keyL (numT (0 :: ks)) []
        rw [fold_new _ _ (by simpa using numT_nd gnd)] at this
        exact this
      rw [em]
      simp only [z18__law_net]
      (walk_at "lw_dd0")
      refine fun kl2 => ⟨kl2, ?_⟩
      have lL : (st.set i ys ++ L.set 2 (tabR pnD Ld.d l2)).length = st.length + L.length := by rw [List.length_append, lA, List.length_set]
      have ll := (List.getElem?_eq_some_iff.mp hl).1
      have gd : (st.set i ys ++ L.set 2 (tabR pnD Ld.d l2) ++ [tabR Ld.d (fun k : Nat => D.int (k : Nat)) (numT (0 :: ks))])[st.length + 1 + 1]? = some (tabR pnD Ld.d l2) := by
        rw [List.getElem?_append_left (by rw [lL]; omega), show st.length + 1 + 1 = st.length + 2 from rfl, sa_get (lA ys), List.getElem?_set_self ll]
      have gn : (st.set i ys ++ L.set 2 (tabR pnD Ld.d l2) ++ [tabR Ld.d (fun k : Nat => D.int (k : Nat)) (numT (0 :: ks))])[(st.set i ys ++ L.set 2 (tabR pnD Ld.d l2)).length]? = some (tabR Ld.d (fun k : Nat => D.int (k : Nat)) (numT (0 :: ks))) := List.getElem?_concat_length ..
      have hds : ∀ p, p ∈ ds ↔ p ∈ ps := fun p => by
        rw [List.append_nil] at hq
        rw [← hq]
        exact pq.mem_iff
      have every : ∀ k ∈ 0 :: ks, ∀ s, ∃ v, look l2 (k, s) = some v ∧ ∀ b, v = .bal b → b ∈ 0 :: ks := by
        intro k hk s
        by_cases q : (k, s) ∈ ps
        · obtain ⟨v, e1, e2⟩ := hgood _ ((hds _).mpr q)
          refine ⟨v, e1, fun b hb => ?_⟩
          rcases e2 with ⟨cs, _, z⟩ | ⟨_, b', hb', z, _⟩
          · rw [hb] at z; cases z
          · rw [hb] at z
            cases z
            exact hb'
        · have : (k, s) ∈ ls.map (·.1) := by
            apply Classical.byContradiction
            intro z
            exact q ((g.pan _).mpr ⟨hk, z⟩)
          obtain ⟨⟨p, v⟩, m, e⟩ := List.mem_map.mp this
          have e' : p = (k, s) := e
          subst e'
          refine ⟨v, (hold _ fun z => q ((hds _).mp z)).trans (look_of_mem g.kd m), fun b hb => ?_⟩
          have hv : v ∈ ls.map (·.2) := List.mem_map.mpr ⟨_, m, rfl⟩
          rw [g.vals] at hv
          obtain ⟨k', hk', e⟩ := List.mem_map.mp hv
          rw [hb] at e
          cases e
          exact List.mem_cons_of_mem _ hk'
      refine lc_map (fun k : Nat => D.int (k : Nat)) (fun k : Nat => ldsD (numL (0 :: ks) ((look l2 (k, false)).getD (.bal 0)), numL (0 :: ks) ((look l2 (k, true)).getD (.bal 0)))) _ _ (by exact trivial) _ (fun k hk kd hkd => ?_) ?_
      · simp only [e5__law_net]
        (walk_at "lw_dd0")
        refine fun _ => ⟨trivial, ?_⟩
        have one : ∀ (s : Bool) (kd2 : DK), kd2 (numL (0 :: ks) ((look l2 (k, s)).getD (.bal 0))).d (st.set i ys ++ L.set 2 (tabR pnD Ld.d l2) ++ [tabR Ld.d (fun k : Nat => D.int (k : Nat)) (numT (0 :: ks))]) →
            e4__law_net [some (.obj i), some (.lst (names.map fun z => .str (S z))), some (.int (most : Nat)), some (.int (high : Nat)), some (.bl tog), some (.int (1 + (z : Int))), some (.obj (st.length + pi)), some (.obj (st.length + 1)), some (.dic true (st.length + 1 + 1)), some (.int (k : Nat)), v10, v11, some (.lst ((0 :: ks).map fun k => .int ((k : Nat) : Int))), v13, some (.dic false (st.set i ys ++ L.set 2 (tabR pnD Ld.d l2)).length), none, some (.int (sideI s))] (st.set i ys ++ L.set 2 (tabR pnD Ld.d l2) ++ [tabR Ld.d (fun k : Nat => D.int (k : Nat)) (numT (0 :: ks))]) kd2 := by
          intro s kd2 h2
          obtain ⟨v, e1, e2⟩ := every k hk s
          simp only [e4__law_net]
          (walk_at "lw_dd0")
          refine ⟨e_dsome gn, ?_⟩
          rw [e_dget gd]
          refine ⟨rfl, v.d, by rw [show D.tup [D.int (k : Nat), D.int (sideI s)] = pnD (k, s) from rfl, valR_tab keyN, e1]; rfl, ?_⟩
          rw [e_dget gd]
          refine ⟨rfl, v.d, by rw [show D.tup [D.int (k : Nat), D.int (sideI s)] = pnD (k, s) from rfl, valR_tab keyN, e1]; rfl, ?_⟩
          rw [e_dgetOr gn, valR_tab keyL]
          refine ⟨keyL.some v, ?_⟩
          rw [e1, Option.getD_some] at h2
          cases v with
          | out cs => rw [numT_out]; exact h2
          | bal b => rw [numT_bal gnd (e2 b rfl)]; exact h2
        refine one false _ ⟨trivial, one true _ ⟨trivial, ?_⟩⟩
        exact hkd
      rw [List.nil_append]
      rw [show ((0 :: ks).map fun k : Nat => ldsD (numL (0 :: ks) ((look l2 (k, false)).getD (.bal 0)), numL (0 :: ks) ((look l2 (k, true)).getD (.bal 0)))) = (webOf (0 :: ks) (look l2)).map ldsD by unfold webOf; rw [List.map_map]; rfl]
      rw [List.append_assoc]
      have wb : below 0 (webD (webOf (0 :: ks) (look l2))) = true := by
        unfold webD
        simp only [below]
        generalize webOf (0 :: ks) (look l2) = W
        induction W with
        | nil => rfl
        | cons p r ih => simp only [List.map_cons, belows, below, ldsD, ld_below, Bool.true_and, ih]
      refine frz_tapeN rfl tp (fun c hc => ?_) ?_
      · rcases List.mem_append.mp hc with hc | hc
        · rcases List.mem_or_eq_of_mem_set hc with z | z
          · exact hb c z
          · rw [z]; exact tabL_below 0 (ld_below 0) _
        · rw [List.mem_singleton.mp hc]
          generalize numT (0 :: ks) = W
          induction W with
          | nil => rfl
          | cons p r ih =>
            unfold tabR at ih ⊢
            simp only [List.map_cons, belows, below, ld_below, Bool.true_and, ih]
      · rw [show D.tup ((webOf (0 :: ks) (look l2)).map ldsD) = webD (webOf (0 :: ks) (look l2)) from rfl, frzs_closed wb]
        exact h _ _ (web_ok g (by omega) (fun p hp => hgood p ((hds p).mpr hp)) (fun p hp => hold p fun z => hp ((hds p).mp z))) (tp.mono (by
          rw [List.append_nil] at hq
          rw [hq] at qlen
          omega))
    · refine ⟨v9, v11, none, ys, [], ls, ?_, ?_, tp.mono (by omega), rfl, by simp, fun p hp => (by cases hp), fun p _ => rfl⟩
      · rfl
      · have : L.set 2 (tabR pnD Ld.d ls) = L := set_same hl
        rw [this]
  · refine ⟨0, none, none, none, x1, [[D.tup [.int 0, .int 0], .tup [.int 0, .int 1]], (List.replicate (z + 1) (0 : Int)).map D.int, []], [(0, false), (0, true)], List.replicate (z + 1) 0, [], [], ?_, ?_, ?_, ?_, rfl, by decide, by decide, rfl, rfl, G1.start (by omega) (by omega)⟩
    · rfl
    · rw [hst]
      simp
    · rw [hst]
      exact t1
    · intro c hc
      rcases List.mem_cons.mp hc with e | hc
      · rw [e]
        rfl
      rcases List.mem_cons.mp hc with e | hc
      · rw [e]
        exact belows_int 0 _
      · rw [List.mem_singleton.mp hc]
        rfl
def b1__law_gone : DS :=
    (dSeq (dAsg (dB bInt (dCons (dOp (cmpI fun i j => decide (j < i)) (dOp ixD (dVar 4) (dVar 3)) (dC (.int 0))) dNil)) (dgName 6))
    (dSeq (dDrop (dMeth mAppend (dVar 5) (dCons (dTup (dCons (dVar 3) (dCons (dVar 6) dNil))) dNil)))
    (dSeq (dAsg (dOp addD (dOp ixD (dVar 4) (dVar 3)) (dOp mulD (dOp mulD (dC (.int 2)) (dVar 2)) (dOp subD (dC (.int 1)) (dOp mulD (dC (.int 2)) (dVar 6))))) (dgSub (dVar 4) (dVar 3)))
    (dAsg (dOp ixD (dOp ixD (dVar 0) (dVar 3)) (dVar 6)) (dgName 3)))))
def t__law_gone : DS :=
    (dSeq (dPar3 3 4 5 (dCons (dC (.int 0)) (dCons (dB bListNew (dCons (dVar 1) dNil)) (dCons (dNew dNil) dNil))))
    (dSeq (dWhile (dNot (dTru (dIsi (dVar 3) ["str"]))) (b1__law_gone))
    (dRet (dTup (dCons (dVar 5) (dCons (dVar 3) (dCons (dB bTuple (dCons (dVar 4) dNil)) dNil)))))))
theorem st__law_gone (a0 a1 a2 : D) : startD N__law_gone [a0, a1, a2] = [some a0, some a1, some a2, none, none, none, none] := rfl
def sp__law_gone : SpD := fun ds st kk => ∃ (w : Web) (g : Int) (row : List Int), ds = [webD w, .tup (row.map D.int), .int g] ∧ Nt w ∧ Lies w row ∧ -(2 ^ 62) < g ∧ g < 2 ^ 62 ∧
  kk (.tup [.lst ((way w g 0 row).1.map pnD), .str (S (way w g 0 row).2.1), .tup ((way w g 0 row).2.2.map D.int)]) st
theorem len__law_gone (ds : List D) (st : Sto) (kk : DK) (h : sp__law_gone ds st kk) : ds.length = 3 := by
  obtain ⟨_, _, _, rfl, _⟩ := h
  rfl
theorem p__law_gone : BodyD true N__law_gone sp__law_gone t__law_gone := by
  rintro ds st kk ⟨w, g, row0, rfl, nt, hl, gl, gh, h⟩
  rw [st__law_gone]
  simp only [t__law_gone]
  have hw := nt.fwd
  have h1 := nt.one
  have hn := nt.few
  (walk_at "lw_dd0")
  rw [show st ++ [row0.map D.int] ++ [[]] = st ++ [row0.map D.int, []] by rw [List.append_assoc]; rfl]
  simp only [List.length_append, List.length_singleton]
  refine ⟨fun m env s => ∃ (done : List Pn) (row : List Int) (here : Ld) (v6 : Option D), env = [some (webD w), some (.tup (row0.map D.int)), some (.int g), some here.d, some (.obj st.length), some (.obj (st.length + 1)), v6] ∧ s = st ++ [row.map D.int, done.map pnD] ∧ done.length + m = w.length ∧ match here with
      | .bal k => k < w.length ∧ w.length - k ≤ m ∧ Lies w row ∧ way w g 0 row0 = (done ++ (way w g k row).1, (way w g k row).2)
      | .out cs => way w g 0 row0 = (done, cs, row), ⟨w.length, [], row0, .bal 0, none, rfl, rfl, by simp, by omega, by omega, hl, by simp⟩, ?_⟩
  rintro m env s ⟨done, row, here, v6, rfl, rfl, hm, hh⟩
  (try simp only [BEq.rfl, ↓e_v0, ↓e_vs, ↓e_c, ↓e_op, ↓e_un, ↓e_test, ↓e_testK, ↓e_tru, ↓e_truL, ↓e_truT, ↓e_truB, ↓e_truI, ↓e_truN, ↓e_truS, ↓e_not, ↓e_and, ↓e_or, ↓e_andv, ↓e_notv, ↓e_andK, ↓e_notK, ↓e_if, ↓e_nil, ↓e_cons, ↓e_tup, ↓e_lst, ↓e_new, ↓e_call, ↓e_drop, ↓e_ret, ↓e_pass, ↓e_ifS, ↓e_g0, ↓e_gs, ↓e_gnil, ↓e_gcons, ↓e_gtup, ↓e_asg, ↓e_par, ↓e_parK, ↓e_par3, ↓e_par3K, ↓e_no, ↓e_some, ↓e_someK, ↓e_cut, ↓e_b, ↓e_iter, ↓e_iterL, ↓e_iterT, ↓e_iterS, ↓e_rng1, ↓e_rng1K, ↓e_rng2, ↓e_rng2K, ↓e_rng3, ↓e_rng3K, ↓e_enum, ↓e_enumL, ↓e_enumT, ↓e_for, ↓e_lc, ↓e_lcNew, ↓e_meth, ↓e_isL, ↓e_sub, ↓e_isi, ↓e_yes, ↓e_addI, ↓e_addB, ↓e_addS, ↓e_addT, ↓e_addL, ↓e_subI, ↓e_mulI, ↓e_mulT, ↓e_mulL, ↓e_divI, ↓e_modI, ↓e_powI, ↓e_negI, ↓e_cmpI, ↓e_eq, ↓e_ne, ↓e_isn, ↓e_isnn, ↓e_isb, ↓e_ixL, ↓e_ixKL, ↓e_ixT, ↓e_cutL, ↓e_cutKL, ↓e_cutT, ↓e_lenL, ↓e_lenKL, ↓e_lenT, ↓e_abs, ↓e_intI, ↓e_intB, ↓e_max2, ↓e_listNL, ↓e_listNT, ↓e_tupL, ↓e_tupT, ↓e_sum1T, ↓e_sum1L, ↓e_max1T, ↓e_max1L, ↓e_drI, ↓e_drB, ↓e_drS, ↓e_drN, ↓e_drL, ↓e_drT, ↓e_seq, ↓e_back, ↓e_backL, ↓e_backT, ↓e_unlL, ↓e_inFlat, ↓e_drK, ↓e_addBI, ↓e_subBI, ↓e_subIB, ↓e_drG, ↓e_dnew, ↓e_dgetF, ↓e_dget2, ↓e_dgPut, ↓e_join, ↓e_joinL, ↓e_cutS, ↓e_mulS, ↓e_sortV, ↓e_tidx, ↓e_mulNewL, ↓e_sortedPL, ↓e_indexL, ↓e_max3, e_kyI, e_kyS, Nat.reduceAdd, Nat.zero_add, List.length_cons, List.length_nil, List.length_map, Nat.reduceLeDiff, and_true, true_and, if_true, ite_true, decide_eq_true_eq, Bool.not_eq_true, Bool.false_eq_true, if_false, ite_false, ↓reduceIte, Int.reduceToNat, Int.reducePow, ne_eq, q_okI, q_okB, q_okN, q_okS, q_okL, q_okT, q_oks0, q_oks1, q_eqII, q_eqBB, q_eqSS, q_eqLL, q_eqTT, q_eqNN, q_eqNI, q_eqIN, q_eqs0, q_eqs1, Bool.true_and, Bool.and_true, beq_iff_eq, reduceCtorEq, wipeE, List.set_cons_zero, List.set_cons_succ, List.set_nil, Bool.not_true, Bool.not_false, List.getElem?_cons_zero, List.getElem?_cons_succ, tyD, subTy, List.any_cons, List.any_nil])
  cases here with
  | out cs =>
    have hh : way w g 0 row0 = (done, cs, row) := hh
    rw [hh] at h
    rw [show (Ld.out cs).d = D.str (S cs) from rfl]
    (try simp only [BEq.rfl, ↓e_v0, ↓e_vs, ↓e_c, ↓e_op, ↓e_un, ↓e_test, ↓e_testK, ↓e_tru, ↓e_truL, ↓e_truT, ↓e_truB, ↓e_truI, ↓e_truN, ↓e_truS, ↓e_not, ↓e_and, ↓e_or, ↓e_andv, ↓e_notv, ↓e_andK, ↓e_notK, ↓e_if, ↓e_nil, ↓e_cons, ↓e_tup, ↓e_lst, ↓e_new, ↓e_call, ↓e_drop, ↓e_ret, ↓e_pass, ↓e_ifS, ↓e_g0, ↓e_gs, ↓e_gnil, ↓e_gcons, ↓e_gtup, ↓e_asg, ↓e_par, ↓e_parK, ↓e_par3, ↓e_par3K, ↓e_no, ↓e_some, ↓e_someK, ↓e_cut, ↓e_b, ↓e_iter, ↓e_iterL, ↓e_iterT, ↓e_iterS, ↓e_rng1, ↓e_rng1K, ↓e_rng2, ↓e_rng2K, ↓e_rng3, ↓e_rng3K, ↓e_enum, ↓e_enumL, ↓e_enumT, ↓e_for, ↓e_lc, ↓e_lcNew, ↓e_meth, ↓e_isL, ↓e_sub, ↓e_isi, ↓e_yes, ↓e_addI, ↓e_addB, ↓e_addS, ↓e_addT, ↓e_addL, ↓e_subI, ↓e_mulI, ↓e_mulT, ↓e_mulL, ↓e_divI, ↓e_modI, ↓e_powI, ↓e_negI, ↓e_cmpI, ↓e_eq, ↓e_ne, ↓e_isn, ↓e_isnn, ↓e_isb, ↓e_ixL, ↓e_ixKL, ↓e_ixT, ↓e_cutL, ↓e_cutKL, ↓e_cutT, ↓e_lenL, ↓e_lenKL, ↓e_lenT, ↓e_abs, ↓e_intI, ↓e_intB, ↓e_max2, ↓e_listNL, ↓e_listNT, ↓e_tupL, ↓e_tupT, ↓e_sum1T, ↓e_sum1L, ↓e_max1T, ↓e_max1L, ↓e_drI, ↓e_drB, ↓e_drS, ↓e_drN, ↓e_drL, ↓e_drT, ↓e_seq, ↓e_back, ↓e_backL, ↓e_backT, ↓e_unlL, ↓e_inFlat, ↓e_drK, ↓e_addBI, ↓e_subBI, ↓e_subIB, ↓e_drG, ↓e_dnew, ↓e_dgetF, ↓e_dget2, ↓e_dgPut, ↓e_join, ↓e_joinL, ↓e_cutS, ↓e_mulS, ↓e_sortV, ↓e_tidx, ↓e_mulNewL, ↓e_sortedPL, ↓e_indexL, ↓e_max3, e_kyI, e_kyS, Nat.reduceAdd, Nat.zero_add, List.length_cons, List.length_nil, List.length_map, Nat.reduceLeDiff, and_true, true_and, if_true, ite_true, decide_eq_true_eq, Bool.not_eq_true, Bool.false_eq_true, if_false, ite_false, ↓reduceIte, Int.reduceToNat, Int.reducePow, ne_eq, q_okI, q_okB, q_okN, q_okS, q_okL, q_okT, q_oks0, q_oks1, q_eqII, q_eqBB, q_eqSS, q_eqLL, q_eqTT, q_eqNN, q_eqNI, q_eqIN, q_eqs0, q_eqs1, Bool.true_and, Bool.and_true, beq_iff_eq, reduceCtorEq, wipeE, List.set_cons_zero, List.set_cons_succ, List.set_nil, Bool.not_true, Bool.not_false, List.getElem?_cons_zero, List.getElem?_cons_succ, tyD, subTy, List.any_cons, List.any_nil])
    rw [if_neg (by simp), e_tupO (i := st.length) (xs := row.map D.int) (by rw [List.getElem?_append_right (Nat.le_refl _), Nat.sub_self]; rfl)]
    have cl : ∀ c ∈ [row.map D.int, done.map pnD], belows 0 c = true := by
      intro c hc
      rcases List.mem_cons.mp hc with z | z
      · rw [z]; exact belows_int 0 _
      · rw [List.mem_singleton.mp z]; exact pn_below 0 _
    refine ⟨st, _, rfl, rfl, fun _ _ e => .inl e, safe_closed _ _ cl, ?_⟩
    rw [frzs_tup]
    have e : frzs st.length [row.map D.int, done.map pnD] (.obj (st.length + 1)) = .lst (done.map pnD) := frzs_obj _ _ _ _ cl (by omega) (by rw [Nat.add_sub_cancel_left]; rfl)
    simp only [List.map_cons, List.map_nil, e]
    rw [frzs_closed (by rfl), frzs_closed (by simp only [below]; exact belows_int 0 _)]
    exact h
  | bal k =>
    obtain ⟨hk, hkm, hr, hh⟩ := hh
    rw [show (Ld.bal k).d = D.int (k : Nat) from rfl]
    (try simp only [BEq.rfl, ↓e_v0, ↓e_vs, ↓e_c, ↓e_op, ↓e_un, ↓e_test, ↓e_testK, ↓e_tru, ↓e_truL, ↓e_truT, ↓e_truB, ↓e_truI, ↓e_truN, ↓e_truS, ↓e_not, ↓e_and, ↓e_or, ↓e_andv, ↓e_notv, ↓e_andK, ↓e_notK, ↓e_if, ↓e_nil, ↓e_cons, ↓e_tup, ↓e_lst, ↓e_new, ↓e_call, ↓e_drop, ↓e_ret, ↓e_pass, ↓e_ifS, ↓e_g0, ↓e_gs, ↓e_gnil, ↓e_gcons, ↓e_gtup, ↓e_asg, ↓e_par, ↓e_parK, ↓e_par3, ↓e_par3K, ↓e_no, ↓e_some, ↓e_someK, ↓e_cut, ↓e_b, ↓e_iter, ↓e_iterL, ↓e_iterT, ↓e_iterS, ↓e_rng1, ↓e_rng1K, ↓e_rng2, ↓e_rng2K, ↓e_rng3, ↓e_rng3K, ↓e_enum, ↓e_enumL, ↓e_enumT, ↓e_for, ↓e_lc, ↓e_lcNew, ↓e_meth, ↓e_isL, ↓e_sub, ↓e_isi, ↓e_yes, ↓e_addI, ↓e_addB, ↓e_addS, ↓e_addT, ↓e_addL, ↓e_subI, ↓e_mulI, ↓e_mulT, ↓e_mulL, ↓e_divI, ↓e_modI, ↓e_powI, ↓e_negI, ↓e_cmpI, ↓e_eq, ↓e_ne, ↓e_isn, ↓e_isnn, ↓e_isb, ↓e_ixL, ↓e_ixKL, ↓e_ixT, ↓e_cutL, ↓e_cutKL, ↓e_cutT, ↓e_lenL, ↓e_lenKL, ↓e_lenT, ↓e_abs, ↓e_intI, ↓e_intB, ↓e_max2, ↓e_listNL, ↓e_listNT, ↓e_tupL, ↓e_tupT, ↓e_sum1T, ↓e_sum1L, ↓e_max1T, ↓e_max1L, ↓e_drI, ↓e_drB, ↓e_drS, ↓e_drN, ↓e_drL, ↓e_drT, ↓e_seq, ↓e_back, ↓e_backL, ↓e_backT, ↓e_unlL, ↓e_inFlat, ↓e_drK, ↓e_addBI, ↓e_subBI, ↓e_subIB, ↓e_drG, ↓e_dnew, ↓e_dgetF, ↓e_dget2, ↓e_dgPut, ↓e_join, ↓e_joinL, ↓e_cutS, ↓e_mulS, ↓e_sortV, ↓e_tidx, ↓e_mulNewL, ↓e_sortedPL, ↓e_indexL, ↓e_max3, e_kyI, e_kyS, Nat.reduceAdd, Nat.zero_add, List.length_cons, List.length_nil, List.length_map, Nat.reduceLeDiff, and_true, true_and, if_true, ite_true, decide_eq_true_eq, Bool.not_eq_true, Bool.false_eq_true, if_false, ite_false, ↓reduceIte, Int.reduceToNat, Int.reducePow, ne_eq, q_okI, q_okB, q_okN, q_okS, q_okL, q_okT, q_oks0, q_oks1, q_eqII, q_eqBB, q_eqSS, q_eqLL, q_eqTT, q_eqNN, q_eqNI, q_eqIN, q_eqs0, q_eqs1, Bool.true_and, Bool.and_true, beq_iff_eq, reduceCtorEq, wipeE, List.set_cons_zero, List.set_cons_succ, List.set_nil, Bool.not_true, Bool.not_false, List.getElem?_cons_zero, List.getElem?_cons_succ, tyD, subTy, List.any_cons, List.any_nil])
    rw [if_pos (by decide)]
    simp only [b1__law_gone]
    have kr : k < row.length := by rw [hr.len]; exact hk
    have g0 : (st ++ [row.map D.int, done.map pnD])[st.length]? = some (row.map D.int) := by rw [List.getElem?_append_right (Nat.le_refl _), Nat.sub_self]; rfl
    have g1 : (st ++ [row.map D.int, done.map pnD])[st.length + 1]? = some (done.map pnD) := sa_get rfl
    (walk_at "lw_dd0")
    rw [e_ixO g0]
    refine ⟨_, atI_int kr, ?_⟩
    (walk_at "lw_dd0")
    have fb : row.getD k 0 + 2 * g * (1 - 2 * (if 0 < row.getD k 0 then 1 else 0)) = fallI (row.getD k 0) g := by
      have ho := hr.at hk
      unfold fallI
      split
      · rw [if_neg (by omega)]
        omega
      · rw [if_pos (by omega)]
        omega
    have eb : (if 0 < row.getD k 0 then (1 : Int) else 0) = sideI (decide (0 < row.getD k 0)) := by
      unfold sideI
      by_cases z : 0 < row.getD k 0
      · rw [if_pos z, decide_eq_true z, if_pos rfl]
      · rw [if_neg z, decide_eq_false z, if_neg Bool.false_ne_true]
    refine ⟨e_isO g1, ?_⟩
    rw [e_app g1, sa_set rfl]
    refine ⟨by rw [List.length_map]; omega, ?_⟩
    have g2 : (st ++ [row.map D.int, done.map pnD].set 1 (done.map pnD ++ [D.tup [D.int (k : Nat), D.int (if 0 < row.getD k 0 then 1 else 0)]]))[st.length]? = some (row.map D.int) := by
      rw [List.getElem?_append_right (Nat.le_refl _), Nat.sub_self]; rfl
    rw [e_ixO g2]
    refine ⟨_, atI_int kr, ?_⟩
    refine ⟨mul2 _, mul2 _, mulr _ _ (by split <;> omega) (by split <;> omega), ?_⟩
    (walk_at "lw_dd0")
    rw [fb, e_setO (show (st ++ [row.map D.int, done.map pnD ++ [D.tup [D.int (k : Nat), D.int (if 0 < row.getD k 0 then 1 else 0)]]])[st.length]? = some (row.map D.int) from g2)]
    refine ⟨k, by rw [List.length_map, ixN_of (by omega) (by omega), Int.toNat_natCast], ?_⟩
    rw [eb]
    have e := leadW_some hk (decide (0 < row.getD k 0))
    have hwk : ∃ p, w[k]? = some p ∧ Ld.of p (decide (0 < row.getD k 0)) = leadN w k (decide (0 < row.getD k 0)) := by
      unfold leadW at e
      cases hp : w[k]? with
      | none => rw [hp] at e; cases e
      | some p => rw [hp] at e; exact ⟨p, rfl, by simpa using e⟩
    obtain ⟨p, hp, hpl⟩ := hwk
    simp only [webD]
    rw [e_ixT]
    refine ⟨_, atI_some hp, ?_⟩
    unfold ldsD
    rw [e_ixT]
    refine ⟨(leadN w k (decide (0 < row.getD k 0))).d, by rw [← hpl]; cases decide (0 < row.getD k 0) <;> rfl, ?_⟩
    refine ⟨m - 1, by omega, done ++ [(k, decide (0 < row.getD k 0))], row.set k (fallI (row.getD k 0) g), leadN w k (decide (0 < row.getD k 0)), _, rfl, ?_, by rw [List.length_append, List.length_singleton]; omega, ?_⟩
    · rw [List.set_append_right _ _ (Nat.le_refl _), Nat.sub_self, List.map_append, List.map_set]
      rfl
    cases hd : leadN w k (decide (0 < row.getD k 0)) with
    | out cs =>
      rw [hh, way_out hk hd]
    | bal j =>
      rw [hd] at e
      obtain ⟨h3, h4⟩ := hw _ _ _ e
      refine ⟨h4, by omega, hr.fall hk g, ?_⟩
      rw [hh, way_bal hw hk hd, List.append_assoc]
      rfl
def b1__law_out : DS :=
    (dSeq (dAsg (dCall sp__law_gone (dCons (dVar 0) (dCons (dVar 1) (dCons (dVar 4) dNil)))) (dgTup 3 (dgCons (dgName 5) (dgCons (dgName 6) (dgCons (dgName 1) dgNil)))))
    (dDrop (dMeth mAppend (dVar 3) (dCons (dVar 6) dNil))))
def t__law_out : DS :=
    (dSeq (dAsg (dNew dNil) (dgName 3))
    (dSeq (dFor (dIter (dVar 2)) (dgName 4) (b1__law_out))
    (dRet (dTup (dCons (dVar 3) (dCons (dVar 1) dNil))))))
theorem st__law_out (a0 a1 a2 : D) : startD N__law_out [a0, a1, a2] = [some a0, some a1, some a2, none, none, none, none] := rfl
theorem out_loop (w : Web) (nt : Nt w) (rt : DK) (a2 : D) (st : Sto) (kk : DL.Env → Sto → Prop) : ∀ (gs row : List Int) (dn : List (List Nat)) (v4 v5 v6 : Option D), Lies w row → (∀ g ∈ gs, 1 ≤ g ∧ g ≤ 2305843009213693952) → dn.length + gs.length ≤ 16777216 →
    (∀ u4 u5 u6, kk [some (webD w), some (.tup ((fallsN w gs row).2.map D.int)), some a2, some (.obj st.length), u4, u5, u6] (st ++ [(dn ++ (fallsN w gs row).1).map txD])) →
    goFor [] (dgName 4) b1__law_out ⟨kk, rt⟩ (gs.map D.int) [some (webD w), some (.tup (row.map D.int)), some a2, some (.obj st.length), v4, v5, v6] (st ++ [dn.map txD])
  | [], row, dn, v4, v5, v6, hl, _, _, h => by
    refine ⟨trivial, ?_⟩
    have := h v4 v5 v6
    simp only [fallsN, List.append_nil] at this
    exact this
  | g :: gs, row, dn, v4, v5, v6, hl, hg, hn, h => by
    refine ⟨trivial, ?_⟩
    rw [List.length_cons] at hn
    have g0 := hg g List.mem_cons_self
    (walk_at "lw_dd0")
    simp only [b1__law_out]
    (walk_at "lw_dd0")
    refine ⟨w, g, row, rfl, nt, hl, by omega, by omega, ?_⟩
    (walk_at "lw_dd0")
    refine ⟨e_isO (List.getElem?_concat_length ..), ?_⟩
    rw [e_app (List.getElem?_concat_length ..), set_last]
    refine ⟨by rw [List.length_map]; omega, ?_⟩
    rw [show dn.map txD ++ [D.str (S (way w g 0 row).2.1)] = (dn ++ [(way w g 0 row).2.1]).map txD by rw [List.map_append]; rfl]
    refine out_loop w nt rt a2 st kk gs _ _ _ _ _ (nt.way hl g) (fun x hx => hg x (List.mem_cons_of_mem _ hx)) (by rw [List.length_append, List.length_singleton]; omega) fun u4 u5 u6 => ?_
    have := h u4 u5 u6
    unfold fallsN at this
    rw [List.append_assoc]
    exact this
def sp__law_out : SpD := fun ds st kk => ∃ (w : Web) (gs row : List Int), ds = [webD w, .tup (row.map D.int), .tup (gs.map D.int)] ∧ Nt w ∧ Lies w row ∧ (∀ g ∈ gs, 1 ≤ g ∧ g ≤ 2305843009213693952) ∧ gs.length ≤ 100000 ∧
  kk (.tup [.lst ((fallsN w gs row).1.map txD), .tup ((fallsN w gs row).2.map D.int)]) st
theorem len__law_out (ds : List D) (st : Sto) (kk : DK) (h : sp__law_out ds st kk) : ds.length = 3 := by
  obtain ⟨_, _, _, rfl, _⟩ := h
  rfl
theorem p__law_out : BodyD true N__law_out sp__law_out t__law_out := by
  rintro ds st kk ⟨w, gs, row, rfl, nt, hl, hg, hn, h⟩
  rw [st__law_out]
  simp only [t__law_out]
  (walk_at "lw_dd0")
  refine fun _ => ?_
  refine out_loop w nt _ _ st _ gs row [] _ _ _ hl hg (by simp; omega) fun u4 u5 u6 => ?_
  (walk_at "lw_dd0")
  refine .one (txD_below _ _) ?_
  simp only [sub, subs, if_true]
  rw [subs_below _ (belows_int _ _)]
  exact h
def t__law_crossed : DS :=
    (dSeq (dPar 3 4 (dCons (dB bListNew (dCons (dVar 1) dNil)) (dCons (dB bListNew (dCons (dVar 0) dNil)) dNil)))
    (dSeq (dAsg (dTup (dCons (dOp subD (dC (.int 0)) (dOp ixD (dVar 3) (dVar 2))) (dCons (dBack (dOp ixD (dVar 4) (dVar 2))) dNil))) (dgTup 2 (dgCons (dgSub (dVar 3) (dVar 2)) (dgCons (dgSub (dVar 4) (dVar 2)) dgNil))))
    (dRet (dTup (dCons (dB bTuple (dCons (dVar 4) dNil)) (dCons (dB bTuple (dCons (dVar 3) dNil)) dNil))))))
theorem st__law_crossed (a0 a1 a2 : D) : startD N__law_crossed [a0, a1, a2] = [some a0, some a1, some a2, none, none] := rfl
def sp__law_crossed : SpD := fun ds st kk => ∃ (w : Web) (row : List Int) (k : Nat), ds = [webD w, .tup (row.map D.int), .int (k : Nat)] ∧ k < w.length ∧ w.length ≤ 1000 ∧ row.length = w.length ∧ kk (.tup [webD (crW w k), .tup ((crR row k).map D.int)]) st
theorem len__law_crossed (ds : List D) (st : Sto) (kk : DK) (h : sp__law_crossed ds st kk) : ds.length = 3 := by
  obtain ⟨_, _, _, rfl, _⟩ := h
  rfl
theorem p__law_crossed : BodyD true N__law_crossed sp__law_crossed t__law_crossed := by
  rintro ds st kk ⟨w, row, k, rfl, hk, hn, hl, h⟩
  rw [st__law_crossed]
  simp only [t__law_crossed, webD]
  have hr : k < row.length := by omega
  (walk_at "lw_dd0")
  rw [show (st ++ [row.map D.int]).length = st.length + 1 by simp, List.append_assoc]
  have g0 : (st ++ ([row.map D.int] ++ [w.map ldsD]))[st.length]? = some (row.map D.int) := sa_get (a := 0) rfl
  have g1 : (st ++ ([row.map D.int] ++ [w.map ldsD]))[st.length + 1]? = some (w.map ldsD) := sa_get rfl
  rw [e_ixO g0]
  refine ⟨_, at_row hr, ?_⟩
  (walk_at "lw_dd0")
  rw [e_ixO g1]
  refine ⟨_, at_web hk, ?_⟩
  (walk_at "lw_dd0")
  rw [e_setO g0]
  refine ⟨k, by rw [List.length_map, ixN_of (by omega) (by omega), Int.toNat_natCast], ?_⟩
  have e1 : (st ++ ([row.map D.int] ++ [w.map ldsD])).set st.length ((row.map D.int).set k (D.int (0 - row.getD k 0))) = st ++ ([(crR row k).map D.int] ++ [w.map ldsD]) := by
    rw [Int.zero_sub]
    unfold crR
    rw [List.map_set]
    exact sa_set (a := 0) rfl
  rw [e1]
  have g2 : (st ++ ([(crR row k).map D.int] ++ [w.map ldsD]))[st.length + 1]? = some (w.map ldsD) := sa_get rfl
  rw [e_setO g2]
  refine ⟨k, by rw [List.length_map, ixN_of (by omega) (by omega), Int.toNat_natCast], ?_⟩
  have e2 : (st ++ ([(crR row k).map D.int] ++ [w.map ldsD])).set (st.length + 1) ((w.map ldsD).set k (D.tup [(leadN w k false).d, (leadN w k true).d].reverse)) = st ++ [(crR row k).map D.int, (crW w k).map ldsD] := by
    rw [crW_of hk, lds_at hk, List.map_set]
    exact sa_set rfl
  rw [e2]
  have g3 : (st ++ [(crR row k).map D.int, (crW w k).map ldsD])[st.length]? = some ((crR row k).map D.int) := sa_get (a := 0) rfl
  have g4 : (st ++ [(crR row k).map D.int, (crW w k).map ldsD])[st.length + 1]? = some ((crW w k).map ldsD) := sa_get rfl
  rw [e_tupO g4, e_tupO g3]
  refine frz_locs (safe_closed _ _ ?_) ?_
  · intro c hc
    rcases List.mem_cons.mp hc with z | z
    · rw [z]; exact belows_int 0 _
    · rw [List.mem_singleton.mp z]; exact lds_below 0 _
  · rw [frzs_closed (by simp only [below, belows, belows_int, lds_below, Bool.and_true])]
    exact h
def e1__law_put_at_exit : DE :=
    (dVar 5)
def e2__law_put_at_exit : DE :=
    (dIf (dTru (dIsi (dVar 9) ["str"])) (dVar 9) (dOp addD (dVar 9) (dB bInt (dCons (dOp (cmpI fun i j => decide (j < i)) (dVar 9) (dVar 5)) dNil))))
def e3__law_put_at_exit : DE :=
    (dB bTuple (dCons (dLc (dIter (dVar 10)) (dgName 9) dYes (e2__law_put_at_exit) [9]) dNil))
def t__law_put_at_exit : DS :=
    (dSeq (dAsg (dLc (dRng1 (dOp mulD (dC (.int 2)) (dB bLen (dCons (dVar 1) dNil)))) (dgName 5) (dTru (dIsi (dOp ixD (dOp ixD (dVar 1) (dOp divD (dVar 5) (dC (.int 2)))) (dOp modD (dVar 5) (dC (.int 2)))) ["str"])) (e1__law_put_at_exit) [5]) (dgName 4))
    (dSeq (dAsg (dOp ixD (dVar 4) (dCall sp__law_draw (dCons (dVar 0) (dCons (dB bLen (dCons (dVar 4) dNil)) dNil)))) (dgName 6))
    (dSeq (dAsg (dTup (dCons (dOp divD (dVar 6) (dC (.int 2))) (dCons (dOp modD (dVar 6) (dC (.int 2))) dNil))) (dgTup 2 (dgCons (dgName 5) (dgCons (dgName 7) dgNil))))
    (dSeq (dAsg (dLc (dIter (dVar 1)) (dgName 10) dYes (e3__law_put_at_exit) [10]) (dgName 8))
    (dSeq (dPar 11 12 (dCons (dOp ixD (dOp ixD (dVar 8) (dVar 5)) (dVar 7)) (dCons (dNew (dCons (dOp ixD (dOp ixD (dVar 8) (dVar 5)) (dC (.int 0))) (dCons (dOp ixD (dOp ixD (dVar 8) (dVar 5)) (dC (.int 1))) dNil))) dNil)))
    (dSeq (dAsg (dOp addD (dVar 5) (dC (.int 1))) (dgSub (dVar 12) (dVar 7)))
    (dSeq (dAsg (dOp addD (dOp addD (dCut cutOp (dVar 8) dNo (dSome (dVar 5))) (dLst (dCons (dB bTuple (dCons (dVar 12) dNil)) (dCons (dTup (dCons (dVar 11) (dCons (dVar 11) dNil))) dNil)))) (dCut cutOp (dVar 8) (dSome (dOp addD (dVar 5) (dC (.int 1)))) dNo)) (dgName 13))
    (dRet (dTup (dCons (dB bTuple (dCons (dVar 13) dNil)) (dCons (dOp addD (dOp addD (dCut cutOp (dVar 2) dNo (dSome (dOp addD (dVar 5) (dC (.int 1))))) (dTup (dCons (dCall sp__law_standing (dCons (dVar 0) (dCons (dVar 3) dNil))) dNil))) (dCut cutOp (dVar 2) (dSome (dOp addD (dVar 5) (dC (.int 1)))) dNo)) dNil)))))))))))
theorem st__law_put_at_exit (a0 a1 a2 a3 : D) : startD N__law_put_at_exit [a0, a1, a2, a3] = [some a0, some a1, some a2, some a3, none, none, none, none, none, none, none, none, none, none] := rfl
/-- not further off -/
def Bnd (row row' : List Int) : Prop := ∀ B : Nat, 50 ≤ B → (∀ x ∈ row, x.natAbs ≤ B) → ∀ x ∈ row', x.natAbs ≤ B
theorem Bnd.self (row : List Int) : Bnd row row := fun _ _ h => h
theorem Bnd.trans {a b c : List Int} (h : Bnd a b) (g : Bnd b c) : Bnd a c := fun B h1 h2 => g B h1 (h B h1 h2)
theorem bnd_pi {row : List Int} {k : Nat} {x : Int} (hx : x.natAbs ≤ 50) : Bnd row (piR row k x) := fun B h1 h2 y hy => by
  unfold piR at hy
  rcases List.mem_append.mp hy with z | z
  · rcases List.mem_append.mp z with z | z
    · exact h2 y (List.mem_of_mem_take z)
    · rw [List.mem_singleton.mp z]; omega
  · exact h2 y (List.mem_of_mem_drop z)
theorem bnd_cr {row : List Int} {k : Nat} : Bnd row (crR row k) := fun B h1 h2 y hy => by
  unfold crR at hy
  rcases List.mem_or_eq_of_mem_set hy with z | z
  · exact h2 y z
  · rw [z, Int.natAbs_neg, List.getD_eq_getElem?_getD]
    cases e : row[k]? with
    | none => exact Nat.zero_le _
    | some v => exact h2 v (List.mem_of_getElem? e)
theorem bnd_ren {row : List Int} {O : List Nat} : Bnd row (renR row O) := fun B h1 h2 y hy => by
  unfold renR at hy
  obtain ⟨k, _, rfl⟩ := List.mem_map.mp hy
  rw [List.getD_eq_getElem?_getD]
  cases e : row[k]? with
  | none => exact Nat.zero_le _
  | some v => exact h2 v (List.mem_of_getElem? e)
def sp__law_put_at_exit : SpD := fun ds st kk => ∃ (i n : Nat) (w : Web) (row : List Int), ds = [.obj i, webD w, .tup (row.map D.int), .int 24] ∧ Tp i n st ∧ n < 1000000 ∧ Tw w row ∧ w.length < 20 ∧
  ∀ (w' : Web) (row' : List Int) xs, Tw w' row' → w'.length = w.length + 1 → part w' row' 0 = part w row 0 → Bnd row row' → Tp i (n + 10) (st.set i xs) → kk (.tup [webD w', .tup (row'.map D.int)]) (st.set i xs)
theorem len__law_put_at_exit (ds : List D) (st : Sto) (kk : DK) (h : sp__law_put_at_exit ds st kk) : ds.length = 4 := by
  obtain ⟨_, _, _, _, rfl, _⟩ := h
  rfl
theorem p__law_put_at_exit : BodyD true N__law_put_at_exit sp__law_put_at_exit t__law_put_at_exit := by
  rintro ds st kk ⟨i, n, w, row, rfl, ht, hn, T, few, h⟩
  rw [st__law_put_at_exit]
  simp only [t__law_put_at_exit, webD]
  have w1 := T.nt.one
  (walk_at "lw_dd0")
  refine ⟨mul2 _, by omega, by rw [rangeD_length]; omega, ?_⟩
  rw [show (2 * (w.length : Int)).toNat = 2 * w.length by omega, show rangeD 0 (2 * w.length) = (List.range (2 * w.length)).map fun j : Nat => D.int (j : Nat) by
    unfold rangeD
    exact List.map_congr_left fun x _ => by rw [Int.zero_add]]
  refine lc_filter (src := []) (fun j : Nat => D.int (j : Nat)) (fun j : Nat => D.int (j : Nat)) (fun p => (leadN w (p / 2) (decide (p % 2 = 1))).tx.isSome) st trivial (List.range (2 * w.length)) [] (fun p hp k1 k2 g1 g2 => ?_) ?_
  · have hp := List.mem_range.mp hp
    have hk : p / 2 < w.length := by omega
    (walk_at "lw_dd0")
    refine ⟨by (first | exact mulc _ _ (by decide) (by decide) | exact mulr _ _ (by decide) (by decide) | exact ⟨by decide, by decide, by decide⟩ | exact ⟨by decide, by decide⟩ | exact mulb _ _ | exact ⟨by omega, by omega⟩ | exact mulc _ _ (by omega) (by omega) | exact mulr _ _ (by omega) (by omega) | exact div_small (by omega) (by omega) | exact ⟨by omega, by omega, by omega⟩ | omega | decide), .tup [(leadN w (p / 2) false).d, (leadN w (p / 2) true).d], ?_, by decide, ?_⟩
    · rw [show (p : Int) / 2 = ((p / 2 : Nat) : Int) by omega]
      exact at_web hk
    (walk_at "lw_dd0")
    refine ⟨(leadN w (p / 2) (decide (p % 2 = 1))).d, ?_, ?_⟩
    · rcases (show p % 2 = 0 ∨ p % 2 = 1 by omega) with z | z
      · rw [show (p : Int) % 2 = ((0 : Nat) : Int) by omega, z]
        rfl
      · rw [show (p : Int) % 2 = ((1 : Nat) : Int) by omega, z]
        rfl
    cases e : leadN w (p / 2) (decide (p % 2 = 1)) with
    | out c =>
      rw [e] at g1
      refine ite_yes (by show ["str"].any (subTy "str") = true; decide) ?_
      simp only [e1__law_put_at_exit]
      (walk_at "lw_dd0")
      exact g1 rfl
    | bal j =>
      rw [e] at g2
      exact ite_go (by show ¬ ["str"].any (subTy "int") = true; decide) (g2 rfl)
  rw [List.nil_append]
  have mem : ∀ p ∈ (List.range (2 * w.length)).filter (fun p => (leadN w (p / 2) (decide (p % 2 = 1))).tx.isSome), p / 2 < w.length ∧ ∃ c, leadN w (p / 2) (decide (p % 2 = 1)) = .out c := fun p hp => by
    obtain ⟨a, b⟩ := List.mem_filter.mp hp
    have a := List.mem_range.mp a
    refine ⟨by omega, ?_⟩
    cases e : leadN w (p / 2) (decide (p % 2 = 1)) with
    | out c => exact ⟨c, rfl⟩
    | bal j => rw [e] at b; cases b
  have pos : 0 < ((List.range (2 * w.length)).filter (fun p => (leadN w (p / 2) (decide (p % 2 = 1))).tx.isSome)).length := by
    refine List.length_pos_of_mem (a := 2 * (w.length - 1)) (List.mem_filter.mpr ⟨List.mem_range.mpr (by omega), ?_⟩)
    rw [show 2 * (w.length - 1) / 2 = w.length - 1 by omega, show 2 * (w.length - 1) % 2 = 0 by omega]
    cases e : leadN w (w.length - 1) (decide (0 = 1)) with
    | out c => rfl
    | bal j =>
      have := T.bal (k := w.length - 1) (by omega) e
      omega
  have fewP : ((List.range (2 * w.length)).filter (fun p => (leadN w (p / 2) (decide (p % 2 = 1))).tx.isSome)).length ≤ 40 := Nat.le_trans (List.length_filter_le _ _) (by rw [List.length_range]; omega)
  generalize (List.range (2 * w.length)).filter (fun p => (leadN w (p / 2) (decide (p % 2 = 1))).tx.isSome) = ps at mem pos fewP ⊢
  refine ⟨i, n, _, rfl, ht, by omega, by rw [List.length_map]; exact ⟨by omega, by omega⟩, fun r xs r0 r1 t1 => ?_⟩
  obtain ⟨m, rfl⟩ := Int.eq_ofNat_of_zero_le r0
  rw [List.length_map] at r1
  have hm : m < ps.length := by omega
  obtain ⟨kl, c, ec⟩ := mem ps[m] (List.getElem_mem hm)
  (walk_at "lw_dd0")
  refine ⟨.int (ps[m] : Nat), atI_nat (by rw [List.getElem?_map, List.getElem?_eq_getElem hm]; rfl), ?_⟩
  generalize ps[m] = p at kl ec
  (walk_at "lw_dd0")
  refine ⟨by (first | exact mulc _ _ (by decide) (by decide) | exact mulr _ _ (by decide) (by decide) | exact ⟨by decide, by decide, by decide⟩ | exact ⟨by decide, by decide⟩ | exact mulb _ _ | exact ⟨by omega, by omega⟩ | exact mulc _ _ (by omega) (by omega) | exact mulr _ _ (by omega) (by omega) | exact div_small (by omega) (by omega) | exact ⟨by omega, by omega, by omega⟩ | omega | decide), by decide, fun _ => ⟨by omega, ?_⟩⟩
  have p1 : (p : Int) / 2 = ((p / 2 : Nat) : Int) := by omega
  have p2 : (p : Int) % 2 = ((p % 2 : Nat) : Int) := by omega
  rw [p1, p2]
  generalize p / 2 = k at kl ec
  generalize hs : decide (p % 2 = 1) = s at ec
  have hs2 : p % 2 = if s = true then 1 else 0 := by
    rw [← hs]
    by_cases z : p % 2 = 1
    · simp [z]
    · simp [z]; omega
  rw [hs2]
  refine lc_map (src := []) ldsD (fun q => ldsD (bmP k q)) w _ trivial [] (fun q hq kd hkd => ?_) ?_
  · simp only [ldsD]
    (walk_at "lw_dd0")
    simp only [e3__law_put_at_exit]
    (walk_at "lw_dd0")
    refine fun _ => lc_map (src := []) Ld.d (fun u => (bmL k u).d) [q.1, q.2] _ trivial [] (fun u hu kd hk2 => ?_) ?_
    · (walk_at "lw_dd0")
      simp only [e2__law_put_at_exit]
      cases u with
      | out d =>
        simp only [Ld.d]
        (try simp only [BEq.rfl, ↓e_v0, ↓e_vs, ↓e_c, ↓e_op, ↓e_un, ↓e_test, ↓e_testK, ↓e_tru, ↓e_truL, ↓e_truT, ↓e_truB, ↓e_truI, ↓e_truN, ↓e_truS, ↓e_not, ↓e_and, ↓e_or, ↓e_andv, ↓e_notv, ↓e_andK, ↓e_notK, ↓e_if, ↓e_nil, ↓e_cons, ↓e_tup, ↓e_lst, ↓e_new, ↓e_call, ↓e_drop, ↓e_ret, ↓e_pass, ↓e_ifS, ↓e_g0, ↓e_gs, ↓e_gnil, ↓e_gcons, ↓e_gtup, ↓e_asg, ↓e_par, ↓e_parK, ↓e_par3, ↓e_par3K, ↓e_no, ↓e_some, ↓e_someK, ↓e_cut, ↓e_b, ↓e_iter, ↓e_iterL, ↓e_iterT, ↓e_iterS, ↓e_rng1, ↓e_rng1K, ↓e_rng2, ↓e_rng2K, ↓e_rng3, ↓e_rng3K, ↓e_enum, ↓e_enumL, ↓e_enumT, ↓e_for, ↓e_lc, ↓e_lcNew, ↓e_meth, ↓e_isL, ↓e_sub, ↓e_isi, ↓e_yes, ↓e_addI, ↓e_addB, ↓e_addS, ↓e_addT, ↓e_addL, ↓e_subI, ↓e_mulI, ↓e_mulT, ↓e_mulL, ↓e_divI, ↓e_modI, ↓e_powI, ↓e_negI, ↓e_cmpI, ↓e_eq, ↓e_ne, ↓e_isn, ↓e_isnn, ↓e_isb, ↓e_ixL, ↓e_ixKL, ↓e_ixT, ↓e_cutL, ↓e_cutKL, ↓e_cutT, ↓e_lenL, ↓e_lenKL, ↓e_lenT, ↓e_abs, ↓e_intI, ↓e_intB, ↓e_max2, ↓e_listNL, ↓e_listNT, ↓e_tupL, ↓e_tupT, ↓e_sum1T, ↓e_sum1L, ↓e_max1T, ↓e_max1L, ↓e_drI, ↓e_drB, ↓e_drS, ↓e_drN, ↓e_drL, ↓e_drT, ↓e_seq, ↓e_back, ↓e_backL, ↓e_backT, ↓e_unlL, ↓e_inFlat, ↓e_drK, ↓e_addBI, ↓e_subBI, ↓e_subIB, ↓e_drG, ↓e_dnew, ↓e_dgetF, ↓e_dget2, ↓e_dgPut, ↓e_join, ↓e_joinL, ↓e_cutS, ↓e_mulS, ↓e_sortV, ↓e_tidx, ↓e_mulNewL, ↓e_sortedPL, ↓e_indexL, ↓e_max3, e_kyI, e_kyS, Nat.reduceAdd, Nat.zero_add, List.length_cons, List.length_nil, List.length_map, Nat.reduceLeDiff, and_true, true_and, if_true, ite_true, decide_eq_true_eq, Bool.not_eq_true, Bool.false_eq_true, if_false, ite_false, ↓reduceIte, Int.reduceToNat, Int.reducePow, ne_eq, q_okI, q_okB, q_okN, q_okS, q_okL, q_okT, q_oks0, q_oks1, q_eqII, q_eqBB, q_eqSS, q_eqLL, q_eqTT, q_eqNN, q_eqNI, q_eqIN, q_eqs0, q_eqs1, Bool.true_and, Bool.and_true, beq_iff_eq, reduceCtorEq, wipeE, List.set_cons_zero, List.set_cons_succ, List.set_nil, Bool.not_true, Bool.not_false, List.getElem?_cons_zero, List.getElem?_cons_succ, tyD, subTy])
        exact ite_yes (by decide) hk2
      | bal j =>
        simp only [Ld.d]
        (try simp only [BEq.rfl, ↓e_v0, ↓e_vs, ↓e_c, ↓e_op, ↓e_un, ↓e_test, ↓e_testK, ↓e_tru, ↓e_truL, ↓e_truT, ↓e_truB, ↓e_truI, ↓e_truN, ↓e_truS, ↓e_not, ↓e_and, ↓e_or, ↓e_andv, ↓e_notv, ↓e_andK, ↓e_notK, ↓e_if, ↓e_nil, ↓e_cons, ↓e_tup, ↓e_lst, ↓e_new, ↓e_call, ↓e_drop, ↓e_ret, ↓e_pass, ↓e_ifS, ↓e_g0, ↓e_gs, ↓e_gnil, ↓e_gcons, ↓e_gtup, ↓e_asg, ↓e_par, ↓e_parK, ↓e_par3, ↓e_par3K, ↓e_no, ↓e_some, ↓e_someK, ↓e_cut, ↓e_b, ↓e_iter, ↓e_iterL, ↓e_iterT, ↓e_iterS, ↓e_rng1, ↓e_rng1K, ↓e_rng2, ↓e_rng2K, ↓e_rng3, ↓e_rng3K, ↓e_enum, ↓e_enumL, ↓e_enumT, ↓e_for, ↓e_lc, ↓e_lcNew, ↓e_meth, ↓e_isL, ↓e_sub, ↓e_isi, ↓e_yes, ↓e_addI, ↓e_addB, ↓e_addS, ↓e_addT, ↓e_addL, ↓e_subI, ↓e_mulI, ↓e_mulT, ↓e_mulL, ↓e_divI, ↓e_modI, ↓e_powI, ↓e_negI, ↓e_cmpI, ↓e_eq, ↓e_ne, ↓e_isn, ↓e_isnn, ↓e_isb, ↓e_ixL, ↓e_ixKL, ↓e_ixT, ↓e_cutL, ↓e_cutKL, ↓e_cutT, ↓e_lenL, ↓e_lenKL, ↓e_lenT, ↓e_abs, ↓e_intI, ↓e_intB, ↓e_max2, ↓e_listNL, ↓e_listNT, ↓e_tupL, ↓e_tupT, ↓e_sum1T, ↓e_sum1L, ↓e_max1T, ↓e_max1L, ↓e_drI, ↓e_drB, ↓e_drS, ↓e_drN, ↓e_drL, ↓e_drT, ↓e_seq, ↓e_back, ↓e_backL, ↓e_backT, ↓e_unlL, ↓e_inFlat, ↓e_drK, ↓e_addBI, ↓e_subBI, ↓e_subIB, ↓e_drG, ↓e_dnew, ↓e_dgetF, ↓e_dget2, ↓e_dgPut, ↓e_join, ↓e_joinL, ↓e_cutS, ↓e_mulS, ↓e_sortV, ↓e_tidx, ↓e_mulNewL, ↓e_sortedPL, ↓e_indexL, ↓e_max3, e_kyI, e_kyS, Nat.reduceAdd, Nat.zero_add, List.length_cons, List.length_nil, List.length_map, Nat.reduceLeDiff, and_true, true_and, if_true, ite_true, decide_eq_true_eq, Bool.not_eq_true, Bool.false_eq_true, if_false, ite_false, ↓reduceIte, Int.reduceToNat, Int.reducePow, ne_eq, q_okI, q_okB, q_okN, q_okS, q_okL, q_okT, q_oks0, q_oks1, q_eqII, q_eqBB, q_eqSS, q_eqLL, q_eqTT, q_eqNN, q_eqNI, q_eqIN, q_eqs0, q_eqs1, Bool.true_and, Bool.and_true, beq_iff_eq, reduceCtorEq, wipeE, List.set_cons_zero, List.set_cons_succ, List.set_nil, Bool.not_true, Bool.not_false, List.getElem?_cons_zero, List.getElem?_cons_succ, tyD, subTy])
        refine ite_go (by decide) ?_
        have e9 : (j : Int) + (if (k : Int) < (j : Int) then 1 else 0) = ((upN (k + 1) j : Nat) : Int) := by
          unfold upN
          split <;> split <;> omega
        rw [e9]
        exact hk2
    · (walk_at "lw_dd0")
      exact hkd
  rw [List.nil_append]
  rw [show w.map (fun q => ldsD (bmP k q)) = (w.map (bmP k)).map ldsD by rw [List.map_map]; rfl]
  have lM : ((w.map (bmP k)).map ldsD).length = w.length := by rw [List.length_map, List.length_map]
  have aM : atI ((w.map (bmP k)).map ldsD) (k : Int) = some (.tup [(bmL k (leadN w k false)).d, (bmL k (leadN w k true)).d]) := atI_nat (by
    rw [List.getElem?_map, List.getElem?_map, List.getElem?_eq_getElem kl, lds_at kl]
    rfl)
  have lst : (st.set i xs).length = st.length := List.length_set
  (walk_at "lw_dd0")
  refine ⟨_, aM, ?_⟩
  (walk_at "lw_dd0")
  refine ⟨.str (S c), ?_, _, aM, ?_⟩
  · cases s with
    | false => rw [ec]; rfl
    | true => rw [ec]; rfl
  (walk_at "lw_dd0")
  refine ⟨_, rfl, _, aM, ?_⟩
  (walk_at "lw_dd0")
  refine ⟨_, rfl, ?_⟩
  have g0 : ∀ (A : Sto) (x : List D), (A ++ [x])[A.length]? = some x := fun A x => app_get
  rw [e_setO (g0 _ _)]
  refine ⟨if s = true then 1 else 0, by cases s <;> rfl, ?_⟩
  rw [app_set]
  have er : [(bmL k (leadN w k false)).d, (bmL k (leadN w k true)).d].set (if s = true then 1 else 0) (.int ((k : Int) + 1)) = [(setS2 (bmP k (leadN w k false, leadN w k true)) s (.bal (k + 1))).1.d, (setS2 (bmP k (leadN w k false, leadN w k true)) s (.bal (k + 1))).2.d] := by
    cases s <;> rfl
  rw [er, e_tupO (g0 _ _)]
  have c1 : DL.cutD ((w.map (bmP k)).map ldsD) none (some (k : Int)) = ((w.map (bmP k)).take k).map ldsD := by rw [cutD_to, List.map_take]
  have c2 : DL.cutD ((w.map (bmP k)).map ldsD) (some ((k : Int) + 1)) none = ((w.map (bmP k)).drop (k + 1)).map ldsD := by rw [show (k : Int) + 1 = ((k + 1 : Nat) : Int) by omega, cutL_from, List.map_drop]
  rw [c1, c2]
  refine ⟨by rw [List.length_map, List.length_take, List.length_map]; omega, by
    simp only [List.length_append, List.length_map, List.length_take, List.length_drop, List.length_cons, List.length_nil]
    omega, ?_⟩
  refine ⟨i, _, 24, rfl, t1.app _, by omega, by decide, by decide, fun x ys x0 x1 x2 t2 => ?_⟩
  have il : i < (st.set i xs).length := t1.lt
  have e2 : (st.set i xs ++ [[(setS2 (bmP k (leadN w k false, leadN w k true)) s (.bal (k + 1))).1.d, (setS2 (bmP k (leadN w k false, leadN w k true)) s (.bal (k + 1))).2.d]]).set i ys = st.set i ys ++ [[(setS2 (bmP k (leadN w k false, leadN w k true)) s (.bal (k + 1))).1.d, (setS2 (bmP k (leadN w k false, leadN w k true)) s (.bal (k + 1))).2.d]] := by
    rw [List.set_append_left _ _ il, List.set_set]
  rw [e2] at t2 ⊢
  have rl : k < row.length := by rw [T.lies.len]; exact kl
  have r1 : DL.cutD (row.map D.int) none (some ((k : Int) + 1)) = (row.take (k + 1)).map D.int := by rw [show (k : Int) + 1 = ((k + 1 : Nat) : Int) by omega, cutD_to, List.map_take]
  have r2 : DL.cutD (row.map D.int) (some ((k : Int) + 1)) none = (row.drop (k + 1)).map D.int := by rw [show (k : Int) + 1 = ((k + 1 : Nat) : Int) by omega, cutL_from, List.map_drop]
  have tl := T.lies.len
  rw [r1, r2]
  refine ⟨by rw [List.length_map, List.length_take]; omega, by
    simp only [List.length_append, List.length_map, List.length_take, List.length_drop, List.length_cons, List.length_nil]
    omega, ?_⟩
  obtain ⟨T2, p2⟩ := T.pi kl ec x0 few
  have ew : ((w.map (bmP k)).take k).map ldsD ++ [D.tup [(setS2 (bmP k (leadN w k false, leadN w k true)) s (.bal (k + 1))).1.d, (setS2 (bmP k (leadN w k false, leadN w k true)) s (.bal (k + 1))).2.d], D.tup [.str (S c), .str (S c)]] ++ ((w.map (bmP k)).drop (k + 1)).map ldsD = (piW w k s c).map ldsD := by
    unfold piW
    rw [List.map_append, List.map_append]
    rfl
  have ex : (row.take (k + 1)).map D.int ++ [D.int x] ++ (row.drop (k + 1)).map D.int = (piR row k x).map D.int := by
    unfold piR
    rw [List.map_append, List.map_append]
    rfl
  rw [ew, ex]
  have t3 : Tp i (n + 1 + 2) (st.set i ys) := Tp.left t2 (by rw [List.length_set]; rw [List.length_set] at il; exact il)
  refine frz_tape1 rfl t3 ?_ ?_
  · have lb : ∀ u : Ld, below st.length u.d = true := fun u => by cases u <;> rfl
    simp only [belows, lb, Bool.and_self]
  · rw [sub_below _ (by simp only [below, belows, lds_below, belows_int, Bool.and_self])]
    exact h _ _ ys T2 (pi_len kl s c) p2 (bnd_pi (by omega)) (t3.mono (by omega))
def e1__law_other_numbers : DE :=
    (dVar 7)
def b1__law_other_numbers : DS :=
    (dSeq (dAsg (dMeth mPopAt (dVar 3) (dCons (dCall sp__law_draw (dCons (dVar 0) (dCons (dB bLen (dCons (dVar 3) dNil)) dNil))) dNil)) (dgName 6))
    (dSeq (dDrop (dMeth mAppend (dVar 4) (dCons (dVar 6) dNil)))
    (dAsg (dOp addNewD (dVar 3) (dLc (dIter (dOp ixD (dVar 1) (dVar 6))) (dgName 7) (dNot (dTru (dIsi (dVar 7) ["str"]))) (e1__law_other_numbers) [7])) (dgName 3))))
def e2__law_other_numbers : DE :=
    (dIf (dTru (dIsi (dVar 7) ["str"])) (dVar 7) (dMeth mIndex (dVar 4) (dCons (dVar 7) dNil)))
def e3__law_other_numbers : DE :=
    (dB bTuple (dCons (dLc (dIter (dOp ixD (dVar 1) (dVar 9))) (dgName 7) dYes (e2__law_other_numbers) [7]) dNil))
def e4__law_other_numbers : DE :=
    (dOp ixD (dVar 2) (dVar 9))
def t__law_other_numbers : DS :=
    (dSeq (dAsg (dTup (dCons (dNew (dCons (dC (.int 0)) dNil)) (dCons (dNew dNil) dNil))) (dgTup 2 (dgCons (dgName 3) (dgCons (dgName 4) dgNil))))
    (dSeq (dFor (dRng1 (dB bLen (dCons (dVar 1) dNil))) (dgName 5) (b1__law_other_numbers))
    (dSeq (dAsg (dLc (dIter (dVar 4)) (dgName 9) dYes (e3__law_other_numbers) [9]) (dgName 8))
    (dRet (dTup (dCons (dB bTuple (dCons (dVar 8) dNil)) (dCons (dB bTuple (dCons (dLc (dIter (dVar 4)) (dgName 9) dYes (e4__law_other_numbers) [9]) dNil)) dNil)))))))
theorem st__law_other_numbers (a0 a1 a2 : D) : startD N__law_other_numbers [a0, a1, a2] = [some a0, some a1, some a2, none, none, none, none, none, none, none] := rfl
def sp__law_other_numbers : SpD := fun ds st kk => ∃ (i n : Nat) (w : Web) (row : List Int), ds = [.obj i, webD w, .tup (row.map D.int)] ∧ Tp i n st ∧ n < 1000000 ∧ Tw w row ∧
  ∀ (w' : Web) (row' : List Int) xs, Tw w' row' → w'.length = w.length → part w' row' 0 = part w row 0 → Bnd row row' → Tp i (n + 30) (st.set i xs) → kk (.tup [webD w', .tup (row'.map D.int)]) (st.set i xs)
theorem len__law_other_numbers (ds : List D) (st : Sto) (kk : DK) (h : sp__law_other_numbers ds st kk) : ds.length = 3 := by
  obtain ⟨_, _, _, _, rfl, _⟩ := h
  rfl
theorem nget {A L : Sto} {N a : Nat} (h : A.length = N) : (A ++ L)[N + a]? = L[a]? := by
  rw [List.getElem?_append_right (by omega), show N + a - A.length = a by omega]
theorem nset {A L : Sto} {N a : Nat} {x : List D} (h : A.length = N) : (A ++ L).set (N + a) x = A ++ L.set a x := by
  rw [List.set_append_right _ _ (by omega), show N + a - A.length = a by omega]
theorem find_idx (j : Nat) : ∀ O : List Nat, j ∈ O → findD (.int (j : Nat)) (O.map fun k : Nat => D.int (k : Nat)) = some (O.idxOf j)
  | [], h => by cases h
  | x :: O, h => by
    unfold findD
    rw [List.map_cons, List.findIdx?_cons, q_eqII, List.idxOf_cons]
    by_cases z : x = j
    · subst z
      simp
    · have a : ((x : Int) == (j : Int)) = false := by simp only [beq_eq_false_iff_ne, ne_eq]; omega
      have b : (x == j) = false := by simpa using z
      rw [a, b]
      have ih := find_idx j O ((List.mem_cons.mp h).resolve_left fun q => z q.symm)
      unfold findD at ih
      rw [ih]
      rfl
theorem ints_ok (n : Nat) (O : List Nat) : okDs n (O.map fun k : Nat => D.int (k : Nat)) = true := by
  rw [show O.map (fun k : Nat => D.int (k : Nat)) = (O.map fun k : Nat => (k : Int)).map D.int by rw [List.map_map]; rfl]
  exact okDs_int _ _
theorem ints_bel (n : Nat) (O : List Nat) : belows n (O.map fun k : Nat => D.int (k : Nat)) = true := by
  rw [show O.map (fun k : Nat => D.int (k : Nat)) = (O.map fun k : Nat => (k : Int)).map D.int by rw [List.map_map]; rfl]
  exact belows_int _ _
theorem p__law_other_numbers : BodyD true N__law_other_numbers sp__law_other_numbers t__law_other_numbers := by
  rintro ds st kk ⟨i, n, w, row, rfl, ht, hn, T, h⟩
  rw [st__law_other_numbers]
  simp only [t__law_other_numbers, webD]
  have w1 := T.nt.one
  have few := T.few
  (walk_at "lw_dd0")
  rw [show (st ++ [[D.int 0]]).length = st.length + 1 by simp, Int.toNat_natCast, List.append_assoc]
  obtain ⟨xs0, hx0, hT0⟩ := id ht
  have q0 := set_same hx0
  refine ⟨⟨by omega, by omega⟩, ?_⟩
  refine go_range w.length (fun j env s => ∃ (xs : List D) (L : Sto) (a : Nat) (O W : List Nat) (v5 v6 v7 : Option D), env = [some (.obj i), some (.tup (w.map ldsD)), some (.tup (row.map D.int)), some (.obj (st.length + a)), some (.obj (st.length + 1)), v5, v6, v7, none, none] ∧ s = st.set i xs ++ L ∧ Tp i (n + j) (st.set i xs) ∧ (∀ c ∈ L, belows 0 c = true) ∧ L[1]? = some (O.map fun k : Nat => D.int (k : Nat)) ∧ L[a]? = some (W.map fun k : Nat => D.int (k : Nat)) ∧ a ≠ 1 ∧ OrdI w O W ∧ O.length = j) ?_ ?_ _ _ ⟨xs0, _, 0, [], [0], _, _, _, rfl, by rw [q0], by rw [q0]; exact ht, ?_, rfl, rfl, by decide, .start T, rfl⟩
  · rintro j _ _ nx hj ⟨xs, L, a, O, W, v5, v6, v7, rfl, rfl, t1, cl, h1, ha, a1, I, oj⟩ q
    have lst : (st.set i xs).length = st.length := List.length_set
    have g0 : (st.set i xs ++ L)[st.length + a]? = some (W.map fun k : Nat => D.int (k : Nat)) := by rw [nget lst]; exact ha
    have wpos := I.more T (by omega)
    have wb := I.bound T
    refine ⟨trivial, ?_⟩
    (walk_at "lw_dd0")
    simp only [b1__law_other_numbers]
    (try simp only [BEq.rfl, ↓e_v0, ↓e_vs, ↓e_c, ↓e_op, ↓e_un, ↓e_test, ↓e_testK, ↓e_tru, ↓e_truL, ↓e_truT, ↓e_truB, ↓e_truI, ↓e_truN, ↓e_truS, ↓e_not, ↓e_and, ↓e_or, ↓e_andv, ↓e_notv, ↓e_andK, ↓e_notK, ↓e_if, ↓e_nil, ↓e_cons, ↓e_tup, ↓e_lst, ↓e_new, ↓e_call, ↓e_drop, ↓e_ret, ↓e_pass, ↓e_ifS, ↓e_g0, ↓e_gs, ↓e_gnil, ↓e_gcons, ↓e_gtup, ↓e_asg, ↓e_par, ↓e_parK, ↓e_par3, ↓e_par3K, ↓e_no, ↓e_some, ↓e_someK, ↓e_cut, ↓e_b, ↓e_iter, ↓e_iterL, ↓e_iterT, ↓e_iterS, ↓e_rng1, ↓e_rng1K, ↓e_rng2, ↓e_rng2K, ↓e_rng3, ↓e_rng3K, ↓e_enum, ↓e_enumL, ↓e_enumT, ↓e_for, ↓e_lc, ↓e_lcNew, ↓e_meth, ↓e_isL, ↓e_sub, ↓e_isi, ↓e_yes, ↓e_addI, ↓e_addB, ↓e_addS, ↓e_addT, ↓e_addL, ↓e_subI, ↓e_mulI, ↓e_mulT, ↓e_mulL, ↓e_divI, ↓e_modI, ↓e_powI, ↓e_negI, ↓e_cmpI, ↓e_eq, ↓e_ne, ↓e_isn, ↓e_isnn, ↓e_isb, ↓e_ixL, ↓e_ixKL, ↓e_ixT, ↓e_cutL, ↓e_cutKL, ↓e_cutT, ↓e_lenL, ↓e_lenKL, ↓e_lenT, ↓e_abs, ↓e_intI, ↓e_intB, ↓e_max2, ↓e_listNL, ↓e_listNT, ↓e_tupL, ↓e_tupT, ↓e_sum1T, ↓e_sum1L, ↓e_max1T, ↓e_max1L, ↓e_drI, ↓e_drB, ↓e_drS, ↓e_drN, ↓e_drL, ↓e_drT, ↓e_seq, ↓e_back, ↓e_backL, ↓e_backT, ↓e_unlL, ↓e_inFlat, ↓e_drK, ↓e_addBI, ↓e_subBI, ↓e_subIB, ↓e_drG, ↓e_dnew, ↓e_dgetF, ↓e_dget2, ↓e_dgPut, ↓e_join, ↓e_joinL, ↓e_cutS, ↓e_mulS, ↓e_sortV, ↓e_tidx, ↓e_mulNewL, ↓e_sortedPL, ↓e_indexL, ↓e_max3, e_kyI, e_kyS, Nat.reduceAdd, Nat.zero_add, List.length_cons, List.length_nil, List.length_map, Nat.reduceLeDiff, and_true, true_and, if_true, ite_true, decide_eq_true_eq, Bool.not_eq_true, Bool.false_eq_true, if_false, ite_false, ↓reduceIte, Int.reduceToNat, Int.reducePow, ne_eq, q_okI, q_okB, q_okN, q_okS, q_okL, q_okT, q_oks0, q_oks1, q_eqII, q_eqBB, q_eqSS, q_eqLL, q_eqTT, q_eqNN, q_eqNI, q_eqIN, q_eqs0, q_eqs1, Bool.true_and, Bool.and_true, beq_iff_eq, reduceCtorEq, wipeE, List.set_cons_zero, List.set_cons_succ, List.set_nil, Bool.not_true, Bool.not_false, List.getElem?_cons_zero, List.getElem?_cons_succ, e_isO g0])
    rw [e_lenO g0, List.length_map]
    refine ⟨i, _, _, rfl, t1.app _, by omega, ⟨by omega, by omega⟩, fun r ys r0 r1 t2 => ?_⟩
    have il : i < (st.set i xs).length := t1.lt
    rw [List.set_append_left _ _ il, List.set_set] at t2 ⊢
    have lst2 : (st.set i ys).length = st.length := List.length_set
    have t3 : Tp i (n + j + 1) (st.set i ys) := Tp.left t2 (by rw [List.length_set]; rw [List.length_set] at il; exact il)
    obtain ⟨m, rfl⟩ := Int.eq_ofNat_of_zero_le r0
    have hm : m < W.length := by omega
    have g1 : (st.set i ys ++ L)[st.length + a]? = some (W.map fun k : Nat => D.int (k : Nat)) := by rw [nget lst2]; exact ha
    have hW : W[m]? = some W[m] := List.getElem?_eq_getElem hm
    generalize W[m] = x at hW
    have hx := I.lt x (List.mem_of_getElem? hW)
    have la : a < L.length := (List.getElem?_eq_some_iff.mp ha).1
    have l1 : 1 < L.length := (List.getElem?_eq_some_iff.mp h1).1
    dsimp only
    rw [e_popAt g1]
    refine ⟨m, .int (x : Nat), rfl, by rw [List.getElem?_map, hW]; rfl, by omega, ?_⟩
    have ee : (W.map fun k : Nat => D.int (k : Nat)).eraseIdx m = (W.eraseIdx m).map fun k : Nat => D.int (k : Nat) := by
      rw [List.eraseIdx_eq_take_drop_succ, List.eraseIdx_eq_take_drop_succ, List.map_append, List.map_take, List.map_drop]
    rw [nset lst2, ee]
    generalize hL1 : L.set a ((W.eraseIdx m).map fun k : Nat => D.int (k : Nat)) = L1
    have h11 : L1[1]? = some (O.map fun k : Nat => D.int (k : Nat)) := by rw [← hL1, List.getElem?_set_ne a1]; exact h1
    have ha1 : L1[a]? = some ((W.eraseIdx m).map fun k : Nat => D.int (k : Nat)) := by rw [← hL1, List.getElem?_set_self la]
    have cl1 : ∀ c ∈ L1, belows 0 c = true := fun c hc => by
      rw [← hL1] at hc
      rcases List.mem_or_eq_of_mem_set hc with z | z
      · exact cl c z
      · rw [z]; exact ints_bel _ _
    have ln1 : L1.length = L.length := by rw [← hL1, List.length_set]
    have g2 : (st.set i ys ++ L1)[st.length + 1]? = some (O.map fun k : Nat => D.int (k : Nat)) := by rw [nget lst2]; exact h11
    refine ⟨e_isO g2, ?_⟩
    rw [e_app g2, nset lst2]
    refine ⟨by rw [List.length_map]; omega, ?_⟩
    have eo : (O.map fun k : Nat => D.int (k : Nat)) ++ [D.int (x : Nat)] = (O ++ [x]).map fun k : Nat => D.int (k : Nat) := by rw [List.map_append]; rfl
    rw [eo]
    generalize hL2 : L1.set 1 ((O ++ [x]).map fun k : Nat => D.int (k : Nat)) = L2
    have h12 : L2[1]? = some ((O ++ [x]).map fun k : Nat => D.int (k : Nat)) := by rw [← hL2, List.getElem?_set_self (by omega)]
    have ha2 : L2[a]? = some ((W.eraseIdx m).map fun k : Nat => D.int (k : Nat)) := by rw [← hL2, List.getElem?_set_ne (Ne.symm a1)]; exact ha1
    have cl2 : ∀ c ∈ L2, belows 0 c = true := fun c hc => by
      rw [← hL2] at hc
      rcases List.mem_or_eq_of_mem_set hc with z | z
      · exact cl1 c z
      · rw [z]; exact ints_bel _ _
    have ln2 : L2.length = L.length := by rw [← hL2, List.length_set, ln1]
    (walk_at "lw_dd0")
    refine ⟨_, at_web hx, ?_⟩
    (walk_at "lw_dd0")
    refine fun _ => lc_filter (src := []) Ld.d Ld.d (fun u => u.tx.isNone) _ trivial [leadN w x false, leadN w x true] [] (fun u hu k1 k2 g1 g2 => ?_) ?_
    · cases u with
      | out c =>
        simp only [Ld.d]
        (try simp only [BEq.rfl, ↓e_v0, ↓e_vs, ↓e_c, ↓e_op, ↓e_un, ↓e_test, ↓e_testK, ↓e_tru, ↓e_truL, ↓e_truT, ↓e_truB, ↓e_truI, ↓e_truN, ↓e_truS, ↓e_not, ↓e_and, ↓e_or, ↓e_andv, ↓e_notv, ↓e_andK, ↓e_notK, ↓e_if, ↓e_nil, ↓e_cons, ↓e_tup, ↓e_lst, ↓e_new, ↓e_call, ↓e_drop, ↓e_ret, ↓e_pass, ↓e_ifS, ↓e_g0, ↓e_gs, ↓e_gnil, ↓e_gcons, ↓e_gtup, ↓e_asg, ↓e_par, ↓e_parK, ↓e_par3, ↓e_par3K, ↓e_no, ↓e_some, ↓e_someK, ↓e_cut, ↓e_b, ↓e_iter, ↓e_iterL, ↓e_iterT, ↓e_iterS, ↓e_rng1, ↓e_rng1K, ↓e_rng2, ↓e_rng2K, ↓e_rng3, ↓e_rng3K, ↓e_enum, ↓e_enumL, ↓e_enumT, ↓e_for, ↓e_lc, ↓e_lcNew, ↓e_meth, ↓e_isL, ↓e_sub, ↓e_isi, ↓e_yes, ↓e_addI, ↓e_addB, ↓e_addS, ↓e_addT, ↓e_addL, ↓e_subI, ↓e_mulI, ↓e_mulT, ↓e_mulL, ↓e_divI, ↓e_modI, ↓e_powI, ↓e_negI, ↓e_cmpI, ↓e_eq, ↓e_ne, ↓e_isn, ↓e_isnn, ↓e_isb, ↓e_ixL, ↓e_ixKL, ↓e_ixT, ↓e_cutL, ↓e_cutKL, ↓e_cutT, ↓e_lenL, ↓e_lenKL, ↓e_lenT, ↓e_abs, ↓e_intI, ↓e_intB, ↓e_max2, ↓e_listNL, ↓e_listNT, ↓e_tupL, ↓e_tupT, ↓e_sum1T, ↓e_sum1L, ↓e_max1T, ↓e_max1L, ↓e_drI, ↓e_drB, ↓e_drS, ↓e_drN, ↓e_drL, ↓e_drT, ↓e_seq, ↓e_back, ↓e_backL, ↓e_backT, ↓e_unlL, ↓e_inFlat, ↓e_drK, ↓e_addBI, ↓e_subBI, ↓e_subIB, ↓e_drG, ↓e_dnew, ↓e_dgetF, ↓e_dget2, ↓e_dgPut, ↓e_join, ↓e_joinL, ↓e_cutS, ↓e_mulS, ↓e_sortV, ↓e_tidx, ↓e_mulNewL, ↓e_sortedPL, ↓e_indexL, ↓e_max3, e_kyI, e_kyS, Nat.reduceAdd, Nat.zero_add, List.length_cons, List.length_nil, List.length_map, Nat.reduceLeDiff, and_true, true_and, if_true, ite_true, decide_eq_true_eq, Bool.not_eq_true, Bool.false_eq_true, if_false, ite_false, ↓reduceIte, Int.reduceToNat, Int.reducePow, ne_eq, q_okI, q_okB, q_okN, q_okS, q_okL, q_okT, q_oks0, q_oks1, q_eqII, q_eqBB, q_eqSS, q_eqLL, q_eqTT, q_eqNN, q_eqNI, q_eqIN, q_eqs0, q_eqs1, Bool.true_and, Bool.and_true, beq_iff_eq, reduceCtorEq, wipeE, List.set_cons_zero, List.set_cons_succ, List.set_nil, Bool.not_true, Bool.not_false, List.getElem?_cons_zero, List.getElem?_cons_succ, tyD, subTy])
        refine ite_go (by decide) ?_
        exact g2 rfl
      | bal y =>
        simp only [Ld.d]
        (try simp only [BEq.rfl, ↓e_v0, ↓e_vs, ↓e_c, ↓e_op, ↓e_un, ↓e_test, ↓e_testK, ↓e_tru, ↓e_truL, ↓e_truT, ↓e_truB, ↓e_truI, ↓e_truN, ↓e_truS, ↓e_not, ↓e_and, ↓e_or, ↓e_andv, ↓e_notv, ↓e_andK, ↓e_notK, ↓e_if, ↓e_nil, ↓e_cons, ↓e_tup, ↓e_lst, ↓e_new, ↓e_call, ↓e_drop, ↓e_ret, ↓e_pass, ↓e_ifS, ↓e_g0, ↓e_gs, ↓e_gnil, ↓e_gcons, ↓e_gtup, ↓e_asg, ↓e_par, ↓e_parK, ↓e_par3, ↓e_par3K, ↓e_no, ↓e_some, ↓e_someK, ↓e_cut, ↓e_b, ↓e_iter, ↓e_iterL, ↓e_iterT, ↓e_iterS, ↓e_rng1, ↓e_rng1K, ↓e_rng2, ↓e_rng2K, ↓e_rng3, ↓e_rng3K, ↓e_enum, ↓e_enumL, ↓e_enumT, ↓e_for, ↓e_lc, ↓e_lcNew, ↓e_meth, ↓e_isL, ↓e_sub, ↓e_isi, ↓e_yes, ↓e_addI, ↓e_addB, ↓e_addS, ↓e_addT, ↓e_addL, ↓e_subI, ↓e_mulI, ↓e_mulT, ↓e_mulL, ↓e_divI, ↓e_modI, ↓e_powI, ↓e_negI, ↓e_cmpI, ↓e_eq, ↓e_ne, ↓e_isn, ↓e_isnn, ↓e_isb, ↓e_ixL, ↓e_ixKL, ↓e_ixT, ↓e_cutL, ↓e_cutKL, ↓e_cutT, ↓e_lenL, ↓e_lenKL, ↓e_lenT, ↓e_abs, ↓e_intI, ↓e_intB, ↓e_max2, ↓e_listNL, ↓e_listNT, ↓e_tupL, ↓e_tupT, ↓e_sum1T, ↓e_sum1L, ↓e_max1T, ↓e_max1L, ↓e_drI, ↓e_drB, ↓e_drS, ↓e_drN, ↓e_drL, ↓e_drT, ↓e_seq, ↓e_back, ↓e_backL, ↓e_backT, ↓e_unlL, ↓e_inFlat, ↓e_drK, ↓e_addBI, ↓e_subBI, ↓e_subIB, ↓e_drG, ↓e_dnew, ↓e_dgetF, ↓e_dget2, ↓e_dgPut, ↓e_join, ↓e_joinL, ↓e_cutS, ↓e_mulS, ↓e_sortV, ↓e_tidx, ↓e_mulNewL, ↓e_sortedPL, ↓e_indexL, ↓e_max3, e_kyI, e_kyS, Nat.reduceAdd, Nat.zero_add, List.length_cons, List.length_nil, List.length_map, Nat.reduceLeDiff, and_true, true_and, if_true, ite_true, decide_eq_true_eq, Bool.not_eq_true, Bool.false_eq_true, if_false, ite_false, ↓reduceIte, Int.reduceToNat, Int.reducePow, ne_eq, q_okI, q_okB, q_okN, q_okS, q_okL, q_okT, q_oks0, q_oks1, q_eqII, q_eqBB, q_eqSS, q_eqLL, q_eqTT, q_eqNN, q_eqNI, q_eqIN, q_eqs0, q_eqs1, Bool.true_and, Bool.and_true, beq_iff_eq, reduceCtorEq, wipeE, List.set_cons_zero, List.set_cons_succ, List.set_nil, Bool.not_true, Bool.not_false, List.getElem?_cons_zero, List.getElem?_cons_succ, tyD, subTy])
        refine ite_yes (by decide) ?_
        simp only [e1__law_other_numbers]
        (walk_at "lw_dd0")
        exact g1 rfl
    rw [List.nil_append]
    have ek : ([leadN w x false, leadN w x true].filter fun u => u.tx.isNone).map Ld.d = (kidsN w x).map fun k : Nat => D.int (k : Nat) := by
      unfold kidsN
      rw [List.map_map]
      refine List.map_congr_left fun u hu => ?_
      cases u with
      | out c => cases (List.mem_filter.mp hu).2
      | bal y => rfl
    rw [ek]
    have g3 : (st.set i ys ++ L2)[st.length + a]? = some ((W.eraseIdx m).map fun k : Nat => D.int (k : Nat)) := by rw [nget lst2]; exact ha2
    have I2 := I.next T hW
    have b2 := I2.bound T
    rw [e_addNewOL g3]
    rw [List.length_append, List.length_append] at b2
    refine ⟨by rw [List.length_map, List.length_map]; omega, ?_⟩
    have le2 : (st.set i ys ++ L2).length = st.length + L2.length := by rw [List.length_append, lst2]
    rw [le2, List.append_assoc]
    refine q _ _ ⟨ys, L2 ++ [(W.eraseIdx m ++ kidsN w x).map fun k : Nat => D.int (k : Nat)], L2.length, O ++ [x], W.eraseIdx m ++ kidsN w x, _, _, _, rfl, ?_, by rw [show n + (j + 1) = n + j + 1 by omega]; exact t3, fun c hc => ?_, ?_, ?_, by omega, I2, by rw [List.length_append, List.length_singleton, oj]⟩
    · rw [List.map_append]
    · rcases List.mem_append.mp hc with z | z
      · exact cl2 c z
      · rw [List.mem_singleton.mp z]; exact ints_bel _ _
    · rw [List.getElem?_append_left (by omega)]
      exact h12
    · rw [List.getElem?_concat_length]
  · rintro _ _ ⟨xs, L, a, O, W, v5, v6, v7, rfl, rfl, t1, cl, h1, ha, a1, I, oj⟩
    have lst : (st.set i xs).length = st.length := List.length_set
    have g0 : (st.set i xs ++ L)[st.length + 1]? = some (O.map fun k : Nat => D.int (k : Nat)) := by rw [nget lst]; exact h1
    have Od := I.fin T oj
    obtain ⟨T2, p2⟩ := T.ren Od
    refine ⟨trivial, ?_⟩
    (try simp only [BEq.rfl, ↓e_v0, ↓e_vs, ↓e_c, ↓e_op, ↓e_un, ↓e_test, ↓e_testK, ↓e_tru, ↓e_truL, ↓e_truT, ↓e_truB, ↓e_truI, ↓e_truN, ↓e_truS, ↓e_not, ↓e_and, ↓e_or, ↓e_andv, ↓e_notv, ↓e_andK, ↓e_notK, ↓e_if, ↓e_nil, ↓e_cons, ↓e_tup, ↓e_lst, ↓e_new, ↓e_call, ↓e_drop, ↓e_ret, ↓e_pass, ↓e_ifS, ↓e_g0, ↓e_gs, ↓e_gnil, ↓e_gcons, ↓e_gtup, ↓e_asg, ↓e_par, ↓e_parK, ↓e_par3, ↓e_par3K, ↓e_no, ↓e_some, ↓e_someK, ↓e_cut, ↓e_b, ↓e_iter, ↓e_iterL, ↓e_iterT, ↓e_iterS, ↓e_rng1, ↓e_rng1K, ↓e_rng2, ↓e_rng2K, ↓e_rng3, ↓e_rng3K, ↓e_enum, ↓e_enumL, ↓e_enumT, ↓e_for, ↓e_lc, ↓e_lcNew, ↓e_meth, ↓e_isL, ↓e_sub, ↓e_isi, ↓e_yes, ↓e_addI, ↓e_addB, ↓e_addS, ↓e_addT, ↓e_addL, ↓e_subI, ↓e_mulI, ↓e_mulT, ↓e_mulL, ↓e_divI, ↓e_modI, ↓e_powI, ↓e_negI, ↓e_cmpI, ↓e_eq, ↓e_ne, ↓e_isn, ↓e_isnn, ↓e_isb, ↓e_ixL, ↓e_ixKL, ↓e_ixT, ↓e_cutL, ↓e_cutKL, ↓e_cutT, ↓e_lenL, ↓e_lenKL, ↓e_lenT, ↓e_abs, ↓e_intI, ↓e_intB, ↓e_max2, ↓e_listNL, ↓e_listNT, ↓e_tupL, ↓e_tupT, ↓e_sum1T, ↓e_sum1L, ↓e_max1T, ↓e_max1L, ↓e_drI, ↓e_drB, ↓e_drS, ↓e_drN, ↓e_drL, ↓e_drT, ↓e_seq, ↓e_back, ↓e_backL, ↓e_backT, ↓e_unlL, ↓e_inFlat, ↓e_drK, ↓e_addBI, ↓e_subBI, ↓e_subIB, ↓e_drG, ↓e_dnew, ↓e_dgetF, ↓e_dget2, ↓e_dgPut, ↓e_join, ↓e_joinL, ↓e_cutS, ↓e_mulS, ↓e_sortV, ↓e_tidx, ↓e_mulNewL, ↓e_sortedPL, ↓e_indexL, ↓e_max3, e_kyI, e_kyS, Nat.reduceAdd, Nat.zero_add, List.length_cons, List.length_nil, List.length_map, Nat.reduceLeDiff, and_true, true_and, if_true, ite_true, decide_eq_true_eq, Bool.not_eq_true, Bool.false_eq_true, if_false, ite_false, ↓reduceIte, Int.reduceToNat, Int.reducePow, ne_eq, q_okI, q_okB, q_okN, q_okS, q_okL, q_okT, q_oks0, q_oks1, q_eqII, q_eqBB, q_eqSS, q_eqLL, q_eqTT, q_eqNN, q_eqNI, q_eqIN, q_eqs0, q_eqs1, Bool.true_and, Bool.and_true, beq_iff_eq, reduceCtorEq, wipeE, List.set_cons_zero, List.set_cons_succ, List.set_nil, Bool.not_true, Bool.not_false, List.getElem?_cons_zero, List.getElem?_cons_succ, e_iterO g0])
    refine fun _ => ⟨by omega, ?_⟩
    refine lc_map (src := [(st.length + 1, O.map fun k : Nat => D.int (k : Nat))]) (fun k : Nat => D.int (k : Nat)) (fun k => ldsD (numL O (leadN w k false), numL O (leadN w k true))) O _ ⟨g0, trivial⟩ [] (fun k hk kd hkd => ?_) ?_
    · have kl := (Od.mem k).mp hk
      (walk_at "lw_dd0")
      simp only [e3__law_other_numbers]
      (walk_at "lw_dd0")
      refine ⟨_, at_web kl, ?_⟩
      (walk_at "lw_dd0")
      refine fun _ => lc_map (src := []) Ld.d (fun u => (numL O u).d) [leadN w k false, leadN w k true] _ trivial [] (fun u hu kd hk2 => ?_) ?_
      · have ub : ∀ j, u = .bal j → j ∈ O := fun j e => by
          subst e
          rcases List.mem_cons.mp hu with q | q
          · exact (Od.mem j).mpr (T.bal kl q.symm).2
          · exact (Od.mem j).mpr (T.bal kl (List.mem_singleton.mp q).symm).2
        cases u with
        | out c =>
          simp only [Ld.d]
          (walk_at "lw_dd0")
          simp only [e2__law_other_numbers]
          (try simp only [BEq.rfl, ↓e_v0, ↓e_vs, ↓e_c, ↓e_op, ↓e_un, ↓e_test, ↓e_testK, ↓e_tru, ↓e_truL, ↓e_truT, ↓e_truB, ↓e_truI, ↓e_truN, ↓e_truS, ↓e_not, ↓e_and, ↓e_or, ↓e_andv, ↓e_notv, ↓e_andK, ↓e_notK, ↓e_if, ↓e_nil, ↓e_cons, ↓e_tup, ↓e_lst, ↓e_new, ↓e_call, ↓e_drop, ↓e_ret, ↓e_pass, ↓e_ifS, ↓e_g0, ↓e_gs, ↓e_gnil, ↓e_gcons, ↓e_gtup, ↓e_asg, ↓e_par, ↓e_parK, ↓e_par3, ↓e_par3K, ↓e_no, ↓e_some, ↓e_someK, ↓e_cut, ↓e_b, ↓e_iter, ↓e_iterL, ↓e_iterT, ↓e_iterS, ↓e_rng1, ↓e_rng1K, ↓e_rng2, ↓e_rng2K, ↓e_rng3, ↓e_rng3K, ↓e_enum, ↓e_enumL, ↓e_enumT, ↓e_for, ↓e_lc, ↓e_lcNew, ↓e_meth, ↓e_isL, ↓e_sub, ↓e_isi, ↓e_yes, ↓e_addI, ↓e_addB, ↓e_addS, ↓e_addT, ↓e_addL, ↓e_subI, ↓e_mulI, ↓e_mulT, ↓e_mulL, ↓e_divI, ↓e_modI, ↓e_powI, ↓e_negI, ↓e_cmpI, ↓e_eq, ↓e_ne, ↓e_isn, ↓e_isnn, ↓e_isb, ↓e_ixL, ↓e_ixKL, ↓e_ixT, ↓e_cutL, ↓e_cutKL, ↓e_cutT, ↓e_lenL, ↓e_lenKL, ↓e_lenT, ↓e_abs, ↓e_intI, ↓e_intB, ↓e_max2, ↓e_listNL, ↓e_listNT, ↓e_tupL, ↓e_tupT, ↓e_sum1T, ↓e_sum1L, ↓e_max1T, ↓e_max1L, ↓e_drI, ↓e_drB, ↓e_drS, ↓e_drN, ↓e_drL, ↓e_drT, ↓e_seq, ↓e_back, ↓e_backL, ↓e_backT, ↓e_unlL, ↓e_inFlat, ↓e_drK, ↓e_addBI, ↓e_subBI, ↓e_subIB, ↓e_drG, ↓e_dnew, ↓e_dgetF, ↓e_dget2, ↓e_dgPut, ↓e_join, ↓e_joinL, ↓e_cutS, ↓e_mulS, ↓e_sortV, ↓e_tidx, ↓e_mulNewL, ↓e_sortedPL, ↓e_indexL, ↓e_max3, e_kyI, e_kyS, Nat.reduceAdd, Nat.zero_add, List.length_cons, List.length_nil, List.length_map, Nat.reduceLeDiff, and_true, true_and, if_true, ite_true, decide_eq_true_eq, Bool.not_eq_true, Bool.false_eq_true, if_false, ite_false, ↓reduceIte, Int.reduceToNat, Int.reducePow, ne_eq, q_okI, q_okB, q_okN, q_okS, q_okL, q_okT, q_oks0, q_oks1, q_eqII, q_eqBB, q_eqSS, q_eqLL, q_eqTT, q_eqNN, q_eqNI, q_eqIN, q_eqs0, q_eqs1, Bool.true_and, Bool.and_true, beq_iff_eq, reduceCtorEq, wipeE, List.set_cons_zero, List.set_cons_succ, List.set_nil, Bool.not_true, Bool.not_false, List.getElem?_cons_zero, List.getElem?_cons_succ, tyD, subTy])
          exact ite_yes (by decide) hk2
        | bal y =>
          simp only [Ld.d]
          (walk_at "lw_dd0")
          simp only [e2__law_other_numbers]
          (try simp only [BEq.rfl, ↓e_v0, ↓e_vs, ↓e_c, ↓e_op, ↓e_un, ↓e_test, ↓e_testK, ↓e_tru, ↓e_truL, ↓e_truT, ↓e_truB, ↓e_truI, ↓e_truN, ↓e_truS, ↓e_not, ↓e_and, ↓e_or, ↓e_andv, ↓e_notv, ↓e_andK, ↓e_notK, ↓e_if, ↓e_nil, ↓e_cons, ↓e_tup, ↓e_lst, ↓e_new, ↓e_call, ↓e_drop, ↓e_ret, ↓e_pass, ↓e_ifS, ↓e_g0, ↓e_gs, ↓e_gnil, ↓e_gcons, ↓e_gtup, ↓e_asg, ↓e_par, ↓e_parK, ↓e_par3, ↓e_par3K, ↓e_no, ↓e_some, ↓e_someK, ↓e_cut, ↓e_b, ↓e_iter, ↓e_iterL, ↓e_iterT, ↓e_iterS, ↓e_rng1, ↓e_rng1K, ↓e_rng2, ↓e_rng2K, ↓e_rng3, ↓e_rng3K, ↓e_enum, ↓e_enumL, ↓e_enumT, ↓e_for, ↓e_lc, ↓e_lcNew, ↓e_meth, ↓e_isL, ↓e_sub, ↓e_isi, ↓e_yes, ↓e_addI, ↓e_addB, ↓e_addS, ↓e_addT, ↓e_addL, ↓e_subI, ↓e_mulI, ↓e_mulT, ↓e_mulL, ↓e_divI, ↓e_modI, ↓e_powI, ↓e_negI, ↓e_cmpI, ↓e_eq, ↓e_ne, ↓e_isn, ↓e_isnn, ↓e_isb, ↓e_ixL, ↓e_ixKL, ↓e_ixT, ↓e_cutL, ↓e_cutKL, ↓e_cutT, ↓e_lenL, ↓e_lenKL, ↓e_lenT, ↓e_abs, ↓e_intI, ↓e_intB, ↓e_max2, ↓e_listNL, ↓e_listNT, ↓e_tupL, ↓e_tupT, ↓e_sum1T, ↓e_sum1L, ↓e_max1T, ↓e_max1L, ↓e_drI, ↓e_drB, ↓e_drS, ↓e_drN, ↓e_drL, ↓e_drT, ↓e_seq, ↓e_back, ↓e_backL, ↓e_backT, ↓e_unlL, ↓e_inFlat, ↓e_drK, ↓e_addBI, ↓e_subBI, ↓e_subIB, ↓e_drG, ↓e_dnew, ↓e_dgetF, ↓e_dget2, ↓e_dgPut, ↓e_join, ↓e_joinL, ↓e_cutS, ↓e_mulS, ↓e_sortV, ↓e_tidx, ↓e_mulNewL, ↓e_sortedPL, ↓e_indexL, ↓e_max3, e_kyI, e_kyS, Nat.reduceAdd, Nat.zero_add, List.length_cons, List.length_nil, List.length_map, Nat.reduceLeDiff, and_true, true_and, if_true, ite_true, decide_eq_true_eq, Bool.not_eq_true, Bool.false_eq_true, if_false, ite_false, ↓reduceIte, Int.reduceToNat, Int.reducePow, ne_eq, q_okI, q_okB, q_okN, q_okS, q_okL, q_okT, q_oks0, q_oks1, q_eqII, q_eqBB, q_eqSS, q_eqLL, q_eqTT, q_eqNN, q_eqNI, q_eqIN, q_eqs0, q_eqs1, Bool.true_and, Bool.and_true, beq_iff_eq, reduceCtorEq, wipeE, List.set_cons_zero, List.set_cons_succ, List.set_nil, Bool.not_true, Bool.not_false, List.getElem?_cons_zero, List.getElem?_cons_succ, tyD, subTy])
          refine ite_go (by decide) ?_
          refine ⟨e_isO g0, ?_⟩
          rw [e_indexO g0]
          exact ⟨ints_ok _ _, rfl, _, find_idx y O (ub y rfl), hk2⟩
      · (walk_at "lw_dd0")
        exact hkd
    rw [List.nil_append]
    (try simp only [BEq.rfl, ↓e_v0, ↓e_vs, ↓e_c, ↓e_op, ↓e_un, ↓e_test, ↓e_testK, ↓e_tru, ↓e_truL, ↓e_truT, ↓e_truB, ↓e_truI, ↓e_truN, ↓e_truS, ↓e_not, ↓e_and, ↓e_or, ↓e_andv, ↓e_notv, ↓e_andK, ↓e_notK, ↓e_if, ↓e_nil, ↓e_cons, ↓e_tup, ↓e_lst, ↓e_new, ↓e_call, ↓e_drop, ↓e_ret, ↓e_pass, ↓e_ifS, ↓e_g0, ↓e_gs, ↓e_gnil, ↓e_gcons, ↓e_gtup, ↓e_asg, ↓e_par, ↓e_parK, ↓e_par3, ↓e_par3K, ↓e_no, ↓e_some, ↓e_someK, ↓e_cut, ↓e_b, ↓e_iter, ↓e_iterL, ↓e_iterT, ↓e_iterS, ↓e_rng1, ↓e_rng1K, ↓e_rng2, ↓e_rng2K, ↓e_rng3, ↓e_rng3K, ↓e_enum, ↓e_enumL, ↓e_enumT, ↓e_for, ↓e_lc, ↓e_lcNew, ↓e_meth, ↓e_isL, ↓e_sub, ↓e_isi, ↓e_yes, ↓e_addI, ↓e_addB, ↓e_addS, ↓e_addT, ↓e_addL, ↓e_subI, ↓e_mulI, ↓e_mulT, ↓e_mulL, ↓e_divI, ↓e_modI, ↓e_powI, ↓e_negI, ↓e_cmpI, ↓e_eq, ↓e_ne, ↓e_isn, ↓e_isnn, ↓e_isb, ↓e_ixL, ↓e_ixKL, ↓e_ixT, ↓e_cutL, ↓e_cutKL, ↓e_cutT, ↓e_lenL, ↓e_lenKL, ↓e_lenT, ↓e_abs, ↓e_intI, ↓e_intB, ↓e_max2, ↓e_listNL, ↓e_listNT, ↓e_tupL, ↓e_tupT, ↓e_sum1T, ↓e_sum1L, ↓e_max1T, ↓e_max1L, ↓e_drI, ↓e_drB, ↓e_drS, ↓e_drN, ↓e_drL, ↓e_drT, ↓e_seq, ↓e_back, ↓e_backL, ↓e_backT, ↓e_unlL, ↓e_inFlat, ↓e_drK, ↓e_addBI, ↓e_subBI, ↓e_subIB, ↓e_drG, ↓e_dnew, ↓e_dgetF, ↓e_dget2, ↓e_dgPut, ↓e_join, ↓e_joinL, ↓e_cutS, ↓e_mulS, ↓e_sortV, ↓e_tidx, ↓e_mulNewL, ↓e_sortedPL, ↓e_indexL, ↓e_max3, e_kyI, e_kyS, Nat.reduceAdd, Nat.zero_add, List.length_cons, List.length_nil, List.length_map, Nat.reduceLeDiff, and_true, true_and, if_true, ite_true, decide_eq_true_eq, Bool.not_eq_true, Bool.false_eq_true, if_false, ite_false, ↓reduceIte, Int.reduceToNat, Int.reducePow, ne_eq, q_okI, q_okB, q_okN, q_okS, q_okL, q_okT, q_oks0, q_oks1, q_eqII, q_eqBB, q_eqSS, q_eqLL, q_eqTT, q_eqNN, q_eqNI, q_eqIN, q_eqs0, q_eqs1, Bool.true_and, Bool.and_true, beq_iff_eq, reduceCtorEq, wipeE, List.set_cons_zero, List.set_cons_succ, List.set_nil, Bool.not_true, Bool.not_false, List.getElem?_cons_zero, List.getElem?_cons_succ, e_iterO g0])
    refine fun _ => ⟨by omega, ?_⟩
    refine lc_map (src := [(st.length + 1, O.map fun k : Nat => D.int (k : Nat))]) (fun k : Nat => D.int (k : Nat)) (fun k => D.int (row.getD k 0)) O _ ⟨g0, trivial⟩ [] (fun k hk kd hkd => ?_) ?_
    · have kl := (Od.mem k).mp hk
      (walk_at "lw_dd0")
      simp only [e4__law_other_numbers]
      (walk_at "lw_dd0")
      exact ⟨_, at_row (by rw [T.lies.len]; exact kl), hkd⟩
    rw [List.nil_append]
    have er : O.map (fun k => ldsD (numL O (leadN w k false), numL O (leadN w k true))) = (renW w O).map ldsD := by
      unfold renW
      rw [List.map_map]
      rfl
    have eq : O.map (fun k => D.int (row.getD k 0)) = (renR row O).map D.int := by
      unfold renR
      rw [List.map_map]
      rfl
    rw [er, eq]
    refine frz_tapeN rfl t1 cl ?_
    rw [frzs_closed (by simp only [below, belows, lds_below, belows_int, Bool.and_self])]
    exact h _ _ xs T2 (by unfold renW; rw [List.length_map, Od.len]) p2 bnd_ren (t1.mono (by omega))
  · intro c hc
    rcases List.mem_cons.mp hc with z | z
    · rw [z]; rfl
    · rw [List.mem_singleton.mp z]; rfl
def e1__law_tree : DE :=
    (dCall sp__law_standing (dCons (dVar 0) (dCons (dOp ixD (dLst (dCons (dC (.int 2)) (dCons (dC (.int 24)) (dCons (dOp mulD (dC (.int 5)) (dOp powD (dC (.int 10)) (dC (.int 8)))) dNil)))) (dCall sp__law_draw (dCons (dVar 0) (dCons (dC (.int 3)) dNil)))) dNil)))
def t__law_tree : DS :=
    (dSeq (dAsg (dCall sp__law_net (dCons (dVar 0) (dCons (dVar 1) (dCons (dOp addD (dC (.int 1)) (dCall sp__law_draw (dCons (dVar 0) (dCons (dC (.int 8)) dNil)))) (dCons (dOp addD (dC (.int 1)) (dCall sp__law_draw (dCons (dVar 0) (dCons (dC (.int 5)) dNil)))) (dCons (dC (.bl false)) dNil)))))) (dgName 2))
    (dRet (dTup (dCons (dVar 2) (dCons (dB bTuple (dCons (dLc (dIter (dVar 2)) (dgName 3) dYes (e1__law_tree) [3]) dNil)) dNil)))))
theorem st__law_tree (a0 a1 : D) : startD N__law_tree [a0, a1] = [some a0, some a1, none, none] := rfl
def sp__law_tree : SpD := fun ds st kk => ∃ (i n : Nat) (names : List (List Nat)), ds = [.obj i, .lst (names.map fun z => .str (S z))] ∧ Tp i n st ∧ n < 1000000 ∧ 1 ≤ names.length ∧ names.length ≤ 100 ∧ (∀ z ∈ names, NameL z) ∧
  ∀ (w : Web) (row : List Int) xs, Tw w row → w.length ≤ 8 → (∀ x ∈ row, x.natAbs < 1000000000) → (∀ k s c, leadW w k s = some (.out c) → c ∈ names) → Tp i (n + 200) (st.set i xs) → kk (.tup [webD w, .tup (row.map D.int)]) (st.set i xs)
theorem len__law_tree (ds : List D) (st : Sto) (kk : DK) (h : sp__law_tree ds st kk) : ds.length = 2 := by
  obtain ⟨_, _, _, rfl, _⟩ := h
  rfl
theorem mul5a : MulOk 5 100000000 := mulr _ _ (by decide) (by decide)
theorem p__law_tree : BodyD false N__law_tree sp__law_tree t__law_tree := by
  rintro ds st kk ⟨i, n, names, rfl, ht, hn, n1, n100, hnm, h⟩
  rw [st__law_tree]
  simp only [t__law_tree]
  (walk_at "lw_dd0")
  refine ⟨i, n, 8, rfl, ht, by omega, by (first | exact mulc _ _ (by decide) (by decide) | exact mulr _ _ (by decide) (by decide) | exact ⟨by decide, by decide, by decide⟩ | exact ⟨by decide, by decide⟩ | exact mulb _ _ | exact ⟨by omega, by omega⟩ | exact mulc _ _ (by omega) (by omega) | exact mulr _ _ (by omega) (by omega) | exact div_small (by omega) (by omega) | exact ⟨by omega, by omega, by omega⟩ | omega | decide), fun a x1 a0 a1 t1 => ?_⟩
  (walk_at "lw_dd0")
  refine ⟨i, _, 5, rfl, t1, by omega, by (first | exact mulc _ _ (by decide) (by decide) | exact mulr _ _ (by decide) (by decide) | exact ⟨by decide, by decide, by decide⟩ | exact ⟨by decide, by decide⟩ | exact mulb _ _ | exact ⟨by omega, by omega⟩ | exact mulc _ _ (by omega) (by omega) | exact mulr _ _ (by omega) (by omega) | exact div_small (by omega) (by omega) | exact ⟨by omega, by omega, by omega⟩ | omega | decide), fun b x2 b0 b1 t2 => ?_⟩
  rw [List.set_set] at t2 ⊢
  obtain ⟨p, rfl⟩ := Int.eq_ofNat_of_zero_le a0
  obtain ⟨q, rfl⟩ := Int.eq_ofNat_of_zero_le b0
  (walk_at "lw_dd0")
  refine ⟨i, _, names, 1 + p, 1 + q, false, rfl, t2, by omega, n1, n100, hnm, by omega, by omega, by omega, fun w x3 ok t3 => ?_⟩
  rw [List.set_set] at t3 ⊢
  have nt : Nt w := ok.nt (by omega)
  have wl : w.length ≤ 8 := by have := ok.len; omega
  have fine : WebFine w := ok.fine hnm (by omega)
  simp only [webD]
  (walk_at "lw_dd0")
  refine fun _ => ⟨by omega, ?_⟩
  have lm : (w.map ldsD).length ≤ 8 := by rw [List.length_map]; exact wl
  refine lc_draws (fun x : Int => D.int x) (fun x => x % 2 = 1 ∧ x.natAbs < 1000000000) i 4 1100000 (fun d n2 s2 kd2 t2 hn2 hk2 => ?_) _ (n + 1 + 1 + 100) _ [] t3 (by omega) fun rs ys hrl hrs t4 => ?_
  · simp only [e1__law_tree]
    (walk_at "lw_dd0")
    refine ⟨⟨by decide, by decide, by decide⟩, mul5a, i, _, 3, rfl, t2, by omega, by (first | exact mulc _ _ (by decide) (by decide) | exact mulr _ _ (by decide) (by decide) | exact ⟨by decide, by decide, by decide⟩ | exact ⟨by decide, by decide⟩ | exact mulb _ _ | exact ⟨by omega, by omega⟩ | exact mulc _ _ (by omega) (by omega) | exact mulr _ _ (by omega) (by omega) | exact div_small (by omega) (by omega) | exact ⟨by omega, by omega, by omega⟩ | omega | decide), fun r x5 r0 r1 t5 => ?_⟩
    obtain ⟨c, hc, c1, c2⟩ : ∃ c : Int, atI [D.int 2, D.int 24, D.int (5 * 100000000)] r = some (.int c) ∧ 1 ≤ c ∧ c ≤ 500000000 := by
      rcases (show r = 0 ∨ r = 1 ∨ r = 2 by omega) with rfl | rfl | rfl
      · exact ⟨2, rfl, by decide, by decide⟩
      · exact ⟨24, rfl, by decide, by decide⟩
      · exact ⟨500000000, rfl, by decide, by decide⟩
    (walk_at "lw_dd0")
    refine ⟨_, hc, i, _, c, rfl, t5, by omega, by omega, by omega, fun x ys x0 l1 l2 t6 => ?_⟩
    rw [List.set_set] at t6 ⊢
    refine hk2 x ys ⟨x0, ?_⟩ (t6.mono (by omega))
    omega
  rw [List.set_set] at t4 ⊢
  rw [List.nil_append, List.length_map] at *
  (walk_at "lw_dd0")
  refine h w rs ys ⟨nt, ok.led, ok.tree rfl, ⟨hrl, fun x hx => (hrs x hx).1⟩, fine, by omega⟩ wl (fun x hx => (hrs x hx).2) ok.nm (t4.mono (by omega))
def b1__law_otherwise : DS :=
    (dIfS (dAnd (dTest (dOp (cmpI fun i j => decide (i < j)) (dB bLen (dCons (dVar 1) dNil)) (dC (.int 8)))) (dTest (dOp (cmpI fun i j => decide (i < j)) (dB bMax1 (dCons (dCall sp__law_levels (dCons (dVar 1) dNil)) dNil)) (dC (.int 4))))) (dAsg (dCall sp__law_put_at_exit (dCons (dVar 0) (dCons (dVar 1) (dCons (dVar 2) (dCons (dC (.int 24)) dNil))))) (dgTup 2 (dgCons (dgName 1) (dgCons (dgName 2) dgNil)))) dPass)
def b2__law_otherwise : DS :=
    (dIfS (dTest (dOp (eqOp false) (dCall sp__law_draw (dCons (dVar 0) (dCons (dC (.int 2)) dNil))) (dC (.int 0)))) (dAsg (dCall sp__law_crossed (dCons (dVar 1) (dCons (dVar 2) (dCons (dVar 4) dNil)))) (dgTup 2 (dgCons (dgName 1) (dgCons (dgName 2) dgNil)))) dPass)
def t__law_otherwise : DS :=
    (dSeq (dFor (dRng1 (dCall sp__law_draw (dCons (dVar 0) (dCons (dC (.int 3)) dNil)))) (dgName 3) (b1__law_otherwise))
    (dSeq (dFor (dRng1 (dB bLen (dCons (dVar 1) dNil))) (dgName 4) (b2__law_otherwise))
    (dRet (dCall sp__law_other_numbers (dCons (dVar 0) (dCons (dVar 1) (dCons (dVar 2) dNil)))))))
theorem st__law_otherwise (a0 a1 a2 : D) : startD N__law_otherwise [a0, a1, a2] = [some a0, some a1, some a2, none, none] := rfl
def sp__law_otherwise : SpD := fun ds st kk => ∃ (i n : Nat) (w : Web) (row : List Int), ds = [.obj i, webD w, .tup (row.map D.int)] ∧ Tp i n st ∧ n < 900000 ∧ Tw w row ∧ w.length ≤ 8 ∧
  ∀ (w' : Web) (row' : List Int) xs, Tw w' row' → w'.length ≤ 8 → part w' row' 0 = part w row 0 → Bnd row row' → Tp i (n + 200) (st.set i xs) → kk (.tup [webD w', .tup (row'.map D.int)]) (st.set i xs)
theorem len__law_otherwise (ds : List D) (st : Sto) (kk : DK) (h : sp__law_otherwise ds st kk) : ds.length = 3 := by
  obtain ⟨_, _, _, _, rfl, _⟩ := h
  rfl
theorem p__law_otherwise : BodyD true N__law_otherwise sp__law_otherwise t__law_otherwise := by
  rintro ds st kk ⟨i, n, w0, row0, rfl, ht, hn, T0, w8, h⟩
  rw [st__law_otherwise]
  simp only [t__law_otherwise]
  refine ⟨i, n, 3, rfl, ht, by omega, by (first | exact mulc _ _ (by decide) (by decide) | exact mulr _ _ (by decide) (by decide) | exact ⟨by decide, by decide, by decide⟩ | exact ⟨by decide, by decide⟩ | exact mulb _ _ | exact ⟨by omega, by omega⟩ | exact mulc _ _ (by omega) (by omega) | exact mulr _ _ (by omega) (by omega) | exact div_small (by omega) (by omega) | exact ⟨by omega, by omega, by omega⟩ | omega | decide), fun r x1 r0 r1 t1 => ?_⟩
  obtain ⟨m, rfl⟩ := Int.eq_ofNat_of_zero_le r0
  (walk_at "lw_dd0")
  refine ⟨⟨by omega, by omega⟩, ?_⟩
  rw [Int.toNat_natCast]
  refine go_range m (fun j env s => ∃ (xs : List D) (L : Sto) (w : Web) (row : List Int) (v3 : Option D), env = [some (.obj i), some (webD w), some (.tup (row.map D.int)), v3, none] ∧ s = st.set i xs ++ L ∧ Tp i (n + 1 + 10 * j) (st.set i xs) ∧ (∀ c ∈ L, belows 0 c = true) ∧ Tw w row ∧ w.length ≤ 8 ∧ part w row 0 = part w0 row0 0 ∧ Bnd row0 row) ?_ ?_ _ _ ⟨x1, [], w0, row0, _, rfl, by simp, t1, fun c hc => absurd hc (by simp), T0, w8, rfl, .self _⟩
  · rintro j _ _ nx hj ⟨xs, L, w, row, v3, rfl, rfl, t2, cl, T, wl, hp, hb⟩ q
    have lst : (st.set i xs).length = st.length := List.length_set
    have il : i < (st.set i xs).length := t2.lt
    refine ⟨trivial, ?_⟩
    (walk_at "lw_dd0")
    simp only [b1__law_otherwise, webD]
    (walk_at "lw_dd0")
    by_cases z : w.length < 8
    · rw [if_pos (by omega)]
      refine ⟨w, rfl, T.nt, by omega, ?_⟩
      refine max_natsO (by rw [levN_len]; have := T.nt.one; omega) ?_
      (walk_at "lw_dd0")
      have cl2 : ∀ c ∈ L ++ [natsD (levN w)], belows 0 c = true := fun c hc => by
        rcases List.mem_append.mp hc with y | y
        · exact cl c y
        · rw [List.mem_singleton.mp y]
          exact nats_closed _ _
      by_cases y : topN (levN w) < 4
      · rw [if_pos (by omega), List.append_assoc]
        refine ⟨i, _, w, row, rfl, t2.app _, by omega, T, by omega, fun w' row' ys T' l' p' b' t' => ?_⟩
        rw [List.set_append_left _ _ il, List.set_set] at t' ⊢
        (walk_at "lw_dd0")
        refine q _ _ ⟨ys, _, w', row', _, rfl, rfl, ?_, cl2, T', by omega, by rw [p', hp], hb.trans b'⟩
        exact (Tp.left t' (by rw [List.length_set]; rw [List.length_set] at il; exact il)).mono (by omega)
      · rw [if_neg (by omega), List.append_assoc]
        exact q _ _ ⟨xs, _, w, row, _, rfl, rfl, t2.mono (by omega), cl2, T, wl, hp, hb⟩
    · rw [if_neg (by omega)]
      exact q _ _ ⟨xs, L, w, row, _, rfl, rfl, t2.mono (by omega), cl, T, wl, hp, hb⟩
  · rintro _ _ ⟨xs, L, w, row, v3, rfl, rfl, t2, cl, T, wl, hp, hb⟩
    refine ⟨trivial, ?_⟩
    have e1 : sp__law_otherwise = sp__law_otherwise := rfl
    (walk_at "lw_dd0")
    show bLen [.tup (w.map ldsD)] _ _
    rw [e_lenT, List.length_map]
    (walk_at "lw_dd0")
    refine ⟨⟨by omega, by omega⟩, ?_⟩
    rw [Int.toNat_natCast]
    refine go_range w.length (fun j env s => ∃ (ys : List D) (w' : Web) (row' : List Int) (v3 v4 : Option D), env = [some (.obj i), some (webD w'), some (.tup (row'.map D.int)), v3, v4] ∧ s = st.set i ys ++ L ∧ Tp i (n + 1 + 10 * m + j) (st.set i ys) ∧ Tw w' row' ∧ w'.length = w.length ∧ part w' row' 0 = part w0 row0 0 ∧ Bnd row0 row') ?_ ?_ _ _ ⟨xs, w, row, _, _, rfl, rfl, t2, T, rfl, hp, hb⟩
    · rintro j _ _ nx hj ⟨ys, w', row', v3, v4, rfl, rfl, t3, T', l', p', b'⟩ q
      have il : i < (st.set i ys).length := t3.lt
      refine ⟨trivial, ?_⟩
      (walk_at "lw_dd0")
      simp only [b2__law_otherwise]
      (walk_at "lw_dd0")
      refine ⟨i, _, 2, rfl, t3.app _, by omega, by (first | exact mulc _ _ (by decide) (by decide) | exact mulr _ _ (by decide) (by decide) | exact ⟨by decide, by decide, by decide⟩ | exact ⟨by decide, by decide⟩ | exact mulb _ _ | exact ⟨by omega, by omega⟩ | exact mulc _ _ (by omega) (by omega) | exact mulr _ _ (by omega) (by omega) | exact div_small (by omega) (by omega) | exact ⟨by omega, by omega, by omega⟩ | omega | decide), fun r zs r0 r1 t4 => ?_⟩
      rw [List.set_append_left _ _ il, List.set_set] at t4 ⊢
      have t5 := Tp.left t4 (by rw [List.length_set]; rw [List.length_set] at il; exact il)
      (walk_at "lw_dd0")
      have hj2 : j < w'.length := by omega
      by_cases z : r = 0
      · subst z
        rw [if_pos rfl]
        refine ⟨w', row', j, rfl, hj2, by omega, T'.lies.len, ?_⟩
        obtain ⟨T2, p2⟩ := T'.cr hj2
        (walk_at "lw_dd0")
        exact q _ _ ⟨zs, _, _, _, _, rfl, rfl, t5, T2, by rw [cr_len, l'], by rw [p2 0 (by omega), p'], b'.trans bnd_cr⟩
      · rw [if_neg (by simpa using z)]
        exact q _ _ ⟨zs, _, _, _, _, rfl, rfl, t5, T', l', p', b'⟩
    · rintro _ _ ⟨ys, w', row', v3, v4, rfl, rfl, t3, T', l', p', b'⟩
      have il : i < (st.set i ys).length := t3.lt
      refine ⟨trivial, ?_⟩
      (walk_at "lw_dd0")
      refine ⟨i, _, w', row', rfl, t3.app _, by omega, T', fun w2 row2 zs T2 l2 p2 b2 t4 => ?_⟩
      rw [List.set_append_left _ _ il, List.set_set] at t4 ⊢
      have t5 := Tp.left t4 (by rw [List.length_set]; rw [List.length_set] at il; exact il)
      refine frz_tapeN rfl t5 cl ?_
      rw [frzs_closed (by simp only [webD, below, belows, lds_below, belows_int, Bool.and_self])]
      exact h w2 row2 zs T2 (by omega) (by rw [p2, p']) (b'.trans b2) (t5.mono (by omega))
def e1__law_rows : DE :=
    (dOp addD (dC (.int 1)) (dCall sp__law_draw (dCons (dVar 0) (dCons (dOp ixD (dLst (dCons (dC (.int 3)) (dCons (dC (.int 24)) (dCons (dOp powD (dC (.int 10)) (dC (.int 3))) (dCons (dOp powD (dC (.int 10)) (dC (.int 9))) dNil))))) (dCall sp__law_draw (dCons (dVar 0) (dCons (dC (.int 4)) dNil)))) dNil))))
def t__law_rows : DS :=
    (dRet (dB bTuple (dCons (dLc (dRng1 (dVar 1)) (dgName 2) dYes (e1__law_rows) [2]) dNil)))
theorem st__law_rows (a0 a1 : D) : startD N__law_rows [a0, a1] = [some a0, some a1, none] := rfl
def sp__law_rows : SpD := fun ds st kk => ∃ (i n : Nat) (m : Nat), ds = [.obj i, .int (m : Nat)] ∧ Tp i n st ∧ n < 100000000 ∧ m ≤ 1000 ∧ ∀ (gs : List Int) xs, gs.length = m → (∀ g ∈ gs, 1 ≤ g ∧ g ≤ 1000000000) → Tp i (n + 2 * m) (st.set i xs) → kk (.tup (gs.map D.int)) (st.set i xs)
theorem len__law_rows (ds : List D) (st : Sto) (kk : DK) (h : sp__law_rows ds st kk) : ds.length = 2 := by
  obtain ⟨_, _, _, rfl, _⟩ := h
  rfl
theorem p__law_rows : BodyD false N__law_rows sp__law_rows t__law_rows := by
  rintro ds st kk ⟨i, n, m, rfl, ht, hn, hm, h⟩
  rw [st__law_rows]
  simp only [t__law_rows]
  (walk_at "lw_dd0")
  refine ⟨by omega, by rw [rangeD_length]; omega, ?_⟩
  refine lc_draws D.int (fun g => 1 ≤ g ∧ g ≤ 1000000000) i 2 900000000 (fun x k s kd t hk q => ?_) _ _ _ [] ht (by rw [rangeD_length]; omega) fun gs x6 hgl hgs t6 => ?_
  · simp only [e1__law_rows]
    (walk_at "lw_dd0")
    refine ⟨⟨by decide, by decide, by decide⟩, ⟨by decide, by decide, by decide⟩, i, _, 4, rfl, t, by omega, by (first | exact mulc _ _ (by decide) (by decide) | exact mulr _ _ (by decide) (by decide) | exact ⟨by decide, by decide, by decide⟩ | exact ⟨by decide, by decide⟩ | exact mulb _ _ | exact ⟨by omega, by omega⟩ | exact mulc _ _ (by omega) (by omega) | exact mulr _ _ (by omega) (by omega) | exact div_small (by omega) (by omega) | exact ⟨by omega, by omega, by omega⟩ | omega | decide), fun r y1 r0 r1 u1 => ?_⟩
    obtain ⟨b, hb, hat⟩ := atI_pick (ns := [3, 24, 10 ^ 3, 10 ^ 9]) r0 (by simpa using r1)
    have hb2 : 1 ≤ b ∧ b ≤ 1000000000 := by
      simp only [List.mem_cons, List.not_mem_nil, or_false] at hb
      rcases hb with rfl | rfl | rfl | rfl <;> decide
    (walk_at "lw_dd0")
    refine ⟨_, hat, i, _, b, rfl, u1, by omega, ⟨by omega, by omega⟩, fun sx y2 s0 s1 u2 => ?_⟩
    rw [List.set_set] at u2 ⊢
    exact q _ y2 ⟨by omega, by omega⟩ (u2.mono (by omega))
  · rw [List.nil_append]
    rw [rangeD_length] at hgl t6
    (walk_at "lw_dd0")
    exact h gs x6 (by omega) hgs (t6.mono (by omega))
def e1__law_near : DE :=
    (dB bListNew (dCons (dVar 8) dNil))
def e2__law_near : DE :=
    (dTup (dCons (dOp divD (dVar 10) (dC (.int 2))) (dCons (dOp modD (dVar 10) (dC (.int 2))) dNil)))
def e3__law_near : DE :=
    (dB bTuple (dCons (dVar 8) dNil))
def t__law_near : DS :=
    (dSeq (dPar 4 5 (dCons (dCall sp__law_draw (dCons (dVar 0) (dCons (dC (.int 5)) dNil))) (dCons (dCall sp__law_draw (dCons (dVar 0) (dCons (dB bLen (dCons (dVar 1) dNil)) dNil))) dNil)))
    (dSeq (dAsg (dTup (dCons (dB bListNew (dCons (dVar 2) dNil)) (dCons (dLcNew (dIter (dVar 1)) (dgName 8) dYes (e1__law_near) [8]) dNil))) (dgTup 2 (dgCons (dgName 6) (dgCons (dgName 7) dgNil))))
    (dSeq (dIfS (dTest (dOp (cmpI fun i j => decide (i < j)) (dVar 4) (dC (.int 2)))) (dAsg (dOp ixD (dLst (dCons (dOp addD (dOp ixD (dVar 6) (dVar 5)) (dC (.int 2))) (dCons (dOp subD (dC (.int 0)) (dOp ixD (dVar 6) (dVar 5))) dNil))) (dVar 4)) (dgSub (dVar 6) (dVar 5))) (dIfS (dTest (dOp (eqOp false) (dVar 4) (dC (.int 2)))) (dSeq (dAsg (dLc (dRng1 (dOp mulD (dC (.int 2)) (dB bLen (dCons (dVar 1) dNil)))) (dgName 10) (dTru (dIsi (dOp ixD (dOp ixD (dVar 7) (dOp divD (dVar 10) (dC (.int 2)))) (dOp modD (dVar 10) (dC (.int 2)))) ["str"])) (e2__law_near) [10]) (dgName 9))
    (dSeq (dAsg (dOp ixD (dVar 9) (dCall sp__law_draw (dCons (dVar 0) (dCons (dB bLen (dCons (dVar 9) dNil)) dNil)))) (dgTup 2 (dgCons (dgName 11) (dgCons (dgName 12) dgNil))))
    (dAsg (dOp ixD (dVar 3) (dCall sp__law_draw (dCons (dVar 0) (dCons (dB bLen (dCons (dVar 3) dNil)) dNil)))) (dgSub (dOp ixD (dVar 7) (dVar 11)) (dVar 12))))) (dIfS (dTest (dOp (eqOp false) (dVar 4) (dC (.int 3)))) (dAsg (dBack (dOp ixD (dVar 7) (dVar 5))) (dgSub (dVar 7) (dVar 5))) (dRet (dCall sp__law_tree (dCons (dVar 0) (dCons (dVar 3) dNil)))))))
    (dRet (dTup (dCons (dB bTuple (dCons (dLc (dIter (dVar 7)) (dgName 8) dYes (e3__law_near) [8]) dNil)) (dCons (dB bTuple (dCons (dVar 6) dNil)) dNil)))))))
theorem st__law_near (a0 a1 a2 a3 : D) : startD N__law_near [a0, a1, a2, a3] = [some a0, some a1, some a2, some a3, none, none, none, none, none, none, none, none, none] := rfl
def PairAt (s : Sto) (x : D) (p : Ld × Ld) : Prop := x = .lst [p.1.d, p.2.d] ∨ ∃ a, x = .obj a ∧ s[a]? = some [p.1.d, p.2.d]
theorem near_made {a0 a1 a2 a3 a4 a5 a6 a7 a8 a9 a10 a11 a12 : Option D} {k : List D → Sto → Prop} : ∀ (r : Web) (acc : List D) (st : Sto), k (acc ++ (List.range' st.length r.length).map D.obj) (st ++ r.map fun p => [p.1.d, p.2.d]) → goLc [] (dgName 8) dYes e1__law_near [8] [a0, a1, a2, a3, a4, a5, a6, a7, a8, a9, a10, a11, a12] k (r.map ldsD) acc st
  | [], acc, st, h => ⟨trivial, by simpa using h⟩
  | p :: r, acc, st, h => by
    refine ⟨trivial, ?_⟩
    (walk_at "lw_dd0")
    simp only [e1__law_near, ldsD]
    (walk_at "lw_dd0")
    refine near_made r (acc ++ [.obj st.length]) (st ++ [[p.1.d, p.2.d]]) ?_
    rw [List.length_append, List.length_singleton, List.append_assoc, List.append_assoc]
    exact h
theorem rangeD_nat2 (n : Nat) : rangeD 0 n = (List.range n).map fun (j : Nat) => D.int (j : Nat) := by
  unfold rangeD
  exact List.map_congr_left fun x _ => by rw [Int.zero_add]
theorem set_range {n k : Nat} {f : Nat → D} {x : D} : ((List.range n).map f).set k x = (List.range n).map fun j => if j = k then x else f j := by
  refine List.ext_getElem (by simp) fun a h1 h2 => ?_
  simp only [List.getElem_set, List.getElem_map, List.getElem_range]
  by_cases z : k = a
  · rw [if_pos z, if_pos z.symm]
  · rw [if_neg z, if_neg (fun q => z q.symm)]
def exW (w : Web) (j : Nat) (s : Bool) (c : List Nat) : Web := w.set j (setS2 (leadN w j false, leadN w j true) s (.out c))
theorem ex_lead {w : Web} {j : Nat} (hj : j < w.length) (s : Bool) (c : List Nat) (k : Nat) (s' : Bool) : leadW (exW w j s c) k s' = if k = j ∧ s' = s then some (.out c) else leadW w k s' := by
  unfold leadW exW
  by_cases z : k = j
  · subst z
    rw [List.getElem?_set_self hj, List.getElem?_eq_getElem hj, lds_at hj]
    cases s <;> cases s' <;> simp [setS2, Ld.of]
  · rw [List.getElem?_set_ne (fun q => z q.symm), if_neg (fun q => z q.1)]
theorem Tw.ex {w : Web} {row : List Int} (T : Tw w row) {j : Nat} (hj : j < w.length) {s : Bool} {c0 c : List Nat} (e : leadN w j s = .out c0) (hc : LdFine (.out c)) : Tw (exW w j s c) row := by
  have len : (exW w j s c).length = w.length := List.length_set
  have bal : ∀ k s' i, leadW (exW w j s c) k s' = some (.bal i) → leadW w k s' = some (.bal i) := fun k s' i q => by
    rw [ex_lead hj] at q
    split at q
    · cases q
    · exact q
  refine ⟨⟨fun k s' i q => ?_, by rw [len]; exact T.nt.one, by rw [len]; exact T.nt.few⟩, fun i i1 i2 => ?_, fun k s1 k' s2 i q q' => T.tree _ _ _ _ _ (bal _ _ _ q) (bal _ _ _ q'), ⟨by rw [len]; exact T.lies.len, T.lies.odd⟩, fun p hp => ?_, by rw [len]; exact T.few⟩
  · rw [len]
    exact T.nt.fwd k s' i (bal _ _ _ q)
  · rw [len] at i2
    obtain ⟨k, s', q⟩ := T.led i i1 i2
    refine ⟨k, s', ?_⟩
    rw [ex_lead hj, if_neg, q]
    rintro ⟨rfl, rfl⟩
    have := leadN_of q
    rw [e] at this
    cases this
  · have f := lead_fineN T.fine hj
    rcases List.mem_or_eq_of_mem_set hp with q | q
    · exact T.fine p q
    · rw [q]
      cases s with
      | false => exact ⟨hc, f true⟩
      | true => exact ⟨f false, hc⟩
def Near (row row' : List Int) : Prop := ∀ B : Nat, 2 ^ 40 ≤ B → (∀ x ∈ row, x.natAbs ≤ B) → ∀ x ∈ row', x.natAbs ≤ B + 2
theorem Near.of {row row' : List Int} (h : ∀ x ∈ row', x ∈ row) : Near row row' := fun B _ h2 x hx => by
  have := h2 x (h x hx)
  omega
def sp__law_near : SpD := fun ds st kk => ∃ (i n : Nat) (w : Web) (row : List Int) (names : List (List Nat)), ds = [.obj i, webD w, .tup (row.map D.int), .lst (names.map fun z => .str (S z))] ∧ Tp i n st ∧ n < 900000 ∧ Tw w row ∧ w.length ≤ 8 ∧ 1 ≤ names.length ∧ names.length ≤ 100 ∧ (∀ z ∈ names, NameL z) ∧
  ∀ (w' : Web) (row' : List Int) (st' : Sto), Tw w' row' → w'.length ≤ 8 → Near row row' → Tp i (n + 300) st' → kk (.tup [webD w', .tup (row'.map D.int)]) st'
theorem len__law_near (ds : List D) (st : Sto) (kk : DK) (h : sp__law_near ds st kk) : ds.length = 4 := by
  obtain ⟨_, _, _, _, _, rfl, _⟩ := h
  rfl
theorem p__law_near : BodyD false N__law_near sp__law_near t__law_near := by
  rintro ds st kk ⟨i, n, w, row, names, rfl, ht, hn, T, w8, n1, n100, hnm, h⟩
  rw [st__law_near]
  simp only [t__law_near, webD]
  have w1 := T.nt.one
  have tl := T.lies.len
  (walk_at "lw_dd0")
  refine ⟨i, n, 5, rfl, ht, by omega, by (first | exact mulc _ _ (by decide) (by decide) | exact mulr _ _ (by decide) (by decide) | exact ⟨by decide, by decide, by decide⟩ | exact ⟨by decide, by decide⟩ | exact mulb _ _ | exact ⟨by omega, by omega⟩ | exact mulc _ _ (by omega) (by omega) | exact mulr _ _ (by omega) (by omega) | exact div_small (by omega) (by omega) | exact ⟨by omega, by omega, by omega⟩ | omega | decide), fun r x1 r0 r1 t1 => ?_⟩
  (walk_at "lw_dd0")
  refine ⟨i, _, _, rfl, t1, by omega, ⟨by omega, by omega⟩, fun q x2 q0 q1 t2 => ?_⟩
  rw [List.set_set] at t2 ⊢
  obtain ⟨m, rfl⟩ := Int.eq_ofNat_of_zero_le r0
  obtain ⟨k, rfl⟩ := Int.eq_ofNat_of_zero_le q0
  have hk : k < w.length := by omega
  have hr : k < row.length := by omega
  generalize st.set i x2 = s1 at t2 ⊢
  refine fun _ => ⟨by omega, ?_⟩
  refine near_made w [] _ ?_
  have hN : i < s1.length := t2.lt
  have e0 : (s1 ++ [row.map D.int] ++ w.map fun p => [p.1.d, p.2.d]).length = s1.length + 1 + w.length := by simp; omega
  have ei : (s1 ++ [row.map D.int]).length = s1.length + 1 := by simp
  rw [List.nil_append, e0, ei, List.append_assoc, List.append_assoc]
  generalize hL : (s1 ++ ([row.map D.int] ++ ((w.map fun p => [p.1.d, p.2.d]) ++ [(List.range' (s1.length + 1) w.length).map D.obj]))) = s2
  have tp : Tp i (n + 1 + 1) s2 := by rw [← hL]; exact t2.app _
  have g0 : s2[s1.length]? = some (row.map D.int) := by rw [← hL]; exact sa_get (a := 0) rfl
  have gp : ∀ j, j < w.length → s2[s1.length + 1 + j]? = some [(leadN w j false).d, (leadN w j true).d] := fun j hj => by
    rw [← hL, List.getElem?_append_right (by omega), show s1.length + 1 + j - s1.length = j + 1 by omega, List.singleton_append, List.getElem?_cons_succ, List.getElem?_append_left (by simpa using hj), List.getElem?_map, List.getElem?_eq_getElem hj, lds_at hj]
    rfl
  have gl : s2[s1.length + 1 + w.length]? = some ((List.range' (s1.length + 1) w.length).map D.obj) := by
    rw [← hL, List.getElem?_append_right (by omega), show s1.length + 1 + w.length - s1.length = w.length + 1 by omega, List.singleton_append, List.getElem?_cons_succ, List.getElem?_append_right (by simp), List.length_map, Nat.sub_self]
    rfl
  clear hL
  generalize s1.length = N at *
  have hrg : (List.range' (N + 1) w.length).map D.obj = (List.range w.length).map fun j => D.obj (N + 1 + j) := by
    rw [List.range'_eq_map_range, List.map_map]
    rfl
  rw [hrg] at gl
  have fin : ∀ (s : Sto) (row' : List Int) (w' : Web) (f : Nat → D) (v9 v10 v11 v12 : Option D), s[N]? = some (row'.map D.int) → s[N + 1 + w.length]? = some ((List.range w.length).map f) → (∀ j, j < w.length → PairAt s (f j) (leadN w' j false, leadN w' j true)) → w'.length = w.length → Tw w' row' → Near row row' → Tp i (n + 300) s →
      goLc [(N + 1 + w.length, (List.range w.length).map f)] (dgName 8) dYes e3__law_near [8] [some (.obj i), some (.tup (w.map ldsD)), some (.tup (row.map D.int)), some (.lst (names.map fun z => .str (S z))), some (.int (m : Nat)), some (.int (k : Nat)), some (.obj N), some (.obj (N + 1 + w.length)), none, v9, v10, v11, v12] (fun acc s2 => bTuple [.obj N] s2 fun d s1 => kk (.tup [.tup acc, d]) s1) ((List.range w.length).map f) [] s := fun s row' w' f v9 v10 v11 v12 h1 h2 h3 h4 h5 h7 h6 => by
    refine lc_map (src := [(N + 1 + w.length, (List.range w.length).map f)]) f (fun j => ldsD (leadN w' j false, leadN w' j true)) (List.range w.length) s ⟨h2, trivial⟩ [] (fun j hj kd hkd => ?_) ?_
    · (walk_at "lw_dd0")
      simp only [e3__law_near]
      (walk_at "lw_dd0")
      rcases h3 j (List.mem_range.mp hj) with e | ⟨a, e, ea⟩
      · rw [e]
        exact hkd
      · rw [e, e_tupO ea]
        exact hkd
    rw [List.nil_append, e_tupO h1]
    have ew : (List.range w.length).map (fun j => ldsD (leadN w' j false, leadN w' j true)) = w'.map ldsD := by
      refine List.ext_getElem (by simp [h4]) fun a b1 b2 => ?_
      simp only [List.length_map, List.length_range] at b1
      rw [List.getElem_map, List.getElem_map, List.getElem_range, lds_at (by omega)]
    rw [ew]
    exact h w' row' s h5 (by omega) h7 h6
  have pA : ∀ j, j < w.length → PairAt s2 (.obj (N + 1 + j)) (leadN w j false, leadN w j true) := fun j hj => Or.inr ⟨_, rfl, gp j hj⟩
  by_cases m2 : m < 2
  · refine ite_yes (by omega) ?_
    rw [e_ixO g0]
    refine ⟨_, at_row hr, ?_⟩
    (walk_at "lw_dd0")
    rw [e_ixO g0]
    refine ⟨_, at_row hr, ?_⟩
    (walk_at "lw_dd0")
    obtain ⟨y, hy, oy, by2⟩ : ∃ y : Int, atI [D.int (row.getD k 0 + 2), D.int (0 - row.getD k 0)] (m : Int) = some (.int y) ∧ y % 2 = 1 ∧ y.natAbs ≤ (row.getD k 0).natAbs + 2 := by
      have := T.lies.at hk
      rcases (show m = 0 ∨ m = 1 by omega) with rfl | rfl
      · exact ⟨_, atI_nat rfl, by omega, by omega⟩
      · exact ⟨_, atI_nat rfl, by omega, by omega⟩
    refine ⟨_, hy, ?_⟩
    rw [e_setO g0]
    refine ⟨k, by rw [List.length_map, ixN_of (by omega) (by omega), Int.toNat_natCast], ?_⟩
    have nN : N < s2.length := (List.getElem?_eq_some_iff.mp g0).1
    have g1 : (s2.set N ((row.map D.int).set k (D.int y)))[N]? = some ((row.set k y).map D.int) := by rw [List.getElem?_set_self nN, List.map_set]
    have g2 : ∀ a, a ≠ N → (s2.set N ((row.map D.int).set k (D.int y)))[a]? = s2[a]? := fun a ha => List.getElem?_set_ne (fun q => ha q.symm)
    rw [e_iterO (by rw [g2 _ (by omega)]; exact gl)]
    refine fun _ => ⟨by simp; omega, ?_⟩
    refine fin _ (row.set k y) w _ _ _ _ _ g1 (by rw [g2 _ (by omega)]; exact gl) (fun j hj => Or.inr ⟨_, rfl, by rw [g2 _ (by omega)]; exact gp j hj⟩) rfl (T.row (by rw [List.length_set]; exact tl) fun x hx => ?_) (fun B _ h2 x hx => ?_) ((tp.set _ (by omega)).mono (by omega))
    · rcases List.mem_or_eq_of_mem_set hx with q | q
      · exact T.lies.odd x q
      · rw [q]; exact oy
    · rcases List.mem_or_eq_of_mem_set hx with q | q
      · have := h2 x q
        omega
      · have : (row.getD k 0).natAbs ≤ B := by
          rw [List.getD_eq_getElem?_getD, List.getElem?_eq_getElem hr]
          exact h2 _ (List.getElem_mem hr)
        rw [q]
        omega
  · refine ite_go (by omega) ?_
    by_cases m3 : m = 2
    · refine ite_yes (by omega) ?_
      refine ⟨mul2 _, by omega, by rw [rangeD_length]; omega, ?_⟩
      rw [show (2 * (w.length : Int)).toNat = 2 * w.length by omega, rangeD_nat2]
      refine lc_filter (src := []) (fun j : Nat => D.int (j : Nat)) (fun j : Nat => D.tup [.int (j / 2 : Nat), .int (j % 2 : Nat)]) (fun p => (leadN w (p / 2) (decide (p % 2 = 1))).tx.isSome) s2 trivial (List.range (2 * w.length)) [] (fun p hp k1 k2 g1 g2 => ?_) ?_
      · have hp := List.mem_range.mp hp
        have hp2 : p / 2 < w.length := by omega
        (walk_at "lw_dd0")
        rw [e_ixO gl]
        refine ⟨by (first | exact mulc _ _ (by decide) (by decide) | exact mulr _ _ (by decide) (by decide) | exact ⟨by decide, by decide, by decide⟩ | exact ⟨by decide, by decide⟩ | exact mulb _ _ | exact ⟨by omega, by omega⟩ | exact mulc _ _ (by omega) (by omega) | exact mulr _ _ (by omega) (by omega) | exact div_small (by omega) (by omega) | exact ⟨by omega, by omega, by omega⟩ | omega | decide), .obj (N + 1 + p / 2), ?_, by (first | exact mulc _ _ (by decide) (by decide) | exact mulr _ _ (by decide) (by decide) | exact ⟨by decide, by decide, by decide⟩ | exact ⟨by decide, by decide⟩ | exact mulb _ _ | exact ⟨by omega, by omega⟩ | exact mulc _ _ (by omega) (by omega) | exact mulr _ _ (by omega) (by omega) | exact div_small (by omega) (by omega) | exact ⟨by omega, by omega, by omega⟩ | omega | decide), ?_⟩
        · rw [show (p : Int) / 2 = ((p / 2 : Nat) : Int) by omega]
          exact atI_nat (by rw [List.getElem?_map, List.getElem?_range hp2]; rfl)
        rw [e_ixO (gp _ hp2)]
        refine ⟨(leadN w (p / 2) (decide (p % 2 = 1))).d, ?_, ?_⟩
        · rcases (show p % 2 = 0 ∨ p % 2 = 1 by omega) with z | z
          · rw [show (p : Int) % 2 = ((0 : Nat) : Int) by omega, z]
            rfl
          · rw [show (p : Int) % 2 = ((1 : Nat) : Int) by omega, z]
            rfl
        cases e : leadN w (p / 2) (decide (p % 2 = 1)) with
        | out c =>
          rw [e] at g1
          (walk_at "lw_dd0")
          refine ite_yes (by show ["str"].any (subTy "str") = true; decide) ?_
          simp only [e2__law_near]
          (walk_at "lw_dd0")
          refine ⟨by (first | exact mulc _ _ (by decide) (by decide) | exact mulr _ _ (by decide) (by decide) | exact ⟨by decide, by decide, by decide⟩ | exact ⟨by decide, by decide⟩ | exact mulb _ _ | exact ⟨by omega, by omega⟩ | exact mulc _ _ (by omega) (by omega) | exact mulr _ _ (by omega) (by omega) | exact div_small (by omega) (by omega) | exact ⟨by omega, by omega, by omega⟩ | omega | decide), by (first | exact mulc _ _ (by decide) (by decide) | exact mulr _ _ (by decide) (by decide) | exact ⟨by decide, by decide, by decide⟩ | exact ⟨by decide, by decide⟩ | exact mulb _ _ | exact ⟨by omega, by omega⟩ | exact mulc _ _ (by omega) (by omega) | exact mulr _ _ (by omega) (by omega) | exact div_small (by omega) (by omega) | exact ⟨by omega, by omega, by omega⟩ | omega | decide), ?_⟩
          have g1 := g1 rfl
          rw [show ((p / 2 : Nat) : Int) = (p : Int) / 2 by omega, show ((p % 2 : Nat) : Int) = (p : Int) % 2 by omega] at g1
          exact g1
        | bal j =>
          rw [e] at g2
          (walk_at "lw_dd0")
          exact ite_go (by show ¬ ["str"].any (subTy "int") = true; decide) (g2 rfl)
      rw [List.nil_append]
      have mem : ∀ p ∈ (List.range (2 * w.length)).filter (fun p => (leadN w (p / 2) (decide (p % 2 = 1))).tx.isSome), p / 2 < w.length ∧ ∃ c, leadN w (p / 2) (decide (p % 2 = 1)) = .out c := fun p hp => by
        obtain ⟨a, b⟩ := List.mem_filter.mp hp
        have a := List.mem_range.mp a
        refine ⟨by omega, ?_⟩
        cases e : leadN w (p / 2) (decide (p % 2 = 1)) with
        | out c => exact ⟨c, rfl⟩
        | bal j => rw [e] at b; cases b
      have pos : 0 < ((List.range (2 * w.length)).filter (fun p => (leadN w (p / 2) (decide (p % 2 = 1))).tx.isSome)).length := by
        refine List.length_pos_of_mem (a := 2 * (w.length - 1)) (List.mem_filter.mpr ⟨List.mem_range.mpr (by omega), ?_⟩)
        rw [show 2 * (w.length - 1) / 2 = w.length - 1 by omega, show 2 * (w.length - 1) % 2 = 0 by omega]
        cases e : leadN w (w.length - 1) (decide (0 = 1)) with
        | out c => rfl
        | bal j =>
          have := T.bal (k := w.length - 1) (by omega) e
          omega
      have fewP : ((List.range (2 * w.length)).filter (fun p => (leadN w (p / 2) (decide (p % 2 = 1))).tx.isSome)).length ≤ 40 := Nat.le_trans (List.length_filter_le _ _) (by rw [List.length_range]; omega)
      generalize (List.range (2 * w.length)).filter (fun p => (leadN w (p / 2) (decide (p % 2 = 1))).tx.isSome) = ps at mem pos fewP ⊢
      refine ⟨i, _, _, rfl, tp, by omega, by rw [List.length_map]; exact ⟨by omega, by omega⟩, fun r xs r0 r1 t3 => ?_⟩
      obtain ⟨a, rfl⟩ := Int.eq_ofNat_of_zero_le r0
      rw [List.length_map] at r1
      have ha : a < ps.length := by omega
      obtain ⟨kl, c, ec⟩ := mem ps[a] (List.getElem_mem ha)
      (walk_at "lw_dd0")
      refine ⟨.tup [.int (ps[a] / 2 : Nat), .int (ps[a] % 2 : Nat)], atI_nat (by rw [List.getElem?_map, List.getElem?_eq_getElem ha]; rfl), ?_⟩
      generalize ps[a] = p at kl ec
      generalize p / 2 = j at kl ec ⊢
      generalize hs : decide (p % 2 = 1) = s at ec
      have hs2 : p % 2 = if s = true then 1 else 0 := by
        rw [← hs]
        by_cases z : p % 2 = 1
        · simp [z]
        · simp [z]; omega
      rw [hs2]
      (walk_at "lw_dd0")
      refine ⟨i, _, names.length, rfl, t3, by omega, ⟨by omega, by omega⟩, fun r xs2 r0 r1 t4 => ?_⟩
      rw [List.set_set] at t4 ⊢
      obtain ⟨b, rfl⟩ := Int.eq_ofNat_of_zero_le r0
      have hb : b < names.length := by omega
      refine ⟨.str (S names[b]), atI_nat (by rw [List.getElem?_map, List.getElem?_eq_getElem hb]; rfl), ?_⟩
      have hc : LdFine (.out names[b]) := hnm _ (List.getElem_mem hb)
      generalize names[b] = c2 at hc
      have hi : ∀ a, N ≤ a → (s2.set i xs2)[a]? = s2[a]? := fun a h => List.getElem?_set_ne (by omega)
      (walk_at "lw_dd0")
      rw [e_ixO ((hi _ (by omega)).trans gl)]
      refine ⟨.obj (N + 1 + j), atI_nat (by rw [List.getElem?_map, List.getElem?_range kl]; rfl), ?_⟩
      have gj := (hi _ (by omega)).trans (gp j kl)
      rw [e_setO gj]
      refine ⟨if s = true then 1 else 0, by cases s <;> rfl, ?_⟩
      have jl : N + 1 + j < (s2.set i xs2).length := (List.getElem?_eq_some_iff.mp gj).1
      have T2 := T.ex kl ec hc
      have lx : (exW w j s c2).length = w.length := List.length_set
      generalize hv : [(leadN w j false).d, (leadN w j true).d].set (if s = true then 1 else 0) (.str (S c2)) = v
      have gn : ∀ a, N ≤ a → a ≠ N + 1 + j → ((s2.set i xs2).set (N + 1 + j) v)[a]? = s2[a]? := fun a h1 h2 => by rw [List.getElem?_set_ne (fun q => h2 q.symm)]; exact hi a h1
      rw [e_iterO ((gn _ (by omega) (by omega)).trans gl)]
      refine fun _ => ⟨by simp; omega, ?_⟩
      refine fin _ row (exW w j s c2) _ _ _ _ _ ((gn _ (by omega) (by omega)).trans g0) ((gn _ (by omega) (by omega)).trans gl) (fun j2 hj2 => Or.inr ⟨_, rfl, ?_⟩) lx T2 (.of fun _ h => h) ((t4.set _ (by omega)).mono (by omega))
      have el : ∀ s', leadN (exW w j s c2) j2 s' = if j2 = j ∧ s' = s then .out c2 else leadN w j2 s' := fun s' => by
        have := leadW_some (w := exW w j s c2) (k := j2) (by omega) s'
        rw [ex_lead kl, leadW_some hj2] at this
        split at this
        · rename_i z; rw [if_pos z]; injection this with this; exact this.symm
        · rename_i z; rw [if_neg z]; injection this with this; exact this.symm
      by_cases z : j2 = j
      · subst z
        rw [List.getElem?_set_self jl, ← hv]
        simp only [el]
        cases s <;> simp <;> rfl
      · rw [gn _ (by omega) (by omega), gp _ hj2]
        simp only [el, z, false_and, if_false]
    · refine ite_go (by omega) ?_
      by_cases m4 : m = 3
      · refine ite_yes (by omega) ?_
        rw [e_ixO gl]
        refine ⟨.obj (N + 1 + k), atI_nat (by rw [List.getElem?_map, List.getElem?_range hk]; rfl), ?_⟩
        rw [e_backO (gp k hk), e_setO gl]
        refine ⟨k, by rw [List.length_map, List.length_range, ixN_of (by omega) (by omega), Int.toNat_natCast], ?_⟩
        have nL : N + 1 + w.length < s2.length := (List.getElem?_eq_some_iff.mp gl).1
        rw [set_range]
        generalize hf : (fun j => if j = k then D.lst [(leadN w k false).d, (leadN w k true).d].reverse else D.obj (N + 1 + j)) = f
        have g1 : (s2.set (N + 1 + w.length) ((List.range w.length).map f))[N + 1 + w.length]? = some ((List.range w.length).map f) := List.getElem?_set_self nL
        have g2 : ∀ a, a ≠ N + 1 + w.length → (s2.set (N + 1 + w.length) ((List.range w.length).map f))[a]? = s2[a]? := fun a ha => List.getElem?_set_ne (fun q => ha q.symm)
        rw [e_iterO g1]
        refine fun _ => ⟨by simp; omega, ?_⟩
        refine fin _ row (crW w k) _ _ _ _ _ ((g2 _ (by omega)).trans g0) g1 (fun j hj => ?_) (cr_len w k) ((T.cr hk).1.row (by rw [cr_len]; exact tl) T.lies.odd) (.of fun _ h => h) ((tp.set _ (by omega)).mono (by omega))
        have ef : f j = if j = k then D.lst [(leadN w k false).d, (leadN w k true).d].reverse else D.obj (N + 1 + j) := by rw [← hf]
        rw [ef]
        simp only [cr_leadN hk]
        by_cases z : j = k
        · subst z
          simp only [if_true]
          exact Or.inl rfl
        · simp only [z, if_false]
          exact Or.inr ⟨_, rfl, (g2 _ (by omega)).trans (gp j hj)⟩
      · refine ite_go (by omega) ?_
        refine ⟨i, _, names, rfl, tp, by omega, n1, n100, hnm, fun w' row' xs T' l' small _ t' => ?_⟩
        exact h w' row' _ T' l' (fun B h1 _ x hx => by have := small x hx; omega) (t'.mono (by omega))
def e1__law_is_weights : DE :=
    (dAndV (dIsi (dVar 1) ["int"]) (dAndV (dNotV (dIsi (dVar 1) ["bool"])) (dOp (cmpI fun i j => decide (j < i)) (dVar 1) (dC (.int 0)))))
def t__law_is_weights : DS :=
    (dSeq (dIfS (dNot (dTru (dIsi (dVar 0) ["tuple"]))) (dRet (dC (.bl false))) dPass)
    (dRet (dB bAll (dCons (dLc (dIter (dVar 0)) (dgName 1) dYes (e1__law_is_weights) [1]) dNil))))
theorem st__law_is_weights (a0 : D) : startD N__law_is_weights [a0] = [some a0, none] := rfl
def sp__law_is_weights : SpD := fun ds st kk => ∃ gs : List Nat, ds = [.tup (gs.map fun g : Nat => .int (g : Nat))] ∧ gs.length ≤ 100000 ∧ (∀ g ∈ gs, 1 ≤ g) ∧ kk (.bl true) st
theorem len__law_is_weights (ds : List D) (st : Sto) (kk : DK) (h : sp__law_is_weights ds st kk) : ds.length = 1 := by
  obtain ⟨_, rfl, _⟩ := h
  rfl
theorem p__law_is_weights : BodyD false N__law_is_weights sp__law_is_weights t__law_is_weights := by
  rintro ds st kk ⟨gs, rfl, hl, hg, h⟩
  rw [st__law_is_weights]
  simp only [t__law_is_weights]
  (try simp only [BEq.rfl, ↓e_v0, ↓e_vs, ↓e_c, ↓e_op, ↓e_un, ↓e_test, ↓e_testK, ↓e_tru, ↓e_truL, ↓e_truT, ↓e_truB, ↓e_truI, ↓e_truN, ↓e_truS, ↓e_not, ↓e_and, ↓e_or, ↓e_andv, ↓e_notv, ↓e_andK, ↓e_notK, ↓e_if, ↓e_nil, ↓e_cons, ↓e_tup, ↓e_lst, ↓e_new, ↓e_call, ↓e_drop, ↓e_ret, ↓e_pass, ↓e_ifS, ↓e_g0, ↓e_gs, ↓e_gnil, ↓e_gcons, ↓e_gtup, ↓e_asg, ↓e_par, ↓e_parK, ↓e_par3, ↓e_par3K, ↓e_no, ↓e_some, ↓e_someK, ↓e_cut, ↓e_b, ↓e_iter, ↓e_iterL, ↓e_iterT, ↓e_iterS, ↓e_rng1, ↓e_rng1K, ↓e_rng2, ↓e_rng2K, ↓e_rng3, ↓e_rng3K, ↓e_enum, ↓e_enumL, ↓e_enumT, ↓e_for, ↓e_lc, ↓e_lcNew, ↓e_meth, ↓e_isL, ↓e_sub, ↓e_isi, ↓e_yes, ↓e_addI, ↓e_addB, ↓e_addS, ↓e_addT, ↓e_addL, ↓e_subI, ↓e_mulI, ↓e_mulT, ↓e_mulL, ↓e_divI, ↓e_modI, ↓e_powI, ↓e_negI, ↓e_cmpI, ↓e_eq, ↓e_ne, ↓e_isn, ↓e_isnn, ↓e_isb, ↓e_ixL, ↓e_ixKL, ↓e_ixT, ↓e_cutL, ↓e_cutKL, ↓e_cutT, ↓e_lenL, ↓e_lenKL, ↓e_lenT, ↓e_abs, ↓e_intI, ↓e_intB, ↓e_max2, ↓e_listNL, ↓e_listNT, ↓e_tupL, ↓e_tupT, ↓e_sum1T, ↓e_sum1L, ↓e_max1T, ↓e_max1L, ↓e_drI, ↓e_drB, ↓e_drS, ↓e_drN, ↓e_drL, ↓e_drT, ↓e_seq, ↓e_back, ↓e_backL, ↓e_backT, ↓e_unlL, ↓e_inFlat, ↓e_drK, ↓e_addBI, ↓e_subBI, ↓e_subIB, ↓e_drG, ↓e_dnew, ↓e_dgetF, ↓e_dget2, ↓e_dgPut, ↓e_join, ↓e_joinL, ↓e_cutS, ↓e_mulS, ↓e_sortV, ↓e_tidx, ↓e_mulNewL, ↓e_sortedPL, ↓e_indexL, ↓e_max3, e_kyI, e_kyS, Nat.reduceAdd, Nat.zero_add, List.length_cons, List.length_nil, List.length_map, Nat.reduceLeDiff, and_true, true_and, if_true, ite_true, decide_eq_true_eq, Bool.not_eq_true, Bool.false_eq_true, if_false, ite_false, ↓reduceIte, Int.reduceToNat, Int.reducePow, ne_eq, q_okI, q_okB, q_okN, q_okS, q_okL, q_okT, q_oks0, q_oks1, q_eqII, q_eqBB, q_eqSS, q_eqLL, q_eqTT, q_eqNN, q_eqNI, q_eqIN, q_eqs0, q_eqs1, Bool.true_and, Bool.and_true, beq_iff_eq, reduceCtorEq, wipeE, List.set_cons_zero, List.set_cons_succ, List.set_nil, Bool.not_true, Bool.not_false, List.getElem?_cons_zero, List.getElem?_cons_succ, tyD, subTy])
  refine ite_go (by decide) ?_
  refine fun _ => ⟨by omega, ?_⟩
  refine lc_map (src := []) (fun g : Nat => D.int (g : Nat)) (fun _ => D.bl true) gs st trivial [] (fun g hm kd hkd => ?_) ?_
  · have := hg g hm
    (walk_at "lw_dd0")
    simp only [e1__law_is_weights]
    (try simp only [BEq.rfl, ↓e_v0, ↓e_vs, ↓e_c, ↓e_op, ↓e_un, ↓e_test, ↓e_testK, ↓e_tru, ↓e_truL, ↓e_truT, ↓e_truB, ↓e_truI, ↓e_truN, ↓e_truS, ↓e_not, ↓e_and, ↓e_or, ↓e_andv, ↓e_notv, ↓e_andK, ↓e_notK, ↓e_if, ↓e_nil, ↓e_cons, ↓e_tup, ↓e_lst, ↓e_new, ↓e_call, ↓e_drop, ↓e_ret, ↓e_pass, ↓e_ifS, ↓e_g0, ↓e_gs, ↓e_gnil, ↓e_gcons, ↓e_gtup, ↓e_asg, ↓e_par, ↓e_parK, ↓e_par3, ↓e_par3K, ↓e_no, ↓e_some, ↓e_someK, ↓e_cut, ↓e_b, ↓e_iter, ↓e_iterL, ↓e_iterT, ↓e_iterS, ↓e_rng1, ↓e_rng1K, ↓e_rng2, ↓e_rng2K, ↓e_rng3, ↓e_rng3K, ↓e_enum, ↓e_enumL, ↓e_enumT, ↓e_for, ↓e_lc, ↓e_lcNew, ↓e_meth, ↓e_isL, ↓e_sub, ↓e_isi, ↓e_yes, ↓e_addI, ↓e_addB, ↓e_addS, ↓e_addT, ↓e_addL, ↓e_subI, ↓e_mulI, ↓e_mulT, ↓e_mulL, ↓e_divI, ↓e_modI, ↓e_powI, ↓e_negI, ↓e_cmpI, ↓e_eq, ↓e_ne, ↓e_isn, ↓e_isnn, ↓e_isb, ↓e_ixL, ↓e_ixKL, ↓e_ixT, ↓e_cutL, ↓e_cutKL, ↓e_cutT, ↓e_lenL, ↓e_lenKL, ↓e_lenT, ↓e_abs, ↓e_intI, ↓e_intB, ↓e_max2, ↓e_listNL, ↓e_listNT, ↓e_tupL, ↓e_tupT, ↓e_sum1T, ↓e_sum1L, ↓e_max1T, ↓e_max1L, ↓e_drI, ↓e_drB, ↓e_drS, ↓e_drN, ↓e_drL, ↓e_drT, ↓e_seq, ↓e_back, ↓e_backL, ↓e_backT, ↓e_unlL, ↓e_inFlat, ↓e_drK, ↓e_addBI, ↓e_subBI, ↓e_subIB, ↓e_drG, ↓e_dnew, ↓e_dgetF, ↓e_dget2, ↓e_dgPut, ↓e_join, ↓e_joinL, ↓e_cutS, ↓e_mulS, ↓e_sortV, ↓e_tidx, ↓e_mulNewL, ↓e_sortedPL, ↓e_indexL, ↓e_max3, e_kyI, e_kyS, Nat.reduceAdd, Nat.zero_add, List.length_cons, List.length_nil, List.length_map, Nat.reduceLeDiff, and_true, true_and, if_true, ite_true, decide_eq_true_eq, Bool.not_eq_true, Bool.false_eq_true, if_false, ite_false, ↓reduceIte, Int.reduceToNat, Int.reducePow, ne_eq, q_okI, q_okB, q_okN, q_okS, q_okL, q_okT, q_oks0, q_oks1, q_eqII, q_eqBB, q_eqSS, q_eqLL, q_eqTT, q_eqNN, q_eqNI, q_eqIN, q_eqs0, q_eqs1, Bool.true_and, Bool.and_true, beq_iff_eq, reduceCtorEq, wipeE, List.set_cons_zero, List.set_cons_succ, List.set_nil, Bool.not_true, Bool.not_false, List.getElem?_cons_zero, List.getElem?_cons_succ, tyD, subTy])
    refine ite_yes (by decide) (ite_yes (by decide) ?_)
    rw [decide_eq_true (by omega)]
    exact hkd
  rw [List.nil_append, all_true]
  exact h
def z6__law_pair_right : DS :=
    (dRet (dOp (eqOp false) (dOp ixD (dCall sp__law_out (dCons (dOp ixD (dVar 1) (dC (.int 0))) (dCons (dOp ixD (dVar 1) (dC (.int 1))) (dCons (dVar 5) dNil)))) (dC (.int 0))) (dOp ixD (dCall sp__law_out (dCons (dOp ixD (dVar 2) (dC (.int 0))) (dCons (dOp ixD (dVar 2) (dC (.int 1))) (dCons (dVar 5) dNil)))) (dC (.int 0)))))
def e1__law_pair_right : DE :=
    (dOp ixD (dCall sp__law_out (dCons (dOp ixD (dVar 8) (dC (.int 0))) (dCons (dOp ixD (dVar 8) (dC (.int 1))) (dCons (dVar 6) dNil)))) (dC (.int 0)))
def z11__law_pair_right : DS :=
    (dIfS (dTest (dOp (eqOp false) (dOp ixD (dVar 7) (dC (.int 0))) (dOp ixD (dVar 7) (dC (.int 1))))) (dRet (dC (.bl false))) dPass)
def z10__law_pair_right : DS :=
    (dSeq (dAsg (dLc (dIter (dTup (dCons (dVar 1) (dCons (dVar 2) dNil)))) (dgName 8) dYes (e1__law_pair_right) [8]) (dgName 7))
    (z11__law_pair_right))
def b1__law_pair_right : DS :=
    (dSeq (dIfS (dNot (dTru (dCall sp__law_is_weights (dCons (dVar 6) dNil)))) (dRet (dC (.bl false))) dPass)
    (z10__law_pair_right))
def z13__law_pair_right : DS :=
    (dRet (dOp (eqOp true) (dOp ixD (dCall sp_falls_of (dCons (dOp ixD (dVar 1) (dC (.int 0))) (dCons (dOp ixD (dVar 1) (dC (.int 1))) (dCons (dVar 4) dNil)))) (dC (.int 0))) (dOp ixD (dCall sp_falls_of (dCons (dOp ixD (dVar 2) (dC (.int 0))) (dCons (dOp ixD (dVar 2) (dC (.int 1))) (dCons (dVar 4) dNil)))) (dC (.int 0)))))
def z7__law_pair_right : DS :=
    (dSeq (dFor (dIter (dTup (dCons (dVar 4) (dCons (dCall sp_parting_word (dCons (dOp ixD (dVar 2) (dC (.int 0))) (dCons (dOp ixD (dVar 2) (dC (.int 1))) (dCons (dOp ixD (dVar 1) (dC (.int 0))) (dCons (dOp ixD (dVar 1) (dC (.int 1))) dNil))))) dNil)))) (dgName 6) (b1__law_pair_right))
    (z13__law_pair_right))
def z4__law_pair_right : DS :=
    (dSeq (dIfS (dTru (dVar 3)) (dSeq (dAsg (dCall sp__law_rows (dCons (dVar 0) (dCons (dC (.int 40)) dNil))) (dgName 5))
    (z6__law_pair_right)) dPass)
    (z7__law_pair_right))
def z2__law_pair_right : DS :=
    (dSeq (dIfS (dTest (dOp (eqOp true) (dVar 3) (dOp (isOp false) (dVar 4) (dC .non)))) (dRet (dC (.bl false))) dPass)
    (z4__law_pair_right))
def t__law_pair_right : DS :=
    (dSeq (dPar 3 4 (dCons (dCall sp_alike (dCons (dOp ixD (dVar 1) (dC (.int 0))) (dCons (dOp ixD (dVar 1) (dC (.int 1))) (dCons (dOp ixD (dVar 2) (dC (.int 0))) (dCons (dOp ixD (dVar 2) (dC (.int 1))) dNil))))) (dCons (dCall sp_parting_word (dCons (dOp ixD (dVar 1) (dC (.int 0))) (dCons (dOp ixD (dVar 1) (dC (.int 1))) (dCons (dOp ixD (dVar 2) (dC (.int 0))) (dCons (dOp ixD (dVar 2) (dC (.int 1))) dNil))))) dNil)))
    (z2__law_pair_right))
theorem st__law_pair_right (a0 a1 a2 : D) : startD N__law_pair_right [a0, a1, a2] = [some a0, some a1, some a2, none, none, none, none, none, none] := rfl
def twD (w : Web) (row : List Int) : D := .tup [webD w, .tup (row.map D.int)]
def Far (row : List Int) : Prop := ∀ x ∈ row, x.natAbs ≤ 2 ^ 40 + 2
def sp__law_pair_right : SpD := fun ds st kk => ∃ (i n : Nat) (w : Web) (row : List Int) (w' : Web) (row' : List Int), ds = [.obj i, twD w row, twD w' row'] ∧ Tp i n st ∧ n < 1000000 ∧ Tw w row ∧ Tw w' row' ∧ w.length ≤ 8 ∧ w'.length ≤ 8 ∧ Far row ∧ Far row' ∧ ∀ st', Tp i (n + 100) st' → kk (.bl true) st'
theorem len__law_pair_right (ds : List D) (st : Sto) (kk : DK) (h : sp__law_pair_right ds st kk) : ds.length = 3 := by
  obtain ⟨_, _, _, _, _, _, rfl, _⟩ := h
  rfl
theorem run_nm : ∀ (gs : List Nat) {P : Prt}, NmP2 P → ∀ c ∈ runP P gs, NameL c
  | [], _, _, c, h => by cases h
  | g :: gs, P, n, c, h => by
    rcases List.mem_cons.mp h with z | z
    · rw [z]
      have : ∀ P : Prt, NmP2 P → NameL (outP P) := fun P => by
        induction P with
        | ex c => exact fun h => h
        | nd s a b iha _ => exact fun h => iha h.1
      exact this P n
    · exact run_nm gs (nm_gr n) c z
theorem run_ok {P : Prt} (n : NmP2 P) (gs : List Nat) : okD 60 (.lst ((runP P gs).map txD)) = true := by
  have : ∀ L : List (List Nat), (∀ d ∈ L, NameL d) → okDs 59 (L.map txD) = true := fun L => by
    induction L with
    | nil => exact fun _ => rfl
    | cons a r ih =>
      intro q
      simp only [List.map_cons, okDs]
      rw [ih fun d hd => q d (List.mem_cons_of_mem _ hd), Bool.and_true]
      exact ld_okD 59 (v := .out a) (q a List.mem_cons_self)
  exact this _ (run_nm gs n)
theorem tx_eqDs : ∀ xs ys : List (List Nat), eqDs (xs.map txD) (ys.map txD) = decide (xs = ys)
  | [], [] => rfl
  | [], _ :: _ => rfl
  | _ :: _, [] => rfl
  | x :: xs, y :: ys => by
    have e : eqD (txD x) (txD y) = decide (x = y) := by
      show decide (S x = S y) = decide (x = y)
      exact decide_eq_decide.mpr ⟨S_inj, fun q => by rw [q]⟩
    simp only [List.map_cons, eqDs]
    rw [e, tx_eqDs xs ys]
    by_cases z : x = y <;> by_cases q : xs = ys <;> simp [z, q]
theorem tx_eqD (xs ys : List (List Nat)) : eqD (.lst (xs.map txD)) (.lst (ys.map txD)) = decide (xs = ys) := tx_eqDs xs ys
theorem castN (gs : List Int) (h : ∀ g ∈ gs, 1 ≤ g) : gs = (gs.map Int.toNat).map fun g : Nat => (g : Int) := by
  rw [List.map_map]
  conv => lhs; rw [← List.map_id gs]
  exact List.map_congr_left fun g hg => by
    have := h g hg
    show g = ((g.toNat : Nat) : Int)
    omega
theorem tupN (R : List Nat) : D.tup (R.map fun k : Nat => .int (k : Nat)) = .tup ((R.map fun g : Nat => (g : Int)).map D.int) := by rw [List.map_map]; rfl
theorem tup3 {a b : D} (R : List Nat) : [a, b, D.tup (R.map fun k : Nat => .int (k : Nat))] = [a, b, .tup ((R.map fun g : Nat => (g : Int)).map D.int)] := by rw [tupN]
/-- the row told parts, of fine weights -/
theorem row_fine {w : Web} {row : List Int} {w' : Web} {row' : List Int} (T : Tw w row) (T' : Tw w' row') (l : w.length ≤ 8) (l' : w'.length ≤ 8) (F : Far row) (F' : Far row') : (∀ g ∈ rowApart (part w row 0) (part w' row' 0), 1 ≤ g ∧ g ≤ 2305843009213693952) ∧ (rowApart (part w row 0) (part w' row' 0)).length ≤ 200 := by
  have a := T.ptf
  have b := T'.ptf
  have hM : ∀ {r : List Int}, Far r → ∀ k, (r.getD k 0).natAbs ≤ 2 ^ 40 + 2 := fun {r} h k => by
    rw [List.getD_eq_getElem?_getD]
    cases e : r[k]? with
    | none => exact Nat.zero_le _
    | some v => exact h v (List.mem_of_getElem? e)
  have w1 := T.nt.one
  have w2 := T'.nt.one
  have h1 := part_great T.nt.fwd (hM F) 0 (by omega)
  have h2 := part_great T'.nt.fwd (hM F') 0 (by omega)
  have h3 := a.ht
  have h4 := b.ht
  have hs := apart_sum 8 (part w row 0) (part w' row' 0) (2 ^ 40 + 2) (by omega) (by omega) a.nr b.nr h1 h2
  have hl := apart_len off_len 8 (part w row 0) (part w' row' 0) (by omega) (by omega)
  refine ⟨fun g hg => ⟨apart_pos _ _ _ (Nat.le_refl _) a.nr b.nr g hg, ?_⟩, by omega⟩
  have := le_sum hg
  have : (4 : Nat) ^ (8 + 1) * (2 ^ 40 + 2 + 2) ≤ 2305843009213693952 := by decide
  omega
theorem p__law_pair_right : BodyD false N__law_pair_right sp__law_pair_right t__law_pair_right := by
  rintro ds st kk ⟨i, n, w, row, w', row', rfl, ht, hn, T, T', l, l', F, F', h⟩
  rw [st__law_pair_right]
  simp only [t__law_pair_right, twD]
  have a := T.ptf
  have b := T'.ptf
  obtain ⟨f1, f2⟩ := row_fine T T' l l' F F'
  obtain ⟨f3, f4⟩ := row_fine T' T l' l F' F
  have r1 := fun gs => falls_run gs T
  have r2 := fun gs => falls_run gs T'
  (walk_at "lw_dk")
  refine ⟨_, rfl, _, rfl, _, rfl, _, rfl, w, row, w', row', rfl, T, T', ?_⟩
  refine ⟨_, rfl, _, rfl, _, rfl, _, rfl, w, row, w', row', rfl, T, T', by omega, by omega, ?_⟩
  (walk_at "lw_dk")
  by_cases z : part w row 0 = part w' row' 0
  · have eA : apartD (part w row 0) (part w' row' 0) = .non := by unfold apartD; rw [if_pos z]
    rw [eA, decide_eq_true z]
    simp -implicitDefEqProofs only [z2__law_pair_right]
    (walk_at "lw_dk")
    refine ite_go (by decide) ?_
    simp -implicitDefEqProofs only [z4__law_pair_right]
    (walk_at "lw_dk")
    refine ⟨i, n, 40, rfl, ht, by omega, by decide, fun gs xs gl gb t1 => ?_⟩
    have eg := castN gs fun g hg => (gb g hg).1
    have e1 := r1 (gs.map Int.toNat)
    have e2 := r2 (gs.map Int.toNat)
    rw [← eg] at e1 e2
    refine ⟨_, rfl, _, rfl, w, gs, row, rfl, T.nt, T.lies, fun g hg => by have := gb g hg; omega, by omega, ?_⟩
    (walk_at "lw_dk")
    refine ⟨_, rfl, _, rfl, _, rfl, w', gs, row', rfl, T'.nt, T'.lies, fun g hg => by have := gb g hg; omega, by omega, ?_⟩
    (walk_at "lw_dk")
    refine ⟨_, rfl, ?_⟩
    rw [e1, e2, z]
    refine ⟨run_ok b.nm _, run_ok b.nm _, ?_⟩
    rw [show ∀ (s : Sto) (xs : List D), deref s (.lst xs) = .lst xs from fun _ _ => rfl, tx_eqD, decide_eq_true rfl]
    exact h _ (t1.mono (by omega))
  · have eA : apartD (part w row 0) (part w' row' 0) = .tup ((rowApart (part w row 0) (part w' row' 0)).map fun k : Nat => .int (k : Nat)) := by unfold apartD; rw [if_neg z]
    have eB : apartD (part w' row' 0) (part w row 0) = .tup ((rowApart (part w' row' 0) (part w row 0)).map fun k : Nat => .int (k : Nat)) := by unfold apartD; rw [if_neg (fun q => z q.symm)]
    have p1 := apart_parts _ _ _ (Nat.le_refl _) a.nr b.nr z
    have p2 := (apart_parts _ _ _ (Nat.le_refl _) b.nr a.nr fun q => z q.symm).symm
    rw [eA, decide_eq_false z]
    simp -implicitDefEqProofs only [z2__law_pair_right]
    (walk_at "lw_dk")
    refine ite_go (by rw [show ∀ x, DL.isNon (D.tup x) = false from fun _ => rfl]; decide) ?_
    simp -implicitDefEqProofs only [z4__law_pair_right]
    (walk_at "lw_dk")
    refine ⟨_, rfl, _, rfl, _, rfl, _, rfl, w', row', w, row, rfl, T', T, by omega, by omega, ?_⟩
    rw [eB]
    (walk_at "lw_dk")
    refine fun _ => ?_
    generalize rowApart (part w row 0) (part w' row' 0) = A at f1 f2 p1
    generalize rowApart (part w' row' 0) (part w row 0) = B at f3 f4 p2
    have dl : ∀ (s : Sto) (xs : List D), deref s (.lst xs) = .lst xs := fun _ _ => rfl
    have turn : ∀ (R : List Nat) (r : List D) (a3 a4 a5 v6 v7 v8 : Option D) (nx : DL.Env → Sto → Prop) (rt : DK), (∀ g ∈ R, 1 ≤ g ∧ g ≤ 2305843009213693952) → R.length ≤ 200 → runP (part w row 0) R ≠ runP (part w' row' 0) R →
        (∀ u6 u7 u8, goFor [] (dgName 6) b1__law_pair_right ⟨nx, rt⟩ r [some (.obj i), some (.tup [webD w, .tup (row.map D.int)]), some (.tup [webD w', .tup (row'.map D.int)]), a3, a4, a5, u6, u7, u8] st) →
        goFor [] (dgName 6) b1__law_pair_right ⟨nx, rt⟩ (.tup (R.map fun k : Nat => .int (k : Nat)) :: r) [some (.obj i), some (.tup [webD w, .tup (row.map D.int)]), some (.tup [webD w', .tup (row'.map D.int)]), a3, a4, a5, v6, v7, v8] st := fun R r a3 a4 a5 v6 v7 v8 nx rt g1 g2 g3 hk => by
      have gI : ∀ g ∈ R.map fun g : Nat => (g : Int), 1 ≤ g ∧ g ≤ 2305843009213693952 := fun g hg => by
        obtain ⟨k, hk, rfl⟩ := List.mem_map.mp hg
        have := g1 k hk
        omega
      have lI : (R.map fun g : Nat => (g : Int)).length ≤ 100000 := by rw [List.length_map]; omega
      refine ⟨trivial, ?_⟩
      (walk_at "lw_dk")
      simp only [b1__law_pair_right]
      (walk_at "lw_dk")
      refine ⟨R, rfl, by omega, fun g hg => (g1 g hg).1, ?_⟩
      (walk_at "lw_dk")
      simp -implicitDefEqProofs only [z10__law_pair_right]
      (walk_at "lw_dk")
      refine fun _ => lc_map (src := []) (fun p : Web × List Int => D.tup [webD p.1, .tup (p.2.map D.int)]) (fun p => .lst ((runP (part p.1 p.2 0) R).map txD)) [(w, row), (w', row')] st trivial [] (fun p hp kd hkd => ?_) ?_
      · have hT : Tw p.1 p.2 := by
          rcases List.mem_cons.mp hp with q | q
          · rw [q]; exact T
          · rw [List.mem_singleton.mp q]; exact T'
        (walk_at "lw_dk")
        simp only [e1__law_pair_right]
        (walk_at "lw_dk")
        refine ⟨_, rfl, _, rfl, p.1, _, p.2, tup3 R, hT.nt, hT.lies, gI, lI, ?_⟩
        rw [falls_run R hT]
        (walk_at "lw_dk")
        exact ⟨_, rfl, hkd⟩
      rw [List.nil_append]
      simp only [List.map_cons, List.map_nil]
      simp -implicitDefEqProofs only [z11__law_pair_right]
      (walk_at "lw_dk")
      refine ⟨_, rfl, _, rfl, ?_⟩
      rw [dl, dl, tx_eqD]
      refine ⟨run_ok a.nm R, run_ok b.nm R, ite_go (by rw [decide_eq_false g3]; decide) ?_⟩
      exact hk _ _ _
    refine turn A _ _ _ _ _ _ _ _ _ f1 f2 p1 fun u6 u7 u8 => ?_
    refine turn B _ _ _ _ _ _ _ _ _ f3 f4 p2 fun u6 u7 u8 => ?_
    refine ⟨trivial, ?_⟩
    simp -implicitDefEqProofs only [z13__law_pair_right]
    (walk_at "lw_dk")
    refine ⟨_, rfl, _, rfl, w, _, row, tup3 A, T.nt, T.lies, by rw [List.length_map]; omega, ?_⟩
    rw [r1]
    (walk_at "lw_dk")
    refine ⟨_, rfl, _, rfl, _, rfl, w', _, row', tup3 A, T'.nt, T'.lies, by rw [List.length_map]; omega, ?_⟩
    rw [r2]
    (walk_at "lw_dk")
    refine ⟨_, rfl, ?_⟩
    rw [dl, tx_eqD, decide_eq_false p1]
    exact ⟨run_ok a.nm A, run_ok b.nm A, h _ (ht.mono (by omega))⟩
def z8__law_right : DS :=
    (dIfS (dNot (dTru (dCall sp__law_pair_right (dCons (dVar 0) (dCons (dVar 3) (dCons (dVar 5) dNil)))))) (dRet (dC (.bl false))) dPass)
def z6__law_right : DS :=
    (dSeq (dIfS (dTest (dOp (cmpI fun i j => decide (j < i)) (dVar 4) (dC (.int 0)))) (dAsg (dCall sp__law_near (dCons (dVar 0) (dCons (dOp ixD (dVar 5) (dC (.int 0))) (dCons (dOp ixD (dVar 5) (dC (.int 1))) (dCons (dVar 1) dNil))))) (dgName 5)) dPass)
    (z8__law_right))
def z5__law_right : DS :=
    (dSeq (dAsg (dCall sp__law_otherwise (dCons (dVar 0) (dCons (dOp ixD (dVar 3) (dC (.int 0))) (dCons (dOp ixD (dVar 3) (dC (.int 1))) dNil)))) (dgName 5))
    (z6__law_right))
def z4__law_right : DS :=
    (dSeq (dAsg (dCall sp__law_draw (dCons (dVar 0) (dCons (dC (.int 4)) dNil))) (dgName 4))
    (z5__law_right))
def b1__law_right : DS :=
    (dSeq (dAsg (dCall sp__law_tree (dCons (dVar 0) (dCons (dVar 1) dNil))) (dgName 3))
    (z4__law_right))
def z10__law_right : DS :=
    (dRet (dC (.bl true)))
def z2__law_right : DS :=
    (dSeq (dFor (dRng1 (dC (.int 6))) (dgName 2) (b1__law_right))
    (z10__law_right))
def t__law_right : DS :=
    (dSeq (dAsg (dCall sp__law_names (dCons (dVar 0) (dCons (dOp addD (dC (.int 1)) (dCall sp__law_draw (dCons (dVar 0) (dCons (dC (.int 3)) dNil)))) dNil))) (dgName 1))
    (z2__law_right))
theorem st__law_right (a0 : D) : startD N__law_right [a0] = [some a0, none, none, none, none, none] := rfl
def sp__law_right : SpD := fun ds st kk => ∃ (i n : Nat), ds = [.obj i] ∧ Tp i n st ∧ n < 1000 ∧ ∀ st', Tp i (n + 20000) st' → kk (.bl true) st'
theorem len__law_right (ds : List D) (st : Sto) (kk : DK) (h : sp__law_right ds st kk) : ds.length = 1 := by
  obtain ⟨_, _, rfl, _⟩ := h
  rfl
theorem p__law_right : BodyD false N__law_right sp__law_right t__law_right := by
  rintro ds st kk ⟨i, n, rfl, ht, hn, h⟩
  rw [st__law_right]
  simp only [t__law_right]
  (walk_at "lw_dd0")
  refine ⟨i, _, 3, rfl, ht, by omega, by (first | exact mulc _ _ (by decide) (by decide) | exact mulr _ _ (by decide) (by decide) | exact ⟨by decide, by decide, by decide⟩ | exact ⟨by decide, by decide⟩ | exact mulb _ _ | exact ⟨by omega, by omega⟩ | exact mulc _ _ (by omega) (by omega) | exact mulr _ _ (by omega) (by omega) | exact div_small (by omega) (by omega) | exact ⟨by omega, by omega, by omega⟩ | omega | decide), fun r x1 r0 r1 t1 => ?_⟩
  obtain ⟨m, rfl⟩ := Int.eq_ofNat_of_zero_le r0
  (walk_at "lw_dd0")
  refine ⟨i, _, 1 + m, rfl, t1, by omega, by omega, by omega, fun ns x2 nl nm nd t2 => ?_⟩
  rw [List.set_set] at t2 ⊢
  (walk_at "lw_dd0")
  refine ⟨by decide, ?_⟩
  refine go_range 6 (fun j env s => ∃ (v2 v3 v4 v5 : Option D), env = [some (.obj i), some (.lst (ns.map fun z => .str (S z))), v2, v3, v4, v5] ∧ Tp i (n + 50 + 2000 * j) s) ?_ ?_ _ _ ⟨_, _, _, _, rfl, t2.mono (by omega)⟩
  · rintro j _ s nx hj ⟨v2, v3, v4, v5, rfl, t3⟩ q
    refine ⟨trivial, ?_⟩
    (walk_at "lw_dd0")
    simp only [b1__law_right]
    (walk_at "lw_dd0")
    refine ⟨i, _, ns, rfl, t3, by omega, by omega, by omega, nm, fun w row x3 T w8 small out t4 => ?_⟩
    have F : Far row := fun x hx => by have := small x hx; omega
    simp only [z4__law_right]
    (walk_at "lw_dd0")
    refine ⟨i, _, 4, rfl, t4, by omega, by (first | exact mulc _ _ (by decide) (by decide) | exact mulr _ _ (by decide) (by decide) | exact ⟨by decide, by decide, by decide⟩ | exact ⟨by decide, by decide⟩ | exact mulb _ _ | exact ⟨by omega, by omega⟩ | exact mulc _ _ (by omega) (by omega) | exact mulr _ _ (by omega) (by omega) | exact div_small (by omega) (by omega) | exact ⟨by omega, by omega, by omega⟩ | omega | decide), fun r x4 r0 r1 t5 => ?_⟩
    rw [List.set_set] at t5 ⊢
    (walk_at "lw_dd0")
    refine ⟨_, rfl, _, rfl, i, _, w, row, rfl, t5, by omega, T, w8, fun w' row' x4 T' w8' hp bd t6 => ?_⟩
    rw [List.set_set] at t6 ⊢
    generalize s.set i x4 = s1 at t6 ⊢
    have F1 : ∀ x ∈ row', x.natAbs ≤ 2 ^ 40 := bd (2 ^ 40) (by decide) fun x hx => by have := small x hx; omega
    have fin : ∀ (w2 : Web) (row2 : List Int) (s : Sto) (k : DK), Tw w2 row2 → w2.length ≤ 8 → Far row2 → Tp i (n + 50 + 2000 * j + 1000) s → (∀ s', Tp i (n + 50 + 2000 * j + 1100) s' → k (.bl true) s') → sp__law_pair_right [.obj i, .tup [webD w, .tup (row.map D.int)], .tup [webD w2, .tup (row2.map D.int)]] s k := fun w2 row2 s k T2 l2 F2 t hk => ⟨i, _, w, row, w2, row2, rfl, t, by omega, T, T2, w8, l2, F, F2, hk⟩
    simp only [z6__law_right]
    (walk_at "lw_dd0")
    by_cases z : 0 < r
    · refine ite_yes (by omega) ?_
      refine ⟨_, rfl, _, rfl, i, _, w', row', ns, rfl, t6, by omega, T', w8', by omega, by omega, nm, fun w2 row2 s3 T2 l2 nb t7 => ?_⟩
      simp only [z8__law_right]
      (walk_at "lw_dd0")
      refine fin w2 row2 _ _ T2 l2 (fun x hx => nb (2 ^ 40) (Nat.le_refl _) F1 x hx) (t7.mono (by omega)) fun s' t8 => ?_
      (walk_at "lw_dd0")
      exact q _ _ ⟨_, _, _, _, rfl, t8.mono (by omega)⟩
    · refine ite_go (by omega) ?_
      simp only [z8__law_right]
      (walk_at "lw_dd0")
      refine fin w' row' _ _ T' w8' (fun x hx => by have := F1 x hx; omega) (t6.mono (by omega)) fun s' t8 => ?_
      (walk_at "lw_dd0")
      exact q _ _ ⟨_, _, _, _, rfl, t8.mono (by omega)⟩
  · rintro _ s ⟨v2, v3, v4, v5, rfl, t3⟩
    refine ⟨trivial, ?_⟩
    (walk_at "lw_dd0")
    exact h s (t3.mono (by omega))
def e1_law : DE :=
    (dCall sp__law_right (dCons (dCall sp__law_tape (dCons (dVar 1) (dCons (dVar 2) dNil))) dNil))
def z2_law : DS :=
    (dRet (dB bAll (dCons (dLc (dRng1 (dB bMax2 (dCons (dC (.int 1)) (dCons (dB bLen (dCons (dVar 1) dNil)) dNil)))) (dgName 2) dYes (e1_law) [2]) dNil)))
def t_law : DS :=
    (dSeq (dAsg (dCall sp__law_folded (dCons (dVar 0) (dCons (dC (.int 2)) dNil))) (dgName 1))
    (z2_law))
theorem st_law (a0 : D) : startD N_law [a0] = [some a0, none, none] := rfl
def sp_law : SpD := spLaw
theorem len_law (ds : List D) (st : Sto) (kk : DK) (h : sp_law ds st kk) : ds.length = 1 := by
  obtain ⟨ns, rfl, _⟩ := h
  rfl
theorem p_law : BodyD false N_law spLaw t_law := by
  rintro ds st kk ⟨ns, rfl, h1, h2, rfl, h⟩
  rw [st_law]
  simp only [t_law]
  (walk_at "lw_dd")
  refine ⟨ns, 2, rfl, by decide, by decide, by omega, fun cs hc => ?_⟩
  simp only [z2_law]
  (walk_at "lw_dd0")
  have hb : (if ((cs.length : Nat) : Int) > 1 then ((cs.length : Nat) : Int) else 1) ≤ 3 ∧ 1 ≤ (if ((cs.length : Nat) : Int) > 1 then ((cs.length : Nat) : Int) else 1) := by split <;> omega
  generalize (if ((cs.length : Nat) : Int) > 1 then ((cs.length : Nat) : Int) else 1) = m at hb ⊢
  refine ⟨by omega, ?_, ?_⟩
  · rw [rangeD_len]
    omega
  obtain ⟨j, rfl⟩ := Int.eq_ofNat_of_zero_le (show 0 ≤ m by omega)
  rw [show ((j : Nat) : Int).toNat = j from rfl, rangeD_nat]
  refine lc_true _ [] _ (fun x hx s kd hk => ?_) fun s => ?_
  · obtain ⟨a, ha, rfl⟩ := List.mem_map.mp hx
    have ha := List.mem_range.mp ha
    (walk_at "lw_dd")
    simp only [e1_law]
    (walk_at "lw_dd")
    refine ⟨cs, a, rfl, by omega, fun xs hx => ?_⟩
    refine ⟨s.length, 0, rfl, ⟨xs, app_get, hx⟩, by decide, fun st' t' => ?_⟩
    exact hk _
  · rw [List.nil_append, all_true]
    exact h _
structure Fx (K : PySem.W.Frag) (mg : Str → Option Value) : Prop where
  b_isinstance : mg "isinstance" = none
  b_str : mg "str" = none
  b_range : mg "range" = none
  b_len : mg "len" = none
  g_TWO : ∃ t, mg "TWO" = some (.int 2 t)
  b_max : mg "max" = none
  b_sum : mg "sum" = none
  b_tuple : mg "tuple" = none
  b_int : mg "int" = none
  b_bool : mg "bool" = none
  g_LEFT : ∃ t, mg "LEFT" = some (.str "left" t)
  g_RIGHT : ∃ t, mg "RIGHT" = some (.str "right" t)
  g_SIDES : GTup K mg "SIDES" [.str "left", .str "right"]
  b_list : mg "list" = none
  b_abs : mg "abs" = none
  b_enumerate : mg "enumerate" = none
  b_sorted : mg "sorted" = none
  b_dict : mg "dict" = none
  b_all : mg "all" = none
theorem d_as_part {P : Program} {wo : World} {K : PySem.W.Frag} {mg : Str → Option Value} {base : Heap} {f : Addr} {cdv : Value} {A : Around} {outer : List PySem.Env} {s : Shared} {H : Hp} {E : XK} (T : Fx K mg)
    (hr : RoomG 0 (A.deeper (envOfC "as_part" (defScope s_as_part) s.heap.objs.size f cdv))) : PDSs (cxOf CX0 P wo K mg base N_as_part "as_part" (defScope s_as_part) f cdv A outer s H E).nox (defBody s_as_part) t_as_part :=
    (pdss_cons (pds_if (L2.PW.pt (pw_dand (pd_tru (pd_isi T.b_isinstance (pd_var 1) T.b_str (by decide +kernel))) (pw_and1 (pd_tcmp (dop_eq hr.units) (pd_var 1) (pd_var 2) (nomark _))))) (pdss_one (pds_ret (pd_var 1))) pdss_nil)
    (pdss_one (pds_ret (pd_ife (pd_tcmp dop_lt (pd_var 0) pd_int (nomark _)) (pd_tup (pda_cons (pd_un dun_neg (pd_var 0)) (pda_cons (pd_var 1) (pda_cons (pd_var 2) pda_nil)))) (pd_tup (pda_cons (pd_var 0) (pda_cons (pd_var 2) (pda_cons (pd_var 1) pda_nil))))))))
theorem ok_as_part {P : Program} {wo : World} {K : PySem.W.Frag} {mg : Str → Option Value} {base : Heap} {f : Addr} {fd : FuncData} (T : Fx K mg) (F : FnP K "as_part" s_as_part f fd) : FnG P wo K mg base CX0 1 f fd ["standing", "left", "right"] (spD K sp_as_part) :=
  fnD false F sc_as_part len_as_part (fun cdv A outer s H E hr => d_as_part T  hr) p_as_part
theorem d_part_of {P : Program} {wo : World} {K : PySem.W.Frag} {mg : Str → Option Value} {base : Heap} {f : Addr} {cdv : Value} {A : Around} {outer : List PySem.Env} {s : Shared} {H : Hp} {E : XK} (T : Fx K mg) (c_as_part : Cal P wo K mg base 1 "as_part" ["standing", "left", "right"] sp_as_part)
    (hr : RoomG 1 (A.deeper (envOfC "part_of" (defScope s_part_of) s.heap.objs.size f cdv))) : PDSs (cxOf CX0 P wo K mg base N_part_of "part_of" (defScope s_part_of) f cdv A outer s H E).nox (defBody s_part_of) t_part_of :=
    (pdss_cons (pds_set 2 sc_part_of.nd pd_dnewK)
    (pdss_cons (pds_for PassesOwn.never rfl (pdi_range3 T.b_range (pd_op dop_sub (pd_callB cb_len T.b_len (by decide +kernel) (pda_cons (pd_var 0) pda_nil)) pd_int) (pd_un dun_neg pd_int) (pd_un dun_neg pd_int)) (pdg_name 3 sc_part_of.nd) (pdss_cons (pds_asg (pd_lc [("lead", 6)] rfl sc_part_of.nd (pdi_any (pd_ix (pd_var 0) (pd_var 3))) (blkOk_by (N := N_part_of) (sc := defScope s_part_of) (by decide +kernel)) (fun _ _ _ _ _ => (pdgo_name 6 sc_part_of.nd)) (fun _ _ _ _ _ => pdts_nil) (fun _ _ _ _ _ => (pd_dget2 hr.units (pd_var 2) (pd_var 6) (pd_var 6)))) (pdg_unl rfl (pdgs_cons (pdg_name 4 sc_part_of.nd) (pdgs_cons (pdg_name 5 sc_part_of.nd) pdgs_nil))))
    (pdss_one (pds_asg (pd_callC c_as_part hr (pda_cons (pd_ix (pd_var 1) (pd_var 3)) (pda_cons (pd_var 4) (pda_cons (pd_var 5) pda_nil)))) (pdg_put hr.units (pd_var 2) (pd_var 3))))))
    (pdss_one (pds_ret (pd_dget hr.units (pd_var 2) pd_int)))))
theorem ok_part_of {P : Program} {wo : World} {K : PySem.W.Frag} {mg : Str → Option Value} {base : Heap} {f : Addr} {fd : FuncData} (T : Fx K mg) (F : FnP K "part_of" s_part_of f fd) (c_as_part : Cal P wo K mg base 1 "as_part" ["standing", "left", "right"] sp_as_part) : FnG P wo K mg base CX0 2 f fd ["net", "standing"] (spD K sp_part_of) :=
  fnD true F sc_part_of len_part_of (fun cdv A outer s H E hr => d_part_of T c_as_part hr) p_part_of
theorem d_alike {P : Program} {wo : World} {K : PySem.W.Frag} {mg : Str → Option Value} {base : Heap} {f : Addr} {cdv : Value} {A : Around} {outer : List PySem.Env} {s : Shared} {H : Hp} {E : XK} (T : Fx K mg) (c_part_of : Cal P wo K mg base 2 "part_of" ["net", "standing"] sp_part_of)
    (hr : RoomG 2 (A.deeper (envOfC "alike" (defScope s_alike) s.heap.objs.size f cdv))) : PDSs (cxOf CX0 P wo K mg base N_alike "alike" (defScope s_alike) f cdv A outer s H E).nox (defBody s_alike) t_alike :=
    (pdss_one (pds_ret (pd_cmp (dop_eq hr.units) (pd_callC c_part_of hr (pda_cons (pd_var 0) (pda_cons (pd_var 1) pda_nil))) (pd_callC c_part_of hr (pda_cons (pd_var 2) (pda_cons (pd_var 3) pda_nil))) (nomark _))))
theorem ok_alike {P : Program} {wo : World} {K : PySem.W.Frag} {mg : Str → Option Value} {base : Heap} {f : Addr} {fd : FuncData} (T : Fx K mg) (F : FnP K "alike" s_alike f fd) (c_part_of : Cal P wo K mg base 2 "part_of" ["net", "standing"] sp_part_of) : FnG P wo K mg base CX0 3 f fd ["one", "its", "other", "others"] (spD K sp_alike) :=
  fnD false F sc_alike len_alike (fun cdv A outer s H E hr => d_alike T c_part_of hr) p_alike
theorem d_grown {P : Program} {wo : World} {K : PySem.W.Frag} {mg : Str → Option Value} {base : Heap} {f : Addr} {cdv : Value} {A : Around} {outer : List PySem.Env} {s : Shared} {H : Hp} {E : XK} {spr : SpD} {n : Nat} (T : Fx K mg) (cr : Cal P wo K mg base (1 + n) "grown" ["part", "weight"] spr) (c_as_part : Cal P wo K mg base 1 "as_part" ["standing", "left", "right"] sp_as_part)
    (hr : RoomG (1 + n) (A.deeper (envOfC "grown" (defScope s_grown) s.heap.objs.size f cdv))) : PDSs (cxOf CX0 P wo K mg base N_grown "grown" (defScope s_grown) f cdv A outer s H E).nox (defBody s_grown) (t_grown spr) :=
    (pdss_cons (pds_if (pd_tru (pd_isi T.b_isinstance (pd_var 0) T.b_str (by decide +kernel))) (pdss_one (pds_ret (pd_var 0))) pdss_nil)
    (pdss_cons (pds_asg (pd_var 0) (pdg_tup rfl (pdgs_cons (pdg_name 2 sc_grown.nd) (pdgs_cons (pdg_name 3 sc_grown.nd) (pdgs_cons (pdg_name 4 sc_grown.nd) pdgs_nil)))))
    (pdss_one (pds_ret (pd_callC (hkj := by omega) c_as_part hr (pda_cons (pd_op dop_sub (pd_op dop_mul (pd_gint T.g_TWO) (pd_var 1)) (pd_var 2)) (pda_cons (pd_callC (hkj := by omega) cr hr (pda_cons (pd_var 3) (pda_cons (pd_var 1) pda_nil))) (pda_cons (pd_var 4) pda_nil))))))))
theorem ok_grown {P : Program} {wo : World} {K : PySem.W.Frag} {mg : Str → Option Value} {base : Heap} {f : Addr} {fd : FuncData} (T : Fx K mg) (F : FnP K "grown" s_grown f fd) (gm : mg "grown" = some (.ref f)) (c_as_part : Cal P wo K mg base 1 "as_part" ["standing", "left", "right"] sp_as_part) : ∀ n : Nat, FnG P wo K mg base CX0 (1 + n) f fd ["part", "weight"] (spD K (sp_grown n))
  | 0 => ⟨fun vs H Q E ⟨_, _, ds, _, _, _, h, _⟩ => (no_grown _ _ _ h).elim, fun A outer s H args us vs Q E _ _ _ _ ⟨_, _, ds, _, _, _, h, _⟩ => (no_grown _ _ _ h).elim⟩
  | n + 1 => fnD (k := 1 + n) false F sc_grown (len_grown (n + 1)) (fun cdv A outer s H E hr => d_grown T ⟨f, fd, gm, F.kp, ok_grown T F gm c_as_part n, F.bindsN (fun _ _ _ _ _ _ us hl => match us, hl with | [_, _], _ => rfl)⟩ c_as_part hr) (p_grown n)
theorem d_greatest {P : Program} {wo : World} {K : PySem.W.Frag} {mg : Str → Option Value} {base : Heap} {f : Addr} {cdv : Value} {A : Around} {outer : List PySem.Env} {s : Shared} {H : Hp} {E : XK} {spr : SpD} {n : Nat} (T : Fx K mg) (cr : Cal P wo K mg base (0 + n) "greatest" ["part"] spr) 
    (hr : RoomG (0 + n) (A.deeper (envOfC "greatest" (defScope s_greatest) s.heap.objs.size f cdv))) : PDSs (cxOf CX0 P wo K mg base N_greatest "greatest" (defScope s_greatest) f cdv A outer s H E).nox (defBody s_greatest) (t_greatest spr) :=
    (pdss_one (pds_ret (pd_ife (pd_tru (pd_isi T.b_isinstance (pd_var 0) T.b_str (by decide +kernel))) pd_int (pd_callB (cb_max3 rfl) T.b_max (by decide +kernel) (pda_cons (pd_ix (pd_var 0) pd_int) (pda_cons (pd_callC (hkj := by omega) cr hr (pda_cons (pd_ix (pd_var 0) pd_int) pda_nil)) (pda_cons (pd_callC (hkj := by omega) cr hr (pda_cons (pd_ix (pd_var 0) pd_int) pda_nil)) pda_nil)))))))
theorem ok_greatest {P : Program} {wo : World} {K : PySem.W.Frag} {mg : Str → Option Value} {base : Heap} {f : Addr} {fd : FuncData} (T : Fx K mg) (F : FnP K "greatest" s_greatest f fd) (gm : mg "greatest" = some (.ref f)) : ∀ n : Nat, FnG P wo K mg base CX0 (0 + n) f fd ["part"] (spD K (sp_greatest n))
  | 0 => ⟨fun vs H Q E ⟨_, _, ds, _, _, _, h, _⟩ => (no_greatest _ _ _ h).elim, fun A outer s H args us vs Q E _ _ _ _ ⟨_, _, ds, _, _, _, h, _⟩ => (no_greatest _ _ _ h).elim⟩
  | n + 1 => fnD (k := 0 + n) false F sc_greatest (len_greatest (n + 1)) (fun cdv A outer s H E hr => d_greatest T ⟨f, fd, gm, F.kp, ok_greatest T F gm  n, F.bindsN (fun _ _ _ _ _ _ us hl => match us, hl with | [_], _ => rfl)⟩  hr) (p_greatest n)
theorem d_names_in {P : Program} {wo : World} {K : PySem.W.Frag} {mg : Str → Option Value} {base : Heap} {f : Addr} {cdv : Value} {A : Around} {outer : List PySem.Env} {s : Shared} {H : Hp} {E : XK} {spr : SpD} {n : Nat} (T : Fx K mg) (cr : Cal P wo K mg base (0 + n) "names_in" ["part"] spr) 
    (hr : RoomG (0 + n) (A.deeper (envOfC "names_in" (defScope s_names_in) s.heap.objs.size f cdv))) : PDSs (cxOf CX0 P wo K mg base N_names_in "names_in" (defScope s_names_in) f cdv A outer s H E).nox (defBody s_names_in) (t_names_in spr) :=
    (pdss_one (pds_ret (pd_ife (pd_tru (pd_isi T.b_isinstance (pd_var 0) T.b_str (by decide +kernel))) (pd_lst (pda_cons (pd_var 0) pda_nil)) (pd_op dop_add (pd_callC (hkj := by omega) cr hr (pda_cons (pd_ix (pd_var 0) pd_int) pda_nil)) (pd_callC (hkj := by omega) cr hr (pda_cons (pd_ix (pd_var 0) pd_int) pda_nil))))))
theorem ok_names_in {P : Program} {wo : World} {K : PySem.W.Frag} {mg : Str → Option Value} {base : Heap} {f : Addr} {fd : FuncData} (T : Fx K mg) (F : FnP K "names_in" s_names_in f fd) (gm : mg "names_in" = some (.ref f)) : ∀ n : Nat, FnG P wo K mg base CX0 (0 + n) f fd ["part"] (spD K (sp_names_in n))
  | 0 => ⟨fun vs H Q E ⟨_, _, ds, _, _, _, h, _⟩ => (no_names_in _ _ _ h).elim, fun A outer s H args us vs Q E _ _ _ _ ⟨_, _, ds, _, _, _, h, _⟩ => (no_names_in _ _ _ h).elim⟩
  | n + 1 => fnD (k := 0 + n) false F sc_names_in (len_names_in (n + 1)) (fun cdv A outer s H E hr => d_names_in T ⟨f, fd, gm, F.kp, ok_names_in T F gm  n, F.bindsN (fun _ _ _ _ _ _ us hl => match us, hl with | [_], _ => rfl)⟩  hr) (p_names_in n)
theorem d_row_off {P : Program} {wo : World} {K : PySem.W.Frag} {mg : Str → Option Value} {base : Heap} {f : Addr} {cdv : Value} {A : Around} {outer : List PySem.Env} {s : Shared} {H : Hp} {E : XK} {spr : SpD} {n : Nat} (T : Fx K mg) (cr : Cal P wo K mg base (23 + n) "row_off" ["part", "name"] spr) (c_names_in : Cal P wo K mg base 22 "names_in" ["part"] (sp_names_in 22)) (c_grown : Cal P wo K mg base 23 "grown" ["part", "weight"] (sp_grown 22))
    (hr : RoomG (23 + n) (A.deeper (envOfC "row_off" (defScope s_row_off) s.heap.objs.size f cdv))) : PDSs (cxOf CX0 P wo K mg base N_row_off "row_off" (defScope s_row_off) f cdv A outer s H E).nox (defBody s_row_off) (t_row_off spr) :=
    (pdss_cons (pds_if (pd_tru (pd_isi T.b_isinstance (pd_var 0) T.b_str (by decide +kernel))) (pdss_one (pds_ret (pd_lst (pda_cons pd_int pda_nil)))) pdss_nil)
    (pdss_cons (pds_asg (pd_var 0) (pdg_tup rfl (pdgs_cons (pdg_name 2 sc_row_off.nd) (pdgs_cons (pdg_name 3 sc_row_off.nd) (pdgs_cons (pdg_name 4 sc_row_off.nd) pdgs_nil)))))
    (pdss_cons (pds_if (pd_tcmp (dop_ne hr.units) (pd_lc [("one", 5)] rfl sc_row_off.nd (pdi_any (pd_callC (hkj := by omega) c_names_in hr (pda_cons (pd_var 4) pda_nil))) (blkOk_by (N := N_row_off) (sc := defScope s_row_off) (by decide +kernel)) (fun _ _ _ _ _ => (pdgo_name 5 sc_row_off.nd)) (fun _ _ _ _ _ => (pdts_one (pd_tcmp (dop_ne hr.units) (pd_var 5) (pd_var 1) (nomark _)))) (fun _ _ _ _ _ => (pd_var 5))) (pd_lst pda_nil) (nomark _)) (pdss_cons (pds_set 6 sc_row_off.nd (pd_callC (hkj := by omega) cr hr (pda_cons (pd_var 4) (pda_cons (pd_var 1) pda_nil))))
    (pdss_one (pds_ret (pd_op dop_add (pd_lst (pda_cons (pd_op dop_add (pd_op dop_add (pd_op dop_div (pd_var 2) (pd_gint T.g_TWO)) pd_int) (pd_callB (cb_sum1 rfl) T.b_sum (by decide +kernel) (pda_cons (pd_var 6) pda_nil))) pda_nil)) (pd_var 6))))) pdss_nil)
    (pdss_cons (pds_if (pd_tru (pd_isi T.b_isinstance (pd_var 3) T.b_str (by decide +kernel))) (pdss_one (pds_ret (pd_lst (pda_cons pd_int pda_nil)))) pdss_nil)
    (pdss_cons (pds_set 7 sc_row_off.nd (pd_op dop_add (pd_op dop_div (pd_var 2) (pd_gint T.g_TWO)) pd_int))
    (pdss_cons (pds_set 6 sc_row_off.nd (pd_callC (hkj := by omega) cr hr (pda_cons (pd_callC (hkj := by omega) c_grown hr (pda_cons (pd_var 3) (pda_cons (pd_var 7) pda_nil))) (pda_cons (pd_var 1) pda_nil))))
    (pdss_one (pds_ret (pd_op dop_add (pd_lst (pda_cons (pd_var 7) (pda_cons (pd_op dop_add (pd_callB (cb_sum1 rfl) T.b_sum (by decide +kernel) (pda_cons (pd_var 6) pda_nil)) pd_int) pda_nil))) (pd_var 6))))))))))
theorem ok_row_off {P : Program} {wo : World} {K : PySem.W.Frag} {mg : Str → Option Value} {base : Heap} {f : Addr} {fd : FuncData} (T : Fx K mg) (F : FnP K "row_off" s_row_off f fd) (gm : mg "row_off" = some (.ref f)) (c_names_in : Cal P wo K mg base 22 "names_in" ["part"] (sp_names_in 22)) (c_grown : Cal P wo K mg base 23 "grown" ["part", "weight"] (sp_grown 22)) : ∀ n : Nat, FnG P wo K mg base CX0 (23 + n) f fd ["part", "name"] (spD K (sp_row_off n))
  | 0 => ⟨fun vs H Q E ⟨_, _, ds, _, _, _, h, _⟩ => (no_row_off _ _ _ h).elim, fun A outer s H args us vs Q E _ _ _ _ ⟨_, _, ds, _, _, _, h, _⟩ => (no_row_off _ _ _ h).elim⟩
  | n + 1 => fnD (k := 23 + n) false F sc_row_off (len_row_off (n + 1)) (fun cdv A outer s H E hr => d_row_off T ⟨f, fd, gm, F.kp, ok_row_off T F gm c_names_in c_grown n, F.bindsN (fun _ _ _ _ _ _ us hl => match us, hl with | [_, _], _ => rfl)⟩ c_names_in c_grown hr) (p_row_off n)
theorem d_row_by_sizes {P : Program} {wo : World} {K : PySem.W.Frag} {mg : Str → Option Value} {base : Heap} {f : Addr} {cdv : Value} {A : Around} {outer : List PySem.Env} {s : Shared} {H : Hp} {E : XK} {spr : SpD} {n : Nat} (T : Fx K mg) (cr : Cal P wo K mg base (45 + 2 * n) "row_apart" ["one", "other"] spr) (c_grown : Cal P wo K mg base 23 "grown" ["part", "weight"] (sp_grown 22)) (c_greatest : Cal P wo K mg base 22 "greatest" ["part"] (sp_greatest 22))
    (hr : RoomG (45 + 2 * n) (A.deeper (envOfC "row_by_sizes" (defScope s_row_by_sizes) s.heap.objs.size f cdv))) : PDSs (cxOf CX0 P wo K mg base N_row_by_sizes "row_by_sizes" (defScope s_row_by_sizes) f cdv A outer s H E).nox (defBody s_row_by_sizes) (t_row_by_sizes spr) :=
    (pdss_cons (pds_asg (pd_var 0) (pdg_tup rfl (pdgs_cons (pdg_name 2 sc_row_by_sizes.nd) (pdgs_cons (pdg_name 3 sc_row_by_sizes.nd) (pdgs_cons (pdg_name 4 sc_row_by_sizes.nd) pdgs_nil)))))
    (pdss_cons (pds_set 5 sc_row_by_sizes.nd (pd_ix (pd_var 1) pd_int))
    (pdss_cons (pds_set 6 sc_row_by_sizes.nd (pd_op dop_add (pd_op dop_div (pd_var 2) (pd_gint T.g_TWO)) pd_int))
    (pdss_cons (pds_if (L2.PW.pt (pw_dand (pd_tru (pd_isi T.b_isinstance (pd_var 3) T.b_str (by decide +kernel))) (pw_and1 (pd_tru (pd_isi T.b_isinstance (pd_var 4) T.b_str (by decide +kernel)))))) (pdss_one (pds_ret (pd_lst (pda_cons (pd_var 6) (pda_cons pd_int pda_nil))))) pdss_nil)
    (pdss_cons (pds_if (L2.PW.pt (pw_dor (pd_tru (pd_isi T.b_isinstance (pd_var 3) T.b_str (by decide +kernel))) (pw_or1 (pd_tru (pd_isi T.b_isinstance (pd_var 4) T.b_str (by decide +kernel)))))) (pdss_cons (pds_set 7 sc_row_by_sizes.nd (pd_callC (hkj := by omega) cr hr (pda_cons (pd_callC (hkj := by omega) c_grown hr (pda_cons (pd_var 3) (pda_cons (pd_var 6) pda_nil))) (pda_cons (pd_var 4) pda_nil))))
    (pdss_one (pds_ret (pd_op dop_add (pd_lst (pda_cons (pd_var 6) (pda_cons (pd_op dop_add (pd_op dop_add (pd_callB (cb_sum1 rfl) T.b_sum (by decide +kernel) (pda_cons (pd_var 7) pda_nil)) (pd_var 5)) pd_int) pda_nil))) (pd_var 7))))) pdss_nil)
    (pdss_cons (pds_set 6 sc_row_by_sizes.nd (pd_op dop_add (pd_callB (cb_max2 rfl) T.b_max (by decide +kernel) (pda_cons (pd_callC (hkj := by omega) c_greatest hr (pda_cons (pd_var 0) pda_nil)) (pda_cons (pd_callC (hkj := by omega) c_greatest hr (pda_cons (pd_var 1) pda_nil)) pda_nil))) pd_int))
    (pdss_cons (pds_set 8 sc_row_by_sizes.nd (pd_op dop_sub (pd_var 6) (pd_op dop_div (pd_var 5) (pd_gint T.g_TWO))))
    (pdss_cons (pds_set 9 sc_row_by_sizes.nd (pd_ife (pd_tcmp (dop_ne hr.units) (pd_callC (hkj := by omega) c_grown hr (pda_cons (pd_var 3) (pda_cons (pd_var 6) pda_nil))) (pd_callC (hkj := by omega) c_grown hr (pda_cons (pd_var 4) (pda_cons (pd_var 8) pda_nil))) (nomark _)) (pd_lst (pda_cons (pd_var 8) pda_nil)) (pd_lst (pda_cons (pd_op dop_sub (pd_var 8) pd_int) (pda_cons pd_int pda_nil)))))
    (pdss_cons (pds_for PassesOwn.never rfl (pdi_any (pd_var 9)) (pdg_name 10 sc_row_by_sizes.nd) (pdss_one (pds_set 4 sc_row_by_sizes.nd (pd_callC (hkj := by omega) c_grown hr (pda_cons (pd_var 4) (pda_cons (pd_var 10) pda_nil))))))
    (pdss_cons (pds_set 7 sc_row_by_sizes.nd (pd_callC (hkj := by omega) cr hr (pda_cons (pd_callC (hkj := by omega) c_grown hr (pda_cons (pd_var 3) (pda_cons (pd_var 6) pda_nil))) (pda_cons (pd_var 4) pda_nil))))
    (pdss_one (pds_ret (pd_op dop_add (pd_op dop_add (pd_op dop_add (pd_lst (pda_cons (pd_var 6) pda_nil)) (pd_var 9)) (pd_lst (pda_cons (pd_op dop_add (pd_op dop_add (pd_callB (cb_sum1 rfl) T.b_sum (by decide +kernel) (pda_cons (pd_var 7) pda_nil)) (pd_var 5)) pd_int) pda_nil))) (pd_var 7))))))))))))))
theorem ok_row_by_sizes {P : Program} {wo : World} {K : PySem.W.Frag} {mg : Str → Option Value} {base : Heap} {f : Addr} {fd : FuncData} {spr : SpD} {n : Nat} (T : Fx K mg) (F : FnP K "row_by_sizes" s_row_by_sizes f fd) (cr : Cal P wo K mg base (45 + 2 * n) "row_apart" ["one", "other"] spr) (c_grown : Cal P wo K mg base 23 "grown" ["part", "weight"] (sp_grown 22)) (c_greatest : Cal P wo K mg base 22 "greatest" ["part"] (sp_greatest 22)) : FnG P wo K mg base CX0 (45 + 2 * n + 1) f fd ["one", "other"] (spD K (sp_row_by_sizes spr)) :=
  fnD (k := 45 + 2 * n) false F sc_row_by_sizes (len_row_by_sizes spr) (fun cdv A outer s H E hr => d_row_by_sizes T cr c_grown c_greatest hr) (p_row_by_sizes spr)
theorem d_row_apart {P : Program} {wo : World} {K : PySem.W.Frag} {mg : Str → Option Value} {base : Heap} {f : Addr} {cdv : Value} {A : Around} {outer : List PySem.Env} {s : Shared} {H : Hp} {E : XK} {spr : SpD} {n : Nat} (T : Fx K mg) (cr : Cal P wo K mg base (45 + 2 * n) "row_apart" ["one", "other"] spr) (ch_row_by_sizes : Cal P wo K mg base (45 + 2 * n + 1) "row_by_sizes" ["one", "other"] (sp_row_by_sizes spr)) (c_row_off : Cal P wo K mg base 45 "row_off" ["part", "name"] (sp_row_off 22)) (c_greatest : Cal P wo K mg base 22 "greatest" ["part"] (sp_greatest 22)) (c_grown : Cal P wo K mg base 23 "grown" ["part", "weight"] (sp_grown 22))
    (hr : RoomG (45 + 2 * n + 1) (A.deeper (envOfC "row_apart" (defScope s_row_apart) s.heap.objs.size f cdv))) : PDSs (cxOf CX0 P wo K mg base N_row_apart "row_apart" (defScope s_row_apart) f cdv A outer s H E).nox (defBody s_row_apart) (t_row_apart spr) :=
    (pdss_cons (pds_if (L2.PW.pt (pw_dand (pd_tru (pd_isi T.b_isinstance (pd_var 0) T.b_str (by decide +kernel))) (pw_and1 (pd_tru (pd_isi T.b_isinstance (pd_var 1) T.b_str (by decide +kernel)))))) (pdss_one (pds_ret (pd_lst (pda_cons pd_int pda_nil)))) pdss_nil)
    (pdss_cons (pds_if (pd_tru (pd_isi T.b_isinstance (pd_var 0) T.b_str (by decide +kernel))) (pdss_one (pds_ret (pd_callC (hkj := by omega) c_row_off hr (pda_cons (pd_var 1) (pda_cons (pd_var 0) pda_nil))))) pdss_nil)
    (pdss_cons (pds_if (pd_tru (pd_isi T.b_isinstance (pd_var 1) T.b_str (by decide +kernel))) (pdss_one (pds_ret (pd_callC (hkj := by omega) c_row_off hr (pda_cons (pd_var 0) (pda_cons (pd_var 1) pda_nil))))) pdss_nil)
    (pdss_cons (pds_if (pd_tcmp (dop_ne hr.units) (pd_ix (pd_var 0) pd_int) (pd_ix (pd_var 1) pd_int) (nomark _)) (pdss_cons (pds_set 2 sc_row_apart.nd (pd_callC (hkj := by omega) cr hr (pda_cons (pd_ix (pd_var 0) pd_int) (pda_cons (pd_ix (pd_var 1) pd_int) pda_nil))))
    (pdss_one (pds_ret (pd_op dop_add (pd_lst (pda_cons (pd_op dop_add (pd_op dop_add (pd_op dop_div (pd_callB (cb_max2 rfl) T.b_max (by decide +kernel) (pda_cons (pd_ix (pd_var 0) pd_int) (pda_cons (pd_ix (pd_var 1) pd_int) pda_nil))) (pd_gint T.g_TWO)) pd_int) (pd_callB (cb_sum1 rfl) T.b_sum (by decide +kernel) (pda_cons (pd_var 2) pda_nil))) pda_nil)) (pd_var 2))))) pdss_nil)
    (pdss_cons (pds_set 3 sc_row_apart.nd (pd_op dop_add (pd_callB (cb_max2 rfl) T.b_max (by decide +kernel) (pda_cons (pd_callC (hkj := by omega) c_greatest hr (pda_cons (pd_var 0) pda_nil)) (pda_cons (pd_callC (hkj := by omega) c_greatest hr (pda_cons (pd_var 1) pda_nil)) pda_nil))) pd_int))
    (pdss_cons (pds_if (pd_tcmp (dop_ne hr.units) (pd_ix (pd_var 0) pd_int) (pd_ix (pd_var 1) pd_int) (nomark _)) (pdss_cons (pds_set 2 sc_row_apart.nd (pd_callC (hkj := by omega) cr hr (pda_cons (pd_callC (hkj := by omega) c_grown hr (pda_cons (pd_ix (pd_var 0) pd_int) (pda_cons (pd_var 3) pda_nil))) (pda_cons (pd_callC (hkj := by omega) c_grown hr (pda_cons (pd_ix (pd_var 1) pd_int) (pda_cons (pd_var 3) pda_nil))) pda_nil))))
    (pdss_one (pds_ret (pd_op dop_add (pd_lst (pda_cons (pd_var 3) (pda_cons (pd_op dop_add (pd_var 3) (pd_callB (cb_sum1 rfl) T.b_sum (by decide +kernel) (pda_cons (pd_var 2) pda_nil))) pda_nil))) (pd_var 2))))) pdss_nil)
    (pdss_one (pds_ret (pd_ife (pd_tcmp dop_lt (pd_ix (pd_var 0) pd_int) (pd_ix (pd_var 1) pd_int) (nomark _)) (pd_callC (hkj := by omega) ch_row_by_sizes hr (pda_cons (pd_var 0) (pda_cons (pd_var 1) pda_nil))) (pd_callC (hkj := by omega) ch_row_by_sizes hr (pda_cons (pd_var 1) (pda_cons (pd_var 0) pda_nil))))))))))))
theorem ok_row_apart {P : Program} {wo : World} {K : PySem.W.Frag} {mg : Str → Option Value} {base : Heap} {f : Addr} {fd : FuncData} (T : Fx K mg) (F : FnP K "row_apart" s_row_apart f fd) (gm : mg "row_apart" = some (.ref f)) {f_row_by_sizes : Addr} {fd_row_by_sizes : FuncData} (F_row_by_sizes : FnP K "row_by_sizes" s_row_by_sizes f_row_by_sizes fd_row_by_sizes) (gm_row_by_sizes : mg "row_by_sizes" = some (.ref f_row_by_sizes)) (c_row_off : Cal P wo K mg base 45 "row_off" ["part", "name"] (sp_row_off 22)) (c_greatest : Cal P wo K mg base 22 "greatest" ["part"] (sp_greatest 22)) (c_grown : Cal P wo K mg base 23 "grown" ["part", "weight"] (sp_grown 22)) : ∀ n : Nat, FnG P wo K mg base CX0 (45 + 2 * n) f fd ["one", "other"] (spD K (sp_row_apart n))
  | 0 => ⟨fun vs H Q E ⟨_, _, ds, _, _, _, h, _⟩ => (no_row_apart _ _ _ h).elim, fun A outer s H args us vs Q E _ _ _ _ ⟨_, _, ds, _, _, _, h, _⟩ => (no_row_apart _ _ _ h).elim⟩
  | n + 1 => fnD (k := 45 + 2 * n + 1) false F sc_row_apart (len_row_apart (n + 1)) (fun cdv A outer s H E hr => d_row_apart T ⟨f, fd, gm, F.kp, ok_row_apart T F gm F_row_by_sizes gm_row_by_sizes c_row_off c_greatest c_grown n, F.bindsN (fun _ _ _ _ _ _ us hl => match us, hl with | [_, _], _ => rfl)⟩ ⟨f_row_by_sizes, fd_row_by_sizes, gm_row_by_sizes, F_row_by_sizes.kp, ok_row_by_sizes T F_row_by_sizes ⟨f, fd, gm, F.kp, ok_row_apart T F gm F_row_by_sizes gm_row_by_sizes c_row_off c_greatest c_grown n, F.bindsN (fun _ _ _ _ _ _ us hl => match us, hl with | [_, _], _ => rfl)⟩ c_grown c_greatest, F_row_by_sizes.bindsN (fun _ _ _ _ _ _ us hl => match us, hl with | [_, _], _ => rfl)⟩ c_row_off c_greatest c_grown hr) (p_row_apart n)
theorem d_parting_word {P : Program} {wo : World} {K : PySem.W.Frag} {mg : Str → Option Value} {base : Heap} {f : Addr} {cdv : Value} {A : Around} {outer : List PySem.Env} {s : Shared} {H : Hp} {E : XK} (T : Fx K mg) (c_part_of : Cal P wo K mg base 2 "part_of" ["net", "standing"] sp_part_of) (c_row_apart : Cal P wo K mg base 89 "row_apart" ["one", "other"] (sp_row_apart 22))
    (hr : RoomG 89 (A.deeper (envOfC "parting_word" (defScope s_parting_word) s.heap.objs.size f cdv))) : PDSs (cxOf CX0 P wo K mg base N_parting_word "parting_word" (defScope s_parting_word) f cdv A outer s H E).nox (defBody s_parting_word) t_parting_word :=
    (pdss_cons (pds_par 4 5 rfl sc_parting_word.nd (pda_cons (pd_callC c_part_of hr (pda_cons (pd_var 0) (pda_cons (pd_var 1) pda_nil))) (pda_cons (pd_callC c_part_of hr (pda_cons (pd_var 2) (pda_cons (pd_var 3) pda_nil))) pda_nil)))
    (pdss_one (pds_ret (pd_ife (pd_tcmp (dop_eq hr.units) (pd_var 4) (pd_var 5) (nomark _)) pd_non (pd_callTy cb_tuple T.b_tuple (by decide +kernel) (pda_cons (pd_callC c_row_apart hr (pda_cons (pd_var 4) (pda_cons (pd_var 5) pda_nil))) pda_nil))))))
theorem ok_parting_word {P : Program} {wo : World} {K : PySem.W.Frag} {mg : Str → Option Value} {base : Heap} {f : Addr} {fd : FuncData} (T : Fx K mg) (F : FnP K "parting_word" s_parting_word f fd) (c_part_of : Cal P wo K mg base 2 "part_of" ["net", "standing"] sp_part_of) (c_row_apart : Cal P wo K mg base 89 "row_apart" ["one", "other"] (sp_row_apart 22)) : FnG P wo K mg base CX0 90 f fd ["one", "its", "other", "others"] (spD K sp_parting_word) :=
  fnD false F sc_parting_word len_parting_word (fun cdv A outer s H E hr => d_parting_word T c_part_of c_row_apart hr) p_parting_word
theorem d_is_number {P : Program} {wo : World} {K : PySem.W.Frag} {mg : Str → Option Value} {base : Heap} {f : Addr} {cdv : Value} {A : Around} {outer : List PySem.Env} {s : Shared} {H : Hp} {E : XK} (T : Fx K mg)
    (hr : RoomG 0 (A.deeper (envOfC "is_number" (defScope s_is_number) s.heap.objs.size f cdv))) : PDSs (cxOf CX0 P wo K mg base N_is_number "is_number" (defScope s_is_number) f cdv A outer s H E).nox (defBody s_is_number) t_is_number :=
    (pdss_one (pds_ret (pd_andv (pd_isi T.b_isinstance (pd_var 0) T.b_int (by decide +kernel)) (pe_one (pd_notv (pd_isi T.b_isinstance (pd_var 0) T.b_bool (by decide +kernel)))))))
theorem ok_is_number {P : Program} {wo : World} {K : PySem.W.Frag} {mg : Str → Option Value} {base : Heap} {f : Addr} {fd : FuncData} (T : Fx K mg) (F : FnP K "is_number" s_is_number f fd) : FnG P wo K mg base CX0 1 f fd ["thing"] (spD K sp_is_number) :=
  fnD false F sc_is_number len_is_number (fun cdv A outer s H E hr => d_is_number T  hr) p_is_number
theorem d_lighter {P : Program} {wo : World} {K : PySem.W.Frag} {mg : Str → Option Value} {base : Heap} {f : Addr} {cdv : Value} {A : Around} {outer : List PySem.Env} {s : Shared} {H : Hp} {E : XK} (T : Fx K mg)
    (hr : RoomG 0 (A.deeper (envOfC "lighter" (defScope s_lighter) s.heap.objs.size f cdv))) : PDSs (cxOf CX0 P wo K mg base N_lighter "lighter" (defScope s_lighter) f cdv A outer s H E).nox (defBody s_lighter) t_lighter :=
    (pdss_one (pds_ret (pd_ife (pd_tcmp dop_lt (pd_var 0) pd_int (nomark _)) (pd_gstr T.g_LEFT) (pd_gstr T.g_RIGHT))))
theorem ok_lighter {P : Program} {wo : World} {K : PySem.W.Frag} {mg : Str → Option Value} {base : Heap} {f : Addr} {fd : FuncData} (T : Fx K mg) (F : FnP K "lighter" s_lighter f fd) : FnG P wo K mg base CX0 1 f fd ["standing"] (spD K sp_lighter) :=
  fnD false F sc_lighter len_lighter (fun cdv A outer s H E hr => d_lighter T  hr) p_lighter
theorem d_laid_on {P : Program} {wo : World} {K : PySem.W.Frag} {mg : Str → Option Value} {base : Heap} {f : Addr} {cdv : Value} {A : Around} {outer : List PySem.Env} {s : Shared} {H : Hp} {E : XK} (T : Fx K mg)
    (hr : RoomG 0 (A.deeper (envOfC "laid_on" (defScope s_laid_on) s.heap.objs.size f cdv))) : PDSs (cxOf CX0 P wo K mg base N_laid_on "laid_on" (defScope s_laid_on) f cdv A outer s H E).nox (defBody s_laid_on) t_laid_on :=
    (pdss_one (pds_ret (pd_ife (pd_tcmp (dop_eq hr.units) (pd_var 1) (pd_gstr T.g_LEFT) (nomark _)) (pd_op dop_add (pd_var 0) (pd_op dop_mul pd_int (pd_var 2))) (pd_op dop_sub (pd_var 0) (pd_op dop_mul pd_int (pd_var 2))))))
theorem ok_laid_on {P : Program} {wo : World} {K : PySem.W.Frag} {mg : Str → Option Value} {base : Heap} {f : Addr} {fd : FuncData} (T : Fx K mg) (F : FnP K "laid_on" s_laid_on f fd) : FnG P wo K mg base CX0 1 f fd ["standing", "side", "weight"] (spD K sp_laid_on) :=
  fnD false F sc_laid_on len_laid_on (fun cdv A outer s H E hr => d_laid_on T  hr) p_laid_on
theorem d_fall {P : Program} {wo : World} {K : PySem.W.Frag} {mg : Str → Option Value} {base : Heap} {f : Addr} {cdv : Value} {A : Around} {outer : List PySem.Env} {s : Shared} {H : Hp} {E : XK} (T : Fx K mg) (c_lighter : Cal P wo K mg base 1 "lighter" ["standing"] sp_lighter) (c_laid_on : Cal P wo K mg base 1 "laid_on" ["standing", "side", "weight"] sp_laid_on)
    (hr : RoomG 1 (A.deeper (envOfC "fall" (defScope s_fall) s.heap.objs.size f cdv))) : PDSs (cxOf CX0 P wo K mg base N_fall "fall" (defScope s_fall) f cdv A outer s H E).nox (defBody s_fall) t_fall :=
    (pdss_cons (pds_set 2 sc_fall.nd (pd_callC c_lighter hr (pda_cons (pd_var 0) pda_nil)))
    (pdss_one (pds_ret (pd_tup (pda_cons (pd_var 2) (pda_cons (pd_callC c_laid_on hr (pda_cons (pd_var 0) (pda_cons (pd_var 2) (pda_cons (pd_var 1) pda_nil)))) pda_nil))))))
theorem ok_fall {P : Program} {wo : World} {K : PySem.W.Frag} {mg : Str → Option Value} {base : Heap} {f : Addr} {fd : FuncData} (T : Fx K mg) (F : FnP K "fall" s_fall f fd) (c_lighter : Cal P wo K mg base 1 "lighter" ["standing"] sp_lighter) (c_laid_on : Cal P wo K mg base 1 "laid_on" ["standing", "side", "weight"] sp_laid_on) : FnG P wo K mg base CX0 2 f fd ["standing", "weight"] (spD K sp_fall) :=
  fnD false F sc_fall len_fall (fun cdv A outer s H E hr => d_fall T c_lighter c_laid_on hr) p_fall
theorem d_lead_of {P : Program} {wo : World} {K : PySem.W.Frag} {mg : Str → Option Value} {base : Heap} {f : Addr} {cdv : Value} {A : Around} {outer : List PySem.Env} {s : Shared} {H : Hp} {E : XK} (T : Fx K mg)
    (hr : RoomG 0 (A.deeper (envOfC "lead_of" (defScope s_lead_of) s.heap.objs.size f cdv))) : PDSs (cxOf CX0 P wo K mg base N_lead_of "lead_of" (defScope s_lead_of) f cdv A outer s H E).nox (defBody s_lead_of) t_lead_of :=
    (pdss_cons (pds_asg (pd_var 1) (pdg_tup rfl (pdgs_cons (pdg_name 2 sc_lead_of.nd) (pdgs_cons (pdg_name 3 sc_lead_of.nd) pdgs_nil))))
    (pdss_one (pds_ret (pd_ix (pd_ix (pd_var 0) (pd_var 2)) (pd_tidx T.g_SIDES (pd_var 3))))))
theorem ok_lead_of {P : Program} {wo : World} {K : PySem.W.Frag} {mg : Str → Option Value} {base : Heap} {f : Addr} {fd : FuncData} (T : Fx K mg) (F : FnP K "lead_of" s_lead_of f fd) : FnG P wo K mg base CX0 1 f fd ["net", "pan"] (spD K sp_lead_of) :=
  fnD false F sc_lead_of len_lead_of (fun cdv A outer s H E hr => d_lead_of T  hr) p_lead_of
theorem d_way_of {P : Program} {wo : World} {K : PySem.W.Frag} {mg : Str → Option Value} {base : Heap} {f : Addr} {cdv : Value} {A : Around} {outer : List PySem.Env} {s : Shared} {H : Hp} {E : XK} (T : Fx K mg) (c_is_number : Cal P wo K mg base 1 "is_number" ["thing"] sp_is_number) (c_fall : Cal P wo K mg base 2 "fall" ["standing", "weight"] sp_fall) (c_lead_of : Cal P wo K mg base 1 "lead_of" ["net", "pan"] sp_lead_of)
    (hr : RoomG 2 (A.deeper (envOfC "way_of" (defScope s_way_of) s.heap.objs.size f cdv))) : PDSs (cxOf CX0 P wo K mg base N_way_of "way_of" (defScope s_way_of) f cdv A outer s H E).nox (defBody s_way_of) t_way_of :=
    (pdss_cons (pds_par3 3 4 5 rfl sc_way_of.nd (pda_cons (pd_new pda_nil) (pda_cons pd_int (pda_cons (pd_callTy cb_listNew T.b_list (by decide +kernel) (pda_cons (pd_var 1) pda_nil)) pda_nil))))
    (pdss_cons (pds_while PassesOwn.never (pd_tru (pd_callC c_is_number hr (pda_cons (pd_var 4) pda_nil))) (pdss_cons (pds_asg (pd_callC c_fall hr (pda_cons (pd_ix (pd_var 5) (pd_var 4)) (pda_cons (pd_var 2) pda_nil))) (pdg_tup rfl (pdgs_cons (pdg_name 6 sc_way_of.nd) (pdgs_cons (pdg_sub (pd_var 5) (pd_var 4)) pdgs_nil))))
    (pdss_cons (pds_expr (pd_bm PySem.F.slot_list_append PySem.F.type_list_append md_append (pd_var 3) (pda_cons (pd_tup (pda_cons (pd_var 4) (pda_cons (pd_var 6) pda_nil))) pda_nil)))
    (pdss_one (pds_set 4 sc_way_of.nd (pd_callC c_lead_of hr (pda_cons (pd_var 0) (pda_cons (pd_ix (pd_var 3) (pd_un dun_neg pd_int)) pda_nil))))))))
    (pdss_one (pds_ret (pd_tup (pda_cons (pd_var 3) (pda_cons (pd_var 4) (pda_cons (pd_callTy cb_tuple T.b_tuple (by decide +kernel) (pda_cons (pd_var 5) pda_nil)) pda_nil))))))))
theorem ok_way_of {P : Program} {wo : World} {K : PySem.W.Frag} {mg : Str → Option Value} {base : Heap} {f : Addr} {fd : FuncData} (T : Fx K mg) (F : FnP K "way_of" s_way_of f fd) (c_is_number : Cal P wo K mg base 1 "is_number" ["thing"] sp_is_number) (c_fall : Cal P wo K mg base 2 "fall" ["standing", "weight"] sp_fall) (c_lead_of : Cal P wo K mg base 1 "lead_of" ["net", "pan"] sp_lead_of) : FnG P wo K mg base CX0 3 f fd ["net", "standing", "weight"] (spD K sp_way_of) :=
  fnD true F sc_way_of len_way_of (fun cdv A outer s H E hr => d_way_of T c_is_number c_fall c_lead_of hr) p_way_of
theorem d_falls_of {P : Program} {wo : World} {K : PySem.W.Frag} {mg : Str → Option Value} {base : Heap} {f : Addr} {cdv : Value} {A : Around} {outer : List PySem.Env} {s : Shared} {H : Hp} {E : XK} (T : Fx K mg) (c_way_of : Cal P wo K mg base 3 "way_of" ["net", "standing", "weight"] sp_way_of)
    (hr : RoomG 3 (A.deeper (envOfC "falls_of" (defScope s_falls_of) s.heap.objs.size f cdv))) : PDSs (cxOf CX0 P wo K mg base N_falls_of "falls_of" (defScope s_falls_of) f cdv A outer s H E).nox (defBody s_falls_of) t_falls_of :=
    (pdss_cons (pds_set 3 sc_falls_of.nd (pd_new pda_nil))
    (pdss_cons (pds_for PassesOwn.never rfl (pdi_any (pd_var 2)) (pdg_name 4 sc_falls_of.nd) (pdss_cons (pds_asg (pd_callC c_way_of hr (pda_cons (pd_var 0) (pda_cons (pd_var 1) (pda_cons (pd_var 4) pda_nil)))) (pdg_tup rfl (pdgs_cons (pdg_name 5 sc_falls_of.nd) (pdgs_cons (pdg_name 6 sc_falls_of.nd) (pdgs_cons (pdg_name 1 sc_falls_of.nd) pdgs_nil)))))
    (pdss_one (pds_expr (pd_bm PySem.F.slot_list_append PySem.F.type_list_append md_append (pd_var 3) (pda_cons (pd_var 6) pda_nil))))))
    (pdss_one (pds_ret (pd_tup (pda_cons (pd_var 3) (pda_cons (pd_callTy cb_tuple T.b_tuple (by decide +kernel) (pda_cons (pd_var 1) pda_nil)) pda_nil)))))))
theorem ok_falls_of {P : Program} {wo : World} {K : PySem.W.Frag} {mg : Str → Option Value} {base : Heap} {f : Addr} {fd : FuncData} (T : Fx K mg) (F : FnP K "falls_of" s_falls_of f fd) (c_way_of : Cal P wo K mg base 3 "way_of" ["net", "standing", "weight"] sp_way_of) : FnG P wo K mg base CX0 4 f fd ["net", "standing", "word"] (spD K sp_falls_of) :=
  fnD true F sc_falls_of len_falls_of (fun cdv A outer s H E hr => d_falls_of T c_way_of hr) p_falls_of
theorem d__law_tape {P : Program} {wo : World} {K : PySem.W.Frag} {mg : Str → Option Value} {base : Heap} {f : Addr} {cdv : Value} {A : Around} {outer : List PySem.Env} {s : Shared} {H : Hp} {E : XK} (T : Fx K mg)
    (hr : RoomG 0 (A.deeper (envOfC "_law_tape" (defScope s__law_tape) s.heap.objs.size f cdv))) : PDSs (cxOf CX0 P wo K mg base N__law_tape "_law_tape" (defScope s__law_tape) f cdv A outer s H E).nox (defBody s__law_tape) t__law_tape :=
    (pdss_cons (pds_set 2 sc__law_tape.nd (pd_ife (pd_tcmp dop_lt (pd_var 1) (pd_callB cb_len T.b_len (by decide +kernel) (pda_cons (pd_var 0) pda_nil)) (nomark _)) (pd_ix (pd_var 0) (pd_var 1)) pd_int))
    (pdss_one (pds_ret (pd_new (pda_cons (pd_op dop_mul (pd_callB cb_abs T.b_abs (by decide +kernel) (pda_cons (pd_var 2) pda_nil)) (pd_callTy cb_int T.b_int (by decide +kernel) (pda_cons (pd_cmp dop_ge (pd_callB cb_abs T.b_abs (by decide +kernel) (pda_cons (pd_var 2) pda_nil)) (pd_op dop_pow pd_int pd_int) (nomark _)) pda_nil))) (pda_cons (pd_op dop_add (pd_op dop_add (pd_op dop_mod (pd_var 2) pd_int) (pd_op dop_mul pd_int (pd_var 1))) pd_int) (pda_cons pd_int pda_nil)))))))
theorem ok__law_tape {P : Program} {wo : World} {K : PySem.W.Frag} {mg : Str → Option Value} {base : Heap} {f : Addr} {fd : FuncData} (T : Fx K mg) (F : FnP K "_law_tape" s__law_tape f fd) : FnG P wo K mg base CX0 1 f fd ["_law_script", "_law_k"] (spD K sp__law_tape) :=
  fnD false F sc__law_tape len__law_tape (fun cdv A outer s H E hr => d__law_tape T  hr) p__law_tape
theorem d__law_draw {P : Program} {wo : World} {K : PySem.W.Frag} {mg : Str → Option Value} {base : Heap} {f : Addr} {cdv : Value} {A : Around} {outer : List PySem.Env} {s : Shared} {H : Hp} {E : XK} (T : Fx K mg)
    (hr : RoomG 0 (A.deeper (envOfC "_law_draw" (defScope s__law_draw) s.heap.objs.size f cdv))) : PDSs (cxOf CX0 P wo K mg base N__law_draw "_law_draw" (defScope s__law_draw) f cdv A outer s H E).nox (defBody s__law_draw) t__law_draw :=
    (pdss_cons (pds_if (pd_tcmp dop_gt (pd_ix (pd_var 0) pd_int) pd_int (nomark _)) (pdss_cons (pds_set 2 sc__law_draw.nd (pd_op dop_mod (pd_ix (pd_var 0) pd_int) (pd_var 1)))
    (pdss_cons (pds_asg (pd_op dop_div (pd_ix (pd_var 0) pd_int) (pd_var 1)) (pdg_sub (pd_var 0) pd_int))
    (pdss_one (pds_ret (pd_var 2))))) pdss_nil)
    (pdss_cons (pds_asg (pd_op dop_add (pd_ix (pd_var 0) pd_int) pd_int) (pdg_sub (pd_var 0) pd_int))
    (pdss_cons (pds_set 3 sc__law_draw.nd (pd_op dop_mod (pd_op dop_pow (pd_op dop_add (pd_ix (pd_var 0) pd_int) (pd_op dop_mul pd_int (pd_ix (pd_var 0) pd_int))) pd_int) pd_int))
    (pdss_cons (pds_set 4 sc__law_draw.nd (pd_op dop_mod (pd_op dop_mul (pd_op dop_add (pd_var 3) (pd_ix (pd_var 0) pd_int)) (pd_op dop_add (pd_op dop_add (pd_op dop_mod (pd_var 3) pd_int) pd_int) (pd_ix (pd_var 0) pd_int))) pd_int))
    (pdss_cons (pds_set 5 sc__law_draw.nd (pd_op dop_mod (pd_op dop_add (pd_op dop_add (pd_op dop_div (pd_ix (pd_var 0) pd_int) pd_int) (pd_op dop_mul (pd_var 4) pd_int)) (pd_ix (pd_var 0) pd_int)) pd_int))
    (pdss_one (pds_ret (pd_op dop_mod (pd_op dop_div (pd_op dop_mod (pd_op dop_add (pd_op dop_add (pd_op dop_mul (pd_var 4) pd_int) (pd_op dop_mul (pd_var 5) pd_int)) (pd_var 3)) pd_int) pd_int) (pd_var 1)))))))))
theorem ok__law_draw {P : Program} {wo : World} {K : PySem.W.Frag} {mg : Str → Option Value} {base : Heap} {f : Addr} {fd : FuncData} (T : Fx K mg) (F : FnP K "_law_draw" s__law_draw f fd) : FnG P wo K mg base CX0 1 f fd ["_law_tape_here", "_law_many"] (spD K sp__law_draw) :=
  fnD false F sc__law_draw len__law_draw (fun cdv A outer s H E hr => d__law_draw T  hr) p__law_draw
theorem d__law_folded {P : Program} {wo : World} {K : PySem.W.Frag} {mg : Str → Option Value} {base : Heap} {f : Addr} {cdv : Value} {A : Around} {outer : List PySem.Env} {s : Shared} {H : Hp} {E : XK} (T : Fx K mg)
    (hr : RoomG 0 (A.deeper (envOfC "_law_folded" (defScope s__law_folded) s.heap.objs.size f cdv))) : PDSs (cxOf CX0 P wo K mg base N__law_folded "_law_folded" (defScope s__law_folded) f cdv A outer s H E).nox (defBody s__law_folded) t__law_folded :=
    (pdss_cons (pds_set 2 sc__law_folded.nd (pd_callTy cb_listNew T.b_list (by decide +kernel) (pda_cons (pd_cut sl_cut (pd_var 0) pdo_none (pdo_some (pd_var 1))) pda_nil)))
    (pdss_cons (pds_for PassesOwn.never rfl (pdi_enum T.b_enumerate (pd_cut sl_cut (pd_var 0) (pdo_some (pd_var 1)) (pdo_some pd_int))) (pdg_tup rfl (pdgs_cons (pdg_name 3 sc__law_folded.nd) (pdgs_cons (pdg_name 4 sc__law_folded.nd) pdgs_nil))) (pdss_one (pds_asg (pd_op dop_add (pd_ix (pd_var 2) (pd_op dop_mod (pd_var 3) (pd_var 1))) (pd_op dop_mul (pd_var 4) (pd_op dop_add (pd_var 3) pd_int))) (pdg_sub (pd_var 2) (pd_op dop_mod (pd_var 3) (pd_var 1))))))
    (pdss_one (pds_ret (pd_var 2)))))
theorem ok__law_folded {P : Program} {wo : World} {K : PySem.W.Frag} {mg : Str → Option Value} {base : Heap} {f : Addr} {fd : FuncData} (T : Fx K mg) (F : FnP K "_law_folded" s__law_folded f fd) : FnG P wo K mg base CX0 1 f fd ["_law_script", "_law_many"] (spD K sp__law_folded) :=
  fnD true F sc__law_folded len__law_folded (fun cdv A outer s H E hr => d__law_folded T  hr) p__law_folded
theorem d__law_names {P : Program} {wo : World} {K : PySem.W.Frag} {mg : Str → Option Value} {base : Heap} {f : Addr} {cdv : Value} {A : Around} {outer : List PySem.Env} {s : Shared} {H : Hp} {E : XK} (T : Fx K mg) (c__law_draw : Cal P wo K mg base 1 "_law_draw" ["_law_tape_here", "_law_many"] sp__law_draw)
    (hr : RoomG 1 (A.deeper (envOfC "_law_names" (defScope s__law_names) s.heap.objs.size f cdv))) : PDSs (cxOf CX0 P wo K mg base N__law_names "_law_names" (defScope s__law_names) f cdv A outer s H E).nox (defBody s__law_names) t__law_names :=
    (pdss_cons (pds_asg (pd_tup (pda_cons pd_str (pda_cons (pd_callC c__law_draw hr (pda_cons (pd_var 0) (pda_cons pd_int pda_nil))) pda_nil))) (pdg_tup rfl (pdgs_cons (pdg_name 2 sc__law_names.nd) (pdgs_cons (pdg_name 3 sc__law_names.nd) pdgs_nil))))
    (pdss_cons (pds_set 4 sc__law_names.nd (pd_join pd_str (pd_lc [("_law_k", 5)] rfl sc__law_names.nd (pdi_range1 T.b_range (pd_callC c__law_draw hr (pda_cons (pd_var 0) (pda_cons pd_int pda_nil)))) (blkOk_by (N := N__law_names) (sc := defScope s__law_names) (by decide +kernel)) (fun _ _ _ _ _ => (pdgo_name 5 sc__law_names.nd)) (fun _ _ _ _ _ => pdts_nil) (fun _ _ _ _ _ => (pd_ix (pd_var 2) (pd_callC c__law_draw hr (pda_cons (pd_var 0) (pda_cons pd_int pda_nil))))))))
    (pdss_cons (pds_par3 6 7 8 rfl sc__law_names.nd (pda_cons (pd_callC c__law_draw hr (pda_cons (pd_var 0) (pda_cons (pd_op dop_add (pd_callB cb_len T.b_len (by decide +kernel) (pda_cons (pd_var 4) pda_nil)) pd_int) pda_nil))) (pda_cons (pd_ix (pd_lst (pda_cons pd_int (pda_cons pd_int (pda_cons pd_int pda_nil)))) (pd_callC c__law_draw hr (pda_cons (pd_var 0) (pda_cons pd_int pda_nil)))) (pda_cons (pd_new pda_nil) pda_nil))))
    (pdss_cons (pds_par 9 10 rfl sc__law_names.nd (pda_cons (pd_cut sl_cut (pd_var 4) pdo_none (pdo_some (pd_var 6))) (pda_cons (pd_cut sl_cut (pd_var 4) (pdo_some (pd_var 6)) pdo_none) pda_nil)))
    (pdss_cons (pds_for PassesOwn.never rfl (pdi_range1 T.b_range (pd_var 1)) (pdg_name 5 sc__law_names.nd) (pdss_cons (pds_set 11 sc__law_names.nd (pd_op dop_mul (pd_op dop_mod (pd_op dop_add (pd_op dop_add (pd_var 3) (pd_var 6)) (pd_callB cb_len T.b_len (by decide +kernel) (pda_cons (pd_var 4) pda_nil))) pd_int) (pd_callTy cb_int T.b_int (by decide +kernel) (pda_cons (pd_cmp (dop_ne hr.units) (pd_var 10) pd_str (nomark _)) pda_nil))))
    (pdss_cons (pds_set 12 sc__law_names.nd (pd_ix (pd_var 2) (pd_op dop_mod (pd_op dop_add (pd_var 3) (pd_op dop_mul (pd_var 7) (pd_ix (pd_lst (pda_cons (pd_var 5) (pda_cons (pd_op dop_div (pd_var 5) pd_int) (pda_cons (pd_var 5) pda_nil)))) (pd_var 11)))) pd_int)))
    (pdss_one (pds_expr (pd_bm PySem.F.slot_list_append PySem.F.type_list_append md_append (pd_var 8) (pda_cons (pd_op dop_add (pd_op dop_add (pd_var 9) (pd_var 12)) (pd_ix (pd_lst (pda_cons (pd_var 10) (pda_cons (pd_op dop_mul (pd_var 10) (pd_op dop_mod (pd_var 5) pd_int)) (pda_cons (pd_cut sl_cut (pd_var 10) pdo_none (pdo_some (pd_op dop_mod (pd_var 5) (pd_op dop_add (pd_callB cb_len T.b_len (by decide +kernel) (pda_cons (pd_var 10) pda_nil)) pd_int)))) pda_nil)))) (pd_var 11))) pda_nil)))))))
    (pdss_one (pds_ret (pd_var 8))))))))
theorem ok__law_names {P : Program} {wo : World} {K : PySem.W.Frag} {mg : Str → Option Value} {base : Heap} {f : Addr} {fd : FuncData} (T : Fx K mg) (F : FnP K "_law_names" s__law_names f fd) (c__law_draw : Cal P wo K mg base 1 "_law_draw" ["_law_tape_here", "_law_many"] sp__law_draw) : FnG P wo K mg base CX0 2 f fd ["_law_tape_here", "_law_many"] (spD K sp__law_names) :=
  fnD true F sc__law_names len__law_names (fun cdv A outer s H E hr => d__law_names T c__law_draw hr) p__law_names
theorem d__law_standing {P : Program} {wo : World} {K : PySem.W.Frag} {mg : Str → Option Value} {base : Heap} {f : Addr} {cdv : Value} {A : Around} {outer : List PySem.Env} {s : Shared} {H : Hp} {E : XK} (T : Fx K mg) (c__law_draw : Cal P wo K mg base 1 "_law_draw" ["_law_tape_here", "_law_many"] sp__law_draw)
    (hr : RoomG 1 (A.deeper (envOfC "_law_standing" (defScope s__law_standing) s.heap.objs.size f cdv))) : PDSs (cxOf CX0 P wo K mg base N__law_standing "_law_standing" (defScope s__law_standing) f cdv A outer s H E).nox (defBody s__law_standing) t__law_standing :=
    (pdss_one (pds_ret (pd_op dop_mul (pd_op dop_add (pd_op dop_mul pd_int (pd_callC c__law_draw hr (pda_cons (pd_var 0) (pda_cons (pd_var 1) pda_nil)))) pd_int) (pd_ix (pd_lst (pda_cons pd_int (pda_cons (pd_un dun_neg pd_int) pda_nil))) (pd_callC c__law_draw hr (pda_cons (pd_var 0) (pda_cons pd_int pda_nil)))))))
theorem ok__law_standing {P : Program} {wo : World} {K : PySem.W.Frag} {mg : Str → Option Value} {base : Heap} {f : Addr} {fd : FuncData} (T : Fx K mg) (F : FnP K "_law_standing" s__law_standing f fd) (c__law_draw : Cal P wo K mg base 1 "_law_draw" ["_law_tape_here", "_law_many"] sp__law_draw) : FnG P wo K mg base CX0 2 f fd ["_law_tape_here", "_law_most"] (spD K sp__law_standing) :=
  fnD false F sc__law_standing len__law_standing (fun cdv A outer s H E hr => d__law_standing T c__law_draw hr) p__law_standing
theorem d__law_levels {P : Program} {wo : World} {K : PySem.W.Frag} {mg : Str → Option Value} {base : Heap} {f : Addr} {cdv : Value} {A : Around} {outer : List PySem.Env} {s : Shared} {H : Hp} {E : XK} (T : Fx K mg)
    (hr : RoomG 0 (A.deeper (envOfC "_law_levels" (defScope s__law_levels) s.heap.objs.size f cdv))) : PDSs (cxOf CX0 P wo K mg base N__law_levels "_law_levels" (defScope s__law_levels) f cdv A outer s H E).nox (defBody s__law_levels) t__law_levels :=
    (pdss_cons (pds_set 1 sc__law_levels.nd (pd_op dop_mulNew (pd_lst (pda_cons pd_int pda_nil)) (pd_callB cb_len T.b_len (by decide +kernel) (pda_cons (pd_var 0) pda_nil))))
    (pdss_cons (pds_for PassesOwn.never rfl (pdi_enum T.b_enumerate (pd_var 0)) (pdg_tup rfl (pdgs_cons (pdg_name 2 sc__law_levels.nd) (pdgs_cons (pdg_name 3 sc__law_levels.nd) pdgs_nil))) (pdss_one (pds_for PassesOwn.never rfl (pdi_any (pd_lc [("_law_one", 5)] rfl sc__law_levels.nd (pdi_any (pd_var 3)) (blkOk_by (N := N__law_levels) (sc := defScope s__law_levels) (by decide +kernel)) (fun _ _ _ _ _ => (pdgo_name 5 sc__law_levels.nd)) (fun _ _ _ _ _ => (pdts_one (pd_tnot (pd_tru (pd_isi T.b_isinstance (pd_var 5) T.b_str (by decide +kernel)))))) (fun _ _ _ _ _ => (pd_var 5)))) (pdg_name 4 sc__law_levels.nd) (pdss_one (pds_asg (pd_callB (cb_max2 rfl) T.b_max (by decide +kernel) (pda_cons (pd_ix (pd_var 1) (pd_var 4)) (pda_cons (pd_op dop_add (pd_ix (pd_var 1) (pd_var 2)) pd_int) pda_nil))) (pdg_sub (pd_var 1) (pd_var 4)))))))
    (pdss_one (pds_ret (pd_var 1)))))
theorem ok__law_levels {P : Program} {wo : World} {K : PySem.W.Frag} {mg : Str → Option Value} {base : Heap} {f : Addr} {fd : FuncData} (T : Fx K mg) (F : FnP K "_law_levels" s__law_levels f fd) : FnG P wo K mg base CX0 1 f fd ["_law_net_here"] (spD K sp__law_levels) :=
  fnD false F sc__law_levels len__law_levels (fun cdv A outer s H E hr => d__law_levels T  hr) p__law_levels
theorem d__law_net {P : Program} {wo : World} {K : PySem.W.Frag} {mg : Str → Option Value} {base : Heap} {f : Addr} {cdv : Value} {A : Around} {outer : List PySem.Env} {s : Shared} {H : Hp} {E : XK} (T : Fx K mg) (c__law_draw : Cal P wo K mg base 1 "_law_draw" ["_law_tape_here", "_law_many"] sp__law_draw)
    (hr : RoomG 1 (A.deeper (envOfC "_law_net" (defScope s__law_net) s.heap.objs.size f cdv))) : PDSs (cxOf CX0 P wo K mg base N__law_net "_law_net" (defScope s__law_net) f cdv A outer s H E).nox (defBody s__law_net) t__law_net :=
    (pdss_cons (pds_set 5 sc__law_net.nd (pd_op dop_add pd_int (pd_callC c__law_draw hr (pda_cons (pd_var 0) (pda_cons (pd_var 2) pda_nil)))))
    (pdss_cons (pds_asg (pd_tup (pda_cons (pd_new (pda_cons (pd_tup (pda_cons pd_int (pda_cons pd_int pda_nil))) (pda_cons (pd_tup (pda_cons pd_int (pda_cons pd_int pda_nil))) pda_nil))) (pda_cons (pd_op dop_mulNew (pd_lst (pda_cons pd_int pda_nil)) (pd_var 5)) (pda_cons pd_dnewT pda_nil)))) (pdg_tup rfl (pdgs_cons (pdg_name 6 sc__law_net.nd) (pdgs_cons (pdg_name 7 sc__law_net.nd) (pdgs_cons (pdg_name 8 sc__law_net.nd) pdgs_nil)))))
    (pdss_cons (pds_for PassesOwn.never rfl (pdi_range2 T.b_range pd_int (pd_var 5)) (pdg_name 9 sc__law_net.nd) (pdss_cons (pds_setLc 10 [("_law_pan", 11)] rfl sc__law_net.nd (pdi_any (pd_var 6)) (blkOk_by (N := N__law_net) (sc := defScope s__law_net) (by decide +kernel)) (fun _ _ _ _ _ => (pdgo_name 11 sc__law_net.nd)) (fun _ _ _ _ _ => (pdts_one (pd_tcmp dop_lt (pd_op dop_add (pd_ix (pd_var 7) (pd_ix (pd_var 11) pd_int)) pd_int) (pd_var 3) (nomark _)))) (fun _ _ _ _ _ => (pd_var 11)) (sw_true rfl rfl rfl (by decide +kernel)))
    (pdss_one (pds_if (pd_tcmp (dop_ne hr.units) (pd_var 10) (pd_lst pda_nil) (nomark _)) (pdss_cons (pds_set 11 sc__law_net.nd (pd_ix (pd_var 10) (pd_callC c__law_draw hr (pda_cons (pd_var 0) (pda_cons (pd_callB cb_len T.b_len (by decide +kernel) (pda_cons (pd_var 10) pda_nil)) pda_nil)))))
    (pdss_cons (pds_expr (pd_bm PySem.F.slot_list_remove PySem.F.type_list_remove (md_remove hr.units) (pd_var 6) (pda_cons (pd_var 11) pda_nil)))
    (pdss_cons (pds_asg (pd_var 9) (pdg_put hr.units (pd_var 8) (pd_var 11)))
    (pdss_cons (pds_asg (pd_op dop_add (pd_ix (pd_var 7) (pd_ix (pd_var 11) pd_int)) pd_int) (pdg_sub (pd_var 7) (pd_var 9)))
    (pdss_one (pds_set 6 sc__law_net.nd (pd_op dop_addNew (pd_var 6) (pd_lst (pda_cons (pd_tup (pda_cons (pd_var 9) (pda_cons pd_int pda_nil))) (pda_cons (pd_tup (pda_cons (pd_var 9) (pda_cons pd_int pda_nil))) pda_nil)))))))))) pdss_nil))))
    (pdss_cons (pds_set 12 sc__law_net.nd (pd_op dop_add (pd_lst (pda_cons pd_int pda_nil)) (pd_sortV rfl T.b_sorted (pd_var 8))))
    (pdss_cons (pds_for PassesOwn.never rfl (pdi_any (pd_callB cb_sortedP T.b_sorted (by decide +kernel) (pda_cons (pd_var 6) pda_nil))) (pdg_name 11 sc__law_net.nd) (pdss_cons (pds_setLc 13 [("_law_k", 9)] rfl sc__law_net.nd (pdi_any (pd_var 12)) (blkOk_by (N := N__law_net) (sc := defScope s__law_net) (by decide +kernel)) (fun _ _ _ _ _ => (pdgo_name 9 sc__law_net.nd)) (fun _ _ _ _ _ => (pdts_one (L2.PW.pt (pw_dand (pd_tcmp dop_gt (pd_var 9) (pd_ix (pd_var 11) pd_int) (nomark _)) (pw_and1 (pd_tcmp dop_gt (pd_ix (pd_var 7) (pd_var 9)) (pd_ix (pd_var 7) (pd_ix (pd_var 11) pd_int)) (nomark _))))))) (fun _ _ _ _ _ => (pd_var 9)) (sw_true rfl rfl rfl (by decide +kernel)))
    (pdss_cons (pds_asg (pd_ix (pd_var 1) (pd_callC c__law_draw hr (pda_cons (pd_var 0) (pda_cons (pd_callB cb_len T.b_len (by decide +kernel) (pda_cons (pd_var 1) pda_nil)) pda_nil)))) (pdg_put hr.units (pd_var 8) (pd_var 11)))
    (pdss_one (pds_if (L2.PW.pt (pw_dand (pd_tru (pd_var 4)) (pw_dand (pd_tcmp (dop_ne hr.units) (pd_var 13) (pd_lst pda_nil) (nomark _)) (pw_and1 (pd_tcmp (dop_eq hr.units) (pd_callC c__law_draw hr (pda_cons (pd_var 0) (pda_cons pd_int pda_nil))) pd_int (nomark _)))))) (pdss_one (pds_asg (pd_ix (pd_var 13) (pd_callC c__law_draw hr (pda_cons (pd_var 0) (pda_cons (pd_callB cb_len T.b_len (by decide +kernel) (pda_cons (pd_var 13) pda_nil)) pda_nil)))) (pdg_put hr.units (pd_var 8) (pd_var 11)))) pdss_nil)))))
    (pdss_cons (pds_set 14 sc__law_net.nd (pd_callTy (cb_dictP rfl) T.b_dict (by decide +kernel) (pda_cons (pd_lc [("_law_at", 15), ("_law_k", 9)] rfl sc__law_net.nd (pdi_enum T.b_enumerate (pd_var 12)) (blkOk_by (N := N__law_net) (sc := defScope s__law_net) (by decide +kernel)) (fun _ _ _ _ _ => (pdgo_tup rfl (pdgso_cons (pdgo_name 15 sc__law_net.nd) (pdgso_cons (pdgo_name 9 sc__law_net.nd) pdgso_nil)))) (fun _ _ _ _ _ => pdts_nil) (fun _ _ _ _ _ => (pd_tup (pda_cons (pd_var 9) (pda_cons (pd_var 15) pda_nil))))) pda_nil)))
    (pdss_one (pds_ret (pd_callTy cb_tuple T.b_tuple (by decide +kernel) (pda_cons (pd_lc [("_law_k", 9)] rfl sc__law_net.nd (pdi_any (pd_var 12)) (blkOk_by (N := N__law_net) (sc := defScope s__law_net) (by decide +kernel)) (fun _ _ _ _ _ => (pdgo_name 9 sc__law_net.nd)) (fun _ _ _ _ _ => pdts_nil) (fun _ _ _ _ _ => (pd_callTy cb_tuple T.b_tuple (by decide +kernel) (pda_cons (pd_lc [("_law_side", 16)] rfl sc__law_net.nd (pdi_any (pd_tup (pda_cons pd_int (pda_cons pd_int pda_nil)))) (blkOk_by (by kernel_rfl)) (fun _ _ _ _ _ => (pdgo_name 16 sc__law_net.nd)) (fun _ _ _ _ _ => pdts_nil) (fun _ _ _ _ _ => (pd_dget2 hr.units (pd_var 14) (pd_dget hr.units (pd_var 8) (pd_tup (pda_cons (pd_var 9) (pda_cons (pd_var 16) pda_nil)))) (pd_dget hr.units (pd_var 8) (pd_tup (pda_cons (pd_var 9) (pda_cons (pd_var 16) pda_nil))))))) pda_nil)))) pda_nil))))))))))
theorem ok__law_net {P : Program} {wo : World} {K : PySem.W.Frag} {mg : Str → Option Value} {base : Heap} {f : Addr} {fd : FuncData} (T : Fx K mg) (F : FnP K "_law_net" s__law_net f fd) (c__law_draw : Cal P wo K mg base 1 "_law_draw" ["_law_tape_here", "_law_many"] sp__law_draw) : FnG P wo K mg base CX0 2 f fd ["_law_tape_here", "_law_names_here", "_law_most", "_law_high", "_law_together"] (spD K sp__law_net) :=
  fnD true F sc__law_net len__law_net (fun cdv A outer s H E hr => d__law_net T c__law_draw hr) p__law_net
theorem d__law_gone {P : Program} {wo : World} {K : PySem.W.Frag} {mg : Str → Option Value} {base : Heap} {f : Addr} {cdv : Value} {A : Around} {outer : List PySem.Env} {s : Shared} {H : Hp} {E : XK} (T : Fx K mg)
    (hr : RoomG 0 (A.deeper (envOfC "_law_gone" (defScope s__law_gone) s.heap.objs.size f cdv))) : PDSs (cxOf CX0 P wo K mg base N__law_gone "_law_gone" (defScope s__law_gone) f cdv A outer s H E).nox (defBody s__law_gone) t__law_gone :=
    (pdss_cons (pds_par3 3 4 5 rfl sc__law_gone.nd (pda_cons pd_int (pda_cons (pd_callTy cb_listNew T.b_list (by decide +kernel) (pda_cons (pd_var 1) pda_nil)) (pda_cons (pd_new pda_nil) pda_nil))))
    (pdss_cons (pds_while PassesOwn.never (pd_tnot (pd_tru (pd_isi T.b_isinstance (pd_var 3) T.b_str (by decide +kernel)))) (pdss_cons (pds_set 6 sc__law_gone.nd (pd_callTy cb_int T.b_int (by decide +kernel) (pda_cons (pd_cmp dop_gt (pd_ix (pd_var 4) (pd_var 3)) pd_int (nomark _)) pda_nil)))
    (pdss_cons (pds_expr (pd_bm PySem.F.slot_list_append PySem.F.type_list_append md_append (pd_var 5) (pda_cons (pd_tup (pda_cons (pd_var 3) (pda_cons (pd_var 6) pda_nil))) pda_nil)))
    (pdss_cons (pds_asg (pd_op dop_add (pd_ix (pd_var 4) (pd_var 3)) (pd_op dop_mul (pd_op dop_mul pd_int (pd_var 2)) (pd_op dop_sub pd_int (pd_op dop_mul pd_int (pd_var 6))))) (pdg_sub (pd_var 4) (pd_var 3)))
    (pdss_one (pds_set 3 sc__law_gone.nd (pd_ix (pd_ix (pd_var 0) (pd_var 3)) (pd_var 6))))))))
    (pdss_one (pds_ret (pd_tup (pda_cons (pd_var 5) (pda_cons (pd_var 3) (pda_cons (pd_callTy cb_tuple T.b_tuple (by decide +kernel) (pda_cons (pd_var 4) pda_nil)) pda_nil))))))))
theorem ok__law_gone {P : Program} {wo : World} {K : PySem.W.Frag} {mg : Str → Option Value} {base : Heap} {f : Addr} {fd : FuncData} (T : Fx K mg) (F : FnP K "_law_gone" s__law_gone f fd) : FnG P wo K mg base CX0 1 f fd ["_law_net_here", "_law_standing_here", "_law_weight"] (spD K sp__law_gone) :=
  fnD true F sc__law_gone len__law_gone (fun cdv A outer s H E hr => d__law_gone T  hr) p__law_gone
theorem d__law_out {P : Program} {wo : World} {K : PySem.W.Frag} {mg : Str → Option Value} {base : Heap} {f : Addr} {cdv : Value} {A : Around} {outer : List PySem.Env} {s : Shared} {H : Hp} {E : XK} (T : Fx K mg) (c__law_gone : Cal P wo K mg base 1 "_law_gone" ["_law_net_here", "_law_standing_here", "_law_weight"] sp__law_gone)
    (hr : RoomG 1 (A.deeper (envOfC "_law_out" (defScope s__law_out) s.heap.objs.size f cdv))) : PDSs (cxOf CX0 P wo K mg base N__law_out "_law_out" (defScope s__law_out) f cdv A outer s H E).nox (defBody s__law_out) t__law_out :=
    (pdss_cons (pds_set 3 sc__law_out.nd (pd_new pda_nil))
    (pdss_cons (pds_for PassesOwn.never rfl (pdi_any (pd_var 2)) (pdg_name 4 sc__law_out.nd) (pdss_cons (pds_asg (pd_callC c__law_gone hr (pda_cons (pd_var 0) (pda_cons (pd_var 1) (pda_cons (pd_var 4) pda_nil)))) (pdg_tup rfl (pdgs_cons (pdg_name 5 sc__law_out.nd) (pdgs_cons (pdg_name 6 sc__law_out.nd) (pdgs_cons (pdg_name 1 sc__law_out.nd) pdgs_nil)))))
    (pdss_one (pds_expr (pd_bm PySem.F.slot_list_append PySem.F.type_list_append md_append (pd_var 3) (pda_cons (pd_var 6) pda_nil))))))
    (pdss_one (pds_ret (pd_tup (pda_cons (pd_var 3) (pda_cons (pd_var 1) pda_nil)))))))
theorem ok__law_out {P : Program} {wo : World} {K : PySem.W.Frag} {mg : Str → Option Value} {base : Heap} {f : Addr} {fd : FuncData} (T : Fx K mg) (F : FnP K "_law_out" s__law_out f fd) (c__law_gone : Cal P wo K mg base 1 "_law_gone" ["_law_net_here", "_law_standing_here", "_law_weight"] sp__law_gone) : FnG P wo K mg base CX0 2 f fd ["_law_net_here", "_law_standing_here", "_law_word"] (spD K sp__law_out) :=
  fnD true F sc__law_out len__law_out (fun cdv A outer s H E hr => d__law_out T c__law_gone hr) p__law_out
theorem d__law_crossed {P : Program} {wo : World} {K : PySem.W.Frag} {mg : Str → Option Value} {base : Heap} {f : Addr} {cdv : Value} {A : Around} {outer : List PySem.Env} {s : Shared} {H : Hp} {E : XK} (T : Fx K mg)
    (hr : RoomG 0 (A.deeper (envOfC "_law_crossed" (defScope s__law_crossed) s.heap.objs.size f cdv))) : PDSs (cxOf CX0 P wo K mg base N__law_crossed "_law_crossed" (defScope s__law_crossed) f cdv A outer s H E).nox (defBody s__law_crossed) t__law_crossed :=
    (pdss_cons (pds_par 3 4 rfl sc__law_crossed.nd (pda_cons (pd_callTy cb_listNew T.b_list (by decide +kernel) (pda_cons (pd_var 1) pda_nil)) (pda_cons (pd_callTy cb_listNew T.b_list (by decide +kernel) (pda_cons (pd_var 0) pda_nil)) pda_nil)))
    (pdss_cons (pds_asg (pd_tup (pda_cons (pd_op dop_sub pd_int (pd_ix (pd_var 3) (pd_var 2))) (pda_cons (pd_back (pd_ix (pd_var 4) (pd_var 2))) pda_nil))) (pdg_tup rfl (pdgs_cons (pdg_sub (pd_var 3) (pd_var 2)) (pdgs_cons (pdg_sub (pd_var 4) (pd_var 2)) pdgs_nil))))
    (pdss_one (pds_ret (pd_tup (pda_cons (pd_callTy cb_tuple T.b_tuple (by decide +kernel) (pda_cons (pd_var 4) pda_nil)) (pda_cons (pd_callTy cb_tuple T.b_tuple (by decide +kernel) (pda_cons (pd_var 3) pda_nil)) pda_nil)))))))
theorem ok__law_crossed {P : Program} {wo : World} {K : PySem.W.Frag} {mg : Str → Option Value} {base : Heap} {f : Addr} {fd : FuncData} (T : Fx K mg) (F : FnP K "_law_crossed" s__law_crossed f fd) : FnG P wo K mg base CX0 1 f fd ["_law_net_here", "_law_standing_here", "_law_k"] (spD K sp__law_crossed) :=
  fnD true F sc__law_crossed len__law_crossed (fun cdv A outer s H E hr => d__law_crossed T  hr) p__law_crossed
theorem d__law_put_at_exit {P : Program} {wo : World} {K : PySem.W.Frag} {mg : Str → Option Value} {base : Heap} {f : Addr} {cdv : Value} {A : Around} {outer : List PySem.Env} {s : Shared} {H : Hp} {E : XK} (T : Fx K mg) (c__law_draw : Cal P wo K mg base 1 "_law_draw" ["_law_tape_here", "_law_many"] sp__law_draw) (c__law_standing : Cal P wo K mg base 2 "_law_standing" ["_law_tape_here", "_law_most"] sp__law_standing)
    (hr : RoomG 2 (A.deeper (envOfC "_law_put_at_exit" (defScope s__law_put_at_exit) s.heap.objs.size f cdv))) : PDSs (cxOf CX0 P wo K mg base N__law_put_at_exit "_law_put_at_exit" (defScope s__law_put_at_exit) f cdv A outer s H E).nox (defBody s__law_put_at_exit) t__law_put_at_exit :=
    (pdss_cons (pds_setLc 4 [("_law_k", 5)] rfl sc__law_put_at_exit.nd (pdi_range1 T.b_range (pd_op dop_mul pd_int (pd_callB cb_len T.b_len (by decide +kernel) (pda_cons (pd_var 1) pda_nil)))) (blkOk_by (N := N__law_put_at_exit) (sc := defScope s__law_put_at_exit) (by decide +kernel)) (fun _ _ _ _ _ => (pdgo_name 5 sc__law_put_at_exit.nd)) (fun _ _ _ _ _ => (pdts_one (pd_tru (pd_isi T.b_isinstance (pd_ix (pd_ix (pd_var 1) (pd_op dop_div (pd_var 5) pd_int)) (pd_op dop_mod (pd_var 5) pd_int)) T.b_str (by decide +kernel))))) (fun _ _ _ _ _ => (pd_var 5)) (sw_true rfl rfl rfl (by decide +kernel)))
    (pdss_cons (pds_set 6 sc__law_put_at_exit.nd (pd_ix (pd_var 4) (pd_callC c__law_draw hr (pda_cons (pd_var 0) (pda_cons (pd_callB cb_len T.b_len (by decide +kernel) (pda_cons (pd_var 4) pda_nil)) pda_nil)))))
    (pdss_cons (pds_asg (pd_tup (pda_cons (pd_op dop_div (pd_var 6) pd_int) (pda_cons (pd_op dop_mod (pd_var 6) pd_int) pda_nil))) (pdg_tup rfl (pdgs_cons (pdg_name 5 sc__law_put_at_exit.nd) (pdgs_cons (pdg_name 7 sc__law_put_at_exit.nd) pdgs_nil))))
    (pdss_cons (pds_setLc 8 [("_law_pair", 10)] rfl sc__law_put_at_exit.nd (pdi_any (pd_var 1)) (blkOk_by (N := N__law_put_at_exit) (sc := defScope s__law_put_at_exit) (by decide +kernel)) (fun _ _ _ _ _ => (pdgo_name 10 sc__law_put_at_exit.nd)) (fun _ _ _ _ _ => pdts_nil) (fun _ _ _ _ _ => (pd_callTy cb_tuple T.b_tuple (by decide +kernel) (pda_cons (pd_lc [("_law_one", 9)] rfl sc__law_put_at_exit.nd (pdi_any (pd_var 10)) (blkOk_by (by kernel_rfl)) (fun _ _ _ _ _ => (pdgo_name 9 sc__law_put_at_exit.nd)) (fun _ _ _ _ _ => pdts_nil) (fun _ _ _ _ _ => (pd_ife (pd_tru (pd_isi T.b_isinstance (pd_var 9) T.b_str (by decide +kernel))) (pd_var 9) (pd_op dop_add (pd_var 9) (pd_callTy cb_int T.b_int (by decide +kernel) (pda_cons (pd_cmp dop_gt (pd_var 9) (pd_var 5) (nomark _)) pda_nil)))))) pda_nil))) (sw_true rfl rfl rfl (by decide +kernel)))
    (pdss_cons (pds_par 11 12 rfl sc__law_put_at_exit.nd (pda_cons (pd_ix (pd_ix (pd_var 8) (pd_var 5)) (pd_var 7)) (pda_cons (pd_new (pda_cons (pd_ix (pd_ix (pd_var 8) (pd_var 5)) pd_int) (pda_cons (pd_ix (pd_ix (pd_var 8) (pd_var 5)) pd_int) pda_nil))) pda_nil)))
    (pdss_cons (pds_asg (pd_op dop_add (pd_var 5) pd_int) (pdg_sub (pd_var 12) (pd_var 7)))
    (pdss_cons (pds_set 13 sc__law_put_at_exit.nd (pd_op dop_add (pd_op dop_add (pd_cut sl_cut (pd_var 8) pdo_none (pdo_some (pd_var 5))) (pd_lst (pda_cons (pd_callTy cb_tuple T.b_tuple (by decide +kernel) (pda_cons (pd_var 12) pda_nil)) (pda_cons (pd_tup (pda_cons (pd_var 11) (pda_cons (pd_var 11) pda_nil))) pda_nil)))) (pd_cut sl_cut (pd_var 8) (pdo_some (pd_op dop_add (pd_var 5) pd_int)) pdo_none)))
    (pdss_one (pds_ret (pd_tup (pda_cons (pd_callTy cb_tuple T.b_tuple (by decide +kernel) (pda_cons (pd_var 13) pda_nil)) (pda_cons (pd_op dop_add (pd_op dop_add (pd_cut sl_cut (pd_var 2) pdo_none (pdo_some (pd_op dop_add (pd_var 5) pd_int))) (pd_tup (pda_cons (pd_callC c__law_standing hr (pda_cons (pd_var 0) (pda_cons (pd_var 3) pda_nil))) pda_nil))) (pd_cut sl_cut (pd_var 2) (pdo_some (pd_op dop_add (pd_var 5) pd_int)) pdo_none)) pda_nil))))))))))))
theorem ok__law_put_at_exit {P : Program} {wo : World} {K : PySem.W.Frag} {mg : Str → Option Value} {base : Heap} {f : Addr} {fd : FuncData} (T : Fx K mg) (F : FnP K "_law_put_at_exit" s__law_put_at_exit f fd) (c__law_draw : Cal P wo K mg base 1 "_law_draw" ["_law_tape_here", "_law_many"] sp__law_draw) (c__law_standing : Cal P wo K mg base 2 "_law_standing" ["_law_tape_here", "_law_most"] sp__law_standing) : FnG P wo K mg base CX0 3 f fd ["_law_tape_here", "_law_net_here", "_law_standing_here", "_law_most"] (spD K sp__law_put_at_exit) :=
  fnD true F sc__law_put_at_exit len__law_put_at_exit (fun cdv A outer s H E hr => d__law_put_at_exit T c__law_draw c__law_standing hr) p__law_put_at_exit
theorem d__law_other_numbers {P : Program} {wo : World} {K : PySem.W.Frag} {mg : Str → Option Value} {base : Heap} {f : Addr} {cdv : Value} {A : Around} {outer : List PySem.Env} {s : Shared} {H : Hp} {E : XK} (T : Fx K mg) (c__law_draw : Cal P wo K mg base 1 "_law_draw" ["_law_tape_here", "_law_many"] sp__law_draw)
    (hr : RoomG 1 (A.deeper (envOfC "_law_other_numbers" (defScope s__law_other_numbers) s.heap.objs.size f cdv))) : PDSs (cxOf CX0 P wo K mg base N__law_other_numbers "_law_other_numbers" (defScope s__law_other_numbers) f cdv A outer s H E).nox (defBody s__law_other_numbers) t__law_other_numbers :=
    (pdss_cons (pds_asg (pd_tup (pda_cons (pd_new (pda_cons pd_int pda_nil)) (pda_cons (pd_new pda_nil) pda_nil))) (pdg_tup rfl (pdgs_cons (pdg_name 3 sc__law_other_numbers.nd) (pdgs_cons (pdg_name 4 sc__law_other_numbers.nd) pdgs_nil))))
    (pdss_cons (pds_for PassesOwn.never rfl (pdi_range1 T.b_range (pd_callB cb_len T.b_len (by decide +kernel) (pda_cons (pd_var 1) pda_nil))) (pdg_name 5 sc__law_other_numbers.nd) (pdss_cons (pds_set 6 sc__law_other_numbers.nd (pd_bm PySem.F.slot_list_pop PySem.F.type_list_pop md_popAt (pd_var 3) (pda_cons (pd_callC c__law_draw hr (pda_cons (pd_var 0) (pda_cons (pd_callB cb_len T.b_len (by decide +kernel) (pda_cons (pd_var 3) pda_nil)) pda_nil))) pda_nil)))
    (pdss_cons (pds_expr (pd_bm PySem.F.slot_list_append PySem.F.type_list_append md_append (pd_var 4) (pda_cons (pd_var 6) pda_nil)))
    (pdss_one (pds_set 3 sc__law_other_numbers.nd (pd_op dop_addNew (pd_var 3) (pd_lc [("_law_one", 7)] rfl sc__law_other_numbers.nd (pdi_any (pd_ix (pd_var 1) (pd_var 6))) (blkOk_by (N := N__law_other_numbers) (sc := defScope s__law_other_numbers) (by decide +kernel)) (fun _ _ _ _ _ => (pdgo_name 7 sc__law_other_numbers.nd)) (fun _ _ _ _ _ => (pdts_one (pd_tnot (pd_tru (pd_isi T.b_isinstance (pd_var 7) T.b_str (by decide +kernel)))))) (fun _ _ _ _ _ => (pd_var 7)))))))))
    (pdss_cons (pds_setLc 8 [("_law_k", 9)] rfl sc__law_other_numbers.nd (pdi_any (pd_var 4)) (blkOk_by (N := N__law_other_numbers) (sc := defScope s__law_other_numbers) (by decide +kernel)) (fun _ _ _ _ _ => (pdgo_name 9 sc__law_other_numbers.nd)) (fun _ _ _ _ _ => pdts_nil) (fun _ _ _ _ _ => (pd_callTy cb_tuple T.b_tuple (by decide +kernel) (pda_cons (pd_lc [("_law_one", 7)] rfl sc__law_other_numbers.nd (pdi_any (pd_ix (pd_var 1) (pd_var 9))) (blkOk_by (by kernel_rfl)) (fun _ _ _ _ _ => (pdgo_name 7 sc__law_other_numbers.nd)) (fun _ _ _ _ _ => pdts_nil) (fun _ _ _ _ _ => (pd_ife (pd_tru (pd_isi T.b_isinstance (pd_var 7) T.b_str (by decide +kernel))) (pd_var 7) (pd_bm PySem.F.slot_list_index PySem.F.type_list_index (md_index hr.units65) (pd_var 4) (pda_cons (pd_var 7) pda_nil))))) pda_nil))) (sw_true rfl rfl rfl (by decide +kernel)))
    (pdss_one (pds_ret (pd_tup (pda_cons (pd_callTy cb_tuple T.b_tuple (by decide +kernel) (pda_cons (pd_var 8) pda_nil)) (pda_cons (pd_callTy cb_tuple T.b_tuple (by decide +kernel) (pda_cons (pd_lc [("_law_k", 9)] rfl sc__law_other_numbers.nd (pdi_any (pd_var 4)) (blkOk_by (N := N__law_other_numbers) (sc := defScope s__law_other_numbers) (by decide +kernel)) (fun _ _ _ _ _ => (pdgo_name 9 sc__law_other_numbers.nd)) (fun _ _ _ _ _ => pdts_nil) (fun _ _ _ _ _ => (pd_ix (pd_var 2) (pd_var 9)))) pda_nil)) pda_nil))))))))
theorem ok__law_other_numbers {P : Program} {wo : World} {K : PySem.W.Frag} {mg : Str → Option Value} {base : Heap} {f : Addr} {fd : FuncData} (T : Fx K mg) (F : FnP K "_law_other_numbers" s__law_other_numbers f fd) (c__law_draw : Cal P wo K mg base 1 "_law_draw" ["_law_tape_here", "_law_many"] sp__law_draw) : FnG P wo K mg base CX0 2 f fd ["_law_tape_here", "_law_net_here", "_law_standing_here"] (spD K sp__law_other_numbers) :=
  fnD true F sc__law_other_numbers len__law_other_numbers (fun cdv A outer s H E hr => d__law_other_numbers T c__law_draw hr) p__law_other_numbers
theorem d__law_tree {P : Program} {wo : World} {K : PySem.W.Frag} {mg : Str → Option Value} {base : Heap} {f : Addr} {cdv : Value} {A : Around} {outer : List PySem.Env} {s : Shared} {H : Hp} {E : XK} (T : Fx K mg) (c__law_net : Cal P wo K mg base 2 "_law_net" ["_law_tape_here", "_law_names_here", "_law_most", "_law_high", "_law_together"] sp__law_net) (c__law_draw : Cal P wo K mg base 1 "_law_draw" ["_law_tape_here", "_law_many"] sp__law_draw) (c__law_standing : Cal P wo K mg base 2 "_law_standing" ["_law_tape_here", "_law_most"] sp__law_standing)
    (hr : RoomG 2 (A.deeper (envOfC "_law_tree" (defScope s__law_tree) s.heap.objs.size f cdv))) : PDSs (cxOf CX0 P wo K mg base N__law_tree "_law_tree" (defScope s__law_tree) f cdv A outer s H E).nox (defBody s__law_tree) t__law_tree :=
    (pdss_cons (pds_set 2 sc__law_tree.nd (pd_callC c__law_net hr (pda_cons (pd_var 0) (pda_cons (pd_var 1) (pda_cons (pd_op dop_add pd_int (pd_callC c__law_draw hr (pda_cons (pd_var 0) (pda_cons pd_int pda_nil)))) (pda_cons (pd_op dop_add pd_int (pd_callC c__law_draw hr (pda_cons (pd_var 0) (pda_cons pd_int pda_nil)))) (pda_cons pd_bl pda_nil)))))))
    (pdss_one (pds_ret (pd_tup (pda_cons (pd_var 2) (pda_cons (pd_callTy cb_tuple T.b_tuple (by decide +kernel) (pda_cons (pd_lc [("_law_leads", 3)] rfl sc__law_tree.nd (pdi_any (pd_var 2)) (blkOk_by (N := N__law_tree) (sc := defScope s__law_tree) (by decide +kernel)) (fun _ _ _ _ _ => (pdgo_name 3 sc__law_tree.nd)) (fun _ _ _ _ _ => pdts_nil) (fun _ _ _ _ _ => (pd_callC c__law_standing hr (pda_cons (pd_var 0) (pda_cons (pd_ix (pd_lst (pda_cons pd_int (pda_cons pd_int (pda_cons (pd_op dop_mul pd_int (pd_op dop_pow pd_int pd_int)) pda_nil)))) (pd_callC c__law_draw hr (pda_cons (pd_var 0) (pda_cons pd_int pda_nil)))) pda_nil))))) pda_nil)) pda_nil))))))
theorem ok__law_tree {P : Program} {wo : World} {K : PySem.W.Frag} {mg : Str → Option Value} {base : Heap} {f : Addr} {fd : FuncData} (T : Fx K mg) (F : FnP K "_law_tree" s__law_tree f fd) (c__law_net : Cal P wo K mg base 2 "_law_net" ["_law_tape_here", "_law_names_here", "_law_most", "_law_high", "_law_together"] sp__law_net) (c__law_draw : Cal P wo K mg base 1 "_law_draw" ["_law_tape_here", "_law_many"] sp__law_draw) (c__law_standing : Cal P wo K mg base 2 "_law_standing" ["_law_tape_here", "_law_most"] sp__law_standing) : FnG P wo K mg base CX0 3 f fd ["_law_tape_here", "_law_names_here"] (spD K sp__law_tree) :=
  fnD false F sc__law_tree len__law_tree (fun cdv A outer s H E hr => d__law_tree T c__law_net c__law_draw c__law_standing hr) p__law_tree
theorem d__law_otherwise {P : Program} {wo : World} {K : PySem.W.Frag} {mg : Str → Option Value} {base : Heap} {f : Addr} {cdv : Value} {A : Around} {outer : List PySem.Env} {s : Shared} {H : Hp} {E : XK} (T : Fx K mg) (c__law_draw : Cal P wo K mg base 1 "_law_draw" ["_law_tape_here", "_law_many"] sp__law_draw) (c__law_levels : Cal P wo K mg base 1 "_law_levels" ["_law_net_here"] sp__law_levels) (c__law_put_at_exit : Cal P wo K mg base 3 "_law_put_at_exit" ["_law_tape_here", "_law_net_here", "_law_standing_here", "_law_most"] sp__law_put_at_exit) (c__law_crossed : Cal P wo K mg base 1 "_law_crossed" ["_law_net_here", "_law_standing_here", "_law_k"] sp__law_crossed) (c__law_other_numbers : Cal P wo K mg base 2 "_law_other_numbers" ["_law_tape_here", "_law_net_here", "_law_standing_here"] sp__law_other_numbers)
    (hr : RoomG 3 (A.deeper (envOfC "_law_otherwise" (defScope s__law_otherwise) s.heap.objs.size f cdv))) : PDSs (cxOf CX0 P wo K mg base N__law_otherwise "_law_otherwise" (defScope s__law_otherwise) f cdv A outer s H E).nox (defBody s__law_otherwise) t__law_otherwise :=
    (pdss_cons (pds_for PassesOwn.never rfl (pdi_range1 T.b_range (pd_callC c__law_draw hr (pda_cons (pd_var 0) (pda_cons pd_int pda_nil)))) (pdg_name 3 sc__law_otherwise.nd) (pdss_one (pds_if (L2.PW.pt (pw_dand (pd_tcmp dop_lt (pd_callB cb_len T.b_len (by decide +kernel) (pda_cons (pd_var 1) pda_nil)) pd_int (nomark _)) (pw_and1 (pd_tcmp dop_lt (pd_callB (cb_max1 rfl) T.b_max (by decide +kernel) (pda_cons (pd_callC c__law_levels hr (pda_cons (pd_var 1) pda_nil)) pda_nil)) pd_int (nomark _))))) (pdss_one (pds_asg (pd_callC c__law_put_at_exit hr (pda_cons (pd_var 0) (pda_cons (pd_var 1) (pda_cons (pd_var 2) (pda_cons pd_int pda_nil))))) (pdg_tup rfl (pdgs_cons (pdg_name 1 sc__law_otherwise.nd) (pdgs_cons (pdg_name 2 sc__law_otherwise.nd) pdgs_nil))))) pdss_nil)))
    (pdss_cons (pds_for PassesOwn.never rfl (pdi_range1 T.b_range (pd_callB cb_len T.b_len (by decide +kernel) (pda_cons (pd_var 1) pda_nil))) (pdg_name 4 sc__law_otherwise.nd) (pdss_one (pds_if (pd_tcmp (dop_eq hr.units) (pd_callC c__law_draw hr (pda_cons (pd_var 0) (pda_cons pd_int pda_nil))) pd_int (nomark _)) (pdss_one (pds_asg (pd_callC c__law_crossed hr (pda_cons (pd_var 1) (pda_cons (pd_var 2) (pda_cons (pd_var 4) pda_nil)))) (pdg_tup rfl (pdgs_cons (pdg_name 1 sc__law_otherwise.nd) (pdgs_cons (pdg_name 2 sc__law_otherwise.nd) pdgs_nil))))) pdss_nil)))
    (pdss_one (pds_ret (pd_callC c__law_other_numbers hr (pda_cons (pd_var 0) (pda_cons (pd_var 1) (pda_cons (pd_var 2) pda_nil))))))))
theorem ok__law_otherwise {P : Program} {wo : World} {K : PySem.W.Frag} {mg : Str → Option Value} {base : Heap} {f : Addr} {fd : FuncData} (T : Fx K mg) (F : FnP K "_law_otherwise" s__law_otherwise f fd) (c__law_draw : Cal P wo K mg base 1 "_law_draw" ["_law_tape_here", "_law_many"] sp__law_draw) (c__law_levels : Cal P wo K mg base 1 "_law_levels" ["_law_net_here"] sp__law_levels) (c__law_put_at_exit : Cal P wo K mg base 3 "_law_put_at_exit" ["_law_tape_here", "_law_net_here", "_law_standing_here", "_law_most"] sp__law_put_at_exit) (c__law_crossed : Cal P wo K mg base 1 "_law_crossed" ["_law_net_here", "_law_standing_here", "_law_k"] sp__law_crossed) (c__law_other_numbers : Cal P wo K mg base 2 "_law_other_numbers" ["_law_tape_here", "_law_net_here", "_law_standing_here"] sp__law_other_numbers) : FnG P wo K mg base CX0 4 f fd ["_law_tape_here", "_law_net_here", "_law_standing_here"] (spD K sp__law_otherwise) :=
  fnD true F sc__law_otherwise len__law_otherwise (fun cdv A outer s H E hr => d__law_otherwise T c__law_draw c__law_levels c__law_put_at_exit c__law_crossed c__law_other_numbers hr) p__law_otherwise
theorem d__law_rows {P : Program} {wo : World} {K : PySem.W.Frag} {mg : Str → Option Value} {base : Heap} {f : Addr} {cdv : Value} {A : Around} {outer : List PySem.Env} {s : Shared} {H : Hp} {E : XK} (T : Fx K mg) (c__law_draw : Cal P wo K mg base 1 "_law_draw" ["_law_tape_here", "_law_many"] sp__law_draw)
    (hr : RoomG 1 (A.deeper (envOfC "_law_rows" (defScope s__law_rows) s.heap.objs.size f cdv))) : PDSs (cxOf CX0 P wo K mg base N__law_rows "_law_rows" (defScope s__law_rows) f cdv A outer s H E).nox (defBody s__law_rows) t__law_rows :=
    (pdss_one (pds_ret (pd_callTy cb_tuple T.b_tuple (by decide +kernel) (pda_cons (pd_lc [("_law_k", 2)] rfl sc__law_rows.nd (pdi_range1 T.b_range (pd_var 1)) (blkOk_by (N := N__law_rows) (sc := defScope s__law_rows) (by decide +kernel)) (fun _ _ _ _ _ => (pdgo_name 2 sc__law_rows.nd)) (fun _ _ _ _ _ => pdts_nil) (fun _ _ _ _ _ => (pd_op dop_add pd_int (pd_callC c__law_draw hr (pda_cons (pd_var 0) (pda_cons (pd_ix (pd_lst (pda_cons pd_int (pda_cons pd_int (pda_cons (pd_op dop_pow pd_int pd_int) (pda_cons (pd_op dop_pow pd_int pd_int) pda_nil))))) (pd_callC c__law_draw hr (pda_cons (pd_var 0) (pda_cons pd_int pda_nil)))) pda_nil)))))) pda_nil))))
theorem ok__law_rows {P : Program} {wo : World} {K : PySem.W.Frag} {mg : Str → Option Value} {base : Heap} {f : Addr} {fd : FuncData} (T : Fx K mg) (F : FnP K "_law_rows" s__law_rows f fd) (c__law_draw : Cal P wo K mg base 1 "_law_draw" ["_law_tape_here", "_law_many"] sp__law_draw) : FnG P wo K mg base CX0 2 f fd ["_law_tape_here", "_law_many"] (spD K sp__law_rows) :=
  fnD false F sc__law_rows len__law_rows (fun cdv A outer s H E hr => d__law_rows T c__law_draw hr) p__law_rows
theorem d__law_near {P : Program} {wo : World} {K : PySem.W.Frag} {mg : Str → Option Value} {base : Heap} {f : Addr} {cdv : Value} {A : Around} {outer : List PySem.Env} {s : Shared} {H : Hp} {E : XK} (T : Fx K mg) (c__law_draw : Cal P wo K mg base 1 "_law_draw" ["_law_tape_here", "_law_many"] sp__law_draw) (c__law_tree : Cal P wo K mg base 3 "_law_tree" ["_law_tape_here", "_law_names_here"] sp__law_tree)
    (hr : RoomG 3 (A.deeper (envOfC "_law_near" (defScope s__law_near) s.heap.objs.size f cdv))) : PDSs (cxOf CX0 P wo K mg base N__law_near "_law_near" (defScope s__law_near) f cdv A outer s H E).nox (defBody s__law_near) t__law_near :=
    (pdss_cons (pds_par 4 5 rfl sc__law_near.nd (pda_cons (pd_callC c__law_draw hr (pda_cons (pd_var 0) (pda_cons pd_int pda_nil))) (pda_cons (pd_callC c__law_draw hr (pda_cons (pd_var 0) (pda_cons (pd_callB cb_len T.b_len (by decide +kernel) (pda_cons (pd_var 1) pda_nil)) pda_nil))) pda_nil)))
    (pdss_cons (pds_asg (pd_tup (pda_cons (pd_callTy cb_listNew T.b_list (by decide +kernel) (pda_cons (pd_var 2) pda_nil)) (pda_cons (pd_lcNew [("_law_pair", 8)] rfl sc__law_near.nd (pdi_any (pd_var 1)) (blkOk_by (N := N__law_near) (sc := defScope s__law_near) (by decide +kernel)) (fun _ _ _ _ _ => (pdgo_name 8 sc__law_near.nd)) (fun _ _ _ _ _ => pdts_nil) (fun _ _ _ _ _ => (pd_callTy cb_listNew T.b_list (by decide +kernel) (pda_cons (pd_var 8) pda_nil)))) pda_nil))) (pdg_tup rfl (pdgs_cons (pdg_name 6 sc__law_near.nd) (pdgs_cons (pdg_name 7 sc__law_near.nd) pdgs_nil))))
    (pdss_cons (pds_if (pd_tcmp dop_lt (pd_var 4) pd_int (nomark _)) (pdss_one (pds_asg (pd_ix (pd_lst (pda_cons (pd_op dop_add (pd_ix (pd_var 6) (pd_var 5)) pd_int) (pda_cons (pd_op dop_sub pd_int (pd_ix (pd_var 6) (pd_var 5))) pda_nil))) (pd_var 4)) (pdg_sub (pd_var 6) (pd_var 5)))) (pdss_one (pds_if (pd_tcmp (dop_eq hr.units) (pd_var 4) pd_int (nomark _)) (pdss_cons (pds_setLc 9 [("_law_at", 10)] rfl sc__law_near.nd (pdi_range1 T.b_range (pd_op dop_mul pd_int (pd_callB cb_len T.b_len (by decide +kernel) (pda_cons (pd_var 1) pda_nil)))) (blkOk_by (N := N__law_near) (sc := defScope s__law_near) (by decide +kernel)) (fun _ _ _ _ _ => (pdgo_name 10 sc__law_near.nd)) (fun _ _ _ _ _ => (pdts_one (pd_tru (pd_isi T.b_isinstance (pd_ix (pd_ix (pd_var 7) (pd_op dop_div (pd_var 10) pd_int)) (pd_op dop_mod (pd_var 10) pd_int)) T.b_str (by decide +kernel))))) (fun _ _ _ _ _ => (pd_tup (pda_cons (pd_op dop_div (pd_var 10) pd_int) (pda_cons (pd_op dop_mod (pd_var 10) pd_int) pda_nil)))) (sw_true rfl rfl rfl (by decide +kernel)))
    (pdss_cons (pds_asg (pd_ix (pd_var 9) (pd_callC c__law_draw hr (pda_cons (pd_var 0) (pda_cons (pd_callB cb_len T.b_len (by decide +kernel) (pda_cons (pd_var 9) pda_nil)) pda_nil)))) (pdg_tup rfl (pdgs_cons (pdg_name 11 sc__law_near.nd) (pdgs_cons (pdg_name 12 sc__law_near.nd) pdgs_nil))))
    (pdss_one (pds_asg (pd_ix (pd_var 3) (pd_callC c__law_draw hr (pda_cons (pd_var 0) (pda_cons (pd_callB cb_len T.b_len (by decide +kernel) (pda_cons (pd_var 3) pda_nil)) pda_nil)))) (pdg_sub (pd_ix (pd_var 7) (pd_var 11)) (pd_var 12)))))) (pdss_one (pds_if (pd_tcmp (dop_eq hr.units) (pd_var 4) pd_int (nomark _)) (pdss_one (pds_asg (pd_back (pd_ix (pd_var 7) (pd_var 5))) (pdg_sub (pd_var 7) (pd_var 5)))) (pdss_one (pds_ret (pd_callC c__law_tree hr (pda_cons (pd_var 0) (pda_cons (pd_var 3) pda_nil))))))))))
    (pdss_one (pds_ret (pd_tup (pda_cons (pd_callTy cb_tuple T.b_tuple (by decide +kernel) (pda_cons (pd_lc [("_law_pair", 8)] rfl sc__law_near.nd (pdi_any (pd_var 7)) (blkOk_by (N := N__law_near) (sc := defScope s__law_near) (by decide +kernel)) (fun _ _ _ _ _ => (pdgo_name 8 sc__law_near.nd)) (fun _ _ _ _ _ => pdts_nil) (fun _ _ _ _ _ => (pd_callTy cb_tuple T.b_tuple (by decide +kernel) (pda_cons (pd_var 8) pda_nil)))) pda_nil)) (pda_cons (pd_callTy cb_tuple T.b_tuple (by decide +kernel) (pda_cons (pd_var 6) pda_nil)) pda_nil))))))))
theorem ok__law_near {P : Program} {wo : World} {K : PySem.W.Frag} {mg : Str → Option Value} {base : Heap} {f : Addr} {fd : FuncData} (T : Fx K mg) (F : FnP K "_law_near" s__law_near f fd) (c__law_draw : Cal P wo K mg base 1 "_law_draw" ["_law_tape_here", "_law_many"] sp__law_draw) (c__law_tree : Cal P wo K mg base 3 "_law_tree" ["_law_tape_here", "_law_names_here"] sp__law_tree) : FnG P wo K mg base CX0 4 f fd ["_law_tape_here", "_law_net_here", "_law_standing_here", "_law_names_here"] (spD K sp__law_near) :=
  fnD false F sc__law_near len__law_near (fun cdv A outer s H E hr => d__law_near T c__law_draw c__law_tree hr) p__law_near
theorem d__law_is_weights {P : Program} {wo : World} {K : PySem.W.Frag} {mg : Str → Option Value} {base : Heap} {f : Addr} {cdv : Value} {A : Around} {outer : List PySem.Env} {s : Shared} {H : Hp} {E : XK} (T : Fx K mg)
    (hr : RoomG 0 (A.deeper (envOfC "_law_is_weights" (defScope s__law_is_weights) s.heap.objs.size f cdv))) : PDSs (cxOf CX0 P wo K mg base N__law_is_weights "_law_is_weights" (defScope s__law_is_weights) f cdv A outer s H E).nox (defBody s__law_is_weights) t__law_is_weights :=
    (pdss_cons (pds_if (pd_tnot (pd_tru (pd_isi T.b_isinstance (pd_var 0) T.b_tuple (by decide +kernel)))) (pdss_one (pds_ret pd_bl)) pdss_nil)
    (pdss_one (pds_ret (pd_callB (cb_all rfl) T.b_all (by decide +kernel) (pda_cons (pd_lc [("_law_one", 1)] rfl sc__law_is_weights.nd (pdi_any (pd_var 0)) (blkOk_by (N := N__law_is_weights) (sc := defScope s__law_is_weights) (by decide +kernel)) (fun _ _ _ _ _ => (pdgo_name 1 sc__law_is_weights.nd)) (fun _ _ _ _ _ => pdts_nil) (fun _ _ _ _ _ => (pd_andv (pd_isi T.b_isinstance (pd_var 1) T.b_int (by decide +kernel)) (pd_andv (pd_notv (pd_isi T.b_isinstance (pd_var 1) T.b_bool (by decide +kernel))) (pe_one (pd_cmp dop_gt (pd_var 1) pd_int (nomark _))))))) pda_nil)))))
theorem ok__law_is_weights {P : Program} {wo : World} {K : PySem.W.Frag} {mg : Str → Option Value} {base : Heap} {f : Addr} {fd : FuncData} (T : Fx K mg) (F : FnP K "_law_is_weights" s__law_is_weights f fd) : FnG P wo K mg base CX0 1 f fd ["_law_thing"] (spD K sp__law_is_weights) :=
  fnD false F sc__law_is_weights len__law_is_weights (fun cdv A outer s H E hr => d__law_is_weights T  hr) p__law_is_weights
theorem d__law_pair_right {P : Program} {wo : World} {K : PySem.W.Frag} {mg : Str → Option Value} {base : Heap} {f : Addr} {cdv : Value} {A : Around} {outer : List PySem.Env} {s : Shared} {H : Hp} {E : XK} (T : Fx K mg) (c_alike : Cal P wo K mg base 3 "alike" ["one", "its", "other", "others"] sp_alike) (c_parting_word : Cal P wo K mg base 90 "parting_word" ["one", "its", "other", "others"] sp_parting_word) (c__law_rows : Cal P wo K mg base 2 "_law_rows" ["_law_tape_here", "_law_many"] sp__law_rows) (c__law_out : Cal P wo K mg base 2 "_law_out" ["_law_net_here", "_law_standing_here", "_law_word"] sp__law_out) (c__law_is_weights : Cal P wo K mg base 1 "_law_is_weights" ["_law_thing"] sp__law_is_weights) (c_falls_of : Cal P wo K mg base 4 "falls_of" ["net", "standing", "word"] sp_falls_of)
    (hr : RoomG 90 (A.deeper (envOfC "_law_pair_right" (defScope s__law_pair_right) s.heap.objs.size f cdv))) : PDSs (cxOf CX0 P wo K mg base N__law_pair_right "_law_pair_right" (defScope s__law_pair_right) f cdv A outer s H E).nox (defBody s__law_pair_right) t__law_pair_right :=
    (pdss_cons (pds_par 3 4 rfl sc__law_pair_right.nd (pda_cons (pd_callC c_alike hr (pda_cons (pd_ix (pd_var 1) pd_int) (pda_cons (pd_ix (pd_var 1) pd_int) (pda_cons (pd_ix (pd_var 2) pd_int) (pda_cons (pd_ix (pd_var 2) pd_int) pda_nil))))) (pda_cons (pd_callC c_parting_word hr (pda_cons (pd_ix (pd_var 1) pd_int) (pda_cons (pd_ix (pd_var 1) pd_int) (pda_cons (pd_ix (pd_var 2) pd_int) (pda_cons (pd_ix (pd_var 2) pd_int) pda_nil))))) pda_nil)))
    (pdss_cons (pds_if (pd_tcmp (dop_ne hr.units) (pd_var 3) (pd_cmp dop_is (pd_var 4) pd_non (nomark _)) (nomark _)) (pdss_one (pds_ret pd_bl)) pdss_nil)
    (pdss_cons (pds_if (pd_tru (pd_var 3)) (pdss_cons (pds_set 5 sc__law_pair_right.nd (pd_callC c__law_rows hr (pda_cons (pd_var 0) (pda_cons pd_int pda_nil))))
    (pdss_one (pds_ret (pd_cmp (dop_eq hr.units) (pd_ix (pd_callC c__law_out hr (pda_cons (pd_ix (pd_var 1) pd_int) (pda_cons (pd_ix (pd_var 1) pd_int) (pda_cons (pd_var 5) pda_nil)))) pd_int) (pd_ix (pd_callC c__law_out hr (pda_cons (pd_ix (pd_var 2) pd_int) (pda_cons (pd_ix (pd_var 2) pd_int) (pda_cons (pd_var 5) pda_nil)))) pd_int) (nomark _))))) pdss_nil)
    (pdss_cons (pds_for PassesOwn.never rfl (pdi_any (pd_tup (pda_cons (pd_var 4) (pda_cons (pd_callC c_parting_word hr (pda_cons (pd_ix (pd_var 2) pd_int) (pda_cons (pd_ix (pd_var 2) pd_int) (pda_cons (pd_ix (pd_var 1) pd_int) (pda_cons (pd_ix (pd_var 1) pd_int) pda_nil))))) pda_nil)))) (pdg_name 6 sc__law_pair_right.nd) (pdss_cons (pds_if (pd_tnot (pd_tru (pd_callC c__law_is_weights hr (pda_cons (pd_var 6) pda_nil)))) (pdss_one (pds_ret pd_bl)) pdss_nil)
    (pdss_cons (pds_setLc 7 [("_law_tree_here", 8)] rfl sc__law_pair_right.nd (pdi_any (pd_tup (pda_cons (pd_var 1) (pda_cons (pd_var 2) pda_nil)))) (blkOk_by (N := N__law_pair_right) (sc := defScope s__law_pair_right) (by decide +kernel)) (fun _ _ _ _ _ => (pdgo_name 8 sc__law_pair_right.nd)) (fun _ _ _ _ _ => pdts_nil) (fun _ _ _ _ _ => (pd_ix (pd_callC c__law_out hr (pda_cons (pd_ix (pd_var 8) pd_int) (pda_cons (pd_ix (pd_var 8) pd_int) (pda_cons (pd_var 6) pda_nil)))) pd_int)) (sw_true rfl rfl rfl (by decide +kernel)))
    (pdss_one (pds_if (pd_tcmp (dop_eq hr.units) (pd_ix (pd_var 7) pd_int) (pd_ix (pd_var 7) pd_int) (nomark _)) (pdss_one (pds_ret pd_bl)) pdss_nil)))))
    (pdss_one (pds_ret (pd_cmp (dop_ne hr.units) (pd_ix (pd_callC c_falls_of hr (pda_cons (pd_ix (pd_var 1) pd_int) (pda_cons (pd_ix (pd_var 1) pd_int) (pda_cons (pd_var 4) pda_nil)))) pd_int) (pd_ix (pd_callC c_falls_of hr (pda_cons (pd_ix (pd_var 2) pd_int) (pda_cons (pd_ix (pd_var 2) pd_int) (pda_cons (pd_var 4) pda_nil)))) pd_int) (nomark _))))))))
theorem ok__law_pair_right {P : Program} {wo : World} {K : PySem.W.Frag} {mg : Str → Option Value} {base : Heap} {f : Addr} {fd : FuncData} (T : Fx K mg) (F : FnP K "_law_pair_right" s__law_pair_right f fd) (c_alike : Cal P wo K mg base 3 "alike" ["one", "its", "other", "others"] sp_alike) (c_parting_word : Cal P wo K mg base 90 "parting_word" ["one", "its", "other", "others"] sp_parting_word) (c__law_rows : Cal P wo K mg base 2 "_law_rows" ["_law_tape_here", "_law_many"] sp__law_rows) (c__law_out : Cal P wo K mg base 2 "_law_out" ["_law_net_here", "_law_standing_here", "_law_word"] sp__law_out) (c__law_is_weights : Cal P wo K mg base 1 "_law_is_weights" ["_law_thing"] sp__law_is_weights) (c_falls_of : Cal P wo K mg base 4 "falls_of" ["net", "standing", "word"] sp_falls_of) : FnG P wo K mg base CX0 91 f fd ["_law_tape_here", "_law_one", "_law_other"] (spD K sp__law_pair_right) :=
  fnD false F sc__law_pair_right len__law_pair_right (fun cdv A outer s H E hr => d__law_pair_right T c_alike c_parting_word c__law_rows c__law_out c__law_is_weights c_falls_of hr) p__law_pair_right
theorem d__law_right {P : Program} {wo : World} {K : PySem.W.Frag} {mg : Str → Option Value} {base : Heap} {f : Addr} {cdv : Value} {A : Around} {outer : List PySem.Env} {s : Shared} {H : Hp} {E : XK} (T : Fx K mg) (c__law_names : Cal P wo K mg base 2 "_law_names" ["_law_tape_here", "_law_many"] sp__law_names) (c__law_draw : Cal P wo K mg base 1 "_law_draw" ["_law_tape_here", "_law_many"] sp__law_draw) (c__law_tree : Cal P wo K mg base 3 "_law_tree" ["_law_tape_here", "_law_names_here"] sp__law_tree) (c__law_otherwise : Cal P wo K mg base 4 "_law_otherwise" ["_law_tape_here", "_law_net_here", "_law_standing_here"] sp__law_otherwise) (c__law_near : Cal P wo K mg base 4 "_law_near" ["_law_tape_here", "_law_net_here", "_law_standing_here", "_law_names_here"] sp__law_near) (c__law_pair_right : Cal P wo K mg base 91 "_law_pair_right" ["_law_tape_here", "_law_one", "_law_other"] sp__law_pair_right)
    (hr : RoomG 91 (A.deeper (envOfC "_law_right" (defScope s__law_right) s.heap.objs.size f cdv))) : PDSs (cxOf CX0 P wo K mg base N__law_right "_law_right" (defScope s__law_right) f cdv A outer s H E).nox (defBody s__law_right) t__law_right :=
    (pdss_cons (pds_set 1 sc__law_right.nd (pd_callC c__law_names hr (pda_cons (pd_var 0) (pda_cons (pd_op dop_add pd_int (pd_callC c__law_draw hr (pda_cons (pd_var 0) (pda_cons pd_int pda_nil)))) pda_nil))))
    (pdss_cons (pds_for PassesOwn.never rfl (pdi_range1 T.b_range pd_int) (pdg_name 2 sc__law_right.nd) (pdss_cons (pds_set 3 sc__law_right.nd (pd_callC c__law_tree hr (pda_cons (pd_var 0) (pda_cons (pd_var 1) pda_nil))))
    (pdss_cons (pds_set 4 sc__law_right.nd (pd_callC c__law_draw hr (pda_cons (pd_var 0) (pda_cons pd_int pda_nil))))
    (pdss_cons (pds_set 5 sc__law_right.nd (pd_callC c__law_otherwise hr (pda_cons (pd_var 0) (pda_cons (pd_ix (pd_var 3) pd_int) (pda_cons (pd_ix (pd_var 3) pd_int) pda_nil)))))
    (pdss_cons (pds_if (pd_tcmp dop_gt (pd_var 4) pd_int (nomark _)) (pdss_one (pds_set 5 sc__law_right.nd (pd_callC c__law_near hr (pda_cons (pd_var 0) (pda_cons (pd_ix (pd_var 5) pd_int) (pda_cons (pd_ix (pd_var 5) pd_int) (pda_cons (pd_var 1) pda_nil))))))) pdss_nil)
    (pdss_one (pds_if (pd_tnot (pd_tru (pd_callC c__law_pair_right hr (pda_cons (pd_var 0) (pda_cons (pd_var 3) (pda_cons (pd_var 5) pda_nil)))))) (pdss_one (pds_ret pd_bl)) pdss_nil)))))))
    (pdss_one (pds_ret pd_bl))))
theorem ok__law_right {P : Program} {wo : World} {K : PySem.W.Frag} {mg : Str → Option Value} {base : Heap} {f : Addr} {fd : FuncData} (T : Fx K mg) (F : FnP K "_law_right" s__law_right f fd) (c__law_names : Cal P wo K mg base 2 "_law_names" ["_law_tape_here", "_law_many"] sp__law_names) (c__law_draw : Cal P wo K mg base 1 "_law_draw" ["_law_tape_here", "_law_many"] sp__law_draw) (c__law_tree : Cal P wo K mg base 3 "_law_tree" ["_law_tape_here", "_law_names_here"] sp__law_tree) (c__law_otherwise : Cal P wo K mg base 4 "_law_otherwise" ["_law_tape_here", "_law_net_here", "_law_standing_here"] sp__law_otherwise) (c__law_near : Cal P wo K mg base 4 "_law_near" ["_law_tape_here", "_law_net_here", "_law_standing_here", "_law_names_here"] sp__law_near) (c__law_pair_right : Cal P wo K mg base 91 "_law_pair_right" ["_law_tape_here", "_law_one", "_law_other"] sp__law_pair_right) : FnG P wo K mg base CX0 92 f fd ["_law_tape_here"] (spD K sp__law_right) :=
  fnD false F sc__law_right len__law_right (fun cdv A outer s H E hr => d__law_right T c__law_names c__law_draw c__law_tree c__law_otherwise c__law_near c__law_pair_right hr) p__law_right
theorem d_law {P : Program} {wo : World} {K : PySem.W.Frag} {mg : Str → Option Value} {base : Heap} {f : Addr} {cdv : Value} {A : Around} {outer : List PySem.Env} {s : Shared} {H : Hp} {E : XK} (T : Fx K mg) (c__law_folded : Cal P wo K mg base 1 "_law_folded" ["_law_script", "_law_many"] sp__law_folded) (c__law_right : Cal P wo K mg base 92 "_law_right" ["_law_tape_here"] sp__law_right) (c__law_tape : Cal P wo K mg base 1 "_law_tape" ["_law_script", "_law_k"] sp__law_tape)
    (hr : RoomG 92 (A.deeper (envOfC "law" (defScope s_law) s.heap.objs.size f cdv))) : PDSs (cxOf CX0 P wo K mg base N_law "law" (defScope s_law) f cdv A outer s H E).nox (defBody s_law) t_law :=
    (pdss_cons (pds_set 1 sc_law.nd (pd_callC c__law_folded hr (pda_cons (pd_var 0) (pda_cons pd_int pda_nil))))
    (pdss_one (pds_ret (pd_callB (cb_all rfl) T.b_all (by decide +kernel) (pda_cons (pd_lc [("_law_k", 2)] rfl sc_law.nd (pdi_range1 T.b_range (pd_callB (cb_max2 rfl) T.b_max (by decide +kernel) (pda_cons pd_int (pda_cons (pd_callB cb_len T.b_len (by decide +kernel) (pda_cons (pd_var 1) pda_nil)) pda_nil)))) (blkOk_by (N := N_law) (sc := defScope s_law) (by decide +kernel)) (fun _ _ _ _ _ => (pdgo_name 2 sc_law.nd)) (fun _ _ _ _ _ => pdts_nil) (fun _ _ _ _ _ => (pd_callC c__law_right hr (pda_cons (pd_callC c__law_tape hr (pda_cons (pd_var 1) (pda_cons (pd_var 2) pda_nil))) pda_nil)))) pda_nil)))))
theorem ok_law {P : Program} {wo : World} {K : PySem.W.Frag} {mg : Str → Option Value} {base : Heap} {f : Addr} {fd : FuncData} (T : Fx K mg) (F : FnP K "law" s_law f fd) (c__law_folded : Cal P wo K mg base 1 "_law_folded" ["_law_script", "_law_many"] sp__law_folded) (c__law_right : Cal P wo K mg base 92 "_law_right" ["_law_tape_here"] sp__law_right) (c__law_tape : Cal P wo K mg base 1 "_law_tape" ["_law_script", "_law_k"] sp__law_tape) : FnG P wo K mg base CX0 93 f fd ["_law_script"] (spD K sp_law) :=
  fnD false F sc_law len_law (fun cdv A outer s H E hr => d_law T c__law_folded c__law_right c__law_tape hr) p_law
def q_as_part : He.DefD := ⟨("as_part", none), "as_part", "as_part", defArgs s_as_part, defBody s_as_part, defScope s_as_part, [], []⟩
def q_part_of : He.DefD := ⟨("part_of", none), "part_of", "part_of", defArgs s_part_of, defBody s_part_of, defScope s_part_of, [], []⟩
def q_alike : He.DefD := ⟨("alike", none), "alike", "alike", defArgs s_alike, defBody s_alike, defScope s_alike, [], []⟩
def q_grown : He.DefD := ⟨("grown", none), "grown", "grown", defArgs s_grown, defBody s_grown, defScope s_grown, [], []⟩
def q_greatest : He.DefD := ⟨("greatest", none), "greatest", "greatest", defArgs s_greatest, defBody s_greatest, defScope s_greatest, [], []⟩
def q_names_in : He.DefD := ⟨("names_in", none), "names_in", "names_in", defArgs s_names_in, defBody s_names_in, defScope s_names_in, [], []⟩
def q_row_off : He.DefD := ⟨("row_off", none), "row_off", "row_off", defArgs s_row_off, defBody s_row_off, defScope s_row_off, [], []⟩
def q_row_by_sizes : He.DefD := ⟨("row_by_sizes", none), "row_by_sizes", "row_by_sizes", defArgs s_row_by_sizes, defBody s_row_by_sizes, defScope s_row_by_sizes, [], []⟩
def q_row_apart : He.DefD := ⟨("row_apart", none), "row_apart", "row_apart", defArgs s_row_apart, defBody s_row_apart, defScope s_row_apart, [], []⟩
def q_parting_word : He.DefD := ⟨("parting_word", none), "parting_word", "parting_word", defArgs s_parting_word, defBody s_parting_word, defScope s_parting_word, [], []⟩
def q_is_number : He.DefD := ⟨("is_number", none), "is_number", "is_number", defArgs s_is_number, defBody s_is_number, defScope s_is_number, [], []⟩
def q_lighter : He.DefD := ⟨("lighter", none), "lighter", "lighter", defArgs s_lighter, defBody s_lighter, defScope s_lighter, [], []⟩
def q_laid_on : He.DefD := ⟨("laid_on", none), "laid_on", "laid_on", defArgs s_laid_on, defBody s_laid_on, defScope s_laid_on, [], []⟩
def q_fall : He.DefD := ⟨("fall", none), "fall", "fall", defArgs s_fall, defBody s_fall, defScope s_fall, [], []⟩
def q_lead_of : He.DefD := ⟨("lead_of", none), "lead_of", "lead_of", defArgs s_lead_of, defBody s_lead_of, defScope s_lead_of, [], []⟩
def q_way_of : He.DefD := ⟨("way_of", none), "way_of", "way_of", defArgs s_way_of, defBody s_way_of, defScope s_way_of, [], []⟩
def q_falls_of : He.DefD := ⟨("falls_of", none), "falls_of", "falls_of", defArgs s_falls_of, defBody s_falls_of, defScope s_falls_of, [], []⟩
def q__law_tape : He.DefD := ⟨("_law_tape", none), "_law_tape", "_law_tape", defArgs s__law_tape, defBody s__law_tape, defScope s__law_tape, [], []⟩
def q__law_draw : He.DefD := ⟨("_law_draw", none), "_law_draw", "_law_draw", defArgs s__law_draw, defBody s__law_draw, defScope s__law_draw, [], []⟩
def q__law_folded : He.DefD := ⟨("_law_folded", none), "_law_folded", "_law_folded", defArgs s__law_folded, defBody s__law_folded, defScope s__law_folded, [], []⟩
def q__law_names : He.DefD := ⟨("_law_names", none), "_law_names", "_law_names", defArgs s__law_names, defBody s__law_names, defScope s__law_names, [], []⟩
def q__law_standing : He.DefD := ⟨("_law_standing", none), "_law_standing", "_law_standing", defArgs s__law_standing, defBody s__law_standing, defScope s__law_standing, [], []⟩
def q__law_levels : He.DefD := ⟨("_law_levels", none), "_law_levels", "_law_levels", defArgs s__law_levels, defBody s__law_levels, defScope s__law_levels, [], []⟩
def q__law_net : He.DefD := ⟨("_law_net", none), "_law_net", "_law_net", defArgs s__law_net, defBody s__law_net, defScope s__law_net, [], []⟩
def q__law_gone : He.DefD := ⟨("_law_gone", none), "_law_gone", "_law_gone", defArgs s__law_gone, defBody s__law_gone, defScope s__law_gone, [], []⟩
def q__law_out : He.DefD := ⟨("_law_out", none), "_law_out", "_law_out", defArgs s__law_out, defBody s__law_out, defScope s__law_out, [], []⟩
def q__law_crossed : He.DefD := ⟨("_law_crossed", none), "_law_crossed", "_law_crossed", defArgs s__law_crossed, defBody s__law_crossed, defScope s__law_crossed, [], []⟩
def q__law_put_at_exit : He.DefD := ⟨("_law_put_at_exit", none), "_law_put_at_exit", "_law_put_at_exit", defArgs s__law_put_at_exit, defBody s__law_put_at_exit, defScope s__law_put_at_exit, [], []⟩
def q__law_other_numbers : He.DefD := ⟨("_law_other_numbers", none), "_law_other_numbers", "_law_other_numbers", defArgs s__law_other_numbers, defBody s__law_other_numbers, defScope s__law_other_numbers, [], []⟩
def q__law_tree : He.DefD := ⟨("_law_tree", none), "_law_tree", "_law_tree", defArgs s__law_tree, defBody s__law_tree, defScope s__law_tree, [], []⟩
def q__law_otherwise : He.DefD := ⟨("_law_otherwise", none), "_law_otherwise", "_law_otherwise", defArgs s__law_otherwise, defBody s__law_otherwise, defScope s__law_otherwise, [], []⟩
def q__law_rows : He.DefD := ⟨("_law_rows", none), "_law_rows", "_law_rows", defArgs s__law_rows, defBody s__law_rows, defScope s__law_rows, [], []⟩
def q__law_near : He.DefD := ⟨("_law_near", none), "_law_near", "_law_near", defArgs s__law_near, defBody s__law_near, defScope s__law_near, [], []⟩
def q__law_is_weights : He.DefD := ⟨("_law_is_weights", none), "_law_is_weights", "_law_is_weights", defArgs s__law_is_weights, defBody s__law_is_weights, defScope s__law_is_weights, [], []⟩
def q__law_pair_right : He.DefD := ⟨("_law_pair_right", none), "_law_pair_right", "_law_pair_right", defArgs s__law_pair_right, defBody s__law_pair_right, defScope s__law_pair_right, [], []⟩
def q__law_right : He.DefD := ⟨("_law_right", none), "_law_right", "_law_right", defArgs s__law_right, defBody s__law_right, defScope s__law_right, [], []⟩
def q_law : He.DefD := ⟨("law", none), "law", "law", defArgs s_law, defBody s_law, defScope s_law, [], []⟩
def fn : List He.DefD := [q_as_part, q_part_of, q_alike, q_grown, q_greatest, q_names_in, q_row_off, q_row_by_sizes, q_row_apart, q_parting_word, q_is_number, q_lighter, q_laid_on, q_fall, q_lead_of, q_way_of, q_falls_of, q__law_tape, q__law_draw, q__law_folded, q__law_names, q__law_standing, q__law_levels, q__law_net, q__law_gone, q__law_out, q__law_crossed, q__law_put_at_exit, q__law_other_numbers, q__law_tree, q__law_otherwise, q__law_rows, q__law_near, q__law_is_weights, q__law_pair_right, q__law_right, q_law]
def fa : List He.Fa := [.glo "as_part", .glo "part_of", .glo "alike", .glo "grown", .glo "greatest", .glo "names_in", .glo "row_off", .glo "row_by_sizes", .glo "row_apart", .glo "parting_word", .glo "is_number", .glo "lighter", .glo "laid_on", .glo "fall", .glo "lead_of", .glo "way_of", .glo "falls_of", .glo "_law_tape", .glo "_law_draw", .glo "_law_folded", .glo "_law_names", .glo "_law_standing", .glo "_law_levels", .glo "_law_net", .glo "_law_gone", .glo "_law_out", .glo "_law_crossed", .glo "_law_put_at_exit", .glo "_law_other_numbers", .glo "_law_tree", .glo "_law_otherwise", .glo "_law_rows", .glo "_law_near", .glo "_law_is_weights", .glo "_law_pair_right", .glo "_law_right", .glo "law", .free "isinstance", .free "str", .free "range", .free "len", .int "TWO" 2, .free "max", .free "sum", .free "tuple", .free "int", .free "bool", .str "LEFT" "left", .str "RIGHT" "right", .glo "SIDES", .free "list", .free "abs", .free "enumerate", .free "sorted", .free "dict", .free "all"]
def ex : List (PySem.W.Frag → Bool) := [gtupB "SIDES" [.str "left", .str "right"]]
abbrev R : PySem.W.OpenRow := PySem.W.OpenLaw.row PySem.Challenge.rw_panfalls_k63_whole_alike_or_parted
abbrev hk : PySem.W.Hook := hookX 4 ex fa fn
def ob (s : PySem.W.SharedT) : AlX := obsXG 4 ex fa fn (HandSHeadRun.getT s)
theorem ob_eq (s : PySem.W.SharedT) : ob s = hk.obs s.abs := obsXG_eq (HandSHeadRun.getT_eq s)
def lo0 : List Str := ["TWO", "as_part", "part_of", "alike", "grown", "greatest", "names_in", "row_off", "row_by_sizes", "row_apart", "parting_word", "LEFT", "RIGHT", "SIDES", "is_number", "lighter", "laid_on", "fall", "lead_of", "way_of", "falls_of", "_law_tape", "_law_draw", "_law_folded", "_law_names", "_law_standing", "_law_levels", "_law_net", "_law_gone", "_law_out"]
def lo1 : List Str := ["_law_crossed", "_law_put_at_exit", "_law_other_numbers", "_law_tree", "_law_otherwise", "_law_rows", "_law_near", "_law_is_weights", "_law_pair_right", "_law_right"]
def loose : List Str := lo0 ++ lo1
theorem run (w : World) : HandSHeadRun.RunEq R (PySem.W.view R.prog [45]) hk ob 3160 loose w := by
  intro os
  kernel_rfl
theorem facts {P : Program} {wo : World} {K : PySem.W.Frag} {h : Heap} {mg : Str → Option Value} {fx : Addr} (X : K.In h) (G : h.Ns mainGlobals mg) (hfa : mg ("law" : Str) = some (.ref fx)) (c : SaysX ex fa fn K) :
    ∃ fd : FuncData, (∀ (s : Shared) (v : Value), BindsTo s fd ⟨[v], []⟩ [("_law_script", v)]) ∧ ∀ base : Heap, K.In base → base.Ns mainGlobals mg → FnG P wo K mg base CX0 93 fx fd ["_law_script"] (spD K spLaw) := by
  obtain ⟨fd0, F0⟩ := c.d.def_ 0 (d := q_as_part) rfl
  obtain ⟨fd1, F1⟩ := c.d.def_ 1 (d := q_part_of) rfl
  obtain ⟨fd2, F2⟩ := c.d.def_ 2 (d := q_alike) rfl
  obtain ⟨fd3, F3⟩ := c.d.def_ 3 (d := q_grown) rfl
  obtain ⟨fd4, F4⟩ := c.d.def_ 4 (d := q_greatest) rfl
  obtain ⟨fd5, F5⟩ := c.d.def_ 5 (d := q_names_in) rfl
  obtain ⟨fd6, F6⟩ := c.d.def_ 6 (d := q_row_off) rfl
  obtain ⟨fd7, F7⟩ := c.d.def_ 7 (d := q_row_by_sizes) rfl
  obtain ⟨fd8, F8⟩ := c.d.def_ 8 (d := q_row_apart) rfl
  obtain ⟨fd9, F9⟩ := c.d.def_ 9 (d := q_parting_word) rfl
  obtain ⟨fd10, F10⟩ := c.d.def_ 10 (d := q_is_number) rfl
  obtain ⟨fd11, F11⟩ := c.d.def_ 11 (d := q_lighter) rfl
  obtain ⟨fd12, F12⟩ := c.d.def_ 12 (d := q_laid_on) rfl
  obtain ⟨fd13, F13⟩ := c.d.def_ 13 (d := q_fall) rfl
  obtain ⟨fd14, F14⟩ := c.d.def_ 14 (d := q_lead_of) rfl
  obtain ⟨fd15, F15⟩ := c.d.def_ 15 (d := q_way_of) rfl
  obtain ⟨fd16, F16⟩ := c.d.def_ 16 (d := q_falls_of) rfl
  obtain ⟨fd17, F17⟩ := c.d.def_ 17 (d := q__law_tape) rfl
  obtain ⟨fd18, F18⟩ := c.d.def_ 18 (d := q__law_draw) rfl
  obtain ⟨fd19, F19⟩ := c.d.def_ 19 (d := q__law_folded) rfl
  obtain ⟨fd20, F20⟩ := c.d.def_ 20 (d := q__law_names) rfl
  obtain ⟨fd21, F21⟩ := c.d.def_ 21 (d := q__law_standing) rfl
  obtain ⟨fd22, F22⟩ := c.d.def_ 22 (d := q__law_levels) rfl
  obtain ⟨fd23, F23⟩ := c.d.def_ 23 (d := q__law_net) rfl
  obtain ⟨fd24, F24⟩ := c.d.def_ 24 (d := q__law_gone) rfl
  obtain ⟨fd25, F25⟩ := c.d.def_ 25 (d := q__law_out) rfl
  obtain ⟨fd26, F26⟩ := c.d.def_ 26 (d := q__law_crossed) rfl
  obtain ⟨fd27, F27⟩ := c.d.def_ 27 (d := q__law_put_at_exit) rfl
  obtain ⟨fd28, F28⟩ := c.d.def_ 28 (d := q__law_other_numbers) rfl
  obtain ⟨fd29, F29⟩ := c.d.def_ 29 (d := q__law_tree) rfl
  obtain ⟨fd30, F30⟩ := c.d.def_ 30 (d := q__law_otherwise) rfl
  obtain ⟨fd31, F31⟩ := c.d.def_ 31 (d := q__law_rows) rfl
  obtain ⟨fd32, F32⟩ := c.d.def_ 32 (d := q__law_near) rfl
  obtain ⟨fd33, F33⟩ := c.d.def_ 33 (d := q__law_is_weights) rfl
  obtain ⟨fd34, F34⟩ := c.d.def_ 34 (d := q__law_pair_right) rfl
  obtain ⟨fd35, F35⟩ := c.d.def_ 35 (d := q__law_right) rfl
  obtain ⟨fd36, F36⟩ := c.d.def_ 36 (d := q_law) rfl
  have T : Fx K mg := ⟨He.free_ok X G (c.d.fact 37 (f := .free "isinstance") rfl), He.free_ok X G (c.d.fact 38 (f := .free "str") rfl), He.free_ok X G (c.d.fact 39 (f := .free "range") rfl), He.free_ok X G (c.d.fact 40 (f := .free "len") rfl), He.int_ok X G (c.d.fact 41 rfl), He.free_ok X G (c.d.fact 42 (f := .free "max") rfl), He.free_ok X G (c.d.fact 43 (f := .free "sum") rfl), He.free_ok X G (c.d.fact 44 (f := .free "tuple") rfl), He.free_ok X G (c.d.fact 45 (f := .free "int") rfl), He.free_ok X G (c.d.fact 46 (f := .free "bool") rfl), He.str_ok X G (c.d.fact 47 rfl), He.str_ok X G (c.d.fact 48 rfl), gtup_ok X G (c.own 0) rfl, He.free_ok X G (c.d.fact 50 (f := .free "list") rfl), He.free_ok X G (c.d.fact 51 (f := .free "abs") rfl), He.free_ok X G (c.d.fact 52 (f := .free "enumerate") rfl), He.free_ok X G (c.d.fact 53 (f := .free "sorted") rfl), He.free_ok X G (c.d.fact 54 (f := .free "dict") rfl), He.free_ok X G (c.d.fact 55 (f := .free "all") rfl)⟩
  have e := hfa.symm.trans (He.glo_ok X G (c.d.fact 36 (f := .glo "law") rfl))
  cases e
  have b := FunD.bindsA (ps := ["_law_script"]) F36 fun _ _ _ _ _ _ us hl => match us, hl with | [_], _ => rfl
  refine ⟨fd36, fun s v => b s [v] rfl, fun base _ _ => ?_⟩
  have o_as_part := ok_as_part (P := P) (wo := wo) (base := base) T F0 
  have c_as_part : Cal P wo K mg base 1 "as_part" ["standing", "left", "right"] sp_as_part := ⟨_, _, (He.glo_ok X G (c.d.fact 0 (f := .glo "as_part") rfl)), F0.kp, o_as_part, F0.bindsN (fun _ _ _ _ _ _ us hl => match us, hl with | [_, _, _], _ => rfl)⟩
  have o_part_of := ok_part_of (P := P) (wo := wo) (base := base) T F1 c_as_part
  have c_part_of : Cal P wo K mg base 2 "part_of" ["net", "standing"] sp_part_of := ⟨_, _, (He.glo_ok X G (c.d.fact 1 (f := .glo "part_of") rfl)), F1.kp, o_part_of, F1.bindsN (fun _ _ _ _ _ _ us hl => match us, hl with | [_, _], _ => rfl)⟩
  have o_alike := ok_alike (P := P) (wo := wo) (base := base) T F2 c_part_of
  have c_alike : Cal P wo K mg base 3 "alike" ["one", "its", "other", "others"] sp_alike := ⟨_, _, (He.glo_ok X G (c.d.fact 2 (f := .glo "alike") rfl)), F2.kp, o_alike, F2.bindsN (fun _ _ _ _ _ _ us hl => match us, hl with | [_, _, _, _], _ => rfl)⟩
  have o_grown := ok_grown (P := P) (wo := wo) (base := base) T F3 (He.glo_ok X G (c.d.fact 3 (f := .glo "grown") rfl)) c_as_part 22
  have c_grown : Cal P wo K mg base 23 "grown" ["part", "weight"] (sp_grown 22) := ⟨_, _, (He.glo_ok X G (c.d.fact 3 (f := .glo "grown") rfl)), F3.kp, o_grown, F3.bindsN (fun _ _ _ _ _ _ us hl => match us, hl with | [_, _], _ => rfl)⟩
  have o_greatest := ok_greatest (P := P) (wo := wo) (base := base) T F4 (He.glo_ok X G (c.d.fact 4 (f := .glo "greatest") rfl))  22
  have c_greatest : Cal P wo K mg base 22 "greatest" ["part"] (sp_greatest 22) := ⟨_, _, (He.glo_ok X G (c.d.fact 4 (f := .glo "greatest") rfl)), F4.kp, o_greatest, F4.bindsN (fun _ _ _ _ _ _ us hl => match us, hl with | [_], _ => rfl)⟩
  have o_names_in := ok_names_in (P := P) (wo := wo) (base := base) T F5 (He.glo_ok X G (c.d.fact 5 (f := .glo "names_in") rfl))  22
  have c_names_in : Cal P wo K mg base 22 "names_in" ["part"] (sp_names_in 22) := ⟨_, _, (He.glo_ok X G (c.d.fact 5 (f := .glo "names_in") rfl)), F5.kp, o_names_in, F5.bindsN (fun _ _ _ _ _ _ us hl => match us, hl with | [_], _ => rfl)⟩
  have o_row_off := ok_row_off (P := P) (wo := wo) (base := base) T F6 (He.glo_ok X G (c.d.fact 6 (f := .glo "row_off") rfl)) c_names_in c_grown 22
  have c_row_off : Cal P wo K mg base 45 "row_off" ["part", "name"] (sp_row_off 22) := ⟨_, _, (He.glo_ok X G (c.d.fact 6 (f := .glo "row_off") rfl)), F6.kp, o_row_off, F6.bindsN (fun _ _ _ _ _ _ us hl => match us, hl with | [_, _], _ => rfl)⟩
  have o_row_apart := ok_row_apart (P := P) (wo := wo) (base := base) T F8 (He.glo_ok X G (c.d.fact 8 (f := .glo "row_apart") rfl)) F7 (He.glo_ok X G (c.d.fact 7 (f := .glo "row_by_sizes") rfl)) c_row_off c_greatest c_grown 22
  have c_row_apart : Cal P wo K mg base 89 "row_apart" ["one", "other"] (sp_row_apart 22) := ⟨_, _, (He.glo_ok X G (c.d.fact 8 (f := .glo "row_apart") rfl)), F8.kp, o_row_apart, F8.bindsN (fun _ _ _ _ _ _ us hl => match us, hl with | [_, _], _ => rfl)⟩
  have o_parting_word := ok_parting_word (P := P) (wo := wo) (base := base) T F9 c_part_of c_row_apart
  have c_parting_word : Cal P wo K mg base 90 "parting_word" ["one", "its", "other", "others"] sp_parting_word := ⟨_, _, (He.glo_ok X G (c.d.fact 9 (f := .glo "parting_word") rfl)), F9.kp, o_parting_word, F9.bindsN (fun _ _ _ _ _ _ us hl => match us, hl with | [_, _, _, _], _ => rfl)⟩
  have o_is_number := ok_is_number (P := P) (wo := wo) (base := base) T F10 
  have c_is_number : Cal P wo K mg base 1 "is_number" ["thing"] sp_is_number := ⟨_, _, (He.glo_ok X G (c.d.fact 10 (f := .glo "is_number") rfl)), F10.kp, o_is_number, F10.bindsN (fun _ _ _ _ _ _ us hl => match us, hl with | [_], _ => rfl)⟩
  have o_lighter := ok_lighter (P := P) (wo := wo) (base := base) T F11 
  have c_lighter : Cal P wo K mg base 1 "lighter" ["standing"] sp_lighter := ⟨_, _, (He.glo_ok X G (c.d.fact 11 (f := .glo "lighter") rfl)), F11.kp, o_lighter, F11.bindsN (fun _ _ _ _ _ _ us hl => match us, hl with | [_], _ => rfl)⟩
  have o_laid_on := ok_laid_on (P := P) (wo := wo) (base := base) T F12 
  have c_laid_on : Cal P wo K mg base 1 "laid_on" ["standing", "side", "weight"] sp_laid_on := ⟨_, _, (He.glo_ok X G (c.d.fact 12 (f := .glo "laid_on") rfl)), F12.kp, o_laid_on, F12.bindsN (fun _ _ _ _ _ _ us hl => match us, hl with | [_, _, _], _ => rfl)⟩
  have o_fall := ok_fall (P := P) (wo := wo) (base := base) T F13 c_lighter c_laid_on
  have c_fall : Cal P wo K mg base 2 "fall" ["standing", "weight"] sp_fall := ⟨_, _, (He.glo_ok X G (c.d.fact 13 (f := .glo "fall") rfl)), F13.kp, o_fall, F13.bindsN (fun _ _ _ _ _ _ us hl => match us, hl with | [_, _], _ => rfl)⟩
  have o_lead_of := ok_lead_of (P := P) (wo := wo) (base := base) T F14 
  have c_lead_of : Cal P wo K mg base 1 "lead_of" ["net", "pan"] sp_lead_of := ⟨_, _, (He.glo_ok X G (c.d.fact 14 (f := .glo "lead_of") rfl)), F14.kp, o_lead_of, F14.bindsN (fun _ _ _ _ _ _ us hl => match us, hl with | [_, _], _ => rfl)⟩
  have o_way_of := ok_way_of (P := P) (wo := wo) (base := base) T F15 c_is_number c_fall c_lead_of
  have c_way_of : Cal P wo K mg base 3 "way_of" ["net", "standing", "weight"] sp_way_of := ⟨_, _, (He.glo_ok X G (c.d.fact 15 (f := .glo "way_of") rfl)), F15.kp, o_way_of, F15.bindsN (fun _ _ _ _ _ _ us hl => match us, hl with | [_, _, _], _ => rfl)⟩
  have o_falls_of := ok_falls_of (P := P) (wo := wo) (base := base) T F16 c_way_of
  have c_falls_of : Cal P wo K mg base 4 "falls_of" ["net", "standing", "word"] sp_falls_of := ⟨_, _, (He.glo_ok X G (c.d.fact 16 (f := .glo "falls_of") rfl)), F16.kp, o_falls_of, F16.bindsN (fun _ _ _ _ _ _ us hl => match us, hl with | [_, _, _], _ => rfl)⟩
  have o__law_tape := ok__law_tape (P := P) (wo := wo) (base := base) T F17 
  have c__law_tape : Cal P wo K mg base 1 "_law_tape" ["_law_script", "_law_k"] sp__law_tape := ⟨_, _, (He.glo_ok X G (c.d.fact 17 (f := .glo "_law_tape") rfl)), F17.kp, o__law_tape, F17.bindsN (fun _ _ _ _ _ _ us hl => match us, hl with | [_, _], _ => rfl)⟩
  have o__law_draw := ok__law_draw (P := P) (wo := wo) (base := base) T F18 
  have c__law_draw : Cal P wo K mg base 1 "_law_draw" ["_law_tape_here", "_law_many"] sp__law_draw := ⟨_, _, (He.glo_ok X G (c.d.fact 18 (f := .glo "_law_draw") rfl)), F18.kp, o__law_draw, F18.bindsN (fun _ _ _ _ _ _ us hl => match us, hl with | [_, _], _ => rfl)⟩
  have o__law_folded := ok__law_folded (P := P) (wo := wo) (base := base) T F19 
  have c__law_folded : Cal P wo K mg base 1 "_law_folded" ["_law_script", "_law_many"] sp__law_folded := ⟨_, _, (He.glo_ok X G (c.d.fact 19 (f := .glo "_law_folded") rfl)), F19.kp, o__law_folded, F19.bindsN (fun _ _ _ _ _ _ us hl => match us, hl with | [_, _], _ => rfl)⟩
  have o__law_names := ok__law_names (P := P) (wo := wo) (base := base) T F20 c__law_draw
  have c__law_names : Cal P wo K mg base 2 "_law_names" ["_law_tape_here", "_law_many"] sp__law_names := ⟨_, _, (He.glo_ok X G (c.d.fact 20 (f := .glo "_law_names") rfl)), F20.kp, o__law_names, F20.bindsN (fun _ _ _ _ _ _ us hl => match us, hl with | [_, _], _ => rfl)⟩
  have o__law_standing := ok__law_standing (P := P) (wo := wo) (base := base) T F21 c__law_draw
  have c__law_standing : Cal P wo K mg base 2 "_law_standing" ["_law_tape_here", "_law_most"] sp__law_standing := ⟨_, _, (He.glo_ok X G (c.d.fact 21 (f := .glo "_law_standing") rfl)), F21.kp, o__law_standing, F21.bindsN (fun _ _ _ _ _ _ us hl => match us, hl with | [_, _], _ => rfl)⟩
  have o__law_levels := ok__law_levels (P := P) (wo := wo) (base := base) T F22 
  have c__law_levels : Cal P wo K mg base 1 "_law_levels" ["_law_net_here"] sp__law_levels := ⟨_, _, (He.glo_ok X G (c.d.fact 22 (f := .glo "_law_levels") rfl)), F22.kp, o__law_levels, F22.bindsN (fun _ _ _ _ _ _ us hl => match us, hl with | [_], _ => rfl)⟩
  have o__law_net := ok__law_net (P := P) (wo := wo) (base := base) T F23 c__law_draw
  have c__law_net : Cal P wo K mg base 2 "_law_net" ["_law_tape_here", "_law_names_here", "_law_most", "_law_high", "_law_together"] sp__law_net := ⟨_, _, (He.glo_ok X G (c.d.fact 23 (f := .glo "_law_net") rfl)), F23.kp, o__law_net, F23.bindsN (fun _ _ _ _ _ _ us hl => match us, hl with | [_, _, _, _, _], _ => rfl)⟩
  have o__law_gone := ok__law_gone (P := P) (wo := wo) (base := base) T F24 
  have c__law_gone : Cal P wo K mg base 1 "_law_gone" ["_law_net_here", "_law_standing_here", "_law_weight"] sp__law_gone := ⟨_, _, (He.glo_ok X G (c.d.fact 24 (f := .glo "_law_gone") rfl)), F24.kp, o__law_gone, F24.bindsN (fun _ _ _ _ _ _ us hl => match us, hl with | [_, _, _], _ => rfl)⟩
  have o__law_out := ok__law_out (P := P) (wo := wo) (base := base) T F25 c__law_gone
  have c__law_out : Cal P wo K mg base 2 "_law_out" ["_law_net_here", "_law_standing_here", "_law_word"] sp__law_out := ⟨_, _, (He.glo_ok X G (c.d.fact 25 (f := .glo "_law_out") rfl)), F25.kp, o__law_out, F25.bindsN (fun _ _ _ _ _ _ us hl => match us, hl with | [_, _, _], _ => rfl)⟩
  have o__law_crossed := ok__law_crossed (P := P) (wo := wo) (base := base) T F26 
  have c__law_crossed : Cal P wo K mg base 1 "_law_crossed" ["_law_net_here", "_law_standing_here", "_law_k"] sp__law_crossed := ⟨_, _, (He.glo_ok X G (c.d.fact 26 (f := .glo "_law_crossed") rfl)), F26.kp, o__law_crossed, F26.bindsN (fun _ _ _ _ _ _ us hl => match us, hl with | [_, _, _], _ => rfl)⟩
  have o__law_put_at_exit := ok__law_put_at_exit (P := P) (wo := wo) (base := base) T F27 c__law_draw c__law_standing
  have c__law_put_at_exit : Cal P wo K mg base 3 "_law_put_at_exit" ["_law_tape_here", "_law_net_here", "_law_standing_here", "_law_most"] sp__law_put_at_exit := ⟨_, _, (He.glo_ok X G (c.d.fact 27 (f := .glo "_law_put_at_exit") rfl)), F27.kp, o__law_put_at_exit, F27.bindsN (fun _ _ _ _ _ _ us hl => match us, hl with | [_, _, _, _], _ => rfl)⟩
  have o__law_other_numbers := ok__law_other_numbers (P := P) (wo := wo) (base := base) T F28 c__law_draw
  have c__law_other_numbers : Cal P wo K mg base 2 "_law_other_numbers" ["_law_tape_here", "_law_net_here", "_law_standing_here"] sp__law_other_numbers := ⟨_, _, (He.glo_ok X G (c.d.fact 28 (f := .glo "_law_other_numbers") rfl)), F28.kp, o__law_other_numbers, F28.bindsN (fun _ _ _ _ _ _ us hl => match us, hl with | [_, _, _], _ => rfl)⟩
  have o__law_tree := ok__law_tree (P := P) (wo := wo) (base := base) T F29 c__law_net c__law_draw c__law_standing
  have c__law_tree : Cal P wo K mg base 3 "_law_tree" ["_law_tape_here", "_law_names_here"] sp__law_tree := ⟨_, _, (He.glo_ok X G (c.d.fact 29 (f := .glo "_law_tree") rfl)), F29.kp, o__law_tree, F29.bindsN (fun _ _ _ _ _ _ us hl => match us, hl with | [_, _], _ => rfl)⟩
  have o__law_otherwise := ok__law_otherwise (P := P) (wo := wo) (base := base) T F30 c__law_draw c__law_levels c__law_put_at_exit c__law_crossed c__law_other_numbers
  have c__law_otherwise : Cal P wo K mg base 4 "_law_otherwise" ["_law_tape_here", "_law_net_here", "_law_standing_here"] sp__law_otherwise := ⟨_, _, (He.glo_ok X G (c.d.fact 30 (f := .glo "_law_otherwise") rfl)), F30.kp, o__law_otherwise, F30.bindsN (fun _ _ _ _ _ _ us hl => match us, hl with | [_, _, _], _ => rfl)⟩
  have o__law_rows := ok__law_rows (P := P) (wo := wo) (base := base) T F31 c__law_draw
  have c__law_rows : Cal P wo K mg base 2 "_law_rows" ["_law_tape_here", "_law_many"] sp__law_rows := ⟨_, _, (He.glo_ok X G (c.d.fact 31 (f := .glo "_law_rows") rfl)), F31.kp, o__law_rows, F31.bindsN (fun _ _ _ _ _ _ us hl => match us, hl with | [_, _], _ => rfl)⟩
  have o__law_near := ok__law_near (P := P) (wo := wo) (base := base) T F32 c__law_draw c__law_tree
  have c__law_near : Cal P wo K mg base 4 "_law_near" ["_law_tape_here", "_law_net_here", "_law_standing_here", "_law_names_here"] sp__law_near := ⟨_, _, (He.glo_ok X G (c.d.fact 32 (f := .glo "_law_near") rfl)), F32.kp, o__law_near, F32.bindsN (fun _ _ _ _ _ _ us hl => match us, hl with | [_, _, _, _], _ => rfl)⟩
  have o__law_is_weights := ok__law_is_weights (P := P) (wo := wo) (base := base) T F33 
  have c__law_is_weights : Cal P wo K mg base 1 "_law_is_weights" ["_law_thing"] sp__law_is_weights := ⟨_, _, (He.glo_ok X G (c.d.fact 33 (f := .glo "_law_is_weights") rfl)), F33.kp, o__law_is_weights, F33.bindsN (fun _ _ _ _ _ _ us hl => match us, hl with | [_], _ => rfl)⟩
  have o__law_pair_right := ok__law_pair_right (P := P) (wo := wo) (base := base) T F34 c_alike c_parting_word c__law_rows c__law_out c__law_is_weights c_falls_of
  have c__law_pair_right : Cal P wo K mg base 91 "_law_pair_right" ["_law_tape_here", "_law_one", "_law_other"] sp__law_pair_right := ⟨_, _, (He.glo_ok X G (c.d.fact 34 (f := .glo "_law_pair_right") rfl)), F34.kp, o__law_pair_right, F34.bindsN (fun _ _ _ _ _ _ us hl => match us, hl with | [_, _, _], _ => rfl)⟩
  have o__law_right := ok__law_right (P := P) (wo := wo) (base := base) T F35 c__law_names c__law_draw c__law_tree c__law_otherwise c__law_near c__law_pair_right
  have c__law_right : Cal P wo K mg base 92 "_law_right" ["_law_tape_here"] sp__law_right := ⟨_, _, (He.glo_ok X G (c.d.fact 35 (f := .glo "_law_right") rfl)), F35.kp, o__law_right, F35.bindsN (fun _ _ _ _ _ _ us hl => match us, hl with | [_], _ => rfl)⟩
  exact ok_law T F36 c__law_folded c__law_right c__law_tape
end LW
set_option maxHeartbeats 0
open PySem PySem.W PySem.Calls PyProof.Rows
theorem PySem.Challenge.cw_panfalls_k63_whole_alike_or_parted_holds : PySem.Challenge.rw_panfalls_k63_whole_alike_or_parted.Holds := by
  w_on; o_law
  refine HandSHeadRun.head_any (r := OpenLaw.row PySem.Challenge.rw_panfalls_k63_whole_alike_or_parted) (q := view (OpenLaw.row PySem.Challenge.rw_panfalls_k63_whole_alike_or_parted).prog [45]) (H := LW.hk) (ob := LW.ob) (M := 3160) (loose := LW.loose) (d := HandSHeadRun.topDef (OpenLaw.row PySem.Challenge.rw_panfalls_k63_whole_alike_or_parted).prog 45) (kwd := []) LW.ob_eq
    (by kernel_rfl) (fun s => by kernel_rfl) LW.run (by kernel_rfl) (by kernel_rfl) (by kernel_rfl) (by rfl) (by first | assumption | decide +kernel) (by decide +kernel) ⟨rfl, rfl, rfl, rfl, rfl, by decide +kernel⟩ ?hw ?hc
  case hw => w_witness2
  case hc =>
    refine DL.law_end (l := PySem.Challenge.rw_panfalls_k63_whole_alike_or_parted) (k := 93) (x := "_law_script") rfl (by kernel_rfl) ⟨⟨rfl, by decide, by decide⟩, rfl⟩ ?F
    intro w mg fa h Y G hmg0
    obtain ⟨K, KX, c⟩ := Y
    have hmg : mg ("law" : PySem.Str) = some (.ref fa) := by
      have e : (HandSHeadRun.topDef (OpenLaw.row PySem.Challenge.rw_panfalls_k63_whole_alike_or_parted).prog 45).name = ("law" : PySem.Str) := by kernel_rfl
      rw [← e]
      exact hmg0
    obtain ⟨fd, hb, hF⟩ := LW.facts (P := (PySem.Challenge.rw_panfalls_k63_whole_alike_or_parted).prog) (wo := w) KX G hmg c
    exact ⟨K, fd, KX, hb, hF⟩
